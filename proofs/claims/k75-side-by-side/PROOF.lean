import PyProof.Rows.All
import Wide.All
import OpenK.AllK
import Wide.FinOn
import HandS.ForMost
import HandS.IsInst
import HandS.Exc
import HandS.TryOnly
import HandS.TryMany
import HandS.ExcOwn
import HandS.ExcInit
import HandS.ExcField
import HandS.ExcIs
import HandS.CallSlots
import HandS.Defaults
import HandS.Wide
import HandS.Deep
import HandS.DictComp
import HandS.Conv
import HandS.Zip
import HandS.TupAny
import HandS.Flow
import HandS.WordsDict
import KE.GoesMore
import KE.GoesEnum
import KE.KExcIs
import KE.KStateDown
import HandS.More
import HandS.Words
import HandS.WordsExc
import HandS.Head0
import HandS.Head1
import HandS.Head2
import HandS.HeadEnd
import HandS.HeadHook1
import HandS.HeadHook2
import Lean
import PySem.Challenge.RW_earlypulses_k75_side_by_side
set_option Elab.async false
set_option linter.all false
set_option maxHeartbeats 4000000
section
/-! Mid: data, symbolic heaps, the meaning of the program's forms as plain functions. -/
namespace EP
open PySem L2

/-- data: tuples by value, lists, dicts and objects by a symbolic address -/
inductive Dt where
  | non | bl (b : Bool) | int (i : Int) | str (x : Str) | tup (ds : List Dt) | loc (n : Nat)
/-- what stands at a symbolic address; fro: read, never written -/
inductive MO where
  | lst (xs : List Dt) | fro (xs : List Dt) | dK (kvs : List (Key × Dt)) | dT (kvs : List (List Key × Dt))
  | ins (C : Str) (fs : List (Str × Dt))
abbrev MH := List MO
abbrev Fs := List (Str × Dt)
inductive RE (α : Type) where
  | ok (a : α) (h : MH) | ex (C : Str) (fs : Fs) (h : MH) | bad
abbrev M (α : Type) := MH → RE α
abbrev Env := List (Option Dt)
inductive RS where
  | nx (ρ : Env) (h : MH) | rt (d : Dt) (h : MH) | bk (ρ : Env) (h : MH) | ct (ρ : Env) (h : MH) | ex (C : Str) (fs : Fs) (ρ : Env) (h : MH) | bad
/-- the defs, by number -/
abbrev Orc := Nat → List Dt → M Dt
abbrev SE := Orc → Env → M Dt
abbrev ST := Orc → Env → M Bool
abbrev SA := Orc → Env → M (List Dt)
abbrev SS := Orc → Env → MH → RS

def bnd {α β : Type} (m : RE α) (f : α → MH → RE β) : RE β := match m with
  | .ok a h => f a h
  | .ex C fs h => .ex C fs h
  | .bad => .bad
/-- an expression within a statement -/
def bndS {α : Type} (ρ : Env) (m : RE α) (f : α → MH → RS) : RS := match m with
  | .ok a h => f a h
  | .ex C fs h => .ex C fs ρ h
  | .bad => .bad

/-! ### data -/
mutual
def Dt.py : Dt → PyData
  | .non => .none | .bl b => .bool b | .int i => .int i | .str x => .str x | .tup ds => .tuple (pys ds) | .loc _ => .dict []
def pys : List Dt → List PyData
  | [] => []
  | d :: r => d.py :: pys r
end
mutual
/-- no address within, texts in order -/
def Dt.plain : Dt → Bool
  | .non => true | .bl _ => true | .int _ => true | .str x => PyData.strOk x | .tup ds => plains ds | .loc _ => false
def plains : List Dt → Bool
  | [] => true
  | d :: r => d.plain && plains r
end
mutual
def Dt.dep : Dt → Nat
  | .tup ds => deps ds + 1
  | _ => 0
def deps : List Dt → Nat
  | [] => 0
  | d :: r => max d.dep (deps r)
end
def Dt.eqOk (d : Dt) : Bool := d.plain && decide (d.dep ≤ 60)
def eqv (a b : Dt) : Bool := PyData.eqv a.py b.py
def toKey : Dt → Option Key
  | .int i => some (.inl i)
  | .str x => some (.inr x)
  | _ => none
def toKeyL : List Dt → Option (List Key)
  | [] => some []
  | d :: r => match toKey d, toKeyL r with
    | some k, some ks => some (k :: ks)
    | _, _ => none
def toKeys : Dt → Option (List Key)
  | .tup ds => toKeyL ds
  | _ => none

/-! ### heaps -/
/-- a list that may be read -/
def getL (h : MH) (n : Nat) : Option (List Dt) := match h[n]? with
  | some (.lst xs) => some xs
  | some (.fro xs) => some xs
  | _ => none
/-- a list's or a tuple's items -/
def seqOf (h : MH) : Dt → Option (List Dt)
  | .tup xs => some xs
  | .loc n => getL h n
  | _ => none
def truth (d : Dt) (h : MH) : RE Bool := match d with
  | .non => .ok false h
  | .bl b => .ok b h
  | .int i => .ok (i != 0) h
  | .str x => if x.length ≤ sizeLine then .ok ((x.length : Int) != 0) h else .bad
  | .tup ds => .ok (!ds.isEmpty) h
  | .loc n => match h[n]? with
    | some (.lst xs) => .ok (!xs.isEmpty) h
    | some (.fro xs) => .ok (!xs.isEmpty) h
    | some (.dK kvs) => .ok (!kvs.isEmpty) h
    | _ => .bad
def newL (xs : List Dt) (h : MH) : RE Dt := if xs.length ≤ sizeLine then .ok (.loc h.length) (h ++ [.lst xs]) else .bad
def newT (xs : List Dt) (h : MH) : RE Dt := if xs.length ≤ sizeLine then .ok (.tup xs) h else .bad

/-! ### operators -/
def lim64 : Int := 18446744073709551616
def lim200 : Int := 1606938044258990275541962092341162602522202993782792835301376
def lim62 : Int := 4611686018427387904
abbrev Op2 := Dt → Dt → MH → RE Dt
def oAdd : Op2
  | .int i, .int j, h => .ok (.int (i + j)) h
  | .tup a, .tup b, h => newT (a ++ b) h
  | .loc m, .loc n, h => match h[m]?, h[n]? with
    | some (.lst a), some (.lst b) => newL (a ++ b) h
    | _, _ => .bad
  | _, _, _ => .bad
def oSub : Op2
  | .int i, .int j, h => .ok (.int (i - j)) h
  | _, _, _ => .bad
/-- += on ints -/
def oAddI : Op2
  | .int i, .int j, h => .ok (.int (i + j)) h
  | _, _, _ => .bad
def oMul : Op2
  | .int i, .int j, h => if (-lim64 < i ∧ i < lim64) ∨ (-lim64 < j ∧ j < lim64) then .ok (.int (i * j)) h else .bad
  | .loc m, .int k, h => match h[m]? with
    | some (.lst xs) => if k < lim62 ∧ -lim62 ≤ k then newL (List.replicate k.toNat xs).flatten h else .bad
    | _ => .bad
  | _, _, _ => .bad
def oFdiv : Op2
  | .int i, .int j, h => if 0 < j ∧ j < lim200 then .ok (.int (i / j)) h else .bad
  | _, _, _ => .bad
def oMod : Op2
  | .int i, .int j, h => if 0 < j then .ok (.int (i % j)) h else .bad
  | _, _, _ => .bad
def oPow : Op2
  | .int i, .int j, h => if 0 ≤ j ∧ j ≤ 1000000 ∧ -lim64 < i ∧ i < lim64 then .ok (.int (i ^ j.toNat)) h else .bad
  | _, _, _ => .bad
def oCmp (p : Int → Int → Bool) : Op2
  | .int i, .int j, h => .ok (.bl (p i j)) h
  | _, _, _ => .bad
def oLt : Op2 := oCmp fun i j => decide (i < j)
def oLe : Op2 := oCmp fun i j => decide (i ≤ j)
def oGt : Op2 := oCmp fun i j => decide (j < i)
def oGe : Op2 := oCmp fun i j => decide (j ≤ i)
def oEq (neg : Bool) : Op2 := fun a b h => if a.eqOk = true ∧ b.eqOk = true then .ok (.bl (if neg then !eqv a b else eqv a b)) h else .bad
def oIs (neg : Bool) : Op2
  | .non, .non, h => .ok (.bl (!neg)) h
  | _, .non, h => .ok (.bl neg) h
  | _, _, _ => .bad
def Dt.flat : Dt → Bool
  | .non => true | .bl _ => true | .int _ => true | .str _ => true | _ => false
/-- a in b: a tuple of flat things, a list, a dict -/
def oIn (neg : Bool) : Op2
  | a, .tup ds, h => if a.flat = true ∧ ds.all Dt.flat = true then .ok (.bl (if neg then !ds.any (fun z => eqv z a) else ds.any fun z => eqv z a)) h else .bad
  | a, .loc n, h => match h[n]? with
    | some (.lst ds) => if a.eqOk = true ∧ (Dt.tup ds).eqOk = true then .ok (.bl (if neg then !ds.any (fun z => eqv z a) else ds.any fun z => eqv z a)) h else .bad
    | some (.dK kvs) => match toKey a with
      | some k => .ok (.bl (if neg then !(kvs.any fun kv => decide (kv.1 = k)) else kvs.any fun kv => decide (kv.1 = k))) h
      | none => .bad
    | some (.dT kvs) => match toKeys a with
      | some k => .ok (.bl (if neg then !(kvs.any fun kv => decide (kv.1 = k)) else kvs.any fun kv => decide (kv.1 = k))) h
      | none => .bad
    | _ => .bad
  | _, _, _ => .bad
def getK {κ : Type} [DecidableEq κ] (kvs : List (κ × Dt)) (k : κ) : Option Dt := (kvs.find? fun kv => decide (kv.1 = k)).map (·.2)
def setK {κ : Type} [DecidableEq κ] (kvs : List (κ × Dt)) (k : κ) (v : Dt) : List (κ × Dt) :=
  if (kvs.any fun kv => decide (kv.1 = k)) = true then kvs.map (fun kv => if kv.1 = k then (kv.1, v) else kv) else kvs ++ [(k, v)]
def oGet : Op2
  | .tup ds, .int i, h => match atI ds i with
    | some d => .ok d h
    | none => .bad
  | .loc n, i, h => match h[n]? with
    | some (.dK kvs) => match (toKey i).bind (getK kvs) with
      | some d => .ok d h
      | none => .bad
    | some (.dT kvs) => match (toKeys i).bind (getK kvs) with
      | some d => .ok d h
      | none => .bad
    | _ => match i, getL h n with
      | .int i, some xs => match atI xs i with
        | some d => .ok d h
        | none => .bad
      | _, _ => .bad
  | _, _, _ => .bad
def cutD (xs : List Dt) (lo hi : Option Int) : List Dt := (xs.drop (HT.sIx xs.length 0 lo)).take (HT.sIx xs.length xs.length hi - HT.sIx xs.length 0 lo)
def oCut (d : Dt) (lo hi : Option Int) (h : MH) : RE Dt := match d with
  | .tup xs => .ok (.tup (cutD xs lo hi)) h
  | .loc n => match getL h n with
    | some xs => .ok (.loc h.length) (h ++ [.lst (cutD xs lo hi)])
    | none => .bad
  | _ => .bad
/-- o[i] = v -/
def oSet (o i v : Dt) (h : MH) : Option MH := match o with
  | .loc n => match h[n]? with
    | some (.lst xs) => match i with
      | .int k => (ixN xs.length k).map fun j => h.set n (.lst (xs.set j v))
      | _ => none
    | some (.dK kvs) => match toKey i with
      | some k => if kvs.length < sizeLine then some (h.set n (.dK (setK kvs k v))) else none
      | none => none
    | some (.dT kvs) => match toKeys i with
      | some k => if kvs.length < sizeLine then some (h.set n (.dT (setK kvs k v))) else none
      | none => none
    | _ => none
  | _ => none

/-! ### built-in functions -/
def intsOf : List Dt → Option (List Int)
  | [] => some []
  | .int i :: r => (intsOf r).map (i :: ·)
  | _ => none
def blsOf : List Dt → Option (List Bool)
  | [] => some []
  | .bl i :: r => (blsOf r).map (i :: ·)
  | _ => none
def minL : List Int → Int
  | [] => 0
  | [a] => a
  | a :: r => min a (minL r)
def maxL : List Int → Int
  | [] => 0
  | [a] => a
  | a :: r => max a (maxL r)
abbrev Bf := List Dt → MH → RE Dt
def bLen : Bf
  | [.tup ds], h => .ok (.int ds.length) h
  | [.str x], h => if x.length ≤ sizeLine then .ok (.int x.length) h else .bad
  | [.loc n], h => match h[n]? with
    | some (.lst xs) => .ok (.int xs.length) h
    | some (.fro xs) => .ok (.int xs.length) h
    | some (.dK kvs) => .ok (.int kvs.length) h
    | _ => .bad
  | _, _ => .bad
def bTuple : Bf
  | [.tup ds], h => .ok (.tup ds) h
  | [.loc n], h => match getL h n with
    | some xs => .ok (.tup xs) h
    | none => .bad
  | _, _ => .bad
def bList : Bf
  | [d], h => match seqOf h d with
    | some xs => .ok (.loc h.length) (h ++ [.lst xs])
    | none => .bad
  | _, _ => .bad
def bInt : Bf
  | [.int i], h => .ok (.int i) h
  | [.bl b], h => .ok (.int (if b then 1 else 0)) h
  | _, _ => .bad
def bAbs : Bf
  | [.int i], h => .ok (.int (if i < 0 then -i else i)) h
  | _, _ => .bad
def bSum : Bf
  | [.loc n], h => match (getL h n).bind intsOf with
    | some ns => .ok (.int ns.sum) h
    | none => .bad
  | _, _ => .bad
def bMin : Bf
  | [.int i, .int j], h => .ok (.int (if j < i then j else i)) h
  | [.loc n], h => match (getL h n).bind intsOf with
    | some ns => if ns = [] then .bad else .ok (.int (minL ns)) h
    | none => .bad
  | _, _ => .bad
def bMax : Bf
  | [.int i, .int j], h => .ok (.int (if j > i then j else i)) h
  | [.loc n], h => match (getL h n).bind intsOf with
    | some ns => if ns = [] then .bad else .ok (.int (maxL ns)) h
    | none => .bad
  | _, _ => .bad
def bAny : Bf
  | [.loc n], h => match (getL h n).bind blsOf with
    | some ns => .ok (.bl (ns.any id)) h
    | none => .bad
  | _, _ => .bad
def bAll : Bf
  | [.loc n], h => match (getL h n).bind blsOf with
    | some ns => .ok (.bl (ns.all id)) h
    | none => .bad
  | _, _ => .bad
/-- the name of a value's built-in type -/
def tyN (h : MH) : Dt → Option String
  | .non => some "NoneType" | .bl _ => some "bool" | .int _ => some "int" | .str _ => some "str" | .tup _ => some "tuple"
  | .loc n => match h[n]? with
    | some (.lst _) => some "list"
    | some (.fro _) => some "list"
    | some (.dK _) => some "dict"
    | some (.dT _) => some "dict"
    | _ => none
def bIsi (T : String) : Bf
  | [d], h => match (tyN h d).bind fun t => kitB t T with
    | some b => .ok (.bl b) h
    | none => .bad
  | _, _ => .bad

/-! ### built-in methods -/
abbrev Mf := Dt → List Dt → MH → RE Dt
def mAppend : Mf
  | .loc n, [v], h => match h[n]? with
    | some (.lst xs) => if xs.length < sizeLine then .ok .non (h.set n (.lst (xs ++ [v]))) else .bad
    | _ => .bad
  | _, _, _ => .bad
def mExtend : Mf
  | .loc n, [.loc m], h => match h[n]?, h[m]? with
    | some (.lst xs), some (.lst ys) => if xs.length + ys.length ≤ sizeLine then .ok .non (h.set n (.lst (xs ++ ys))) else .bad
    | _, _ => .bad
  | _, _, _ => .bad
def mPop : Mf
  | .loc n, [], h => match h[n]? with
    | some (.lst xs) => match xs[xs.length - 1]? with
      | some d => .ok d (h.set n (.lst xs.dropLast))
      | none => .bad
    | _ => .bad
  | .loc n, [.int i], h => match h[n]? with
    | some (.lst xs) => match ixN xs.length i with
      | some j => match xs[j]? with
        | some d => .ok d (h.set n (.lst (xs.eraseIdx j)))
        | none => .bad
      | none => .bad
    | _ => .bad
  | _, _, _ => .bad
def mIndex : Mf
  | .loc n, [v], h => match h[n]? with
    | some (.lst xs) => if v.eqOk = true ∧ (Dt.tup xs).eqOk = true then match xs.findIdx? fun z => eqv z v with
        | some j => .ok (.int (j : Nat)) h
        | none => .bad
      else .bad
    | _ => .bad
  | _, _, _ => .bad

/-! ### expressions -/
def eVar (i : Nat) : SE := fun _ ρ h => match ρ[i]? with
  | some (some d) => .ok d h
  | _ => .bad
def eC (d : Dt) : SE := fun _ _ h => .ok d h
def eOp (o : Op2) (a b : SE) : SE := fun G ρ h => bnd (a G ρ h) fun x h1 => bnd (b G ρ h1) fun y h2 => o x y h2
def eNeg (a : SE) : SE := fun G ρ h => bnd (a G ρ h) fun x h1 => match x with
  | .int i => .ok (.int (-i)) h1
  | _ => .bad
/-- a op b op' c -/
def eChain (o o' : Op2) (a b c : SE) : SE := fun G ρ h => bnd (a G ρ h) fun x h1 => bnd (b G ρ h1) fun y h2 => bnd (o x y h2) fun z h3 => match z with
  | .bl true => bnd (c G ρ h3) fun u h4 => o' y u h4
  | .bl false => .ok (.bl false) h3
  | _ => .bad
def eAnd (a b : SE) : SE := fun G ρ h => bnd (a G ρ h) fun x h1 => match x with
  | .bl true => b G ρ h1
  | .bl false => .ok (.bl false) h1
  | _ => .bad
def eOr (a b : SE) : SE := fun G ρ h => bnd (a G ρ h) fun x h1 => match x with
  | .bl true => .ok (.bl true) h1
  | .bl false => b G ρ h1
  | _ => .bad
def eNot (a : SE) : SE := fun G ρ h => bnd (a G ρ h) fun x h1 => bnd (truth x h1) fun k h2 => .ok (.bl (!k)) h2
def eIf (t : ST) (a b : SE) : SE := fun G ρ h => bnd (t G ρ h) fun k h1 => if k = true then a G ρ h1 else b G ρ h1
def aNil : SA := fun _ _ h => .ok [] h
def aCons (a : SE) (r : SA) : SA := fun G ρ h => bnd (a G ρ h) fun x h1 => bnd (r G ρ h1) fun xs h2 => .ok (x :: xs) h2
def eTup (a : SA) : SE := fun G ρ h => bnd (a G ρ h) fun xs h1 => newT xs h1
def eLst (a : SA) : SE := fun G ρ h => bnd (a G ρ h) fun xs h1 => newL xs h1
def eBf (f : Bf) (a : SA) : SE := fun G ρ h => bnd (a G ρ h) fun xs h1 => f xs h1
def isLst (h : MH) : Dt → Bool
  | .loc n => (getL h n).isSome
  | _ => false
/-- a list's method -/
def eMf (f : Mf) (o : SE) (a : SA) : SE := fun G ρ h => bnd (o G ρ h) fun x h1 => if isLst h1 x = true then bnd (a G ρ h1) fun xs h2 => f x xs h2 else .bad
def eCall (n : Nat) (a : SA) : SE := fun G ρ h => bnd (a G ρ h) fun xs h1 => G n xs h1
abbrev SO := Orc → Env → M (Option Int)
def oNo : SO := fun _ _ h => .ok none h
def oSome (a : SE) : SO := fun G ρ h => bnd (a G ρ h) fun x h1 => match x with
  | .int i => .ok (some i) h1
  | _ => .bad
def eCut (a : SE) (lo hi : SO) : SE := fun G ρ h => bnd (a G ρ h) fun x h1 => bnd (lo G ρ h1) fun l h2 => bnd (hi G ρ h2) fun u h3 => oCut x l u h3
def rgD (a b : Int) : List Dt := (List.range (b - a).toNat).map fun i => Dt.int (a + (i : Nat))
def rgOk (a b : Int) : Bool := decide (-lim62 ≤ a ∧ a < lim62 ∧ -lim62 ≤ b ∧ b < lim62 ∧ (b - a).toNat ≤ 16777216)
/-- list(range(..)), tuple(range(..)) -/
abbrev SR := Orc → Env → M (Int × Int)
def rg1 (a : SE) : SR := fun G ρ h => bnd (a G ρ h) fun x h1 => match x with
  | .int i => .ok (0, i) h1
  | _ => .bad
def rg2 (a b : SE) : SR := fun G ρ h => bnd (a G ρ h) fun x h1 => bnd (b G ρ h1) fun y h2 => match x, y with
  | .int i, .int j => .ok (i, j) h2
  | _, _ => .bad
def eLRg (r : SR) : SE := fun G ρ h => bnd (r G ρ h) fun p h1 => if rgOk p.1 p.2 = true then .ok (.loc h1.length) (h1 ++ [.lst (rgD p.1 p.2)]) else .bad
def eTRg (r : SR) : SE := fun G ρ h => bnd (r G ρ h) fun p h1 => if rgOk p.1 p.2 = true then .ok (.tup (rgD p.1 p.2)) h1 else .bad
/-- {k: v}, k a tuple -/
def eDict1 (k v : SE) : SE := fun G ρ h => bnd (k G ρ h) fun x h1 => bnd (v G ρ h1) fun y h2 => match toKeys x with
  | some ks => .ok (.loc h2.length) (h2 ++ [.dT [(ks, y)]])
  | none => .bad
/-- {}, to be a dict of tuple keys or not -/
def eDict0 (t : Bool) : SE := fun _ _ h => .ok (.loc h.length) (h ++ [if t then .dT [] else .dK []])
def getF (h : MH) (d : Dt) (f : Str) : Option Dt := match d with
  | .loc n => match h[n]? with
    | some (.ins _ fs) => fs.lookup f
    | _ => none
  | _ => none
def eFld (a : SE) (f : Str) : SE := fun G ρ h => bnd (a G ρ h) fun x h1 => match getF h1 x f with
  | some d => .ok d h1
  | none => .bad

/-! ### tests -/
def tVal (a : SE) : ST := fun G ρ h => bnd (a G ρ h) fun x h1 => truth x h1
/-- a comparison's answer -/
def tBl (a : SE) : ST := fun G ρ h => bnd (a G ρ h) fun x h1 => match x with
  | .bl t => .ok t h1
  | _ => .bad
def tNot (a : ST) : ST := fun G ρ h => bnd (a G ρ h) fun k h1 => .ok (!k) h1
def tAnd (a b : ST) : ST := fun G ρ h => bnd (a G ρ h) fun k h1 => if k = true then b G ρ h1 else .ok false h1
def tOr (a b : ST) : ST := fun G ρ h => bnd (a G ρ h) fun k h1 => if k = true then .ok true h1 else b G ρ h1

/-! ### targets, walks -/
inductive TP where
  | nm (i : Nat) | tp (ps : List TP)
mutual
def assignP : TP → Dt → Env → Option Env
  | .nm i, d, ρ => some (ρ.set i (some d))
  | .tp ps, .tup ds, ρ => if ds.length = ps.length then assignPs ps ds ρ else none
  | .tp _, _, _ => none
def assignPs : List TP → List Dt → Env → Option Env
  | [], [], ρ => some ρ
  | p :: ps, d :: ds, ρ => match assignP p d ρ with
    | some ρ' => assignPs ps ds ρ'
    | none => none
  | _, _, _ => none
end
/-- an iterator: its turns, its items as they stand, whether it may end -/
structure Wk where
  tot : Nat
  get : Nat → MH → Option Dt
  fin : MH → Bool
abbrev SI := Orc → Env → M Wk
def itL (n tot : Nat) : Wk := ⟨tot, fun i h => (getL h n).bind fun xs => xs[i]?, fun h => match getL h n with
  | some xs => decide (xs.length ≤ tot)
  | none => false⟩
def itT (xs : List Dt) : Wk := ⟨xs.length, fun i _ => xs[i]?, fun _ => true⟩
def itR (lo : Int) (n : Nat) : Wk := ⟨n, fun i _ => if i < n then some (.int (lo + (i : Nat))) else none, fun _ => true⟩
def itE (I : Wk) : Wk := ⟨I.tot, fun i h => (I.get i h).map fun d => .tup [.int (i : Nat), d], I.fin⟩
def itOf (d : Dt) (h : MH) : RE Wk := match d with
  | .tup xs => .ok (itT xs) h
  | .loc n => match getL h n with
    | some xs => .ok (itL n xs.length) h
    | none => .bad
  | _ => .bad
def iSeq (a : SE) : SI := fun G ρ h => bnd (a G ρ h) itOf
def iEnum (a : SE) : SI := fun G ρ h => bnd (a G ρ h) fun x h1 => bnd (itOf x h1) fun I h2 => .ok (itE I) h2
def iRg (r : SR) : SI := fun G ρ h => bnd (r G ρ h) fun p h1 => if -lim62 ≤ p.1 ∧ p.1 < lim62 ∧ -lim62 ≤ p.2 ∧ p.2 < lim62 then .ok (itR p.1 (p.2 - p.1).toNat) h1 else .bad
/-- zip of two lists, of two tuples -/
def itZ (I J : Wk) (m : Nat) : Wk := ⟨m, fun i h => match I.get i h, J.get i h with
  | some a, some b => some (.tup [a, b])
  | _, _ => none, fun h => I.fin h && J.fin h && (decide (I.tot ≤ m) || decide (J.tot ≤ m))⟩
def sameKind : Dt → Dt → Bool
  | .tup _, .tup _ => true
  | .loc _, .loc _ => true
  | _, _ => false
def iZip (a b : SE) : SI := fun G ρ h => bnd (a G ρ h) fun x h1 => bnd (b G ρ h1) fun y h2 =>
  if sameKind x y = true then bnd (itOf x h2) fun I h3 => bnd (itOf y h3) fun J h4 => .ok (itZ I J (min I.tot J.tot)) h4 else .bad

/-! ### comprehensions -/
def wipeE (ρ : Env) : List Nat → Env
  | [] => ρ
  | v :: vs => (wipeE ρ vs).set v none
def noEx {α : Type} (m : RE α) : RE α := match m with
  | .ok a h => .ok a h
  | _ => .bad
/-- the turns of a list comprehension: D the new list -/
def lcLoop (I : Wk) (p : TP) (t : ST) (e : SE) (G : Orc) (ρ : Env) (D : Nat) : Nat → MH → RE Dt
  | 0, h => if I.fin h = true then .ok (.loc D) h else .bad
  | k + 1, h => match I.get (I.tot - (k + 1)) h with
    | none => .bad
    | some d => match assignP p d ρ with
      | none => .bad
      | some ρ' => bnd (noEx (t G ρ' h)) fun b h1 =>
        if b = true then bnd (noEx (e G ρ' h1)) fun y h2 => match h2[D]? with
          | some (.lst acc) => if acc.length < sizeLine then lcLoop I p t e G ρ D k (h2.set D (.lst (acc ++ [y]))) else .bad
          | _ => .bad
        else lcLoop I p t e G ρ D k h1
def eLc (i : SI) (p : TP) (t : ST) (e : SE) (vs : List Nat) : SE := fun G ρ h => bnd (i G ρ h) fun I h1 => lcLoop I p t e G (wipeE ρ vs) h1.length I.tot (h1 ++ [.lst []])
def tYes : ST := fun _ _ h => .ok true h
/-- the turns of a dict comprehension -/
def dcLoop (T : Bool) (I : Wk) (p : TP) (t : ST) (k e : SE) (G : Orc) (ρ : Env) (D : Nat) : Nat → MH → RE Dt
  | 0, h => if I.fin h = true then .ok (.loc D) h else .bad
  | n + 1, h => match I.get (I.tot - (n + 1)) h with
    | none => .bad
    | some d => match assignP p d ρ with
      | none => .bad
      | some ρ' => bnd (noEx (t G ρ' h)) fun b h1 =>
        if b = true then bnd (noEx (k G ρ' h1)) fun x h2 => bnd (noEx (e G ρ' h2)) fun y h3 => match h3[D]? with
          | some (.dK kvs) => match toKey x with
            | some kk => if kvs.length < sizeLine ∧ T = false then dcLoop T I p t k e G ρ D n (h3.set D (.dK (setK kvs kk y))) else .bad
            | none => .bad
          | some (.dT kvs) => match toKeys x with
            | some kk => if kvs.length < sizeLine ∧ T = true then dcLoop T I p t k e G ρ D n (h3.set D (.dT (setK kvs kk y))) else .bad
            | none => .bad
          | _ => .bad
        else dcLoop T I p t k e G ρ D n h1
def eDc (T : Bool) (i : SI) (p : TP) (t : ST) (k e : SE) (vs : List Nat) : SE := fun G ρ h => bnd (i G ρ h) fun I h1 => dcLoop T I p t k e G (wipeE ρ vs) h1.length I.tot (h1 ++ [if T then .dT [] else .dK []])

/-! ### statements -/
def sSkip : SS := fun _ ρ h => .nx ρ h
def sBreak : SS := fun _ ρ h => .bk ρ h
def sCont : SS := fun _ ρ h => .ct ρ h
def sSeq (a b : SS) : SS := fun G ρ h => match a G ρ h with
  | .nx ρ1 h1 => b G ρ1 h1
  | r => r
def sExpr (e : SE) : SS := fun G ρ h => bndS ρ (e G ρ h) fun _ h1 => .nx ρ h1
def sRet (e : SE) : SS := fun G ρ h => bndS ρ (e G ρ h) fun d h1 => .rt d h1
def sRetN : SS := fun _ _ h => .rt .non h
def sSet (p : TP) (e : SE) : SS := fun G ρ h => bndS ρ (e G ρ h) fun d h1 => match assignP p d ρ with
  | some ρ' => .nx ρ' h1
  | none => .bad
/-- x, y = a, b -/
def sPar (i j : Nat) (a b : SE) : SS := fun G ρ h => bndS ρ (a G ρ h) fun x h1 => bndS ρ (b G ρ h1) fun y h2 => .nx ((ρ.set i (some x)).set j (some y)) h2
/-- o[i] = e -/
def sSetI (o i e : SE) : SS := fun G ρ h => bndS ρ (e G ρ h) fun v h1 => bndS ρ (o G ρ h1) fun x h2 => bndS ρ (i G ρ h2) fun y h3 => match oSet x y v h3 with
  | some h4 => .nx ρ h4
  | none => .bad
def sIf (t : ST) (a b : SS) : SS := fun G ρ h => bndS ρ (t G ρ h) fun k h1 => if k = true then a G ρ h1 else b G ρ h1
def sAug (i : Nat) (o : Op2) (e : SE) : SS := fun G ρ h => match ρ[i]? with
  | some (some x) => bndS ρ (e G ρ h) fun y h1 => bndS ρ (o x y h1) fun z h2 => .nx (ρ.set i (some z)) h2
  | _ => .bad
def forLoop (I : Wk) (p : TP) (b : SS) (G : Orc) : Nat → Env → MH → RS
  | 0, ρ, h => if I.fin h = true then .nx ρ h else .bad
  | k + 1, ρ, h => match I.get (I.tot - (k + 1)) h with
    | none => .bad
    | some d => match assignP p d ρ with
      | none => .bad
      | some ρ' => match b G ρ' h with
        | .nx ρ2 h2 => forLoop I p b G k ρ2 h2
        | .ct ρ2 h2 => forLoop I p b G k ρ2 h2
        | .bk ρ2 h2 => .nx ρ2 h2
        | r => r
def sFor (i : SI) (p : TP) (b : SS) : SS := fun G ρ h => bndS ρ (i G ρ h) fun I h1 => forLoop I p b G I.tot ρ h1
def whileLoop (t : ST) (b : SS) (G : Orc) : Nat → Env → MH → RS
  | 0, _, _ => .bad
  | k + 1, ρ, h => bndS ρ (t G ρ h) fun c h1 => if c = true then match b G ρ h1 with
      | .nx ρ2 h2 => whileLoop t b G k ρ2 h2
      | .ct ρ2 h2 => whileLoop t b G k ρ2 h2
      | .bk ρ2 h2 => .nx ρ2 h2
      | r => r
    else .nx ρ h1
def whileFuel : Nat := 1000000
def sWhile (t : ST) (b : SS) : SS := fun G ρ h => whileLoop t b G whileFuel ρ h
/-- what an exception's __init__ does: each parameter is handed through the def sp -/
def initLoop (sp : Nat) (G : Orc) : List Dt → MH → RE (List Dt)
  | [], h => .ok [] h
  | x :: xs, h => bnd (G sp [x] h) fun d h1 => bnd (initLoop sp G xs h1) fun ds h2 => .ok (d :: ds) h2
def getSome : Env → Option (List Dt)
  | [] => some []
  | some d :: r => (getSome r).map (d :: ·)
  | none :: _ => none
def sInit (sp : Nat) : SS := fun G ρ h => match getSome ρ with
  | some xs => match initLoop sp G xs h with
    | .ok ds h1 => .rt (.tup ds) h1
    | _ => .bad
  | none => .bad
/-- raise C(..): ini is C's __init__, names its fields -/
def sRaise (C : Str) (ini : Nat) (names : List Str) (a : SA) : SS := fun G ρ h => bndS ρ (a G ρ h) fun xs h1 => match G ini xs h1 with
  | .ok (.tup ds) h2 => if ds.length = names.length then .ex C (names.zip ds).reverse ρ h2 else .bad
  | _ => .bad
/-! ### try: body, except C as e: suite; a suite knows the exception -/
abbrev XE := Str → Fs → SE
abbrev XA := Str → Fs → SA
abbrev XS := Str → Fs → SS
abbrev Sub := Str → Str → Option Bool
abbrev Flds := List (Str × List Str)
def xF (fl : Flds) (f : Str) : XE := fun C fs _ _ h => match fl.lookup C with
  | some l => if l.contains f = true then match fs.lookup f with
      | some d => .ok d h
      | none => .bad
    else .bad
  | none => .bad
def xIs (sub : Sub) (T : Str) : XE := fun C _ _ _ h => match sub C T with
  | some b => .ok (.bl b) h
  | none => .bad
def runH (sub : Sub) (C : Str) (fs : Fs) (G : Orc) : List (Str × Nat × XS) → Env → MH → RS
  | [], ρ, h => .ex C fs ρ h
  | (D, i, s) :: r, ρ, h => match sub C D with
    | some true => if i < ρ.length then match s C fs G (ρ.set i none) h with
        | .nx ρ2 h2 => .nx (ρ2.set i none) h2
        | .rt d h2 => .rt d h2
        | _ => .bad
      else .bad
    | some false => runH sub C fs G r ρ h
    | none => .bad
def sTry (sub : Sub) (b : SS) (hs : List (Str × Nat × XS)) : SS := fun G ρ h => match b G ρ h with
  | .ex C fs ρ1 h1 => runH sub C fs G hs ρ1 h1
  | r => r
/-- a def's body, called -/
def runBody (n : Nat) (b : SS) (G : Orc) (args : List Dt) (h : MH) : RE Dt := match b G (args.map some ++ List.replicate (n - args.length) none) h with
  | .nx _ h' => .ok .non h'
  | .rt d h' => .ok d h'
  | .ex C fs _ h' => .ex C fs h'
  | _ => .bad
/-- a def: its parameters, its slots, its body -/
structure MDef where
  ar : Nat
  sl : Nat
  body : SS
def callK (P : List MDef) : Nat → Orc
  | 0, _, _, _ => .bad
  | k + 1, n, args, h => match P[n]? with
    | some d => if args.length = d.ar then runBody d.sl d.body (callK P k) args h else .bad
    | none => .bad
end EP
end
section
/-! Rep: how data and symbolic heaps lie in the hand layer's abstract heap. -/
namespace EP
open PySem PySem.Spec PyProof.Rows L2

mutual
inductive RepV (β : List Addr) (H : Hp) : Dt → V → Prop
  | non : RepV β H .non .non
  | bl (b : Bool) : RepV β H (.bl b) (.bl b)
  | int (i : Int) : RepV β H (.int i) (.int i)
  | str (x : Str) : RepV β H (.str x) (.str x)
  | tup {ds : List Dt} {p : Addr} {vs : List V} : H p = some (.tup vs) → ds.length ≤ sizeLine → RepVs β H ds vs → RepV β H (.tup ds) (.ref p)
  | loc {n : Nat} {p : Addr} : β[n]? = some p → RepV β H (.loc n) (.ref p)
inductive RepVs (β : List Addr) (H : Hp) : List Dt → List V → Prop
  | nil : RepVs β H [] []
  | cons {d : Dt} {v : V} {ds : List Dt} {vs : List V} : RepV β H d v → RepVs β H ds vs → RepVs β H (d :: ds) (v :: vs)
end

/-- what is written -/
def Mw : HO → Prop
  | .lst _ => True
  | .dK _ => True
  | .dT _ => True
  | .ins _ _ _ => True
  | _ => False
structure Ext (β β' : List Addr) (H H' : Hp) : Prop where
  pre : ∀ (n : Nat) (p : Addr), β[n]? = some p → β'[n]? = some p
  keep : ∀ (p : Addr) (o : HO), H p = some o → p ∉ β → H' p = some o
  tup : ∀ (p : Addr) (xs : List V), H p = some (.tup xs) → H' p = some (.tup xs)
  frz : ∀ (p : Addr) (o : Obj) (u : HO), H p = some (.frz o u) → H' p = some (.frz o u)
  ext : ∀ (p : Addr) (φ : Heap → Prop), H p = some (.ext φ) → H' p = some (.ext φ)
  xd : ∀ (p : Addr) (gs : List (Str × V)), H p = some (.xd gs) → H' p = some (.xd gs)
  dom : ∀ (p : Addr), H' p = none → H p = none
  /-- what is new in β' was free -/
  new : ∀ (p : Addr), p ∈ β' → p ∈ β ∨ H p = none

theorem Ext.refl (β : List Addr) (H : Hp) : Ext β β H H := ⟨fun _ _ h => h, fun _ _ h _ => h, fun _ _ h => h, fun _ _ _ h => h, fun _ _ h => h, fun _ _ h => h, fun _ h => h, fun _ h => .inl h⟩
theorem Ext.trans {β β1 β2 : List Addr} {H H1 H2 : Hp} (a : Ext β β1 H H1) (b : Ext β1 β2 H1 H2) : Ext β β2 H H2 where
  pre := fun n p h => b.pre n p (a.pre n p h)
  keep := fun p o h hn => by
    refine b.keep p o (a.keep p o h hn) fun hm => ?_
    rcases a.new p hm with q | q
    · exact hn q
    · rw [q] at h; cases h
  tup := fun p xs h => b.tup p xs (a.tup p xs h)
  frz := fun p o u h => b.frz p o u (a.frz p o u h)
  ext := fun p o h => b.ext p o (a.ext p o h)
  xd := fun p o h => b.xd p o (a.xd p o h)
  dom := fun p h => a.dom p (b.dom p h)
  new := fun p hp => by
    rcases b.new p hp with q | q
    · exact a.new p q
    · by_cases hb : p ∈ β
      · exact .inl hb
      · cases e : H p with
        | none => exact .inr rfl
        | some o => rw [a.keep p o e hb] at q; cases q

mutual
theorem RepV.ext {β β' : List Addr} {H H' : Hp} (x : Ext β β' H H') : ∀ {d : Dt} {v : V}, RepV β H d v → RepV β' H' d v
  | _, _, .non => .non
  | _, _, .bl b => .bl b
  | _, _, .int i => .int i
  | _, _, .str y => .str y
  | _, _, .tup e l r => .tup (x.tup _ _ e) l (RepVs.ext x r)
  | _, _, .loc e => .loc (x.pre _ _ e)
theorem RepVs.ext {β β' : List Addr} {H H' : Hp} (x : Ext β β' H H') : ∀ {ds : List Dt} {vs : List V}, RepVs β H ds vs → RepVs β' H' ds vs
  | _, _, .nil => .nil
  | _, _, .cons a b => .cons (RepV.ext x a) (RepVs.ext x b)
end

section
variable {β : List Addr} {H : Hp}
theorem RepVs.length : ∀ {ds : List Dt} {vs : List V}, RepVs β H ds vs → ds.length = vs.length
  | _, _, .nil => rfl
  | _, _, .cons _ r => congrArg (· + 1) (RepVs.length r)
theorem RepVs.get : ∀ {ds : List Dt} {vs : List V} {i : Nat} {d : Dt}, RepVs β H ds vs → ds[i]? = some d → ∃ v, vs[i]? = some v ∧ RepV β H d v
  | _, _, _, _, .nil, e => by simp at e
  | _, _, 0, _, .cons a _, e => by simp at e; subst e; exact ⟨_, rfl, a⟩
  | _, _, i + 1, d, .cons _ r, e => by
    obtain ⟨v, h1, h2⟩ := RepVs.get (i := i) (d := d) r (by simpa using e)
    exact ⟨v, by simpa using h1, h2⟩
theorem RepVs.none_of : ∀ {ds : List Dt} {vs : List V} {i : Nat}, RepVs β H ds vs → ds[i]? = none → vs[i]? = none := fun {ds vs i} r e => by
  have h1 := r.length
  have h2 : ds.length ≤ i := List.getElem?_eq_none_iff.mp e
  exact List.getElem?_eq_none_iff.mpr (by omega)
theorem RepVs.append : ∀ {as bs : List Dt} {us vs : List V}, RepVs β H as us → RepVs β H bs vs → RepVs β H (as ++ bs) (us ++ vs)
  | _, _, _, _, .nil, s => s
  | _, _, _, _, .cons r t, s => .cons r (RepVs.append t s)
theorem RepVs.take : ∀ {ds : List Dt} {vs : List V} (n : Nat), RepVs β H ds vs → RepVs β H (ds.take n) (vs.take n)
  | _, _, 0, _ => .nil
  | _, _, _ + 1, .nil => .nil
  | _, _, n + 1, .cons r t => .cons r (RepVs.take n t)
theorem RepVs.drop : ∀ {ds : List Dt} {vs : List V} (n : Nat), RepVs β H ds vs → RepVs β H (ds.drop n) (vs.drop n)
  | _, _, 0, r => r
  | _, _, _ + 1, .nil => .nil
  | _, _, n + 1, .cons r t => RepVs.drop n t
theorem RepVs.set {x : Dt} {u : V} (r : RepV β H x u) : ∀ {ds : List Dt} {vs : List V} (i : Nat), RepVs β H ds vs → RepVs β H (ds.set i x) (vs.set i u)
  | _, _, _, .nil => .nil
  | _, _, 0, .cons _ t => .cons r t
  | _, _, i + 1, .cons q t => .cons q (RepVs.set r i t)
theorem RepVs.eraseIdx : ∀ {ds : List Dt} {vs : List V} (i : Nat), RepVs β H ds vs → RepVs β H (ds.eraseIdx i) (vs.eraseIdx i)
  | _, _, _, .nil => .nil
  | _, _, 0, .cons _ t => t
  | _, _, i + 1, .cons q t => .cons q (RepVs.eraseIdx i t)
theorem RepVs.dropLast {ds : List Dt} {vs : List V} (r : RepVs β H ds vs) : RepVs β H ds.dropLast vs.dropLast := by
  rw [List.dropLast_eq_take, List.dropLast_eq_take, r.length]
  exact r.take _
theorem RepVs.cut {ds : List Dt} {vs : List V} (r : RepVs β H ds vs) (lo hi : Option Int) : RepVs β H (cutD ds lo hi) (cutV vs lo hi) := by
  unfold cutD cutV
  rw [r.length]
  exact (r.drop _).take _
theorem RepVs.flat {ds : List Dt} {vs : List V} (r : RepVs β H ds vs) : ∀ k : Nat, RepVs β H (List.replicate k ds).flatten (List.replicate k vs).flatten
  | 0 => .nil
  | k + 1 => by
    rw [List.replicate_succ, List.replicate_succ, List.flatten_cons, List.flatten_cons]
    exact r.append (RepVs.flat r k)
theorem RepVs.ints : ∀ ns : List Int, RepVs β H (ns.map Dt.int) (ns.map V.int)
  | [] => .nil
  | n :: ns => .cons (.int n) (RepVs.ints ns)
end

/-! ### objects -/
inductive RepK {κ : Type} (β : List Addr) (H : Hp) : List (κ × Dt) → List (κ × V) → Prop
  | nil : RepK β H [] []
  | cons {k : κ} {d : Dt} {v : V} {a : List (κ × Dt)} {b : List (κ × V)} : RepV β H d v → RepK β H a b → RepK β H ((k, d) :: a) ((k, v) :: b)
/-- fields, by name -/
def RepF (β : List Addr) (H : Hp) (fs : Fs) (gs : List (Str × V)) : Prop := ∀ f, (fs.lookup f = none ∧ gs.lookup f = none) ∨ ∃ d v, fs.lookup f = some d ∧ gs.lookup f = some v ∧ RepV β H d v
section
variable {β β' : List Addr} {H H' : Hp} {κ : Type}
theorem RepK.ext (x : Ext β β' H H') : ∀ {a : List (κ × Dt)} {b : List (κ × V)}, RepK β H a b → RepK β' H' a b
  | _, _, .nil => .nil
  | _, _, .cons r t => .cons (r.ext x) (RepK.ext x t)
theorem RepK.length : ∀ {a : List (κ × Dt)} {b : List (κ × V)}, RepK β H a b → a.length = b.length
  | _, _, .nil => rfl
  | _, _, .cons _ r => congrArg (· + 1) (RepK.length r)
theorem RepF.ext (x : Ext β β' H H') {fs : Fs} {gs : List (Str × V)} (r : RepF β H fs gs) : RepF β' H' fs gs := fun f => by
  rcases r f with h | ⟨d, v, h1, h2, h3⟩
  · exact .inl h
  · exact .inr ⟨d, v, h1, h2, h3.ext x⟩
variable [DecidableEq κ]
theorem RepK.val : ∀ {a : List (κ × Dt)} {b : List (κ × V)} (k : κ), RepK β H a b → (getK a k = none ∧ valV b k = none) ∨ ∃ d v, getK a k = some d ∧ valV b k = some v ∧ RepV β H d v
  | _, _, k, .nil => .inl ⟨rfl, rfl⟩
  | _, _, k, .cons (k := k0) (d := d) (v := v) r t => by
    unfold getK valV
    by_cases h : k0 = k
    · refine .inr ⟨d, v, ?_, ?_, r⟩ <;> simp [h]
    · have := RepK.val k t
      unfold getK valV at this
      simp only [List.find?_cons, h, decide_false, Bool.false_eq_true]
      exact this
theorem RepK.any {a : List (κ × Dt)} {b : List (κ × V)} (k : κ) (r : RepK β H a b) : (a.any fun kv => decide (kv.1 = k)) = b.any fun kv => decide (kv.1 = k) := by
  induction r with
  | nil => rfl
  | cons _ _ ih => simp only [List.any_cons, ih]
theorem RepK.repl {a : List (κ × Dt)} {b : List (κ × V)} (k : κ) {y : Dt} {u : V} (ry : RepV β H y u) (r : RepK β H a b) :
    RepK β H (a.map fun kv => if kv.1 = k then (kv.1, y) else kv) (b.map fun kv => if kv.1 = k then (kv.1, u) else kv) := by
  induction r with
  | nil => exact .nil
  | @cons k0 d v a b r t ih =>
    simp only [List.map_cons]
    by_cases h : k0 = k
    · rw [if_pos h, if_pos h]; exact .cons ry ih
    · rw [if_neg h, if_neg h]; exact .cons r ih
theorem RepK.snoc {a : List (κ × Dt)} {b : List (κ × V)} (k : κ) {y : Dt} {u : V} (ry : RepV β H y u) (r : RepK β H a b) : RepK β H (a ++ [(k, y)]) (b ++ [(k, u)]) := by
  induction r with
  | nil => exact .cons ry .nil
  | cons r t ih => exact .cons r ih
theorem RepK.put {a : List (κ × Dt)} {b : List (κ × V)} (k : κ) {y : Dt} {u : V} (ry : RepV β H y u) (r : RepK β H a b) : RepK β H (setK a k y) (putK b k u) := by
  unfold setK putK
  rw [r.any k]
  split
  · exact r.repl k ry
  · exact r.snoc k ry
end

/-- a list that is known and not written: frozen, or in the written part -/
def FroL (K : PySem.W.Frag) (H : Hp) (p : Addr) (vs : List V) : Prop := (∃ o, H p = some (.frz o (.lst vs))) ∨
  ∃ (o : Obj) (its : Array Value) (n : Nat), K.lookup p = some o ∧ o.cls = .type "list" ∧ o.dict = none ∧ o.data = .seq its n ∧ its.size ≤ sizeLine ∧ Vals vs its.toList
theorem FroL.sq {K : PySem.W.Frag} {H : Hp} {p : Addr} {vs : List V} (h : FroL K H p vs) : SqL K H p vs := by
  rcases h with ⟨o, e⟩ | h
  · exact .inl (.inr ⟨o, e⟩)
  · exact .inr h
def RepO (K : PySem.W.Frag) (mg : Str → Option Value) (β : List Addr) (H : Hp) (p : Addr) : MO → Prop
  | .lst xs => xs.length ≤ sizeLine ∧ ∃ vs, H p = some (.lst vs) ∧ RepVs β H xs vs
  | .fro xs => xs.length ≤ sizeLine ∧ ∃ vs, FroL K H p vs ∧ RepVs β H xs vs
  | .dK kvs => kvs.length ≤ sizeLine ∧ ∃ ws, H p = some (.dK ws) ∧ RepK β H kvs ws
  | .dT kvs => kvs.length ≤ sizeLine ∧ ∃ ws, H p = some (.dT ws) ∧ RepK β H kvs ws
  | .ins C fs => ∃ Ca dx gs, mg C = some (.ref Ca) ∧ H p = some (.ins Ca dx gs) ∧ gs.length ≤ fs.length ∧ RepF β H fs gs
/-- written objects -/
def MO.wr : MO → Bool
  | .fro _ => false | _ => true
structure RepH (K : PySem.W.Frag) (mg : Str → Option Value) (β : List Addr) (h : MH) (H : Hp) : Prop where
  len : β.length = h.length
  at_ : ∀ (n : Nat) (o : MO) (p : Addr), h[n]? = some o → β[n]? = some p → RepO K mg β H p o
  inj : ∀ (i j : Nat) (a b : MO) (p : Addr), h[i]? = some a → h[j]? = some b → a.wr = true → b.wr = true → β[i]? = some p → β[j]? = some p → i = j
structure RepS (β : List Addr) (H : Hp) (ρ : Env) (σ : L2.St) : Prop where
  len : ρ.length = σ.length
  at_ : ∀ (i : Nat) (d : Dt), ρ[i]? = some (some d) → ∃ v : V, σ[i]? = some (some v) ∧ RepV β H d v

section
variable {K : PySem.W.Frag} {mg : Str → Option Value} {β β' : List Addr} {H H' : Hp} {h : MH} {ρ : Env} {σ : L2.St}
theorem RepS.ext (x : Ext β β' H H') (r : RepS β H ρ σ) : RepS β' H' ρ σ := ⟨r.len, fun i d e => let ⟨v, a, b⟩ := r.at_ i d e; ⟨v, a, b.ext x⟩⟩
theorem RepS.set (r : RepS β H ρ σ) (i : Nat) {d : Dt} {v : V} (rv : RepV β H d v) : RepS β H (ρ.set i (some d)) (σ.set i (some v)) := by
  refine ⟨by simp [r.len], fun j d' e => ?_⟩
  by_cases hj : i = j
  · subst hj
    by_cases hl : i < ρ.length
    · rw [List.getElem?_set_self hl] at e
      cases e
      exact ⟨v, List.getElem?_set_self (by rw [← r.len]; exact hl), rv⟩
    · rw [List.getElem?_eq_none (by simpa using hl)] at e; cases e
  · rw [List.getElem?_set_ne hj] at e
    rw [List.getElem?_set_ne hj]
    exact r.at_ j d' e
theorem RepH.addr (r : RepH K mg β h H) {n : Nat} {o : MO} (e : h[n]? = some o) : ∃ p, β[n]? = some p ∧ RepO K mg β H p o := by
  have hn : n < h.length := (List.getElem?_eq_some_iff.mp e).1
  have hb : n < β.length := by rw [r.len]; exact hn
  exact ⟨β[n], List.getElem?_eq_getElem hb, r.at_ n o _ e (List.getElem?_eq_getElem hb)⟩
/-- a readable list -/
theorem RepH.list (r : RepH K mg β h H) {n : Nat} {xs : List Dt} (e : getL h n = some xs) : ∃ p vs, β[n]? = some p ∧ SqL K H p vs ∧ RepVs β H xs vs ∧ xs.length ≤ sizeLine := by
  unfold getL at e
  split at e
  · rename_i ys q
    cases e
    obtain ⟨p, hp, hl, vs, hv, rv⟩ := r.addr q
    exact ⟨p, vs, hp, SqL.of hv, rv, hl⟩
  · rename_i ys q
    cases e
    obtain ⟨p, hp, hl, vs, hv, rv⟩ := r.addr q
    exact ⟨p, vs, hp, hv.sq, rv, hl⟩
  · cases e
/-- the address of a written object holds what it holds -/
theorem RepO.some_of {p : Addr} {o : MO} (r : RepO K mg β H p o) (w : o.wr = true) : ∃ u, H p = some u ∧ Mw u ∧ ∀ xs, u ≠ .tup xs := by
  cases o with
  | lst xs => obtain ⟨_, vs, e, _⟩ := r; exact ⟨_, e, trivial, fun _ q => nomatch q⟩
  | fro xs => cases w
  | dK xs => obtain ⟨_, vs, e, _⟩ := r; exact ⟨_, e, trivial, fun _ q => nomatch q⟩
  | dT xs => obtain ⟨_, vs, e, _⟩ := r; exact ⟨_, e, trivial, fun _ q => nomatch q⟩
  | ins C fs => obtain ⟨_, _, _, _, e, _⟩ := r; exact ⟨_, e, trivial, fun _ q => nomatch q⟩
/-- nothing but tracked objects change: an object's description stays -/
theorem RepO.ext (x : Ext β β' H H') {p : Addr} {o : MO} (r : RepO K mg β H p o) (k : ∀ u, H p = some u → H' p = some u) : RepO K mg β' H' p o := by
  cases o with
  | lst xs => obtain ⟨l, vs, e, rv⟩ := r; exact ⟨l, vs, k _ e, rv.ext x⟩
  | fro xs =>
    obtain ⟨l, vs, e, rv⟩ := r
    refine ⟨l, vs, ?_, rv.ext x⟩
    rcases e with ⟨o, e⟩ | e
    · exact .inl ⟨o, k _ e⟩
    · exact .inr e
  | dK kvs => obtain ⟨l, vs, e, rv⟩ := r; exact ⟨l, vs, k _ e, rv.ext x⟩
  | dT kvs => obtain ⟨l, vs, e, rv⟩ := r; exact ⟨l, vs, k _ e, rv.ext x⟩
  | ins C fs => obtain ⟨Ca, dx, gs, m, e, l, rv⟩ := r; exact ⟨Ca, dx, gs, m, k _ e, l, rv.ext x⟩
/-- a fresh thing (a tuple, a record that is not ours) is laid -/
theorem Ext.fresh {p : Addr} {u : HO} (hp : H p = none) : Ext β β H (upd H p u) where
  pre := fun _ _ h => h
  keep := fun q o h _ => by rw [upd_ne (ne_of_none h hp)]; exact h
  tup := fun q o h => by rw [upd_ne (ne_of_none h hp)]; exact h
  frz := fun q o u h => by rw [upd_ne (ne_of_none h hp)]; exact h
  ext := fun q o h => by rw [upd_ne (ne_of_none h hp)]; exact h
  xd := fun q o h => by rw [upd_ne (ne_of_none h hp)]; exact h
  dom := fun q h => by
    by_cases e : q = p
    · rw [e]; exact hp
    · rw [upd_ne e] at h; exact h
  new := fun _ h => .inl h
theorem RepH.fresh (r : RepH K mg β h H) {p : Addr} {u : HO} (hp : H p = none) : RepH K mg β h (upd H p u) :=
  ⟨r.len, fun n o q e1 e2 => (r.at_ n o q e1 e2).ext (Ext.fresh hp) fun u h => by rw [upd_ne (ne_of_none h hp)]; exact h, r.inj⟩
/-- a new object of ours -/
theorem Ext.alloc {p : Addr} {u : HO} (hp : H p = none) : Ext β (β ++ [p]) H (upd H p u) where
  pre := fun n q h => by rw [List.getElem?_append_left (List.getElem?_eq_some_iff.mp h).1]; exact h
  keep := fun q o h _ => by rw [upd_ne (ne_of_none h hp)]; exact h
  tup := fun q o h => by rw [upd_ne (ne_of_none h hp)]; exact h
  frz := fun q o u h => by rw [upd_ne (ne_of_none h hp)]; exact h
  ext := fun q o h => by rw [upd_ne (ne_of_none h hp)]; exact h
  xd := fun q o h => by rw [upd_ne (ne_of_none h hp)]; exact h
  dom := fun q h => by
    by_cases e : q = p
    · rw [e]; exact hp
    · rw [upd_ne e] at h; exact h
  new := fun q h => by
    rcases List.mem_append.mp h with z | z
    · exact .inl z
    · rw [List.mem_singleton] at z; rw [z]; exact .inr hp
theorem RepH.alloc (r : RepH K mg β h H) {p : Addr} {u : HO} {o : MO} (hp : H p = none) (new : RepO K mg (β ++ [p]) (upd H p u) p o) : RepH K mg (β ++ [p]) (h ++ [o]) (upd H p u) := by
  have key : ∀ {n : Nat} {a : MO} {q : Addr}, (h ++ [o])[n]? = some a → (β ++ [p])[n]? = some q → (h[n]? = some a ∧ β[n]? = some q) ∨ (n = h.length ∧ a = o ∧ q = p) := by
    intro n a q h1 h2
    by_cases hn : n < h.length
    · rw [List.getElem?_append_left hn] at h1
      rw [List.getElem?_append_left (by rw [r.len]; exact hn)] at h2
      exact .inl ⟨h1, h2⟩
    · have hn' : n = h.length := by
        have := (List.getElem?_eq_some_iff.mp h1).1
        simp at this
        omega
      subst hn'
      rw [List.getElem?_append_right (Nat.le_refl _), Nat.sub_self] at h1
      rw [List.getElem?_append_right (by rw [r.len]; exact Nat.le_refl _), r.len, Nat.sub_self] at h2
      simp at h1 h2
      exact .inr ⟨rfl, h1.symm, h2.symm⟩
  refine ⟨by simp [r.len], fun n a q h1 h2 => ?_, fun i j a b q h1 h2 w1 w2 h3 h4 => ?_⟩
  · rcases key h1 h2 with ⟨h1, h2⟩ | ⟨rfl, rfl, rfl⟩
    · exact (r.at_ n a q h1 h2).ext (Ext.alloc hp) fun u h => by rw [upd_ne (ne_of_none h hp)]; exact h
    · exact new
  · rcases key h1 h3 with ⟨g1, g3⟩ | ⟨e1, e2, e3⟩
    · rcases key h2 h4 with ⟨g2, g4⟩ | ⟨f1, f2, f3⟩
      · exact r.inj i j a b q g1 g2 w1 w2 g3 g4
      · obtain ⟨u, e, _⟩ := (r.at_ i a q g1 g3).some_of w1
        rw [f3, hp] at e; cases e
    · rcases key h2 h4 with ⟨g2, g4⟩ | ⟨f1, f2, f3⟩
      · obtain ⟨u, e, _⟩ := (r.at_ j b q g2 g4).some_of w2
        rw [e3, hp] at e; cases e
      · rw [e1, f1]
/-- an object of ours is written -/
theorem Ext.write {p : Addr} {u u' : HO} (hp : H p = some u) (mu : Mw u) (hb : p ∈ β) : Ext β β H (upd H p u') where
  pre := fun _ _ h => h
  keep := fun q o h hn => by
    have ne : q ≠ p := fun e => hn (by rw [e]; exact hb)
    rw [upd_ne ne]; exact h
  tup := fun q o h => by
    rw [upd_ne fun e => ?_]; exact h
    subst e; rw [hp] at h; cases h; exact mu
  frz := fun q o u h => by
    rw [upd_ne fun e => ?_]; exact h
    subst e; rw [hp] at h; cases h; exact mu
  ext := fun q o h => by
    rw [upd_ne fun e => ?_]; exact h
    subst e; rw [hp] at h; cases h; exact mu
  xd := fun q o h => by
    rw [upd_ne fun e => ?_]; exact h
    subst e; rw [hp] at h; cases h; exact mu
  dom := fun q h => by
    by_cases e : q = p
    · rw [e, upd_same] at h; cases h
    · rw [upd_ne e] at h; exact h
  new := fun _ h => .inl h
theorem RepH.write (r : RepH K mg β h H) {n : Nat} {p : Addr} {u : HO} {o o' : MO} (e : h[n]? = some o) (hp : β[n]? = some p) (w : o.wr = true)
    (new : RepO K mg β (upd H p u) p o') : RepH K mg β (h.set n o') (upd H p u) ∧ Ext β β H (upd H p u) := by
  obtain ⟨u0, e0, mu, _⟩ := (r.at_ n o p e hp).some_of w
  have hb : p ∈ β := List.mem_of_getElem? hp
  have x : Ext β β H (upd H p u) := Ext.write e0 mu hb
  have hn : n < h.length := (List.getElem?_eq_some_iff.mp e).1
  refine ⟨⟨by simp [r.len], fun m a q h1 h2 => ?_, fun i j a b q h1 h2 w1 w2 h3 h4 => ?_⟩, x⟩
  · by_cases hm : n = m
    · subst hm
      rw [List.getElem?_set_self hn] at h1
      cases h1
      rw [hp] at h2; cases h2
      exact new
    · rw [List.getElem?_set_ne hm] at h1
      have ra := r.at_ m a q h1 h2
      by_cases wa : a.wr = true
      · refine ra.ext x fun v hv => ?_
        rw [upd_ne fun eq => ?_]
        · exact hv
        · subst eq
          exact hm (r.inj n m o a q e h1 w wa hp h2)
      · cases a with
        | fro xs =>
          obtain ⟨l, vs, f, rv⟩ := ra
          refine ⟨l, vs, ?_, rv.ext x⟩
          rcases f with ⟨ob, f⟩ | f
          · exact .inl ⟨ob, x.frz _ _ _ f⟩
          · exact .inr f
        | _ => exact absurd rfl wa
  · have wr : ∀ {i : Nat} {a : MO}, (h.set n o')[i]? = some a → a.wr = true → ∃ a', h[i]? = some a' ∧ a'.wr = true := by
      intro i a h1 w1
      by_cases hi : n = i
      · subst hi; exact ⟨o, e, w⟩
      · rw [List.getElem?_set_ne hi] at h1; exact ⟨a, h1, w1⟩
    obtain ⟨a', h1', w1'⟩ := wr h1 w1
    obtain ⟨b', h2', w2'⟩ := wr h2 w2
    exact r.inj i j a' b' q h1' h2' w1' w2' h3 h4
theorem RepH.notin (r : RepH K mg β h H) {p : Addr} (hp : H p = none) (hk : K.lookup p = none) : p ∉ β := fun hm => by
  obtain ⟨n, hn, e⟩ := List.getElem_of_mem hm
  have hn' : n < h.length := by rw [← r.len]; exact hn
  have ra := r.at_ n h[n] p (List.getElem?_eq_getElem hn') (by rw [List.getElem?_eq_getElem hn, e])
  cases ho : h[n] with
  | fro xs =>
    rw [ho] at ra
    obtain ⟨_, vs, f, _⟩ := ra
    rcases f with ⟨o, f⟩ | ⟨o, _, _, f, _⟩
    · rw [hp] at f; cases f
    · rw [hk] at f; cases f
  | _ =>
    rw [ho] at ra
    obtain ⟨u, f, _⟩ := ra.some_of rfl
    rw [hp] at f; cases f
/-- a record laid before becomes ours -/
theorem Ext.adopt {β1 β2 : List Addr} {H2 : Hp} {p : Addr} {o u : HO} (hp : H p = none) (x : Ext β1 β2 (upd H p o) H2) : Ext β1 (β2 ++ [p]) H (upd H2 p u) where
  pre := fun n q h => by
    have := x.pre n q h
    rw [List.getElem?_append_left (List.getElem?_eq_some_iff.mp this).1]; exact this
  keep := fun q o h hn => by
    have ne := ne_of_none h hp
    rw [upd_ne ne]
    exact x.keep q o (by rw [upd_ne ne]; exact h) hn
  tup := fun q xs h => by
    have ne := ne_of_none h hp
    rw [upd_ne ne]
    exact x.tup q xs (by rw [upd_ne ne]; exact h)
  frz := fun q xs u h => by
    have ne := ne_of_none h hp
    rw [upd_ne ne]
    exact x.frz q xs u (by rw [upd_ne ne]; exact h)
  ext := fun q xs h => by
    have ne := ne_of_none h hp
    rw [upd_ne ne]
    exact x.ext q xs (by rw [upd_ne ne]; exact h)
  xd := fun q xs h => by
    have ne := ne_of_none h hp
    rw [upd_ne ne]
    exact x.xd q xs (by rw [upd_ne ne]; exact h)
  dom := fun q h => by
    by_cases e : q = p
    · rw [e]; exact hp
    · rw [upd_ne e] at h
      have := x.dom q h
      rw [upd_ne e] at this; exact this
  new := fun q h => by
    rcases List.mem_append.mp h with z | z
    · rcases x.new q z with w | w
      · exact .inl w
      · by_cases e : q = p
        · rw [e]; exact .inr hp
        · rw [upd_ne e] at w; exact .inr w
    · rw [List.mem_singleton] at z; rw [z]; exact .inr hp
/-- the heap without p -/
def dropH (H : Hp) (p : Addr) : Hp := fun q => if q = p then none else H q
theorem dropH_ne {p q : Addr} (h : q ≠ p) : dropH H p q = H q := if_neg h
theorem dropH_upd {p : Addr} {u : HO} : upd (dropH H p) p u = upd H p u := by
  funext q
  by_cases hq : q = p
  · rw [hq, upd_same, upd_same]
  · rw [upd_ne hq, upd_ne hq, dropH_ne hq]
mutual
theorem RepV.drop {p : Addr} (ht : ∀ xs, H p ≠ some (.tup xs)) : ∀ {d : Dt} {v : V}, RepV β H d v → RepV β (dropH H p) d v
  | _, _, .non => .non
  | _, _, .bl b => .bl b
  | _, _, .int i => .int i
  | _, _, .str y => .str y
  | _, _, .tup (p := q) e l r => .tup (by rw [dropH_ne fun z => ht _ (by rw [← z]; exact e)]; exact e) l (RepVs.drop' ht r)
  | _, _, .loc e => .loc e
theorem RepVs.drop' {p : Addr} (ht : ∀ xs, H p ≠ some (.tup xs)) : ∀ {ds : List Dt} {vs : List V}, RepVs β H ds vs → RepVs β (dropH H p) ds vs
  | _, _, .nil => .nil
  | _, _, .cons a b => .cons (RepV.drop ht a) (RepVs.drop' ht b)
end
theorem RepK.drop {κ : Type} {p : Addr} (ht : ∀ xs, H p ≠ some (.tup xs)) : ∀ {a : List (κ × Dt)} {b : List (κ × V)}, RepK β H a b → RepK β (dropH H p) a b
  | _, _, .nil => .nil
  | _, _, .cons a b => .cons (RepV.drop ht a) (RepK.drop ht b)
theorem RepH.drop (r : RepH K mg β h H) {p : Addr} (hn : p ∉ β) (ht : ∀ xs, H p ≠ some (.tup xs)) (hf : ∀ a b, H p ≠ some (.frz a b)) : RepH K mg β h (dropH H p) := by
  refine ⟨r.len, fun n o q e1 e2 => ?_, r.inj⟩
  have hq : q ≠ p := fun z => hn (by rw [← z]; exact List.mem_of_getElem? e2)
  have ra := r.at_ n o q e1 e2
  cases o with
  | lst xs => obtain ⟨l, vs, e, rv⟩ := ra; exact ⟨l, vs, by rw [dropH_ne hq]; exact e, rv.drop' ht⟩
  | fro xs =>
    obtain ⟨l, vs, f, rv⟩ := ra
    refine ⟨l, vs, ?_, rv.drop' ht⟩
    rcases f with ⟨ob, f⟩ | f
    · exact .inl ⟨ob, by rw [dropH_ne hq]; exact f⟩
    · exact .inr f
  | dK xs => obtain ⟨l, vs, e, rv⟩ := ra; exact ⟨l, vs, by rw [dropH_ne hq]; exact e, rv.drop ht⟩
  | dT xs => obtain ⟨l, vs, e, rv⟩ := ra; exact ⟨l, vs, by rw [dropH_ne hq]; exact e, rv.drop ht⟩
  | ins C fs =>
    obtain ⟨Ca, dx, gs, m, e, l, rv⟩ := ra
    refine ⟨Ca, dx, gs, m, by rw [dropH_ne hq]; exact e, l, fun f => ?_⟩
    rcases rv f with z | ⟨d, v, h1, h2, h3⟩
    · exact .inl z
    · exact .inr ⟨d, v, h1, h2, h3.drop ht⟩
theorem RepH.adopt (r : RepH K mg β h H) {p : Addr} {u : HO} {ob : MO} (hn : p ∉ β) (ht : ∀ xs, H p ≠ some (.tup xs)) (hf : ∀ a b, H p ≠ some (.frz a b)) (new : RepO K mg (β ++ [p]) (upd H p u) p ob) : RepH K mg (β ++ [p]) (h ++ [ob]) (upd H p u) := by
  have := (r.drop hn ht hf).alloc (p := p) (u := u) (o := ob) (by simp [dropH]) (by rw [dropH_upd]; exact new)
  rw [dropH_upd] at this
  exact this
/-- what stands, seen after an adoption -/
theorem RepV.adopt {p : Addr} {u : HO} (ht : ∀ xs, H p ≠ some (.tup xs)) {d : Dt} {v : V} (rv : RepV β H d v) : RepV (β ++ [p]) (upd H p u) d v := by
  have x : Ext β (β ++ [p]) (dropH H p) (upd (dropH H p) p u) := Ext.alloc (by simp [dropH])
  rw [dropH_upd] at x
  exact (rv.drop ht).ext x
end
end EP
end
section
set_option maxHeartbeats 1000000
/-! Snd1: the judgement, operators. -/
namespace EP
open PySem PySem.Spec PyProof.Rows L2

structure Rc where
  K : PySem.W.Frag
  mg : Str → Option Value
abbrev rc (X : Cx) : Rc := ⟨X.K, X.mg⟩
/-- an exception's fields: its dict, if it has one -/
def RepX (β : List Addr) (H : Hp) (fs : Fs) : Option Addr → Prop
  | some dd => ∃ gs, H dd = some (.xd gs) ∧ RepF β H fs gs
  | none => fs = []
/-- what is wanted behind a result -/
def Post {α γ : Type} (R : Rc) (W : WX) (σ : L2.St) (β : List Addr) (H : Hp) (Rel : List Addr → Hp → α → γ → Prop) (Q : γ → Hp → Prop) : RE α → Prop
  | .ok a h => ∀ β' H' c, Ext β β' H H' → RepH R.K R.mg β' h H' → Rel β' H' a c → Q c H'
  | .ex C fs h => ∀ β' H' Cv od, Ext β β' H H' → RepH R.K R.mg β' h H' → R.mg C = some Cv → RepX β' H' fs od → W Cv od σ H'
  | .bad => False
/-- the reading of a meaning -/
def tG {α γ : Type} (X : Cx) (W : WX) (Rel : List Addr → Hp → α → γ → Prop) (g : Env → M α) : L2.St → Hp → (γ → Hp → Prop) → Prop :=
  fun σ H Q => ∃ ρ h β, RepS β H ρ σ ∧ RepH X.K X.mg β h H ∧ Post (rc X) W σ β H Rel Q (g ρ h)
abbrev RelE {α : Type} : List Addr → Hp → α → α → Prop := fun _ _ a c => a = c
abbrev tE (X : Cx) (W : WX) (g : Env → M Dt) : TE := tG X W RepV g
abbrev tT (X : Cx) (W : WX) (g : Env → M Bool) : TT := tG X W RelE g
abbrev tA (X : Cx) (W : WX) (g : Env → M (List Dt)) : TA := tG X W RepVs g
abbrev tO (X : Cx) (W : WX) (g : Env → M (Option Int)) : TO := tG X W RelE g
section
variable {X : Rc} {W : WX} {σ : L2.St} {β β' : List Addr} {H H' : Hp}
theorem Post.ext {α γ : Type} {Rel : List Addr → Hp → α → γ → Prop} {Q : γ → Hp → Prop} {r : RE α} (x : Ext β β' H H') (p : Post X W σ β H Rel Q r) : Post X W σ β' H' Rel Q r := by
  cases r with
  | ok a h => exact fun β2 H2 c x2 rh rc => p β2 H2 c (x.trans x2) rh rc
  | ex C fs h => exact fun β2 H2 Cv od x2 => p β2 H2 Cv od (x.trans x2)
  | bad => exact p
theorem Post.bnd {α γ α' γ' : Type} {Rel : List Addr → Hp → α → γ → Prop} {Rel' : List Addr → Hp → α' → γ' → Prop} {Q : γ' → Hp → Prop} {P : γ → Hp → Prop} {m : RE α} {f : α → MH → RE α'} (p : Post X W σ β H Rel' Q (bnd m f))
    (k : ∀ a h1 β' H' c, Ext β β' H H' → RepH X.K X.mg β' h1 H' → Rel β' H' a c → Post X W σ β' H' Rel' Q (f a h1) → P c H') : Post X W σ β H Rel P m := by
  cases m with
  | ok a h => exact fun β2 H2 c x rh rc => k a h β2 H2 c x rh rc (Post.ext x p)
  | ex C fs h => exact p
  | bad => exact p
/-- .. with what was reckoned -/
theorem Post.bndE {α γ α' γ' : Type} {Rel : List Addr → Hp → α → γ → Prop} {Rel' : List Addr → Hp → α' → γ' → Prop} {Q : γ' → Hp → Prop} {P : γ → Hp → Prop} {m : RE α} {f : α → MH → RE α'} (p : Post X W σ β H Rel' Q (EP.bnd m f))
    (k : ∀ a h1 β' H' c, m = .ok a h1 → Ext β β' H H' → RepH X.K X.mg β' h1 H' → Rel β' H' a c → Post X W σ β' H' Rel' Q (f a h1) → P c H') : Post X W σ β H Rel P m := by
  cases m with
  | ok a h => exact fun β2 H2 c x rh rc => k a h β2 H2 c rfl x rh rc (Post.ext x p)
  | ex C fs h => exact p
  | bad => exact p
/-- an end: the value at hand -/
theorem Post.here {α γ : Type} {Rel : List Addr → Hp → α → γ → Prop} {Q : γ → Hp → Prop} {a : α} {h : MH} {c : γ} (p : Post X W σ β H Rel Q (.ok a h)) (rh : RepH X.K X.mg β h H) (rc : Rel β H a c) : Q c H := p β H c (Ext.refl _ _) rh rc
theorem Post.imp {α γ : Type} {Rel : List Addr → Hp → α → γ → Prop} {Q Q' : γ → Hp → Prop} {r : RE α} (p : Post X W σ β H Rel Q r) (k : ∀ c H', Q c H' → Q' c H') : Post X W σ β H Rel Q' r := by
  cases r with
  | ok a h => exact fun β2 H2 c x rh rc => k _ _ (p β2 H2 c x rh rc)
  | ex C fs h => exact p
  | bad => exact p
/-- a new tuple -/
theorem Post.newT {Q : VK} {ds : List Dt} {vs : List V} {h : MH} (p : Post X W σ β H RepV Q (newT ds h)) (rh : RepH X.K X.mg β h H) (rv : RepVs β H ds vs) : vs.length ≤ sizeLine ∧ ∀ a, H a = none → Q (.ref a) (upd H a (.tup vs)) := by
  unfold EP.newT at p
  by_cases hl : ds.length ≤ sizeLine
  · rw [if_pos hl] at p
    refine ⟨by rw [← rv.length]; exact hl, fun a ha => p β _ _ (Ext.fresh ha) (rh.fresh ha) (.tup upd_same hl (rv.ext (Ext.fresh ha)))⟩
  · rw [if_neg hl] at p; exact p.elim
/-- a new list -/
theorem Post.alloc {Q : VK} {ds : List Dt} {vs : List V} {h : MH} (p : Post X W σ β H RepV Q (.ok (.loc h.length) (h ++ [.lst ds]))) (rh : RepH X.K X.mg β h H) (rv : RepVs β H ds vs) (hl : ds.length ≤ sizeLine) : ∀ a, H a = none → Q (.ref a) (upd H a (.lst vs)) := fun a ha => by
  have x : Ext β (β ++ [a]) H (upd H a (.lst vs)) := Ext.alloc ha
  refine p (β ++ [a]) _ _ x (rh.alloc ha ⟨hl, vs, upd_same, rv.ext x⟩) (.loc ?_)
  rw [← rh.len]
  simp
theorem Post.newL {Q : VK} {ds : List Dt} {vs : List V} {h : MH} (p : Post X W σ β H RepV Q (newL ds h)) (rh : RepH X.K X.mg β h H) (rv : RepVs β H ds vs) : vs.length ≤ sizeLine ∧ ∀ a, H a = none → Q (.ref a) (upd H a (.lst vs)) := by
  unfold EP.newL at p
  by_cases hl : ds.length ≤ sizeLine
  · rw [if_pos hl] at p
    exact ⟨by rw [← rv.length]; exact hl, Post.alloc p rh rv hl⟩
  · rw [if_neg hl] at p; exact p.elim
/-- an object of ours is written -/
theorem Post.write {α γ : Type} {Rel : List Addr → Hp → α → γ → Prop} {Q : γ → Hp → Prop} {a : α} {c : γ} {h : MH} {n : Nat} {p : Addr} {u : HO} {o o' : MO} (q : Post X W σ β H Rel Q (.ok a (h.set n o'))) (rh : RepH X.K X.mg β h H)
    (e : h[n]? = some o) (hp : β[n]? = some p) (w : o.wr = true) (new : Ext β β H (upd H p u) → RepO X.K X.mg β (upd H p u) p o') (rc : Ext β β H (upd H p u) → Rel β (upd H p u) a c) : Q c (upd H p u) := by
  obtain ⟨u0, e0, mu, _⟩ := (rh.at_ n o p e hp).some_of w
  have x : Ext β β H (upd H p u) := Ext.write e0 mu (List.mem_of_getElem? hp)
  obtain ⟨rh', _⟩ := rh.write e hp w (new x)
  exact q β _ c x rh' (rc x)
end

theorem _root_.L2.PE.imp {X : Cx} {e : Expr} {t t' : TE} (h : PE X e t) (k : ∀ σ H Q, t' σ H Q → t σ H Q) : PE X e t' := ⟨fun pins s σ H Q I q => h.run pins s σ H Q I (k σ H Q q)⟩
theorem _root_.L2.PT.imp {X : Cx} {e : Expr} {t t' : TT} (h : PT X e t) (k : ∀ σ H Q, t' σ H Q → t σ H Q) : PT X e t' := ⟨fun pins s σ H Q I q => h.run pins s σ H Q I (k σ H Q q)⟩
theorem _root_.L2.PW.imp {X : Cx} {e : Expr} {t t' : TT} (h : PW X e t) (k : ∀ σ H Q, t' σ H Q → t σ H Q) : PW X e t' := ⟨fun w pins s σ H Q I q => h.run w pins s σ H Q I (k σ H Q q)⟩
theorem _root_.L2.PA.imp {X : Cx} {e : List Expr} {t t' : TA} (h : PA X e t) (k : ∀ σ H Q, t' σ H Q → t σ H Q) : PA X e t' := ⟨fun pos pins s σ H Q I q => h.run pos pins s σ H Q I (k σ H Q q)⟩
theorem _root_.L2.PO.imp {X : Cx} {e : Option Expr} {t t' : TO} (h : PO X e t) (k : ∀ σ H Q, t' σ H Q → t σ H Q) : PO X e t' := ⟨fun pins s σ H Q I q => h.run pins s σ H Q I (k σ H Q q)⟩
theorem _root_.L2.PS.imp {X : Cx} {e : Stmt} {t t' : TS} (h : PS X e t) (k : ∀ D σ H, t' D σ H → t D σ H) : PS X e t' := ⟨fun pins s σ H D I q => h.run pins s σ H D I (k D σ H q)⟩
theorem _root_.L2.PSs.imp {X : Cx} {e : List Stmt} {t t' : TS} (h : PSs X e t) (k : ∀ D σ H, t' D σ H → t D σ H) : PSs X e t' := ⟨fun pins s σ H D I q => h.run pins s σ H D I (k D σ H q)⟩
theorem _root_.L2.PI.imp {X : Cx} {tg e : Expr} {t t' : TI} (h : PI X tg e t) (k : ∀ σ H Q, t' σ H Q → t σ H Q) : PI X tg e t' := ⟨fun pins s σ H Q I q => h.run pins s σ H Q I (k σ H Q q)⟩

/-! ### operators by values -/
/-- what an operator on data says of the operator on values -/
def rS (X : Cx) (o : Op2) : R2 := fun x y H Q => ∃ (W : WX) (σ : L2.St) (β : List Addr) (h : MH) (a b : Dt), RepH X.K X.mg β h H ∧ RepV β H a x ∧ RepV β H b y ∧ Post (rc X) W σ β H RepV Q (o a b h)
section
variable {X : Cx}
theorem RepV.sqT {K : PySem.W.Frag} {β : List Addr} {H : Hp} {ds : List Dt} {x : V} (r : RepV β H (.tup ds) x) : ∃ p vs, x = .ref p ∧ H p = some (.tup vs) ∧ SqT K H p vs ∧ RepVs β H ds vs ∧ ds.length ≤ sizeLine := by
  cases r with
  | tup e l r => exact ⟨_, _, rfl, e, SqT.of e, r, l⟩
theorem RepV.at_loc {β : List Addr} {H : Hp} {n : Nat} {x : V} (r : RepV β H (.loc n) x) : ∃ p, x = .ref p ∧ β[n]? = some p := by
  cases r with
  | loc e => exact ⟨_, rfl, e⟩
theorem RepH.lst {K : PySem.W.Frag} {mg : Str → Option Value} {β : List Addr} {h : MH} {H : Hp} (r : RepH K mg β h H) {n : Nat} {p : Addr} {xs : List Dt} (e : h[n]? = some (.lst xs)) (hp : β[n]? = some p) :
    xs.length ≤ sizeLine ∧ ∃ vs, H p = some (.lst vs) ∧ RepVs β H xs vs := r.at_ n _ p e hp
theorem os_add : OpR X (binaryOp .Add) (rS X oAdd) := by
  intro pins s σ H x y v u Q I rx ry ⟨W, σ', β, h, a, b, rh, ra, rb, p⟩
  unfold oAdd at p
  split at p
  · rename_i h' i j
    cases ra; cases rb
    exact op_add pins s σ H _ _ v u Q I rx ry ⟨i, j, rfl, rfl, p.here rh (.int _)⟩
  · rename_i h' as bs
    obtain ⟨p1, us, rfl, e1, s1, r1, l1⟩ := ra.sqT (K := X.K)
    obtain ⟨p2, vs, rfl, e2, s2, r2, l2⟩ := rb.sqT (K := X.K)
    unfold EP.newT at p
    by_cases hl : (as ++ bs).length ≤ sizeLine
    · rw [if_pos hl] at p
      refine op_catA pins s σ H _ _ v u Q I rx ry ⟨p1, p2, us, vs, rfl, rfl, s1, s2, ?_, fun e => ?_, fun ne e => ?_, fun ne ne' q hq => ?_⟩
      · rw [← r1.length, ← r2.length, ← List.length_append]; exact hl
      · subst e
        cases r1
        exact p.here rh (.tup e2 l2 r2)
      · subst e
        cases r2
        rw [List.append_nil] at p
        exact p.here rh (.tup e1 l1 r1)
      · exact p β _ _ (Ext.fresh hq) (rh.fresh hq) (.tup upd_same hl ((r1.append r2).ext (Ext.fresh hq)))
    · rw [if_neg hl] at p; exact p.elim
  · rename_i h' m n
    split at p
    · rename_i as bs em en
      obtain ⟨p1, rfl, b1⟩ := ra.at_loc
      obtain ⟨p2, rfl, b2⟩ := rb.at_loc
      obtain ⟨l1, us, e1, r1⟩ := rh.lst em b1
      obtain ⟨l2, vs, e2, r2⟩ := rh.lst en b2
      obtain ⟨hl, q⟩ := p.newL rh (r1.append r2)
      exact op_cat pins s σ H _ _ v u Q I rx ry ⟨p1, p2, us, vs, rfl, rfl, e1, e2, by rw [← List.length_append]; exact hl, q⟩
    · exact p.elim
  · exact p.elim
theorem os_sub : OpR X (binaryOp .Sub) (rS X oSub) := by
  intro pins s σ H x y v u Q I rx ry ⟨W, σ', β, h, a, b, rh, ra, rb, p⟩
  unfold oSub at p
  split at p
  · cases ra; cases rb
    exact op_sub pins s σ H _ _ v u Q I rx ry ⟨_, _, rfl, rfl, p.here rh (.int _)⟩
  · exact p.elim
theorem lim64_eq : lim64 = 2 ^ 64 := by decide
theorem lim62_eq : lim62 = 2 ^ 62 := by decide
theorem os_mul : OpR X (binaryOp .Mult) (rS X oMul) := by
  intro pins s σ H x y v u Q I rx ry ⟨W, σ', β, h, a, b, rh, ra, rb, p⟩
  unfold oMul at p
  split at p
  · rename_i h' i j
    cases ra; cases rb
    split at p
    · rename_i hb
      rw [lim64_eq] at hb
      exact op_mul pins s σ H _ _ v u Q I rx ry ⟨_, _, rfl, rfl, hb, p.here rh (.int _)⟩
    · exact p.elim
  · rename_i h' m k
    cases rb
    obtain ⟨p1, rfl, b1⟩ := ra.at_loc
    split at p
    · rename_i xs em
      obtain ⟨l1, us, e1, r1⟩ := rh.lst em b1
      split at p
      · rename_i hk
        rw [lim62_eq] at hk
        obtain ⟨hl, q⟩ := p.newL rh (r1.flat k.toNat)
        refine op_rep pins s σ H _ _ v u Q I rx ry ⟨p1, k, us, rfl, rfl, e1, ?_, ?_, ?_, q⟩
        · have : (-(2 ^ 62) : Int) ≤ k := hk.2
          omega
        · have : k < (2 ^ 62 : Int) := hk.1
          omega
        · rw [List.length_flatten] at hl
          simp at hl
          rw [Nat.mul_comm]; exact hl
      · exact p.elim
    · exact p.elim
  · exact p.elim
theorem lim200_eq : lim200 = 2 ^ 200 := by decide
theorem os_fdiv : OpR X (binaryOp .FloorDiv) (rS X oFdiv) := by
  intro pins s σ H x y v u Q I rx ry ⟨W, σ', β, h, a, b, rh, ra, rb, p⟩
  unfold oFdiv at p
  split at p
  · rename_i h' i j
    cases ra; cases rb
    split at p
    · rename_i hb
      obtain ⟨h0, h1⟩ := hb
      rw [lim200_eq] at h1
      have hj : j.natAbs < 2 ^ 200 := by
        have e : ((2 ^ 200 : Nat) : Int) = (2 : Int) ^ 200 := by decide
        omega
      exact op_fdivW pins s σ H _ _ v u Q I rx ry ⟨_, _, rfl, rfl, wide_div h0 hj (by decide) (by decide), p.here rh (.int _)⟩
    · exact p.elim
  · exact p.elim
theorem os_mod : OpR X (binaryOp .Mod) (rS X oMod) := by
  intro pins s σ H x y v u Q I rx ry ⟨W, σ', β, h, a, b, rh, ra, rb, p⟩
  unfold oMod at p
  split at p
  · cases ra; cases rb
    split at p
    · rename_i hb
      exact op_mod pins s σ H _ _ v u Q I rx ry ⟨_, _, rfl, rfl, hb, p.here rh (.int _)⟩
    · exact p.elim
  · exact p.elim
theorem os_pow : OpR X (binaryOp .Pow) (rS X oPow) := by
  intro pins s σ H x y v u Q I rx ry ⟨W, σ', β, h, a, b, rh, ra, rb, p⟩
  unfold oPow at p
  split at p
  · rename_i h' i j
    cases ra; cases rb
    split at p
    · rename_i hb
      rw [lim64_eq] at hb
      refine op_pow pins s σ H _ _ v u Q I rx ry ⟨_, _, rfl, rfl, ⟨hb.1, hb.2.1, ?_⟩, p.here rh (.int _)⟩
      have e : ((2 ^ 64 : Nat) : Int) = (2 : Int) ^ 64 := by decide
      obtain ⟨_, _, h3, h4⟩ := hb
      omega
    · exact p.elim
  · exact p.elim
theorem os_cmp {f : Value → Value → Sem Value} {g : Int → Int → Bool} (ho : OpR X f (rI0 fun i j => .bl (g i j))) : OpR X f (rS X (oCmp g)) := by
  intro pins s σ H x y v u Q I rx ry ⟨W, σ', β, h, a, b, rh, ra, rb, p⟩
  unfold oCmp at p
  split at p
  · cases ra; cases rb
    exact ho pins s σ H _ _ v u Q I rx ry ⟨_, _, rfl, rfl, p.here rh (.bl _)⟩
  · exact p.elim
theorem os_lt : OpR X (compareOp .Lt) (rS X oLt) := os_cmp op_lt
theorem os_le : OpR X (compareOp .LtE) (rS X oLe) := os_cmp op_le
theorem os_gt : OpR X (compareOp .Gt) (rS X oGt) := os_cmp op_gt
theorem os_ge : OpR X (compareOp .GtE) (rS X oGe) := os_cmp op_ge

/-! ### data as the library knows it -/
mutual
theorem RepV.dp {K : PySem.W.Frag} {β : List Addr} {H : Hp} : ∀ {d : Dt} {v : V}, RepV β H d v → d.plain = true → Dp K H v d.py
  | _, _, .non, _ => .non
  | _, _, .bl b, _ => .bl b
  | _, _, .int i, _ => .int i
  | _, _, .str x, _ => .str x
  | _, _, .tup e _ r, h => by
    simp only [Dt.plain] at h
    simp only [Dt.py]
    exact .tup (SqT.of e) (RepVs.dp r h)
  | _, _, .loc _, h => by simp [Dt.plain] at h
theorem RepVs.dp {K : PySem.W.Frag} {β : List Addr} {H : Hp} : ∀ {ds : List Dt} {vs : List V}, RepVs β H ds vs → plains ds = true → DpAll K H vs (pys ds)
  | _, _, .nil, _ => .nil
  | _, _, .cons a r, h => by
    simp only [plains, Bool.and_eq_true] at h
    simp only [pys]
    exact .cons (RepV.dp a h.1) (RepVs.dp r h.2)
end
mutual
theorem canLay_of : ∀ d : Dt, d.plain = true → d.py.canLay0 = true
  | .non, _ => by simp [Dt.py, PyData.canLay0]
  | .bl _, _ => by simp [Dt.py, PyData.canLay0]
  | .int _, _ => by simp [Dt.py, PyData.canLay0]
  | .str x, h => by simpa [Dt.py, PyData.canLay0, Dt.plain] using h
  | .tup ds, h => by
    simp only [Dt.py, PyData.canLay0]
    exact canLays_of ds (by simpa [Dt.plain] using h)
  | .loc _, h => by simp [Dt.plain] at h
theorem canLays_of : ∀ ds : List Dt, plains ds = true → PyData.canLayAll0 (pys ds) = true
  | [], _ => by simp [pys, PyData.canLayAll0]
  | d :: r, h => by
    simp only [plains, Bool.and_eq_true] at h
    simp only [pys, PyData.canLayAll0, Bool.and_eq_true]
    exact ⟨canLay_of d h.1, canLays_of r h.2⟩
end
mutual
theorem depth_of : ∀ d : Dt, d.py.depth ≤ d.dep + 1
  | .non => by simp [Dt.py, PyData.depth, Dt.dep]
  | .bl _ => by simp [Dt.py, PyData.depth, Dt.dep]
  | .int _ => by simp [Dt.py, PyData.depth, Dt.dep]
  | .str x => by simp [Dt.py, PyData.depth, Dt.dep]
  | .tup ds => by
    simp only [Dt.py, PyData.depth, Dt.dep]
    have := depths_of ds
    omega
  | .loc _ => by simp [Dt.py, PyData.depth, Dt.dep, PyData.depthKv]
theorem depths_of : ∀ ds : List Dt, PyData.depthAll (pys ds) ≤ deps ds + 1
  | [] => by simp [pys, PyData.depthAll]
  | d :: r => by
    simp only [pys, PyData.depthAll, deps]
    have h1 := depth_of d
    have h2 := depths_of r
    omega
end
end
end EP
end
section
set_option maxHeartbeats 1000000
/-! Snd2: comparisons, subscripts, built-in functions and methods. -/
namespace EP
open PySem PySem.Spec PyProof.Rows L2
section
variable {X : Cx}
theorem pys_length : ∀ ds : List Dt, (pys ds).length = ds.length
  | [] => rfl
  | _ :: r => congrArg (· + 1) (pys_length r)
theorem pys_get : ∀ (ds : List Dt) (i : Nat), (pys ds)[i]? = ds[i]?.map Dt.py
  | [], i => by simp [pys]
  | d :: r, 0 => by simp [pys]
  | d :: r, i + 1 => by simp [pys, pys_get r i]
theorem pys_any (d : Dt) : ∀ ds : List Dt, ((pys ds).any fun z => PyData.eqv z d.py) = ds.any fun z => eqv z d
  | [] => rfl
  | x :: r => by simp only [pys, List.any_cons, pys_any d r]; rfl
theorem shaped_of {d : Dt} (h : d.eqOk = true) : SeqAt.shaped d.py = true := by
  unfold Dt.eqOk at h
  simp only [Bool.and_eq_true, decide_eq_true_eq] at h
  unfold SeqAt.shaped
  simp only [Bool.and_eq_true, decide_eq_true_eq]
  have := depth_of d
  exact ⟨canLay_of d h.1, by omega⟩
theorem shapedL_of {ds : List Dt} (h : (Dt.tup ds).eqOk = true) : SeqAt.shaped (.list (pys ds)) = true := by
  have := shaped_of h
  unfold SeqAt.shaped at *
  simpa [Dt.py, PyData.canLay0, PyData.depth] using this
theorem plain_of_eqOk {d : Dt} (h : d.eqOk = true) : d.plain = true := by
  unfold Dt.eqOk at h
  simp only [Bool.and_eq_true] at h
  exact h.1
theorem os_eq (hu : X.A.units + 64 < cLine) : OpR X (compareOp .Eq) (rS X (oEq false)) := by
  intro pins s σ H x y v u Q I rx ry ⟨W, σ', β, h, a, b, rh, ra, rb, p⟩
  unfold oEq at p
  split at p
  · rename_i hk
    exact op_eqD hu pins s σ H _ _ v u Q I rx ry ⟨_, _, ra.dp (plain_of_eqOk hk.1), rb.dp (plain_of_eqOk hk.2), shaped_of hk.1, shaped_of hk.2, p.here rh (.bl _)⟩
  · exact p.elim
theorem os_ne (hu : X.A.units + 64 < cLine) : OpR X (compareOp .NotEq) (rS X (oEq true)) := by
  intro pins s σ H x y v u Q I rx ry ⟨W, σ', β, h, a, b, rh, ra, rb, p⟩
  unfold oEq at p
  split at p
  · rename_i hk
    exact op_neD hu pins s σ H _ _ v u Q I rx ry ⟨_, _, ra.dp (plain_of_eqOk hk.1), rb.dp (plain_of_eqOk hk.2), shaped_of hk.1, shaped_of hk.2, p.here rh (.bl _)⟩
  · exact p.elim
theorem os_is : OpR X (compareOp .Is) (rS X (oIs false)) := by
  intro pins s σ H x y v u Q I rx ry ⟨W, σ', β, h, a, b, rh, ra, rb, p⟩
  unfold oIs at p
  split at p
  · cases ra; cases rb
    exact op_isN pins s σ H _ _ v u Q I rx ry ⟨rfl, p.here rh (.bl _)⟩
  · rename_i hn
    cases rb
    refine op_isN pins s σ H _ _ v u Q I rx ry ⟨rfl, ?_⟩
    have e : x ≠ .non := fun e => by subst e; cases ra; exact hn rfl
    rw [decide_eq_false e]
    exact p.here rh (.bl _)
  · exact p.elim
theorem os_isnot : OpR X (compareOp .IsNot) (rS X (oIs true)) := by
  intro pins s σ H x y v u Q I rx ry ⟨W, σ', β, h, a, b, rh, ra, rb, p⟩
  unfold oIs at p
  split at p
  · cases ra; cases rb
    exact op_notN pins s σ H _ _ v u Q I rx ry ⟨rfl, p.here rh (.bl _)⟩
  · rename_i hn
    cases rb
    refine op_notN pins s σ H _ _ v u Q I rx ry ⟨rfl, ?_⟩
    have e : x ≠ .non := fun e => by subst e; cases ra; exact hn rfl
    rw [decide_eq_false e]
    exact p.here rh (.bl _)
  · exact p.elim
theorem flat_of {β : List Addr} {H : Hp} {d : Dt} {v : V} (r : RepV β H d v) (f : d.flat = true) : flatV v = true := by
  cases r <;> simp_all [Dt.flat, flatV]
theorem eqv_flat {β : List Addr} {H : Hp} {d e : Dt} {v w : V} (r : RepV β H d v) (q : RepV β H e w) (f : d.flat = true) (g : e.flat = true) : eqV v w = eqv d e := by
  cases r <;> cases q <;> simp_all [Dt.flat, eqV, eqv, Dt.py, PyData.eqv]
theorem any_flat {β : List Addr} {H : Hp} {e : Dt} {w : V} (q : RepV β H e w) (g : e.flat = true) : ∀ {ds : List Dt} {vs : List V}, RepVs β H ds vs → ds.all Dt.flat = true → vs.all flatV = true ∧ inV w vs = ds.any fun z => eqv z e
  | _, _, .nil, _ => ⟨rfl, rfl⟩
  | _, _, .cons a r, h => by
    simp only [List.all_cons, Bool.and_eq_true] at h
    obtain ⟨h1, h2⟩ := any_flat q g r h.2
    refine ⟨by simp only [List.all_cons, Bool.and_eq_true]; exact ⟨flat_of a h.1, h1⟩, ?_⟩
    unfold inV at *
    simp only [List.any_cons]
    rw [eqv_flat a q h.1 g, h2]
theorem key_at {β : List Addr} {H : Hp} {d : Dt} {v : V} {k : Key} (r : RepV β H d v) (e : toKey d = some k) : v = kV k := by
  cases r <;> simp [toKey] at e <;> subst e <;> rfl
theorem keyL_at {β : List Addr} {H : Hp} : ∀ {ds : List Dt} {vs : List V} {ks : List Key}, RepVs β H ds vs → toKeyL ds = some ks → vs = ks.map kV
  | _, _, _, .nil, e => by simp [toKeyL] at e; subst e; rfl
  | _, _, _, .cons (d := d) (ds := ds) a r, e => by
    unfold toKeyL at e
    split at e
    · rename_i k ks h1 h2
      cases e
      rw [key_at a h1, keyL_at r h2]
      rfl
    · cases e
theorem keys_at {β : List Addr} {H : Hp} {d : Dt} {v : V} {ks : List Key} (r : RepV β H d v) (e : toKeys d = some ks) : ∃ p, v = .ref p ∧ H p = some (.tup (ks.map kV)) := by
  cases r with
  | @tup ds p vs h l rv =>
    have e' : toKeyL ds = some ks := e
    rw [keyL_at rv e'] at h
    exact ⟨p, rfl, h⟩
  | _ => cases e
theorem RepH.dK {K : PySem.W.Frag} {mg : Str → Option Value} {β : List Addr} {h : MH} {H : Hp} (r : RepH K mg β h H) {n : Nat} {p : Addr} {kvs : List (Key × Dt)} (e : h[n]? = some (.dK kvs)) (hp : β[n]? = some p) :
    kvs.length ≤ sizeLine ∧ ∃ ws, H p = some (.dK ws) ∧ RepK β H kvs ws := r.at_ n _ p e hp
theorem RepH.dT {K : PySem.W.Frag} {mg : Str → Option Value} {β : List Addr} {h : MH} {H : Hp} (r : RepH K mg β h H) {n : Nat} {p : Addr} {kvs : List (List Key × Dt)} (e : h[n]? = some (.dT kvs)) (hp : β[n]? = some p) :
    kvs.length ≤ sizeLine ∧ ∃ ws, H p = some (.dT ws) ∧ RepK β H kvs ws := r.at_ n _ p e hp
theorem isSome_val {β : List Addr} {H : Hp} {κ : Type} [DecidableEq κ] {a : List (κ × Dt)} {b : List (κ × V)} (r : RepK β H a b) (k : κ) : (a.any fun kv => decide (kv.1 = k)) = (valV b k).isSome := by
  rw [r.any k, valV_any]
theorem os_in (hu : X.A.units + 65 < cLine) : OpR X (compareOp .In) (rS X (oIn false)) := by
  intro pins s σ H x y v u Q I rx ry ⟨W, σ', β, h, a, b, rh, ra, rb, p⟩
  unfold oIn at p
  split at p
  · rename_i h' ds
    split at p
    · rename_i hk
      obtain ⟨q, vs, rfl, e, sq, rv, _⟩ := rb.sqT (K := X.K)
      obtain ⟨h1, h2⟩ := any_flat ra hk.1 rv hk.2
      refine op_in_seq pins s σ H _ _ v u Q I rx ry ⟨q, vs, rfl, .inr sq, flat_of ra hk.1, h1, ?_⟩
      show Q (.bl (inV x vs)) H
      rw [h2]
      exact p.here rh (.bl _)
    · exact p.elim
  · rename_i h' n
    obtain ⟨q, rfl, bq⟩ := rb.at_loc
    split at p
    · rename_i ds em
      split at p
      · rename_i hk
        obtain ⟨l1, vs, e1, r1⟩ := rh.lst em bq
        have pl := plain_of_eqOk hk.2
        simp only [Dt.plain] at pl
        refine op_inD hu pins s σ H _ _ v u Q I rx ry ⟨a.py, pys ds, ra.dp (plain_of_eqOk hk.1), .lst (SqL.of e1) (r1.dp pl), shaped_of hk.1, shapedL_of hk.2, ?_⟩
        rw [pys_any]
        exact p.here rh (.bl _)
      · exact p.elim
    · rename_i kvs em
      split at p
      · rename_i k ek
        obtain ⟨l1, ws, e1, r1⟩ := rh.dK em bq
        obtain rfl := key_at ra ek
        cases ry
        refine d_in (by omega) I (DGet.k e1) rx fun s' I' => ⟨.bl (valV ws k).isSome, H, I', rfl, ?_⟩
        rw [← isSome_val r1]
        exact p.here rh (.bl _)
      · exact p.elim
    · rename_i kvs em
      split at p
      · rename_i k ek
        obtain ⟨l1, ws, e1, r1⟩ := rh.dT em bq
        obtain ⟨t, rfl, et⟩ := keys_at ra ek
        cases ry
        refine d_in (by omega) I (DGet.t e1 et) rx fun s' I' => ⟨.bl (valV ws k).isSome, H, I', rfl, ?_⟩
        rw [← isSome_val r1]
        exact p.here rh (.bl _)
      · exact p.elim
    · exact p.elim
  · exact p.elim
theorem os_notin (hu : X.A.units + 65 < cLine) : OpR X (compareOp .NotIn) (rS X (oIn true)) := by
  intro pins s σ H x y v u Q I rx ry ⟨W, σ', β, h, a, b, rh, ra, rb, p⟩
  unfold oIn at p
  split at p
  · rename_i h' ds
    split at p
    · rename_i hk
      obtain ⟨q, vs, rfl, e, sq, rv, _⟩ := rb.sqT (K := X.K)
      obtain ⟨h1, h2⟩ := any_flat ra hk.1 rv hk.2
      refine op_notIn_seq pins s σ H _ _ v u Q I rx ry ⟨q, vs, rfl, .inr sq, flat_of ra hk.1, h1, ?_⟩
      show Q (.bl (!inV x vs)) H
      rw [h2]
      exact p.here rh (.bl _)
    · exact p.elim
  · rename_i h' n
    obtain ⟨q, rfl, bq⟩ := rb.at_loc
    split at p
    · rename_i ds em
      split at p
      · rename_i hk
        obtain ⟨l1, vs, e1, r1⟩ := rh.lst em bq
        have pl := plain_of_eqOk hk.2
        simp only [Dt.plain] at pl
        refine op_notInD hu pins s σ H _ _ v u Q I rx ry ⟨a.py, pys ds, ra.dp (plain_of_eqOk hk.1), .lst (SqL.of e1) (r1.dp pl), shaped_of hk.1, shapedL_of hk.2, ?_⟩
        rw [pys_any]
        exact p.here rh (.bl _)
      · exact p.elim
    · rename_i kvs em
      split at p
      · rename_i k ek
        obtain ⟨l1, ws, e1, r1⟩ := rh.dK em bq
        obtain rfl := key_at ra ek
        cases ry
        refine d_notIn (by omega) I (DGet.k e1) rx fun s' I' => ⟨.bl (!(valV ws k).isSome), H, I', rfl, ?_⟩
        rw [← isSome_val r1]
        exact p.here rh (.bl _)
      · exact p.elim
    · rename_i kvs em
      split at p
      · rename_i k ek
        obtain ⟨l1, ws, e1, r1⟩ := rh.dT em bq
        obtain ⟨t, rfl, et⟩ := keys_at ra ek
        cases ry
        refine d_notIn (by omega) I (DGet.t e1 et) rx fun s' I' => ⟨.bl (!(valV ws k).isSome), H, I', rfl, ?_⟩
        rw [← isSome_val r1]
        exact p.here rh (.bl _)
      · exact p.elim
    · exact p.elim
  · exact p.elim

/-! ### subscripts -/
def rIxD : R2 := fun x y H Q => ∃ a v, x = .ref a ∧ DGet H a y (some v) ∧ Q v H
theorem ix_dict (hu : X.A.units + 1 < cLine) : IxR X rIxD := by
  intro value slice pins s σ H x y v u Q I rx ry h hs
  obtain ⟨a, w, rfl, g, q⟩ := h
  cases rx
  exact tail_any (dict_typeIs I g) PySem.F.slot_dict_getitem.lookup (d_getItem hu I g ry fun w' s3 I3 rw' => ⟨w, H, I3, rw', q⟩) hs
theorem atI_rep {β : List Addr} {H : Hp} {ds : List Dt} {vs : List V} {i : Int} {d : Dt} (r : RepVs β H ds vs) (e : atI ds i = some d) : ∃ v, atI vs i = some v ∧ RepV β H d v := by
  unfold atI at *
  rw [← r.length]
  obtain ⟨j, h1, h2⟩ := Option.bind_eq_some_iff.mp e
  obtain ⟨v, h3, h4⟩ := r.get h2
  exact ⟨v, by rw [h1]; exact h3, h4⟩
theorem ix_get (hu : X.A.units + 1 < cLine) : IxR X (rS X oGet) := by
  intro value slice pins s σ H x y v u Q I rx ry ⟨W, σ', β, h, a, b, rh, ra, rb, p⟩ hs
  unfold oGet at p
  split at p
  · rename_i h' ds i
    cases rb
    obtain ⟨q, vs, rfl, e, sq, rv, _⟩ := ra.sqT (K := X.K)
    split at p
    · rename_i d ed
      obtain ⟨w, h1, h2⟩ := atI_rep rv ed
      exact ix_tup value slice pins s σ H _ _ v u Q I rx ry ⟨q, vs, i, w, rfl, rfl, sq, h1, p.here rh h2⟩ hs
    · exact p.elim
  · rename_i h' n
    obtain ⟨q, rfl, bq⟩ := ra.at_loc
    split at p
    · rename_i kvs em
      obtain ⟨l1, ws, e1, r1⟩ := rh.dK em bq
      split at p
      · rename_i d ed
        obtain ⟨k, h1, h2⟩ := Option.bind_eq_some_iff.mp ed
        obtain rfl := key_at rb h1
        rcases r1.val k with ⟨z, _⟩ | ⟨d', w, z1, z2, z3⟩
        · rw [h2] at z; cases z
        · rw [h2] at z1; cases z1
          exact ix_dict hu value slice pins s σ H _ _ v u Q I rx ry ⟨q, w, rfl, by rw [← z2]; exact DGet.k e1, p.here rh z3⟩ hs
      · exact p.elim
    · rename_i kvs em
      obtain ⟨l1, ws, e1, r1⟩ := rh.dT em bq
      split at p
      · rename_i d ed
        obtain ⟨k, h1, h2⟩ := Option.bind_eq_some_iff.mp ed
        obtain ⟨t, rfl, et⟩ := keys_at rb h1
        rcases r1.val k with ⟨z, _⟩ | ⟨d', w, z1, z2, z3⟩
        · rw [h2] at z; cases z
        · rw [h2] at z1; cases z1
          exact ix_dict hu value slice pins s σ H _ _ v u Q I rx ry ⟨q, w, rfl, by rw [← z2]; exact DGet.t e1 et, p.here rh z3⟩ hs
      · exact p.elim
    · split at p
      · rename_i xs i em
        cases rb
        obtain ⟨q', vs, bq', sq, rv, _⟩ := rh.list em
        rw [bq] at bq'; cases bq'
        split at p
        · rename_i d ed
          obtain ⟨w, h1, h2⟩ := atI_rep rv ed
          exact ix_list value slice pins s σ H _ _ v u Q I rx ry ⟨q, vs, _, w, rfl, rfl, sq, h1, p.here rh h2⟩ hs
        · exact p.elim
      · exact p.elim
  · exact p.elim
def rSlS (X : Cx) : V → Option Int → Option Int → Hp → VK → Prop := fun x lo hi H Q => ∃ (W : WX) (σ : L2.St) (β : List Addr) (h : MH) (a : Dt), RepH X.K X.mg β h H ∧ RepV β H a x ∧ Post (rc X) W σ β H RepV Q (oCut a lo hi h)
theorem cutD_length (xs : List Dt) (lo hi : Option Int) : (cutD xs lo hi).length ≤ xs.length := by
  unfold cutD
  rw [List.length_take, List.length_drop]
  omega
theorem sl_cut : SlR X (rSlS X) := by
  intro pins s σ H x v vl vu lo hi sl Q I rx hs pl pu ⟨W, σ', β, h, a, rh, ra, p⟩
  unfold oCut at p
  split at p
  · rename_i xs
    obtain ⟨q, vs, rfl, e, sq, rv, hl⟩ := ra.sqT (K := X.K)
    refine sl_tupA pins s σ H _ v vl vu lo hi sl Q I rx hs pl pu ⟨q, vs, rfl, sq, fun hw => ?_, fun hw a ha => ?_⟩
    · have e0 : cutV vs lo hi = vs := by
        unfold cutV
        rw [hw.1, hw.2]
        simp
      refine p.here rh (.tup e ?_ ?_)
      · exact Nat.le_trans (cutD_length xs lo hi) hl
      · rw [← e0]; exact rv.cut lo hi
    · exact p β _ _ (Ext.fresh ha) (rh.fresh ha) (.tup upd_same (Nat.le_trans (cutD_length xs lo hi) hl) ((rv.cut lo hi).ext (Ext.fresh ha)))
  · rename_i n
    obtain ⟨q, rfl, bq⟩ := ra.at_loc
    split at p
    · rename_i xs em
      obtain ⟨q', vs, bq', sq, rv, hl⟩ := rh.list em
      rw [bq] at bq'; cases bq'
      exact sl_list pins s σ H _ v vl vu lo hi sl Q I rx hs pl pu ⟨q, vs, rfl, sq, p.alloc rh (rv.cut lo hi) (Nat.le_trans (cutD_length xs lo hi) hl)⟩
    · exact p.elim
  · exact p.elim
/-- o[i] = v -/
def rSetS (X : Cx) : V → V → V → Hp → (Hp → Prop) → Prop := fun o i v H Q => ∃ (β : List Addr) (h : MH) (a b c : Dt) (h' : MH), RepH X.K X.mg β h H ∧ RepV β H a o ∧ RepV β H b i ∧ RepV β H c v ∧ oSet a b c h = some h' ∧
  ∀ H', Ext β β H H' → RepH X.K X.mg β h' H' → Q H'
theorem set_all (hu : X.A.units + 1 < cLine) : PSet X (rSetS X) := by
  intro pins s σ H o i v ov iv u Q I ro ri rv ⟨β, h, a, b, c, h', rh, ra, rb, rc, e, q⟩
  unfold oSet at e
  split at e
  · rename_i n
    obtain ⟨p, rfl, bp⟩ := ra.at_loc
    have fin : ∀ {m m' : MO} {w : HO}, h[n]? = some m → m.wr = true → h' = h.set n m' → (Ext β β H (upd H p w) → RepO X.K X.mg β (upd H p w) p m') → Q (upd H p w) := by
      intro m m' w em wr eh new
      obtain ⟨u0, e0, mu, _⟩ := (rh.at_ n m p em bp).some_of wr
      have x : Ext β β H (upd H p w) := Ext.write e0 mu (List.mem_of_getElem? bp)
      obtain ⟨rh', _⟩ := rh.write em bp wr (new x)
      rw [← eh] at rh'
      exact q _ x rh'
    split at e
    · rename_i xs em
      split at e
      · rename_i k
        cases rb
        obtain ⟨l1, vs, e1, r1⟩ := rh.lst em bp
        obtain ⟨j, h1, h2⟩ := Option.map_eq_some_iff.mp e
        refine set_list pins s σ H _ _ _ ov iv u Q I ro ri rv ⟨p, vs, k, j, rfl, rfl, e1, by rw [← r1.length]; exact h1, ?_⟩
        exact fin em rfl h2.symm fun x => ⟨by simpa using l1, _, upd_same, (r1.ext x).set (rc.ext x) j⟩
      · cases e
    · rename_i kvs em
      obtain ⟨l1, ws, e1, r1⟩ := rh.dK em bp
      split at e
      · rename_i k ek
        split at e
        · rename_i hl
          obtain rfl := key_at rb ek
          cases ro
          refine d_setItem hu I (DPut.k (k := k) e1 (by rw [← r1.length]; exact hl)) ri rv fun s' I' => ⟨_, I', ?_⟩
          refine fin em rfl (Option.some.inj e).symm fun x => ⟨?_, _, upd_same, (r1.ext x).put k (rc.ext x)⟩
          have := length_putK ws k v
          have e2 : (setK kvs k c).length = (putK ws k v).length := (r1.put k rc).length
          rw [e2]
          have := r1.length
          omega
        · cases e
      · cases e
    · rename_i kvs em
      obtain ⟨l1, ws, e1, r1⟩ := rh.dT em bp
      split at e
      · rename_i k ek
        split at e
        · rename_i hl
          obtain ⟨t, rfl, et⟩ := keys_at rb ek
          cases ro
          refine d_setItem hu I (DPut.t (k := k) e1 et (by rw [← r1.length]; exact hl)) ri rv fun s' I' => ⟨_, I', ?_⟩
          refine fin em rfl (Option.some.inj e).symm fun x => ⟨?_, _, upd_same, (r1.ext x).put k (rc.ext x)⟩
          have := length_putK ws k v
          have e2 : (setK kvs k c).length = (putK ws k v).length := (r1.put k rc).length
          rw [e2]
          have := r1.length
          omega
        · cases e
      · cases e
    · cases e
  · cases e
end
end EP
end
section
set_option maxHeartbeats 1000000
/-! Snd3: built-in functions, methods, types. -/
namespace EP
open PySem PySem.Spec PyProof.Rows L2
/-- what a built-in function on data says of the built-in -/
def rB (X : Cx) (f : Bf) : List V → Hp → VK → Prop := fun vs H Q => ∃ (W : WX) (σ : L2.St) (β : List Addr) (h : MH) (ds : List Dt), RepH X.K X.mg β h H ∧ RepVs β H ds vs ∧ Post (rc X) W σ β H RepV Q (f ds h)
section
variable {X : Cx}
theorem RepVs.one {β : List Addr} {H : Hp} {d : Dt} {vs : List V} (r : RepVs β H [d] vs) : ∃ v, vs = [v] ∧ RepV β H d v := by
  cases r with
  | cons a r => cases r; exact ⟨_, rfl, a⟩
theorem RepVs.two {β : List Addr} {H : Hp} {d e : Dt} {vs : List V} (r : RepVs β H [d, e] vs) : ∃ v w, vs = [v, w] ∧ RepV β H d v ∧ RepV β H e w := by
  cases r with
  | cons a r => obtain ⟨w, rfl, b⟩ := r.one; exact ⟨_, _, rfl, a, b⟩
theorem RepVs.zero {β : List Addr} {H : Hp} {vs : List V} (r : RepVs β H [] vs) : vs = [] := by cases r; rfl
theorem cs_len : CallR X (.builtin "len") (rB X bLen) := by
  intro pins s σ H xs us Q I rv ⟨W, σ', β, h, ds, rh, rd, p⟩
  unfold bLen at p
  split at p
  · rename_i h' ds
    obtain ⟨v, rfl, r1⟩ := rd.one
    obtain ⟨q, vs, rfl, e, sq, r2, _⟩ := r1.sqT (K := X.K)
    exact call_len pins s σ H _ us Q I rv ⟨_, vs.length, rfl, .inr ⟨vs, sq, rfl⟩, by rw [← r2.length]; exact p.here rh (.int _)⟩
  · rename_i h' x
    obtain ⟨v, rfl, r1⟩ := rd.one
    cases r1
    split at p
    · rename_i hl
      exact call_len pins s σ H _ us Q I rv ⟨_, x.length, rfl, ⟨hl, rfl⟩, p.here rh (.int _)⟩
    · exact p.elim
  · rename_i h' n
    obtain ⟨v, rfl, r1⟩ := rd.one
    obtain ⟨q, rfl, bq⟩ := r1.at_loc
    split at p
    · rename_i xs em
      obtain ⟨q', vs, bq', sq, r2, _⟩ := rh.list (n := n) (xs := xs) (by unfold getL; rw [em])
      rw [bq] at bq'; cases bq'
      exact call_len pins s σ H _ us Q I rv ⟨_, vs.length, rfl, .inl ⟨vs, sq, rfl⟩, by rw [← r2.length]; exact p.here rh (.int _)⟩
    · rename_i xs em
      obtain ⟨q', vs, bq', sq, r2, _⟩ := rh.list (n := n) (xs := xs) (by unfold getL; rw [em])
      rw [bq] at bq'; cases bq'
      exact call_len pins s σ H _ us Q I rv ⟨_, vs.length, rfl, .inl ⟨vs, sq, rfl⟩, by rw [← r2.length]; exact p.here rh (.int _)⟩
    · rename_i kvs em
      obtain ⟨_, ws, e, r2⟩ := rh.dK em bq
      exact call_lenD pins s σ H _ us Q I rv ⟨q, ws, rfl, e, by rw [← r2.length]; exact p.here rh (.int _)⟩
    · exact p.elim
  · exact p.elim
theorem cs_tuple : CallR X (.type "tuple") (rB X bTuple) := by
  intro pins s σ H xs us Q I rv ⟨W, σ', β, h, ds, rh, rd, p⟩
  unfold bTuple at p
  split at p
  · rename_i h' ds
    obtain ⟨v, rfl, r1⟩ := rd.one
    obtain ⟨q, vs, rfl, e, sq, r2, hl⟩ := r1.sqT (K := X.K)
    exact call_tuple_of pins s σ H _ us Q I rv ⟨q, vs, rfl, .inr ⟨sq, p.here rh (.tup e hl r2)⟩⟩
  · rename_i h' n
    obtain ⟨v, rfl, r1⟩ := rd.one
    obtain ⟨q, rfl, bq⟩ := r1.at_loc
    split at p
    · rename_i xs em
      obtain ⟨q', vs, bq', sq, r2, hl⟩ := rh.list em
      rw [bq] at bq'; cases bq'
      exact call_tuple_of pins s σ H _ us Q I rv ⟨q, vs, rfl, .inl ⟨sq, fun a ha => p β _ _ (Ext.fresh ha) (rh.fresh ha) (.tup upd_same hl (r2.ext (Ext.fresh ha)))⟩⟩
    · exact p.elim
  · exact p.elim
theorem cs_list : CallR X (.type "list") (rB X bList) := by
  intro pins s σ H xs us Q I rv ⟨W, σ', β, h, ds, rh, rd, p⟩
  unfold bList at p
  split at p
  · rename_i h' d
    obtain ⟨v, rfl, r1⟩ := rd.one
    split at p
    · rename_i xs em
      cases d with
      | tup ds =>
        obtain ⟨q, vs, rfl, e, sq, r2, hl⟩ := r1.sqT (K := X.K)
        have e' : ds = xs := Option.some.inj em
        subst e'
        exact call_list_of pins s σ H _ us Q I rv ⟨q, vs, rfl, .inr sq, p.alloc rh r2 hl⟩
      | loc n =>
        obtain ⟨q, rfl, bq⟩ := r1.at_loc
        obtain ⟨q', vs, bq', sq, r2, hl⟩ := rh.list (show getL _ n = some xs from em)
        rw [bq] at bq'; cases bq'
        exact call_list_of pins s σ H _ us Q I rv ⟨q, vs, rfl, .inl sq, p.alloc rh r2 hl⟩
      | _ => cases em
    · exact p.elim
  · exact p.elim
theorem cs_int : CallR X (.type "int") (rB X bInt) := by
  intro pins s σ H xs us Q I rv ⟨W, σ', β, h, ds, rh, rd, p⟩
  unfold bInt at p
  split at p
  · obtain ⟨v, rfl, r1⟩ := rd.one
    cases r1
    exact call_int1 pins s σ H _ us Q I rv (.inl ⟨_, rfl, p.here rh (.int _)⟩)
  · obtain ⟨v, rfl, r1⟩ := rd.one
    cases r1
    exact call_int1 pins s σ H _ us Q I rv (.inr ⟨_, rfl, p.here rh (.int _)⟩)
  · exact p.elim
theorem cs_abs : CallR X (.builtin "abs") (rB X bAbs) := by
  intro pins s σ H xs us Q I rv ⟨W, σ', β, h, ds, rh, rd, p⟩
  unfold bAbs at p
  split at p
  · obtain ⟨v, rfl, r1⟩ := rd.one
    cases r1
    exact call_abs pins s σ H _ us Q I rv ⟨_, rfl, p.here rh (.int _)⟩
  · exact p.elim
theorem ints_at {β : List Addr} {H : Hp} : ∀ {ds : List Dt} {vs : List V} {ns : List Int}, RepVs β H ds vs → intsOf ds = some ns → vs = ns.map V.int
  | _, _, _, .nil, e => by simp [intsOf] at e; subst e; rfl
  | _, _, _, .cons (d := d) a r, e => by
    cases a <;> simp [intsOf] at e
    obtain ⟨ns', e1, rfl⟩ := e
    rw [ints_at r e1]
    rfl
theorem bls_at {β : List Addr} {H : Hp} : ∀ {ds : List Dt} {vs : List V} {ns : List Bool}, RepVs β H ds vs → blsOf ds = some ns → vs = ns.map V.bl
  | _, _, _, .nil, e => by simp [blsOf] at e; subst e; rfl
  | _, _, _, .cons (d := d) a r, e => by
    cases a <;> simp [blsOf] at e
    obtain ⟨ns', e1, rfl⟩ := e
    rw [bls_at r e1]
    rfl
theorem RepH.ints {β : List Addr} {h : MH} {H : Hp} {K : PySem.W.Frag} {mg : Str → Option Value} (rh : RepH K mg β h H) {n : Nat} {q : Addr} {ns : List Int} (bq : β[n]? = some q) (e : (getL h n).bind intsOf = some ns) : SqL K H q (ns.map V.int) := by
  obtain ⟨xs, e1, e2⟩ := Option.bind_eq_some_iff.mp e
  obtain ⟨q', vs, bq', sq, r2, hl⟩ := rh.list e1
  rw [bq] at bq'; cases bq'
  rw [← ints_at r2 e2]; exact sq
theorem RepH.bls {β : List Addr} {h : MH} {H : Hp} {K : PySem.W.Frag} {mg : Str → Option Value} (rh : RepH K mg β h H) {n : Nat} {q : Addr} {ns : List Bool} (bq : β[n]? = some q) (e : (getL h n).bind blsOf = some ns) : SqL K H q (ns.map V.bl) := by
  obtain ⟨xs, e1, e2⟩ := Option.bind_eq_some_iff.mp e
  obtain ⟨q', vs, bq', sq, r2, hl⟩ := rh.list e1
  rw [bq] at bq'; cases bq'
  rw [← bls_at r2 e2]; exact sq
theorem cs_sum (hc : X.calm = true) : CallR X (.builtin "sum") (rB X bSum) := by
  intro pins s σ H xs us Q I rv ⟨W, σ', β, h, ds, rh, rd, p⟩
  unfold bSum at p
  split at p
  · obtain ⟨v, rfl, r1⟩ := rd.one
    obtain ⟨q, rfl, bq⟩ := r1.at_loc
    split at p
    · rename_i ns em
      exact cr_sum hc pins s σ H _ us Q I rv ⟨q, ns, rfl, rh.ints bq em, p.here rh (.int _)⟩
    · exact p.elim
  · exact p.elim
theorem minL_mem : ∀ (a : Int) (l : List Int), minL (a :: l) ∈ a :: l ∧ ∀ y ∈ a :: l, minL (a :: l) ≤ y
  | a, [] => by simp [minL]
  | a, b :: l => by
    obtain ⟨h1, h2⟩ := minL_mem b l
    have e : minL (a :: b :: l) = min a (minL (b :: l)) := rfl
    rw [e]
    refine ⟨?_, fun y hy => ?_⟩
    · by_cases h : a ≤ minL (b :: l)
      · rw [Int.min_eq_left h]; exact List.mem_cons_self
      · rw [Int.min_eq_right (by omega)]; exact List.mem_cons_of_mem _ h1
    · rcases List.mem_cons.mp hy with rfl | hy
      · exact Int.min_le_left _ _
      · exact Int.le_trans (Int.min_le_right _ _) (h2 y hy)
theorem maxL_mem : ∀ (a : Int) (l : List Int), maxL (a :: l) ∈ a :: l ∧ ∀ y ∈ a :: l, y ≤ maxL (a :: l)
  | a, [] => by simp [maxL]
  | a, b :: l => by
    obtain ⟨h1, h2⟩ := maxL_mem b l
    have e : maxL (a :: b :: l) = max a (maxL (b :: l)) := rfl
    rw [e]
    refine ⟨?_, fun y hy => ?_⟩
    · by_cases h : a ≤ maxL (b :: l)
      · rw [Int.max_eq_right h]; exact List.mem_cons_of_mem _ h1
      · rw [Int.max_eq_left (by omega)]; exact List.mem_cons_self
    · rcases List.mem_cons.mp hy with rfl | hy
      · exact Int.le_max_left _ _
      · exact Int.le_trans (h2 y hy) (Int.le_max_right _ _)
theorem cs_min (hc : X.calm = true) : CallR X (.builtin "min") (rB X bMin) := by
  intro pins s σ H xs us Q I rv ⟨W, σ', β, h, ds, rh, rd, p⟩
  unfold bMin at p
  split at p
  · obtain ⟨v, w, rfl, r1, r2⟩ := rd.two
    cases r1; cases r2
    exact call_min2 hc pins s σ H _ us Q I rv ⟨_, _, rfl, p.here rh (.int _)⟩
  · obtain ⟨v, rfl, r1⟩ := rd.one
    obtain ⟨q, rfl, bq⟩ := r1.at_loc
    split at p
    · rename_i ns em
      split at p
      · exact p.elim
      · rename_i hne
        obtain ⟨a, l, rfl⟩ := List.exists_cons_of_ne_nil hne
        refine cr_min hc pins s σ H _ us Q I rv ⟨q, a :: l, rfl, rh.ints bq em, by simp, fun m hm hle => ?_⟩
        obtain ⟨h1, h2⟩ := minL_mem a l
        have e : m = minL (a :: l) := Int.le_antisymm (hle _ h1) (h2 _ hm)
        rw [e]
        exact p.here rh (.int _)
    · exact p.elim
  · exact p.elim
theorem cs_max (hc : X.calm = true) : CallR X (.builtin "max") (rB X bMax) := by
  intro pins s σ H xs us Q I rv ⟨W, σ', β, h, ds, rh, rd, p⟩
  unfold bMax at p
  split at p
  · obtain ⟨v, w, rfl, r1, r2⟩ := rd.two
    cases r1; cases r2
    exact call_max2 hc pins s σ H _ us Q I rv ⟨_, _, rfl, p.here rh (.int _)⟩
  · obtain ⟨v, rfl, r1⟩ := rd.one
    obtain ⟨q, rfl, bq⟩ := r1.at_loc
    split at p
    · rename_i ns em
      split at p
      · exact p.elim
      · rename_i hne
        obtain ⟨a, l, rfl⟩ := List.exists_cons_of_ne_nil hne
        refine cr_max hc pins s σ H _ us Q I rv ⟨q, a :: l, rfl, rh.ints bq em, by simp, fun m hm hle => ?_⟩
        obtain ⟨h1, h2⟩ := maxL_mem a l
        have e : m = maxL (a :: l) := Int.le_antisymm (h2 _ hm) (hle _ h1)
        rw [e]
        exact p.here rh (.int _)
    · exact p.elim
  · exact p.elim
theorem cs_any (hc : X.calm = true) : CallR X (.builtin "any") (rB X bAny) := by
  intro pins s σ H xs us Q I rv ⟨W, σ', β, h, ds, rh, rd, p⟩
  unfold bAny at p
  split at p
  · obtain ⟨v, rfl, r1⟩ := rd.one
    obtain ⟨q, rfl, bq⟩ := r1.at_loc
    split at p
    · rename_i ns em
      exact cr_any hc pins s σ H _ us Q I rv ⟨q, ns, rfl, rh.bls bq em, p.here rh (.bl _)⟩
    · exact p.elim
  · exact p.elim
theorem cs_all (hc : X.calm = true) : CallR X (.builtin "all") (rB X bAll) := by
  intro pins s σ H xs us Q I rv ⟨W, σ', β, h, ds, rh, rd, p⟩
  unfold bAll at p
  split at p
  · obtain ⟨v, rfl, r1⟩ := rd.one
    obtain ⟨q, rfl, bq⟩ := r1.at_loc
    split at p
    · rename_i ns em
      exact cr_all hc pins s σ H _ us Q I rv ⟨q, ns, rfl, rh.bls bq em, p.here rh (.bl _)⟩
    · exact p.elim
  · exact p.elim
/-! ### types -/
theorem ty_at {β : List Addr} {h : MH} {H : Hp} (rh : RepH X.K X.mg β h H) {d : Dt} {v : V} {t : String} (r : RepV β H d v) (e : tyN h d = some t) : TyX X.K H v (.type t) := by
  cases r with
  | non => cases e; exact .base .non
  | bl b => cases e; exact .base (.bl b)
  | int i => cases e; exact .base (.int i)
  | str x => cases e; exact .base (.str x)
  | tup e1 _ _ => cases e; exact .base (.tup e1)
  | @loc n p hp =>
    simp only [tyN] at e
    split at e
    · rename_i xs em
      cases e
      obtain ⟨_, vs, e1, _⟩ := rh.lst em hp
      exact .base (.lst e1)
    · rename_i xs em
      cases e
      obtain ⟨_, vs, f, _⟩ := rh.at_ _ _ _ em hp
      rcases f with ⟨o, f⟩ | ⟨o, its, n, f1, f2, _⟩
      · exact .base (.frz f)
      · exact .kList f1 f2
    · rename_i xs em
      cases e
      obtain ⟨_, vs, e1, _⟩ := rh.dK em hp
      exact .base (.dK e1)
    · rename_i xs em
      cases e
      obtain ⟨_, vs, e1, _⟩ := rh.dT em hp
      exact .base (.dT e1)
    · cases e
/-! ### methods -/
def rM (X : Cx) (f : Mf) : V → List V → Hp → VK → Prop := fun x vs H Q => ∃ (W : WX) (σ : L2.St) (β : List Addr) (h : MH) (d : Dt) (ds : List Dt), RepH X.K X.mg β h H ∧ RepV β H d x ∧ RepVs β H ds vs ∧ Post (rc X) W σ β H RepV Q (f d ds h)
theorem ms_append : MtR X "list.append" (rM X mAppend) := by
  intro pins s σ H x xs v us Q I rx rv ⟨W, σ', β, h, d, ds, rh, rd, rs, p⟩
  unfold mAppend at p
  split at p
  · obtain ⟨q, rfl, bq⟩ := rd.at_loc
    obtain ⟨w, rfl, rw'⟩ := rs.one
    split at p
    · rename_i ys em
      split at p
      · rename_i hl
        obtain ⟨l1, vs, e1, r1⟩ := rh.lst em bq
        refine mt_append pins s σ H _ _ v us Q I rx rv ⟨q, vs, w, rfl, rfl, e1, by rw [← r1.length]; exact hl, ?_⟩
        exact p.write rh em bq rfl (fun x => ⟨by simp; omega, _, upd_same, (r1.ext x).append (.cons (rw'.ext x) .nil)⟩) fun _ => .non
      · exact p.elim
    · exact p.elim
  · exact p.elim
theorem ms_extend : MtR X "list.extend" (rM X mExtend) := by
  intro pins s σ H x xs v us Q I rx rv ⟨W, σ', β, h, d, ds, rh, rd, rs, p⟩
  unfold mExtend at p
  split at p
  · obtain ⟨q, rfl, bq⟩ := rd.at_loc
    obtain ⟨w, rfl, rw'⟩ := rs.one
    obtain ⟨q2, rfl, bq2⟩ := rw'.at_loc
    split at p
    · rename_i ys zs em en
      split at p
      · rename_i hl
        obtain ⟨l1, vs, e1, r1⟩ := rh.lst em bq
        obtain ⟨l2, vs2, e2, r2⟩ := rh.lst en bq2
        refine mt_extend pins s σ H _ _ v us Q I rx rv ⟨q, q2, vs, vs2, rfl, rfl, e1, e2, by rw [← r1.length, ← r2.length]; exact hl, ?_⟩
        exact p.write rh em bq rfl (fun x => ⟨by simp; omega, _, upd_same, (r1.ext x).append (r2.ext x)⟩) fun _ => .non
      · exact p.elim
    · exact p.elim
  · exact p.elim
theorem ms_pop : MtR X "list.pop" (rM X mPop) := by
  intro pins s σ H x xs v us Q I rx rv ⟨W, σ', β, h, d, ds, rh, rd, rs, p⟩
  unfold mPop at p
  split at p
  · obtain ⟨q, rfl, bq⟩ := rd.at_loc
    obtain rfl := rs.zero
    split at p
    · rename_i ys em
      split at p
      · rename_i d ed
        obtain ⟨l1, vs, e1, r1⟩ := rh.lst em bq
        obtain ⟨w, h1, h2⟩ := r1.get ed
        refine mt_pop pins s σ H _ _ v us Q I rx rv ⟨q, vs, w, rfl, rfl, e1, by rw [← r1.length]; exact h1, ?_⟩
        exact p.write rh em bq rfl (fun x => ⟨by simp; omega, _, upd_same, (r1.ext x).dropLast⟩) fun x => h2.ext x
      · exact p.elim
    · exact p.elim
  · obtain ⟨q, rfl, bq⟩ := rd.at_loc
    obtain ⟨w, rfl, rw'⟩ := rs.one
    cases rw'
    split at p
    · rename_i ys em
      split at p
      · rename_i j ej
        split at p
        · rename_i d ed
          obtain ⟨l1, vs, e1, r1⟩ := rh.lst em bq
          obtain ⟨w, h1, h2⟩ := r1.get ed
          obtain ⟨k1, k2, k3, k4⟩ := ixN_seq ej
          have hz := line63
          refine mt_popAt pins s σ H _ _ v us Q I rx rv ⟨q, vs, _, j, w, rfl, rfl, e1, by omega, by omega, by rw [← r1.length]; exact k1, h1, ?_⟩
          refine p.write rh em bq rfl (fun x => ⟨?_, _, upd_same, (r1.ext x).eraseIdx j⟩) fun x => h2.ext x
          exact Nat.le_trans (len_erase _ _) l1
        · exact p.elim
      · exact p.elim
    · exact p.elim
  · exact p.elim
theorem ms_index (hu : X.A.units + 65 < cLine) : MtR X "list.index" (rM X mIndex) := by
  intro pins s σ H x xs v us Q I rx rv ⟨W, σ', β, h, d, ds, rh, rd, rs, p⟩
  unfold mIndex at p
  split at p
  · obtain ⟨q, rfl, bq⟩ := rd.at_loc
    obtain ⟨w, rfl, rw'⟩ := rs.one
    split at p
    · rename_i ys em
      split at p
      · rename_i hk
        split at p
        · rename_i j ej
          obtain ⟨l1, vs, e1, r1⟩ := rh.lst em bq
          have pl := plain_of_eqOk hk.2
          simp only [Dt.plain] at pl
          obtain ⟨hj, z1, z2⟩ := List.findIdx?_eq_some_iff_getElem.mp ej
          refine mt_indexD hu pins s σ H _ _ v us Q I rx rv ⟨q, w, _, pys ys, j, (ys[j]).py, rfl, rfl, .lst (SqL.of e1) (r1.dp pl), rw'.dp (plain_of_eqOk hk.1), shapedL_of hk.2, shaped_of hk.1, ?_, z1, fun m z hm hz => ?_, p.here rh (.int _)⟩
          · rw [pys_get, List.getElem?_eq_getElem hj]; rfl
          · rw [pys_get, List.getElem?_eq_getElem (by omega)] at hz
            cases hz
            have := z2 m hm
            simpa [eqv] using this
        · exact p.elim
      · exact p.elim
    · exact p.elim
  · exact p.elim
end
end EP
end
section
set_option maxHeartbeats 1000000
/-! Snd4: the context of a def, expressions. -/
namespace EP
open PySem PySem.Spec PyProof.Rows L2

/-- the program's names: its defs (number, parameters), its whole numbers, its exceptions (number of __init__, fields), the built-in names that it leaves alone -/
structure Tab where
  fns : List (Str × Nat × Nat)
  nums : List (Str × Int)
  excs : List (Str × Nat × List Str)
  free : List Str
  /-- of exceptions: which is of which class, which fields they have -/
  subs : List ((Str × Str) × Bool)
  flds : Flds
def Tab.sub (t : Tab) : Sub := fun C D => t.subs.lookup (C, D)
structure Ctx where
  N : List Str
  names : List (Str × NameKind)
  /-- the names that may be stored -/
  stor : List Str
  tab : Tab
  /-- a {} here is to have tuples as keys -/
  tk : Bool
  /-- a def's own block -/
  top : Bool
/-- a def's promise, by its meaning -/
def spOf (R : Rc) (g : List Dt → M Dt) (ar : Nat) : Sp := fun vs H Q E => ∃ ds h β, ds.length = ar ∧ RepVs β H ds vs ∧ RepH R.K R.mg β h H ∧ Post R (fun c d _ H' => E c d H') [] β H RepV Q (g ds h)
structure FnAt (X : Cx) (k : Nat) (x : Str) (g : List Dt → M Dt) (ar : Nat) : Prop where
  ex : ∃ f fd ps, X.mg x = some (.ref f) ∧ PySem.W.keepIn X.K (.ref f) = true ∧ Binds X.K fd ps [] ∧ FnOk X.prog X.w X.K X.mg X.base (L2.CX X.prog X.w) k f fd ps (spOf (rc X) g ar)
/-- an exception's __init__: each parameter goes to a field; a: the new exception, d: its dict -/
def spIni (R : Rc) (Ca : Addr) (g : List Dt → M Dt) (names : List Str) : Sp := fun vs H Q E => ∃ a us ds h β es h2, vs = .ref a :: us ∧ ds.length = names.length ∧ H a = some (exo a Ca none) ∧ RepVs β H ds us ∧ RepH R.K R.mg β h H ∧ g ds h = .ok (.tup es) h2 ∧
  ∀ β' H' d gs, Ext β β' (dropH H a) (dropH (dropH H' d) a) → RepH R.K R.mg β' h2 (dropH (dropH H' d) a) → H' a = some (exo a Ca (some d)) → H' d = some (exd d gs) → dropH H a d = none → d ≠ a → RepF β' (dropH (dropH H' d) a) (names.zip es).reverse gs → Q .non H'
structure ExcAt (X : Cx) (k : Nat) (C : Str) (g : List Dt → M Dt) (names : List Str) : Prop where
  ex : ∃ Ca fI fd ps, X.mg C = some (.ref Ca) ∧ OexC X.K Ca ∧ PySem.W.findIn X.K (.ref Ca) "__init__" = some (some (.ref fI)) ∧ PySem.W.typeIn X.K (.ref fI) = some (.type "function") ∧ Binds X.K fd ps [] ∧
    FnOk X.prog X.w X.K X.mg X.base (L2.CX X.prog X.w) k fI fd ps (spIni (rc X) Ca g names)
/-- of exceptions of the class C: are they of the class D -/
def SubAt (K : PySem.W.Frag) (mg : Str → Option Value) (C D : Str) (b : Bool) : Prop := ∃ Ca Da, mg C = some (.ref Ca) ∧ mg D = some (.ref Da) ∧ PySem.W.exmOne K (.ref Ca) (.ref Da) = some b ∧ PySem.W.kitOne K (.ref Ca) (.ref Da) = some b ∧
  (PySem.W.clsIn K Ca).isSome = true ∧ PySem.W.findIn K (.ref Ca) "__getattribute__" = some (some (.builtin "BaseException.__getattribute__")) ∧ PySem.W.findIn K (.ref Ca) "__getattr__" = some none ∧
  PySem.W.subIn K (.ref Ca) (.type "BaseException") = some true ∧ PySem.W.findIn K (.ref Ca) "__class__" = some (some (.builtin "object.__class__")) ∧ PySem.W.specialIn K (.builtin "object.__class__") "__get__" = some (some (.builtin "getset_descriptor.__get__")) ∧
  PySem.W.takesIn K (.builtin "object.__class__") = some true ∧ PySem.W.mroIn K Ca (.type "object") = some true
def FldAt (K : PySem.W.Frag) (mg : Str → Option Value) (C : Str) (fl : List Str) : Prop := ∃ Ca, mg C = some (.ref Ca) ∧ XfC K Ca ∧ ∀ f ∈ fl, PySem.W.findIn K (.ref Ca) f = some none
structure XOk (Γ : Ctx) (G : Orc) (k : Nat) (W : WX) (X : Cx) : Prop where
  N : X.N = Γ.N
  nd : Γ.N.Nodup
  names : X.env.scope.names = Γ.names
  kind : X.env.scope.kind = .function
  calm : X.calm = true
  tk : Takes X W
  po : PassesOwn (model X.prog X.w) X.A X.env X.xe
  room : Room (k + 1) X.A
  stor : ∀ x ∈ Γ.stor, Loc X.env.scope x ∧ (X.fn x = true ∨ X.env.scope.names.lookup x = some .local)
  fns : ∀ x n ar, Γ.tab.fns.lookup x = some (n, ar) → FnAt X k x (G n) ar
  nums : ∀ x i, Γ.tab.nums.lookup x = some i → ∃ t, X.mg x = some (.int i t)
  free : ∀ x ∈ Γ.tab.free, X.mg x = none
  excs : ∀ C n names, Γ.tab.excs.lookup C = some (n, names) → ExcAt X k C (G n) names
  subs : ∀ C D b, Γ.tab.sub C D = some b → SubAt X.K X.mg C D b
  flds : ∀ C fl, Γ.tab.flds.lookup C = some fl → FldAt X.K X.mg C fl
  top : Γ.top = true → X.stack = X.env :: X.outer ∧ X.env.frame = some X.env.locals

/-- the kinds of expressions that want no care -/
def smp : Expr → Bool
  | .BoolOp .. => true | .BinOp .. => true | .UnaryOp .. => true | .IfExp .. => true | .Dict .. => true | .ListComp .. => true | .SetComp .. => true | .DictComp .. => true
  | .Compare .. => true | .Call .. => true | .JoinedStr .. => true | .Constant .. => true | .Attribute .. => true | .Subscript .. => true | .Name .. => true | .List .. => true | .Tuple .. => true
  | _ => false
theorem star_smp {e : Expr} (h : smp e = true) (es : List Expr) (env : PySem.Env) : starEach (e :: es) env = (false, eval e env) :: starEach es env := by
  cases e <;> first | rfl | exact nomatch h
theorem plainIx_smp {e : Expr} (h : smp e = true) : PlainIx e := fun o i => by
  cases e <;> first | rfl | exact nomatch h
theorem behind_smp {e : Expr} (h : smp e = true) (op : CmpOp) : behindInMarks op e = false := by
  cases e <;> first | rfl | exact nomatch h
theorem folded_smp {e : Expr} (h : smp e = true) (env : PySem.Env) (x : Value) : foldedSetIterable e env x = pure x := by
  cases e <;> first | rfl | exact nomatch h
/-- and no comprehension -/
def noComp : Expr → Bool
  | .ListComp .. => false | .SetComp .. => false | .DictComp .. => false
  | _ => true
theorem swaps_noComp {e : Expr} (h : noComp e = true) (t : Option Expr) (l : Nat) (env : PySem.Env) : swapsWith e t l env = pure false := by
  cases e <;> first | rfl | exact nomatch h
/-- a test that is a value's truth -/
def plainT : Expr → Bool
  | .UnaryOp .Not _ _ => false | .BoolOp .. => false | .IfExp .. => false | .Compare .. => false
  | _ => true
theorem isTrue_plainT {e : Expr} (h : plainT e = true) (env : PySem.Env) (whole : Sem Value) : isTrue e env whole = (do let v ← whole; standAt e.pos; holding [v] (truthy v)) := by
  cases e with
  | UnaryOp op a p => cases op <;> first | rfl | exact nomatch h
  | BoolOp a b c => exact nomatch h
  | IfExp a b c d => exact nomatch h
  | Compare a b c d => exact nomatch h
  | _ => rfl

theorem stars_none {es : List Expr} (h : es.all smp = true) (pos : Pos) (env : PySem.Env) : (backTo pos (starEach es env)).any (·.1) = false := by
  induction es with
  | nil => rfl
  | cons e es ih =>
    simp only [List.all_cons, Bool.and_eq_true] at h
    rw [star_smp h.1]
    unfold backTo at *
    simp only [List.map_cons, List.any_cons, Bool.false_or]
    exact ih h.2
section
variable {Γ : Ctx} {G : Orc} {k : Nat} {W : WX} {X : Cx} {pos : Pos}
theorem XOk.u1 (o : XOk Γ G k W X) : X.A.units + 1 < cLine := by have := o.room.un; omega
theorem XOk.u64 (o : XOk Γ G k W X) : X.A.units + 64 < cLine := by have := o.room.un; omega
theorem XOk.u65 (o : XOk Γ G k W X) : X.A.units + 65 < cLine := by have := o.room.un; omega

/-! ### names, constants -/
theorem se_var {i : Nat} {x : Str} (o : XOk Γ G k W X) (hN : Γ.N[i]? = some x) (hv : Γ.names.lookup x = some .local ∨ Γ.names.lookup x = some .cell ∨ Γ.names.lookup x = some .free)
    (hd : (x == ("__debug__" : Str)) = false) (hcd : (x == ("__classdict__" : Str)) = false) : PE X (.Name x pos) (tE X W (eVar i G)) := by
  refine PE.imp (pe_var (i := i) (by rw [o.N]; exact hN) (by unfold Vis; rw [o.names]; exact hv) hd hcd) fun σ H Q ⟨ρ, h, β, rs, rh, p⟩ => ?_
  unfold eVar at p
  split at p
  · rename_i d e
    obtain ⟨v, e1, r⟩ := rs.at_ i d e
    exact ⟨v, e1, p.here rh r⟩
  · exact p.elim
theorem se_c {e : Expr} {d : Dt} {v : V} (h : PE X e (tC v)) (r : ∀ β H, RepV β H d v) : PE X e (tE X W (eC d G)) :=
  h.imp fun σ H Q ⟨ρ, hh, β, rs, rh, p⟩ => p.here rh (r β H)
theorem se_int {i : Int} {j : Nat} : PE X (.Constant (.int i) j pos) (tE X W (eC (.int i) G)) := se_c pe_int fun _ _ => .int i
theorem se_bl {i : Bool} {j : Nat} : PE X (.Constant (.bool i) j pos) (tE X W (eC (.bl i) G)) := se_c pe_bl fun _ _ => .bl i
theorem se_non {j : Nat} : PE X (.Constant .none j pos) (tE X W (eC .non G)) := se_c pe_non fun _ _ => .non
theorem se_str {x : Str} {j : Nat} : PE X (.Constant (.str x) j pos) (tE X W (eC (.str x) G)) := se_c pe_str fun _ _ => .str x
theorem se_num {x : Str} {i : Int} (o : XOk Γ G k W X) (hg : Γ.names.lookup x = some .globalImplicit) (hi : Γ.tab.nums.lookup x = some i) (hd : (x == ("__debug__" : Str)) = false) : PE X (.Name x pos) (tE X W (eC (.int i) G)) := by
  obtain ⟨t, ht⟩ := o.nums x i hi
  refine se_c (pe_glob (v := .int i) ?_ ht ⟨t, rfl⟩ hd) fun _ _ => .int i
  unfold Gl PySem.Env.kindOf
  rw [o.names]; exact hg

/-! ### operators -/
variable {a b c : Expr} {fa fb fc : SE}
theorem r_op {f : Op2} {σ : L2.St} {H : Hp} {Q : VK} : tE X W (eOp f fa fb G) σ H Q → tOp (rS X f) (tE X W (fa G)) (tE X W (fb G)) σ H Q := fun ⟨ρ, h, β, rs, rh, p⟩ =>
  ⟨ρ, h, β, rs, rh, p.bnd fun x h1 β1 H1 v x1 rh1 rv1 p1 => ⟨ρ, h1, β1, rs.ext x1, rh1, p1.bnd fun y h2 β2 H2 w x2 rh2 rv2 p2 => ⟨W, σ, β2, h2, x, y, rh2, rv1.ext x2, rv2, p2⟩⟩⟩
theorem r_chain {f f' : Op2} {σ : L2.St} {H : Hp} {Q : VK} : tE X W (eChain f f' fa fb fc G) σ H Q → tChain (rS X f) (rS X f') (tE X W (fa G)) (tE X W (fb G)) (tE X W (fc G)) σ H Q := fun ⟨ρ, h, β, rs, rh, p⟩ =>
  ⟨ρ, h, β, rs, rh, p.bnd fun x h1 β1 H1 v x1 rh1 rv1 p1 => ⟨ρ, h1, β1, rs.ext x1, rh1, p1.bnd fun y h2 β2 H2 w x2 rh2 rv2 p2 =>
    ⟨W, σ, β2, h2, x, y, rh2, rv1.ext x2, rv2, p2.bnd fun z h3 β3 H3 u x3 rh3 rv3 p3 => by
      split at p3
      · cases rv3
        exact ⟨true, rfl, iteT ⟨ρ, h3, β3, ((rs.ext x1).ext x2).ext x3, rh3, p3.bnd fun t h4 β4 H4 s x4 rh4 rv4 p4 => ⟨W, σ, β4, h4, y, t, rh4, (rv2.ext x3).ext x4, rv4, p4⟩⟩⟩
      · cases rv3
        exact ⟨false, rfl, iteF (p3.here rh3 (.bl _))⟩
      · exact p3.elim⟩⟩⟩
theorem r_bl {σ : L2.St} {H : Hp} {Q : Bool → Hp → Prop} : tT X W (tBl fa G) σ H Q → tE X W (fa G) σ H fun x H' => ∃ t, x = .bl t ∧ Q t H' := fun ⟨ρ, h, β, rs, rh, p⟩ =>
  ⟨ρ, h, β, rs, rh, p.bnd fun x h1 β1 H1 v x1 rh1 rv1 p1 => by
    split at p1
    · cases rv1; exact ⟨_, rfl, Post.here p1 rh1 rfl⟩
    · exact p1.elim⟩
theorem se_op {op : Operator} {f : Op2} (ho : OpR X (binaryOp op) (rS X f)) (ha : PE X a (tE X W (fa G))) (hb : PE X b (tE X W (fb G))) : PE X (.BinOp a op b pos) (tE X W (eOp f fa fb G)) :=
  (pe_op ho ha hb).imp fun σ H Q => r_op
theorem se_cmp {op : CmpOp} {f : Op2} (ho : OpR X (compareOp op) (rS X f)) (ha : PE X a (tE X W (fa G))) (hb : PE X b (tE X W (fb G))) (hm : behindInMarks op b = false) : PE X (.Compare a [op] [b] pos) (tE X W (eOp f fa fb G)) :=
  (pe_cmpR ho ha hb hm).imp fun σ H Q => r_op
theorem se_chain {op op' : CmpOp} {f f' : Op2} (ho : OpR X (compareOp op) (rS X f)) (ho' : OpR X (compareOp op') (rS X f')) (ha : PE X a (tE X W (fa G))) (hb : PE X b (tE X W (fb G))) (hc : PE X c (tE X W (fc G)))
    (hm : lastMarks [op, op'] [b, c] = false) : PE X (.Compare a [op, op'] [b, c] pos) (tE X W (eChain f f' fa fb fc G)) :=
  (pe_chain ho ho' ha hb hc hm).imp fun σ H Q => r_chain
theorem se_and {rest : List Expr} (ha : PE X a (tE X W (fa G))) (hb : PE X (.BoolOp .And (b :: rest) pos) (tE X W (fb G))) : PE X (.BoolOp .And (a :: b :: rest) pos) (tE X W (eAnd fa fb G)) :=
  (pe_and ha hb).imp fun σ H Q ⟨ρ, h, β, rs, rh, p⟩ => ⟨ρ, h, β, rs, rh, p.bnd fun x h1 β1 H1 v x1 rh1 rv1 p1 => by
    split at p1
    · cases rv1; exact ⟨true, rfl, iteT ⟨ρ, h1, β1, rs.ext x1, rh1, p1⟩⟩
    · cases rv1; exact ⟨false, rfl, iteF (p1.here rh1 (.bl _))⟩
    · exact p1.elim⟩
theorem se_or {rest : List Expr} (ha : PE X a (tE X W (fa G))) (hb : PE X (.BoolOp .Or (b :: rest) pos) (tE X W (fb G))) : PE X (.BoolOp .Or (a :: b :: rest) pos) (tE X W (eOr fa fb G)) :=
  (pe_or ha hb).imp fun σ H Q ⟨ρ, h, β, rs, rh, p⟩ => ⟨ρ, h, β, rs, rh, p.bnd fun x h1 β1 H1 v x1 rh1 rv1 p1 => by
    split at p1
    · cases rv1; exact ⟨true, rfl, iteT (p1.here rh1 (.bl _))⟩
    · cases rv1; exact ⟨false, rfl, iteF ⟨ρ, h1, β1, rs.ext x1, rh1, p1⟩⟩
    · exact p1.elim⟩
theorem tru_of {β : List Addr} {h h' : MH} {H : Hp} {d : Dt} {v : V} {t : Bool} (rh : RepH X.K X.mg β h H) (r : RepV β H d v) (e : truth d h = .ok t h') : TruV X.K v H t ∧ h' = h := by
  cases r with
  | non => cases e; exact ⟨rfl, rfl⟩
  | bl b => cases e; exact ⟨rfl, rfl⟩
  | int i => cases e; exact ⟨rfl, rfl⟩
  | str x =>
    simp only [truth] at e
    split at e
    · rename_i hl; cases e; exact ⟨⟨hl, rfl⟩, rfl⟩
    · cases e
  | @tup ds p vs e1 l rv =>
    cases e
    refine ⟨.inr (.inl ⟨vs, SqT.of e1, ?_⟩), rfl⟩
    cases rv <;> rfl
  | @loc n p hp =>
    simp only [truth] at e
    split at e
    · rename_i xs em
      cases e
      obtain ⟨_, vs, e1, rv⟩ := rh.lst em hp
      refine ⟨.inl ⟨vs, SqL.of e1, ?_⟩, rfl⟩
      cases rv <;> rfl
    · rename_i xs em
      cases e
      obtain ⟨_, vs, f, rv⟩ := rh.at_ _ _ _ em hp
      refine ⟨.inl ⟨vs, f.sq, ?_⟩, rfl⟩
      cases rv <;> rfl
    · rename_i kvs em
      cases e
      obtain ⟨_, ws, e1, rv⟩ := rh.dK em hp
      refine ⟨.inr (.inr ⟨ws, e1, ?_⟩), rfl⟩
      cases rv <;> rfl
    · cases e
/-- a value's truth, then the rest -/
theorem Post.tru {α γ : Type} {Rel : List Addr → Hp → α → γ → Prop} {Q : γ → Hp → Prop} {σ : L2.St} {β : List Addr} {H : Hp} {h : MH} {d : Dt} {v : V} {f : Bool → MH → RE α} (p : Post (rc X) W σ β H Rel Q (EP.bnd (truth d h) f)) (rh : RepH X.K X.mg β h H) (r : RepV β H d v) :
    ∃ t, TruV X.K v H t ∧ Post (rc X) W σ β H Rel Q (f t h) := by
  cases e : truth d h with
  | ok t h' =>
    obtain ⟨h1, rfl⟩ := tru_of rh r e
    rw [e] at p
    exact ⟨t, h1, p⟩
  | ex C fs h' =>
    exfalso
    cases d with
    | str x => simp only [truth] at e; split at e <;> cases e
    | loc n => simp only [truth] at e; split at e <;> cases e
    | _ => cases e
  | bad => rw [e] at p; exact p.elim
theorem se_not (ha : PE X a (tE X W (fa G))) : PE X (.UnaryOp .Not a pos) (tE X W (eNot fa G)) :=
  (pe_notT ha).imp fun σ H Q ⟨ρ, h, β, rs, rh, p⟩ => ⟨ρ, h, β, rs, rh, p.bnd fun x h1 β1 H1 v x1 rh1 rv1 p1 => by
    obtain ⟨t, h2, p2⟩ := p1.tru rh1 rv1
    exact ⟨t, h2, p2.here rh1 (.bl _)⟩⟩
theorem se_neg (ha : PE X a (tE X W (fa G))) : PE X (.UnaryOp .USub a pos) (tE X W (eNeg fa G)) :=
  (pe_un un_neg ha).imp fun σ H Q ⟨ρ, h, β, rs, rh, p⟩ => ⟨ρ, h, β, rs, rh, p.bnd fun x h1 β1 H1 v x1 rh1 rv1 p1 => by
    split at p1
    · cases rv1; exact ⟨_, rfl, p1.here rh1 (.int _)⟩
    · exact p1.elim⟩
/-! ### tests -/
variable {ft ft' : ST}
theorem st_val (ha : PE X a (tE X W (fa G))) (hp : plainT a = true) : PT X a (tT X W (tVal fa G)) :=
  (pt_truth ha (isTrue_plainT hp _)).imp fun σ H Q ⟨ρ, h, β, rs, rh, p⟩ => ⟨ρ, h, β, rs, rh, p.bnd fun x h1 β1 H1 v x1 rh1 rv1 p1 => by
    have p1' : Post (rc X) W σ β1 H1 RelE Q (bnd (truth x h1) fun t h => .ok t h) := by
      have e : bnd (truth x h1) (fun t h => RE.ok t h) = truth x h1 := by cases truth x h1 <;> rfl
      rw [e]; exact p1
    obtain ⟨t, h2, p2⟩ := p1'.tru rh1 rv1
    exact ⟨t, h2, p2.here rh1 rfl⟩⟩
theorem st_cmp {op : CmpOp} {f : Op2} (ho : OpR X (compareOp op) (rS X f)) (ha : PE X a (tE X W (fa G))) (hb : PE X b (tE X W (fb G))) (hm : behindInMarks op b = false) : PT X (.Compare a [op] [b] pos) (tT X W (tBl (eOp f fa fb) G)) :=
  (pt_cmpR ho ha hb hm).imp fun σ H Q p => r_op (r_bl p)
theorem st_chain {op op' : CmpOp} {f f' : Op2} (ho : OpR X (compareOp op) (rS X f)) (ho' : OpR X (compareOp op') (rS X f')) (ha : PE X a (tE X W (fa G))) (hb : PE X b (tE X W (fb G))) (hc : PE X c (tE X W (fc G)))
    (hm : lastMarks [op, op'] [b, c] = false) : PT X (.Compare a [op, op'] [b, c] pos) (tT X W (tBl (eChain f f' fa fb fc) G)) :=
  (pt_chain ho ho' ha hb hc hm).imp fun σ H Q p => r_chain (r_bl p)
theorem st_not (ha : PT X a (tT X W (ft G))) : PT X (.UnaryOp .Not a pos) (tT X W (tNot ft G)) :=
  (pt_not ha).imp fun σ H Q ⟨ρ, h, β, rs, rh, p⟩ => ⟨ρ, h, β, rs, rh, p.bnd fun t h1 β1 H1 t' x1 rh1 e p1 => by
    have e' : t = t' := e
    subst e'
    exact p1.here rh1 rfl⟩
theorem st_and {rest : List Expr} (ha : PT X a (tT X W (ft G))) (hb : PW X (.BoolOp .And (b :: rest) pos) (tT X W (ft' G))) : PW X (.BoolOp .And (a :: b :: rest) pos) (tT X W (tAnd ft ft' G)) :=
  (pw_and ha hb).imp fun σ H Q ⟨ρ, h, β, rs, rh, p⟩ => ⟨ρ, h, β, rs, rh, p.bnd fun t h1 β1 H1 t' x1 rh1 e p1 => by
    have e' : t = t' := e
    subst e'
    cases t with
    | true => exact iteT ⟨ρ, h1, β1, rs.ext x1, rh1, p1⟩
    | false => exact iteF (Post.here p1 rh1 rfl)⟩
theorem st_or {rest : List Expr} (ha : PT X a (tT X W (ft G))) (hb : PW X (.BoolOp .Or (b :: rest) pos) (tT X W (ft' G))) : PW X (.BoolOp .Or (a :: b :: rest) pos) (tT X W (tOr ft ft' G)) :=
  (pw_or ha hb).imp fun σ H Q ⟨ρ, h, β, rs, rh, p⟩ => ⟨ρ, h, β, rs, rh, p.bnd fun t h1 β1 H1 t' x1 rh1 e p1 => by
    have e' : t = t' := e
    subst e'
    cases t with
    | true => exact iteT (Post.here p1 rh1 rfl)
    | false => exact iteF ⟨ρ, h1, β1, rs.ext x1, rh1, p1⟩⟩
theorem se_if (hc : PT X c (tT X W (ft G))) (ha : PE X a (tE X W (fa G))) (hb : PE X b (tE X W (fb G))) : PE X (.IfExp c a b pos) (tE X W (eIf ft fa fb G)) :=
  (pe_ifExp hc ha hb).imp fun σ H Q ⟨ρ, h, β, rs, rh, p⟩ => ⟨ρ, h, β, rs, rh, p.bnd fun t h1 β1 H1 t' x1 rh1 e p1 => by
    have e' : t = t' := e
    subst e'
    cases t with
    | true => exact iteT ⟨ρ, h1, β1, rs.ext x1, rh1, p1⟩
    | false => exact iteF ⟨ρ, h1, β1, rs.ext x1, rh1, p1⟩⟩
/-! ### argument lists, displays, calls -/
variable {e : Expr} {es : List Expr} {fs : SA}
theorem sa_nil : PA X [] (tA X W (aNil G)) := pa_nil.imp fun σ H Q ⟨ρ, h, β, rs, rh, p⟩ => p.here rh .nil
theorem sa_cons (he : smp e = true) (ha : PE X e (tE X W (fa G))) (hr : PA X es (tA X W (fs G))) : PA X (e :: es) (tA X W (aCons fa fs G)) :=
  (pa_cons ha hr (star_smp he _ _)).imp fun σ H Q ⟨ρ, h, β, rs, rh, p⟩ => ⟨ρ, h, β, rs, rh, p.bnd fun x h1 β1 H1 v x1 rh1 rv1 p1 => ⟨ρ, h1, β1, rs.ext x1, rh1, p1.bnd fun xs h2 β2 H2 vs x2 rh2 rv2 p2 => p2.here rh2 (.cons (rv1.ext x2) rv2)⟩⟩
theorem se_tup {j : Nat} (ha : PA X es (tA X W (fs G))) : PE X (.Tuple es j pos) (tE X W (eTup fs G)) :=
  (pe_tup ha).imp fun σ H Q ⟨ρ, h, β, rs, rh, p⟩ => ⟨ρ, h, β, rs, rh, p.bnd fun xs h1 β1 H1 vs x1 rh1 rv1 p1 => p1.newT rh1 rv1⟩
theorem se_lst (ha : PA X es (tA X W (fs G))) : PE X (.List es pos) (tE X W (eLst fs G)) :=
  (pe_lst ha).imp fun σ H Q ⟨ρ, h, β, rs, rh, p⟩ => ⟨ρ, h, β, rs, rh, p.bnd fun xs h1 β1 H1 vs x1 rh1 rv1 p1 => p1.newL rh1 rv1⟩
theorem gl_of (o : XOk Γ G k W X) {x : Str} (hg : Γ.names.lookup x = some .globalImplicit) : Gl X x := by
  unfold Gl PySem.Env.kindOf
  rw [o.names]; exact hg
theorem se_bf {x : Str} {p : Pos} {id : String} {f : Bf} (o : XOk Γ G k W X) (hc : CallR X (.builtin id) (rB X f)) (hg : Γ.names.lookup x = some .globalImplicit) (hm : x ∈ Γ.tab.free) (hv : bootBuiltins x = some (.builtin id)) (ha : PA X (e :: es) (tA X W (fs G)))
    (hn : x ≠ "__name__") (hd : (x == ("__debug__" : Str)) = false) (hs : (e :: es).all smp = true) : PE X (.Call (.Name x p) (e :: es) [] pos) (tE X W (eBf f fs G)) := by
  simp only [List.all_cons, Bool.and_eq_true] at hs
  exact (pe_callB hc (gl_of o hg) (o.free x hm) hv ha hn hd (star_smp hs.1 _ _) (stars_none hs.2 _ _)).imp fun σ H Q ⟨ρ, h, β, rs, rh, p⟩ => ⟨ρ, h, β, rs, rh, p.bnd fun xs h1 β1 H1 vs x1 rh1 rv1 p1 => ⟨W, σ, β1, h1, xs, rh1, rv1, p1⟩⟩
theorem se_ty {x : Str} {p : Pos} {T : String} {f : Bf} (o : XOk Γ G k W X) (hc : CallR X (.type T) (rB X f)) (hg : Γ.names.lookup x = some .globalImplicit) (hm : x ∈ Γ.tab.free) (hv : bootBuiltins x = some (.type T)) (ha : PA X (e :: es) (tA X W (fs G)))
    (hn : x ≠ "__name__") (hd : (x == ("__debug__" : Str)) = false) (hs : (e :: es).all smp = true) : PE X (.Call (.Name x p) (e :: es) [] pos) (tE X W (eBf f fs G)) := by
  simp only [List.all_cons, Bool.and_eq_true] at hs
  exact (pe_callTy hc (gl_of o hg) (o.free x hm) hv ha hn hd (star_smp hs.1 _ _) (stars_none hs.2 _ _)).imp fun σ H Q ⟨ρ, h, β, rs, rh, p⟩ => ⟨ρ, h, β, rs, rh, p.bnd fun xs h1 β1 H1 vs x1 rh1 rv1 p1 => ⟨W, σ, β1, h1, xs, rh1, rv1, p1⟩⟩
/-- isinstance(e, T), T a built-in type -/
theorem se_isi {x y : Str} {p p2 : Pos} {T : String} (o : XOk Γ G k W X) (hx : x = "isinstance") (hg : Γ.names.lookup x = some .globalImplicit) (hm : x ∈ Γ.tab.free) (hg2 : Γ.names.lookup y = some .globalImplicit) (hm2 : y ∈ Γ.tab.free)
    (hv : bootBuiltins y = some (.type T)) (hn : y ≠ "__name__") (hd : (y == ("__debug__" : Str)) = false) (he : smp e = true) (ha : PE X e (tE X W (fa G))) : PE X (.Call (.Name x p) [e, .Name y p2] [] pos) (tE X W (eBf (bIsi T) (aCons fa aNil) G)) := by
  subst hx
  refine (pe_callB call_isi (gl_of o hg) (o.free _ hm) boot_isinstance (pa_cons ha (pa_cons (pe_bltn (v := .ty T) (gl_of o hg2) (o.free _ hm2) hv rfl hn hd) pa_nil (by rfl)) (star_smp he _ _)) (by decide) (by decide) (star_smp he _ _) (by rfl)).imp ?_
  intro σ H Q ⟨ρ, h, β, rs, rh, p⟩
  have p' : Post (rc X) W σ β H RepV Q (EP.bnd (fa G ρ h) fun x h1 => bIsi T [x] h1) := by
    have e : eBf (bIsi T) (aCons fa aNil) G ρ h = EP.bnd (fa G ρ h) fun x h1 => bIsi T [x] h1 := by
      unfold eBf aCons aNil EP.bnd
      cases fa G ρ h <;> rfl
    rw [← e]; exact p
  refine ⟨ρ, h, β, rs, rh, p'.bnd fun x h1 β1 H1 v x1 rh1 rv1 p1 => ?_⟩
  show rIsi X.K [v, .ty T] H1 Q
  unfold bIsi at p1
  simp only at p1
  split at p1
  · rename_i t et
    obtain ⟨u, e1, e2⟩ := Option.bind_eq_some_iff.mp et
    exact ⟨v, .ty T, .type u, .type T, t, rfl, .ty T, ty_at rh1 rv1 e1, kit_ty e2, p1.here rh1 (.bl _)⟩
  · exact p1.elim
theorem se_call {x : Str} {p : Pos} {n ar : Nat} (o : XOk Γ G k W X) (hg : Γ.names.lookup x = some .globalImplicit) (hf : Γ.tab.fns.lookup x = some (n, ar)) (ha : PA X (e :: es) (tA X W (fs G))) (hl : ∀ ρ h xs h', fs G ρ h = .ok xs h' → xs.length = ar)
    (hd : (x == ("__debug__" : Str)) = false) (hs : (e :: es).all smp = true) : PE X (.Call (.Name x p) (e :: es) [] pos) (tE X W (eCall n fs G)) := by
  simp only [List.all_cons, Bool.and_eq_true] at hs
  obtain ⟨f, fd, ps, hm, hk, hb, F⟩ := (o.fns x n ar hf).ex
  refine (pe_callS F (o.room.mono (Nat.le_succ k)) (gl_of o hg) hm hk hb (fun σ => passAt o.tk σ) ha hd (star_smp hs.1 _ _) (stars_none hs.2 _ _)).imp fun σ H Q ⟨ρ, h, β, rs, rh, p⟩ => ?_
  refine ⟨ρ, h, β, rs, rh, p.bndE fun xs h1 β1 H1 vs e1 x1 rh1 rv1 p1 => ⟨xs, h1, β1, hl _ _ _ _ e1, rv1, rh1, ?_⟩⟩
  revert p1
  cases G n xs h1 with
  | ok d h2 => exact id
  | ex C fs h2 => exact id
  | bad => exact id

/-! ### subscripts, slices, methods -/
theorem se_get (o : XOk Γ G k W X) (ha : PE X a (tE X W (fa G))) (hb : PE X b (tE X W (fb G))) (hs : smp b = true) : PE X (.Subscript a b pos) (tE X W (eOp oGet fa fb G)) :=
  (pe_ix (ix_get o.u1) ha hb (plainIx_smp hs)).imp fun σ H Q => r_op
variable {lo hi : Option Expr} {fl fh : SO} {p2 : Pos}
theorem so_no : PO X none (tO X W (oNo G)) := po_none.imp fun σ H Q ⟨ρ, h, β, rs, rh, p⟩ => Post.here p rh rfl
theorem so_some (ha : PE X a (tE X W (fa G))) : PO X (some a) (tO X W (oSome fa G)) :=
  (po_some ha).imp fun σ H Q ⟨ρ, h, β, rs, rh, p⟩ => ⟨ρ, h, β, rs, rh, p.bnd fun x h1 β1 H1 v x1 rh1 rv1 p1 => by
    split at p1
    · cases rv1; exact ⟨_, rfl, Post.here p1 rh1 rfl⟩
    · exact p1.elim⟩
theorem se_cut (ha : PE X a (tE X W (fa G))) (hl : PO X lo (tO X W (fl G))) (hh : PO X hi (tO X W (fh G))) : PE X (.Subscript a (.Slice lo hi none p2) pos) (tE X W (eCut fa fl fh G)) :=
  (pe_slice sl_cut ha hl hh).imp fun σ H Q ⟨ρ, h, β, rs, rh, p⟩ => ⟨ρ, h, β, rs, rh, p.bnd fun x h1 β1 H1 v x1 rh1 rv1 p1 => ⟨ρ, h1, β1, rs.ext x1, rh1, p1.bnd fun l h2 β2 H2 l' x2 rh2 e2 p2 => by
    have e2' : l = l' := e2
    subst e2'
    exact ⟨ρ, h2, β2, (rs.ext x1).ext x2, rh2, p2.bnd fun u h3 β3 H3 u' x3 rh3 e3 p3 => by
      have e3' : u = u' := e3
      subst e3'
      exact ⟨W, σ, β3, h3, x, rh3, (rv1.ext x2).ext x3, p3⟩⟩⟩⟩
theorem isLst_ty {β : List Addr} {h : MH} {H : Hp} {d : Dt} {v : V} (rh : RepH X.K X.mg β h H) (r : RepV β H d v) (e : isLst h d = true) : tyV X.K "list" v H := by
  cases r with
  | @loc n p hp =>
    obtain ⟨xs, ex⟩ := Option.isSome_iff_exists.mp (show (getL h n).isSome = true from e)
    obtain ⟨q, vs, bq, sq, _⟩ := rh.list ex
    rw [hp] at bq; cases bq
    exact .inl ⟨rfl, vs, sq⟩
  | _ => cases e
theorem se_mf {id : String} {f : Mf} {name : Str} {apos cpos : Pos} (slot : Slot "list" name id) (hty : typeOf (.builtin id) = pure (.type "method_descriptor")) (hm : MtR X id (rM X f)) (ha : PE X a (tE X W (fa G))) (hr : PA X (e :: es) (tA X W (fs G)))
    (hn : ∀ x p q, a ≠ .Call (.Name x p) [] [] q) (hline : (apos.endLine == cpos.line) = true) (hs : (e :: es).all smp = true) (hl : (e :: es).length < 20) : PE X (.Call (.Attribute a name apos) (e :: es) [] cpos) (tE X W (eMf f fa fs G)) := by
  have hs' := hs
  simp only [List.all_cons, Bool.and_eq_true] at hs
  have hb : attributeBase a name X.env (eval a X.env) = eval a X.env := by
    unfold attributeBase
    split
    · rename_i id' q pos' ; exact absurd rfl (hn _ _ _)
    · rfl
  refine (pe_bm PySem.F.plainAttrs_list slot hty hm ha hr hb ?_ hline (star_smp hs.1 _ _) (stars_none hs.2 _ _)).imp ?_
  · have h1 : ((backTo cpos (starEach (e :: es) X.env)).all fun x => !x.1) = true := by
      have := stars_none hs' cpos X.env
      rw [List.any_eq_false] at this
      rw [List.all_eq_true]
      intro x hx
      have := this x hx
      simpa using this
    rw [h1]
    simp only [Bool.true_and, Bool.and_eq_true, decide_eq_true_eq]
    exact ⟨rfl, by simpa using Nat.lt_of_lt_of_le hl (by decide)⟩
  · intro σ H Q ⟨ρ, h, β, rs, rh, p⟩
    refine ⟨ρ, h, β, rs, rh, p.bnd fun x h1 β1 H1 v x1 rh1 rv1 p1 => ?_⟩
    split at p1
    · rename_i hx
      exact ⟨isLst_ty rh1 rv1 hx, ρ, h1, β1, rs.ext x1, rh1, p1.bnd fun xs h2 β2 H2 vs x2 rh2 rv2 p2 => ⟨W, σ, β2, h2, x, xs, rh2, rv1.ext x2, rv2, p2⟩⟩
    · exact p1.elim
theorem se_mf0 {id : String} {f : Mf} {name : Str} {apos cpos : Pos} (slot : Slot "list" name id) (hty : typeOf (.builtin id) = pure (.type "method_descriptor")) (hm : MtR X id (rM X f)) (ha : PE X a (tE X W (fa G)))
    (hn : ∀ x p q, a ≠ .Call (.Name x p) [] [] q) (hline : (apos.endLine == cpos.line) = true) : PE X (.Call (.Attribute a name apos) [] [] cpos) (tE X W (eMf f fa aNil G)) := by
  have hb : attributeBase a name X.env (eval a X.env) = eval a X.env := by
    unfold attributeBase
    split
    · rename_i id' q pos' ; exact absurd rfl (hn _ _ _)
    · rfl
  refine (pe_bm0 PySem.F.plainAttrs_list slot hty hm ha hb hline).imp ?_
  intro σ H Q ⟨ρ, h, β, rs, rh, p⟩
  refine ⟨ρ, h, β, rs, rh, p.bnd fun x h1 β1 H1 v x1 rh1 rv1 p1 => ?_⟩
  split at p1
  · rename_i hx
    exact ⟨isLst_ty rh1 rv1 hx, W, σ, β1, h1, x, [], rh1, rv1, .nil, p1⟩
  · exact p1.elim
/-! ### ranges made -/
theorem rg_rep {β : List Addr} {H : Hp} (i j : Int) : RepVs β H (rgD i j) (rgV i j) := by
  have e1 : rgD i j = ((List.range (j - i).toNat).map fun k => i + ((k : Nat) : Int)).map Dt.int := by unfold rgD; rw [List.map_map]; rfl
  have e2 : rgV i j = ((List.range (j - i).toNat).map fun k => i + ((k : Nat) : Int)).map V.int := by unfold rgV; rw [List.map_map]; rfl
  rw [e1, e2]
  exact RepVs.ints _
theorem rgD_length (i j : Int) : (rgD i j).length = (j - i).toNat := by unfold rgD; simp
theorem rg_ok {i j : Int} (h : rgOk i j = true) : RgOk i j ∧ (rgD i j).length ≤ sizeLine := by
  unfold rgOk at h
  simp only [decide_eq_true_eq] at h
  rw [lim62_eq] at h
  obtain ⟨h1, h2, h3, h4, h5⟩ := h
  refine ⟨⟨h1, h2, h3, h4, h5⟩, ?_⟩
  rw [rgD_length, sizeLine_eq]
  exact h5
def RgRel : List Addr → Hp → Int × Int → Int × Int → Prop := fun _ _ a c => a = c
def tR (X : Cx) (W : WX) (g : Env → M (Int × Int)) : L2.St → Hp → (Int → Int → Hp → Prop) → Prop := fun σ H Q => tG X W RgRel g σ H fun c H' => Q c.1 c.2 H'
structure PRG (X : Cx) (W : WX) (e : Expr) (g : Env → M (Int × Int)) : Prop where
  ex : ∃ t, PRg X e t ∧ ∀ σ H Q, tR X W g σ H Q → t σ H Q
theorem sr_1 {p : Pos} (o : XOk Γ G k W X) (hg : Γ.names.lookup ("range" : Str) = some .globalImplicit) (hm : ("range" : Str) ∈ Γ.tab.free) (ha : PE X a (tE X W (fa G))) (hs : smp a = true) : PRG X W (.Call (.Name "range" p) [a] [] pos) (rg1 fa G) :=
  ⟨_, prg_1 (gl_of o hg) (o.free _ hm) ha (star_smp hs _ _), fun σ H Q ⟨ρ, h, β, rs, rh, p⟩ => ⟨ρ, h, β, rs, rh, p.bnd fun x h1 β1 H1 v x1 rh1 rv1 p1 => by
    split at p1
    · cases rv1; exact ⟨_, rfl, p1 β1 H1 _ (Ext.refl _ _) rh1 rfl⟩
    · exact p1.elim⟩⟩
theorem sr_2 {p : Pos} (o : XOk Γ G k W X) (hg : Γ.names.lookup ("range" : Str) = some .globalImplicit) (hm : ("range" : Str) ∈ Γ.tab.free) (ha : PE X a (tE X W (fa G))) (hb : PE X b (tE X W (fb G))) (hs : smp a = true) (hs2 : smp b = true) : PRG X W (.Call (.Name "range" p) [a, b] [] pos) (rg2 fa fb G) :=
  ⟨_, prg_2 (gl_of o hg) (o.free _ hm) ha hb (star_smp hs _ _) (star_smp hs2 _ _) (stars_none (by simp [hs2]) _ _), fun σ H Q ⟨ρ, h, β, rs, rh, p⟩ => ⟨ρ, h, β, rs, rh, p.bnd fun x h1 β1 H1 v x1 rh1 rv1 p1 => ⟨ρ, h1, β1, rs.ext x1, rh1, p1.bnd fun y h2 β2 H2 w x2 rh2 rv2 p2 => by
    split at p2
    · cases rv1; cases rv2; exact ⟨_, _, rfl, rfl, p2 β2 H2 _ (Ext.refl _ _) rh2 rfl⟩
    · exact p2.elim⟩⟩⟩
theorem se_lrg {e : Expr} {g : SR} {p : Pos} (o : XOk Γ G k W X) (hg : Γ.names.lookup ("list" : Str) = some .globalImplicit) (hm : ("list" : Str) ∈ Γ.tab.free) (he : PRG X W e (g G)) (hs : smp e = true) : PE X (.Call (.Name "list" p) [e] [] pos) (tE X W (eLRg g G)) := by
  obtain ⟨t, h1, h2⟩ := he.ex
  refine (pe_listRg o.calm (gl_of o hg) (o.free _ hm) h1 (star_smp hs _ _)).imp fun σ H Q ⟨ρ, h, β, rs, rh, p⟩ => h2 _ _ _ ⟨ρ, h, β, rs, rh, p.bnd fun x h1 β1 H1 v x1 rh1 e1 p1 => ?_⟩
  have e1' : x = v := e1
  subst e1'
  split at p1
  · rename_i hk
    obtain ⟨k1, k2⟩ := rg_ok hk
    exact ⟨k1, p1.alloc rh1 (rg_rep _ _) k2⟩
  · exact p1.elim
theorem se_trg {e : Expr} {g : SR} {p : Pos} (o : XOk Γ G k W X) (hg : Γ.names.lookup ("tuple" : Str) = some .globalImplicit) (hm : ("tuple" : Str) ∈ Γ.tab.free) (he : PRG X W e (g G)) (hs : smp e = true) : PE X (.Call (.Name "tuple" p) [e] [] pos) (tE X W (eTRg g G)) := by
  obtain ⟨t, h1, h2⟩ := he.ex
  refine (pe_tupRg o.calm (gl_of o hg) (o.free _ hm) h1 (star_smp hs _ _)).imp fun σ H Q ⟨ρ, h, β, rs, rh, p⟩ => h2 _ _ _ ⟨ρ, h, β, rs, rh, p.bnd fun x h1 β1 H1 v x1 rh1 e1 p1 => ?_⟩
  have e1' : x = v := e1
  subst e1'
  split at p1
  · rename_i hk
    obtain ⟨k1, k2⟩ := rg_ok hk
    exact ⟨k1, fun q hq => p1 β1 _ _ (Ext.fresh hq) (rh1.fresh hq) (.tup upd_same k2 (rg_rep _ _))⟩
  · exact p1.elim
theorem se_dict0 (t : Bool) : PE X (.Dict [] [] pos) (tE X W (eDict0 t G)) := by
  cases t with
  | true =>
    refine pe_dnewT.imp fun σ H Q ⟨ρ, h, β, rs, rh, p⟩ => fun q hq => ?_
    refine p (β ++ [q]) _ _ (Ext.alloc hq) (rh.alloc hq ⟨Nat.zero_le _, [], upd_same, .nil⟩) (.loc ?_)
    rw [← rh.len]; simp
  | false =>
    refine pe_dnewK.imp fun σ H Q ⟨ρ, h, β, rs, rh, p⟩ => fun q hq => ?_
    refine p (β ++ [q]) _ _ (Ext.alloc hq) (rh.alloc hq ⟨Nat.zero_le _, [], upd_same, .nil⟩) (.loc ?_)
    rw [← rh.len]; simp
end
end EP
end
section
set_option maxRecDepth 100000
set_option maxHeartbeats 2000000
/-! EnumT: enumerate of a tuple. -/
namespace EP
open PySem PySem.Spec PyProof.Rows L2
open AutoSeq1 (wpAny_loadPart')
/-- enumerate(v), v told by how its iterator begins -/
theorem meets_enum1 {v : Value} {o : Obj} {H : Heap → Prop} (B : Begins v o H) :
    Meets (Builtin.«enumerate.__new__» ⟨[.type "enumerate", v], []⟩) (fun _ R s => H s.heap ∧
      R (.ok (.ret (.ref (s.heap.push o).objs.size))) { s with heap := (s.heap.push o).push { cls := .type "enumerate", data := .fields #[.none, .bool false, .ref s.heap.objs.size, rawInt 0, .none, .none] } }) :=
  .of_wp fun prog w A R s h => by
    obtain ⟨hp, g, d, tk, os⟩ := s; obtain ⟨h1, h⟩ := h
    have hsub := sub_enumerate
    have q1 : ∀ {A' : Around} {E : Value → Shared → Prop} {Q : Value → Shared → Prop}, Q (.ref hp.objs.size) ⟨hp.push o, g, d, tk, os⟩ → wpAny (model prog w) A' (pyIter v) Q E ⟨hp, g, d, tk, os⟩ :=
      fun q => B.iter prog w _ _ ⟨hp, g, d, tk, os⟩ _ h1 q
    wp_walk using q1
    refine wpAny_stack_any fun st => wpAny_pure ?_
    split
    · rename_i c _ _ _ _ _
      cases (c == Value.type "enumerate")
      · wp_walk using q1
        exact ⟨_, rfl, h⟩
      · wp_walk using q1
        exact ⟨_, rfl, h⟩
    · wp_walk using q1
      exact ⟨_, rfl, h⟩
section
variable {prog : Program} {w : World} {A : Around} {E : Value → Shared → Prop} {s : Shared}
theorem call_enum1 {v : Value} {o : Obj} {H : Heap → Prop} {Q : Value → Shared → Prop} (B : Begins v o H) (h1 : H s.heap)
    (h : ∀ h', IsEnum h' (s.heap.objs.size + 1) s.heap.objs.size 0 .none → h'.get? s.heap.objs.size = some o → h'.objs.size = s.heap.objs.size + 2 →
      (∀ b o, s.heap.get? b = some o → h'.get? b = some o) → Q (.ref (s.heap.objs.size + 1)) { s with heap := h' }) :
    wpAny (model prog w) A (call (.type "enumerate") [v]) Q E s := by
  refine callType_new F.called_enumerate (by decide) (F.typeCall_enumerate_1 _) (F.newCall_enumerate_1 _) (fun obj => F.args_object_init_2 obj _) F.entry_enumerate_new
    (meets_enum1 B) ⟨h1, ?_⟩
  have hz : (s.heap.push o).objs.size = s.heap.objs.size + 1 := Heap.size_push ..
  show _ ∧ _
  rw [hz]
  have he : IsEnum ((s.heap.push o).push { cls := .type "enumerate", data := .fields #[.none, .bool false, .ref s.heap.objs.size, rawInt 0, .none, .none] }) (s.heap.objs.size + 1) s.heap.objs.size 0 .none := by
    have := Heap.get?_push_size (s.heap.push o) (o := { cls := .type "enumerate", data := .fields #[.none, .bool false, .ref s.heap.objs.size, rawInt 0, .none, .none] }) rfl
    rw [hz] at this; exact this
  refine ⟨⟨_, he, rfl⟩, h _ he (Heap.get?_push_of_some _ (Heap.get?_push_size _ B.free)) (by rw [Heap.size_push, hz]) fun b o x => Heap.get?_push_of_some _ (Heap.get?_push_of_some _ x)⟩
theorem enumT_end {e it l : Addr} {i : Nat} {items : Array Value} {old : Value} {Q : Option Value → Shared → Prop} (hh : A.handled = none)
    (he : IsEnum s.heap e it i old) (hit : s.heap.IsTupleIter it l i) (hl : s.heap.IsTuple l items) (hx : items[i]? = none)
    (hQ : ∀ h', Heap.ExtBut it s.heap h' → Q none { s with heap := h' }) : wpAny (model prog w) A (pyNext (.ref e)) Q E s := by
  have hT : s.TypeIs (.ref e) "enumerate" := ⟨_, he, rfl⟩
  unfold pyNext
  refine wpAny_bind (wpAny_attempt (wpAny_callSpecial?_slot (name := Str.ofString "__next__") hT F.slot_enumerate_next
    (wpAny_call_entry F.slot_enumerate_next hT F.entry_enumerate_next ?_ (F.args_enumerate_next_1 _))))
  show wpAny _ _ (field (.ref e) 2 >>= _) _ _ _
  refine wpAny_bind (wpAny_field he rfl (x := .ref it) rfl ?_)
  refine wpAny_bind (wpAny_nextOf_tuple_end hh hit hl hx fun h' x he' hx' => ?_)
  obtain ⟨o, ho, hc⟩ := hx'
  refine wpAny_bind (wpAny_isInstance (T := "StopIteration") (b := true) ⟨o, ho, hc⟩ isSubtype_stop ?_)
  exact wpAny_pure (hQ _ he')
end
/-- the tuple at a, its items in new pairs -/
def IteT (K : PySem.W.Frag) (a : Addr) : It :=
  ⟨fun i H => ∃ (xs : List V) (x : V), SqT K H a xs ∧ xs[i]? = some x, fun i H v H' => ∃ T x, v = .ref T ∧ H T = none ∧ H' = upd H T (.tup [.int (i : Nat), x]) ∧ ∀ xs, SqT K H a xs → xs[i]? = some x, fun i H => ∃ xs : List V, SqT K H a xs ∧ xs.length ≤ i⟩
theorem turn_enumT {P : Program} {w : World} {K : PySem.W.Frag} {elts : List Expr} {kk : Nat} {tpos : Pos} (a e it : Addr) :
    Turn P w K (.Tuple elts kk tpos) (IteT K a) [e, it] e (fun i h => (∃ old, IsEnum h e it ((i : Nat) : Int) old) ∧ h.IsTupleIter it a i ∧ e ≠ it) where
  mem := by simp
  obj := fun i h st b hb => by
    obtain ⟨⟨old, he⟩, ⟨o, ho, hc, hd⟩, _⟩ := st
    have e' : b = e ∨ b = it := by simpa using hb
    rcases e' with z | z
    · rw [z]; exact ⟨_, he, fun v q => nomatch q⟩
    · rw [z]; exact ⟨o, ho, fun v q => by rw [hd] at q; cases q⟩
  keep := fun i h h' st k => let ⟨⟨old, he⟩, hi, hne⟩ := st; ⟨⟨old, k e (by simp) _ he⟩, hi.at fun o q => k it (by simp) o q, hne⟩
  item := by
    intro X hP hw hK hc i pins s σ H E I hf st hg
    subst hP hw hK
    obtain ⟨⟨old, he⟩, hit, hne⟩ := st
    obtain ⟨xs, x, hq, hx⟩ := hg
    obtain ⟨its, rv, p, hz⟩ := I.tuple hq
    obtain ⟨u, hu, ru⟩ := rv.get hx
    have hel : e < s.heap.objs.size := Heap.lt_size he
    have hil : it < s.heap.objs.size := by obtain ⟨_, q, _⟩ := hit; exact Heap.lt_size q
    have nit : ∀ {b : Addr} {ob : Obj}, s.heap.get? b = some ob → ob.cls = .type "tuple" → b ≠ it ∧ b ≠ e := fun {b ob} e1 e2 => by
      obtain ⟨oi, ei, ci, _⟩ := hit
      refine ⟨fun z => ?_, fun z => ?_⟩
      · rw [z, ei] at e1; cases e1; rw [ci] at e2; exact absurd (Value.type.inj e2) (by decide)
      · rw [z, he] at e1; cases e1; exact absurd (Value.type.inj e2) (by decide)
    obtain ⟨ot, et, ct, _⟩ := id p
    obtain ⟨ht1, ht2⟩ := nit et ct
    have D := Draws.tuple (prog := X.prog) (w := X.w) (A := X.A.in1) (show X.A.in1.handled = none from I.ok.hd hc) it a ht1 its.toArray
    have hlt : i < its.toArray.size := by
      have := (List.getElem?_eq_some_iff.mp hu).1
      simpa using this
    refine wpAny_pyNext_enum_itemD D he ⟨hit, p⟩ hlt hne (by simp [hne, Ne.symm ht2]) fun x' h' tk hx' ho hst' hT hsz hk => ?_
    obtain ⟨hit', _⟩ := hst'
    have ex : x' = u := by
      have hx2 : its.toArray[i]? = some x' := hx'
      rw [List.getElem?_toArray, hu] at hx2
      exact (Option.some.inj hx2).symm
    subst ex
    refine ⟨_, rfl, wpAny_letOwnedTupleGo_enum (s := { s with heap := h', toks := tk + 1 }) ho fun h'' he' sb => ?_⟩
    have hT2 : h''.get? s.heap.objs.size = some { cls := .type "tuple", data := .seq #[.int i tk, x'] } := (sb.2 _ (Nat.ne_of_gt hel)).trans hT
    have new : ObjOk X.prog X.w (upd H s.heap.objs.size (.tup [.int (i : Nat), x])) h'' s.heap.objs.size (.tup [.int (i : Nat), x]) :=
      ⟨by show 2 ≤ sizeLine; decide, [.int i tk, x'], .cons ⟨_, rfl⟩ (.cons ru .nil), ⟨_, hT2, rfl, _, rfl⟩⟩
    have I1 : Inv X pins σ (upd H s.heap.objs.size (.tup [.int (i : Nat), x])) { s with heap := h'', toks := tk + 1 } :=
      I.turnedNew (ch := [e, it]) (fun b ob hb q => (sb.2 b (fun z => hb (by simp [z]))).trans (hk b ob (fun z => hb (by simp [z])) (fun z => hb (by simp [z])) q)) hf (Nat.le_refl _) new
    refine ⟨.ref s.heap.objs.size, _, I1, rfl, ⟨_, x, rfl, I.hok.fresh (Nat.le_refl _), rfl, fun ys hy => by rw [I.tuple_inj hy hq]; exact hx⟩, ⟨⟨x', ?_⟩, hit'.at fun o q => (sb.2 it (Ne.symm hne)).trans q, hne⟩, fun b hb => ?_⟩
    · have e1 : ((i + 1 : Nat) : Int) = (i : Int) + 1 := by omega
      rw [e1]; exact he'
    · have hb' : b < s.heap.objs.size := by
        have e' : b = e ∨ b = it := by simpa using hb
        rcases e' with z | z
        · rw [z]; exact hel
        · rw [z]; exact hil
      rw [upd_ne (Nat.ne_of_lt hb')]
      exact (hf b hb).1
  done := by
    intro X hP hw hK hc i pins s σ H E I hf st hg
    subst hP hw hK
    obtain ⟨⟨old, he⟩, hit, hne⟩ := st
    obtain ⟨xs, hq, hx⟩ := hg
    obtain ⟨its, rv, p, hz⟩ := I.tuple hq
    obtain ⟨f0, f1, f2, f3, f4, f5⟩ := hf it (by simp)
    have hl := rv.length
    obtain ⟨ot, et, ct, _⟩ := id p
    have ht1 : a ≠ it := fun z => by
      obtain ⟨oi, ei, ci, _⟩ := hit
      rw [z, ei] at et; cases et; rw [ci] at ct; exact absurd (Value.type.inj ct) (by decide)
    refine enumT_end (I.ok.hd hc) he hit p (by simp; omega) fun h' eb => ⟨rfl, I.turned (t' := s.toks) (fun b o hb q => eb b o hb q) f0 f1 f3 f4 f5⟩
  self := fun A i s Q E st h => let ⟨⟨_, he⟩, _⟩ := st; wpAny_pyIter_enum he h
/-- enumerate(e), e a list or a tuple -/
def iEnumA (K : PySem.W.Frag) (ta : TA) : TI := fun σ H R => ta σ H fun vs H1 => ∃ a xs, vs = [.ref a] ∧ ((SqL K H1 a xs ∧ R (Ite K a) H1) ∨ (SqT K H1 a xs ∧ R (IteT K a) H1))
theorem pi_enumA {X : Cx} {e : Expr} {ta : TA} {p pos tpos : Pos} {elts : List Expr} {kk : Nat} (hg : Gl X "enumerate") (hm : X.mg "enumerate" = none) (ha : PA X [e] ta) (hs : starEach [e] X.env = [(false, eval e X.env)]) :
    PI X (.Tuple elts kk tpos) (.Call (.Name "enumerate" p) [e] [] pos) (iEnumA X.K ta) := by
  refine ⟨fun pins s σ H R I h => ?_⟩
  refine Call_ (ld_blt I hg hm boot_enumerate (PyProof.Rows.callWith_type1 (thn (ha.run pos pins s σ H _ I h) fun us s1 ⟨vs, H1, I1, r1, q1⟩ => ?_) hs rfl))
  obtain ⟨a, xs, ex, q⟩ := q1
  subst ex
  have fp : ∀ b ∈ [s1.heap.objs.size + 1, s1.heap.objs.size], FpOk X pins H1 b := fun b hb => by
    have e' : b = s1.heap.objs.size + 1 ∨ b = s1.heap.objs.size := by simpa using hb
    have hle : s1.heap.objs.size ≤ b := by
      rcases e' with z | z
      · rw [z]; exact Nat.le_add_right _ _
      · rw [z]; exact Nat.le_refl _
    exact I1.fpOk hle (I1.hok.fresh hle)
  cases r1 with
  | cons r rr =>
    cases rr
    cases r
    rcases q with ⟨hq, q⟩ | ⟨hq, q⟩
    · obtain ⟨its, rv, p', hz⟩ := I1.list hq
      refine call_enumerate_list p'.isList fun h' he hit hsz hk => wpAny_pyIter_enum he ?_
      have I2 : Inv X pins σ H1 { s1 with heap := h' } := I1.kept (t' := s1.toks) hk
      exact ⟨s1.heap.objs.size + 1, [s1.heap.objs.size + 1, s1.heap.objs.size], _, _, H1, rfl, I2, turn_enum a (s1.heap.objs.size + 1) s1.heap.objs.size, ⟨⟨.none, he⟩, hit, Nat.succ_ne_self _⟩, fp, q⟩
    · obtain ⟨its, rv, p', hz⟩ := I1.tuple hq
      refine call_enum1 (begins_tuple a its.toArray) (show s1.heap.IsTuple a its.toArray from p') fun h' he hit hsz hk => wpAny_pyIter_enum he ?_
      have I2 : Inv X pins σ H1 { s1 with heap := h' } := I1.kept (t' := s1.toks) hk
      exact ⟨s1.heap.objs.size + 1, [s1.heap.objs.size + 1, s1.heap.objs.size], _, _, H1, rfl, I2, turn_enumT a (s1.heap.objs.size + 1) s1.heap.objs.size, ⟨⟨.none, he⟩, ⟨_, hit, rfl, rfl⟩, Nat.succ_ne_self _⟩, fp, q⟩
/-- e, a list or a tuple -/
def iSeqA (K : PySem.W.Frag) (tl : TE) : TI := fun σ H R => tl σ H fun x H1 => ∃ a xs, x = .ref a ∧ ((SqL K H1 a xs ∧ R (Itl K a) H1) ∨ (SqT K H1 a xs ∧ R (Itt K a) H1))
theorem pi_seqA {X : Cx} {tg l : Expr} {tl : TE} (hl : PE X l tl) : PI X tg l (iSeqA X.K tl) := by
  refine ⟨fun pins s σ H R I h => ?_⟩
  refine thn (hl.run pins s σ H _ I h) fun v s1 ⟨x, H1, I1, r1, q1⟩ => ?_
  obtain ⟨a, xs, e, q⟩ := q1
  subst e
  cases r1
  have fp : ∀ b ∈ [s1.heap.objs.size], FpOk X pins H1 b := fun b hb => by
    have e : b = s1.heap.objs.size := by simpa using hb
    subst e
    exact I1.fpOk (Nat.le_refl _) (I1.hok.fresh (Nat.le_refl _))
  rcases q with ⟨hq, q⟩ | ⟨hq, q⟩
  · obtain ⟨its, rv, p, hz⟩ := I1.list hq
    refine wpAny_pyIter_list p.isList ?_
    exact ⟨s1.heap.objs.size, [s1.heap.objs.size], _, _, H1, rfl, I1.kept (t' := s1.toks) fun b o e => Heap.get?_push_of_some _ e, turn_list a _, ⟨_, Heap.get?_push_size _ rfl, rfl, rfl⟩, fp, q⟩
  · obtain ⟨its, rv, p, hz⟩ := I1.tuple hq
    refine wpAny_pyIter_tuple (show s1.heap.IsTuple a its.toArray from p) ?_
    exact ⟨s1.heap.objs.size, [s1.heap.objs.size], _, _, H1, rfl, I1.kept (t' := s1.toks) fun b o e => Heap.get?_push_of_some _ e, turn_tuple a _, ⟨_, Heap.get?_push_size _ rfl, rfl, rfl⟩, fp, q⟩
end EP
end
section
set_option maxHeartbeats 1000000
/-! Snd5: targets, walks. -/
namespace EP
open PySem PySem.Spec PyProof.Rows L2

/-! ### targets -/
mutual
def gP (K : PySem.W.Frag) : TP → TG
  | .nm i => gName i
  | .tp ps => gTup K ps.length (gPs K ps)
def gPs (K : PySem.W.Frag) : List TP → TGs
  | [] => gNil
  | p :: ps => gCons (gP K p) (gPs K ps)
end
mutual
def TP.slots : TP → List Nat
  | .nm i => [i]
  | .tp ps => slotsL ps
def slotsL : List TP → List Nat
  | [] => []
  | p :: ps => p.slots ++ slotsL ps
end
theorem wipe_get (σ : L2.St) (j : Nat) : ∀ vs : List Nat, (wipe σ vs)[j]? = if j ∈ vs then σ[j]?.map (fun _ => none) else σ[j]?
  | [] => by simp [wipe]
  | v :: vs => by
    simp only [wipe]
    by_cases h : v = j
    · subst h
      rw [List.getElem?_set]
      simp only [if_pos]
      have hl : (wipe σ vs).length = σ.length := wipe_length σ vs
      by_cases hv : v < σ.length
      · rw [if_pos (by rw [hl]; exact hv)]
        simp [hv]
      · rw [if_neg (by rw [hl]; exact hv)]
        simp [hv]
    · rw [List.getElem?_set_ne h, wipe_get σ j vs]
      simp [h, Ne.symm h]
theorem wipeE_get (ρ : Env) (j : Nat) : ∀ vs : List Nat, (wipeE ρ vs)[j]? = if j ∈ vs then ρ[j]?.map (fun _ => none) else ρ[j]?
  | [] => by simp [wipeE]
  | v :: vs => by
    have hl : ∀ vs : List Nat, (wipeE ρ vs).length = ρ.length := by
      intro vs
      induction vs with
      | nil => rfl
      | cons v vs ih => simp [wipeE, ih]
    simp only [wipeE]
    by_cases h : v = j
    · subst h
      rw [List.getElem?_set]
      simp only [if_pos]
      by_cases hv : v < ρ.length
      · rw [if_pos (by rw [hl]; exact hv)]
        simp [hv]
      · rw [if_neg (by rw [hl]; exact hv)]
        simp [hv]
    · rw [List.getElem?_set_ne h, wipeE_get ρ j vs]
      simp [h, Ne.symm h]
theorem wipe_set {σ : L2.St} {i : Nat} {x : Option V} {vs : List Nat} (h : i ∈ vs) : wipe (σ.set i x) vs = wipe σ vs := by
  refine List.ext_getElem? fun j => ?_
  rw [wipe_get, wipe_get]
  by_cases hj : j ∈ vs
  · rw [if_pos hj, if_pos hj, List.getElem?_set]
    by_cases e : i = j
    · subst e
      rw [if_pos rfl]
      by_cases hl : i < σ.length
      · simp [hl]
      · simp [hl]
    · rw [if_neg e]
  · rw [if_neg hj, if_neg hj, List.getElem?_set_ne (fun e => hj (by rw [← e]; exact h))]
theorem RepS.wipe {β : List Addr} {H : Hp} {ρ : Env} {σ : L2.St} (r : RepS β H ρ σ) (vs : List Nat) : RepS β H (wipeE ρ vs) (L2.wipe σ vs) := by
  refine ⟨?_, fun i d e => ?_⟩
  · rw [wipe_length]
    have hl : ∀ vs : List Nat, (wipeE ρ vs).length = ρ.length := by
      intro vs
      induction vs with
      | nil => rfl
      | cons v vs ih => simp [wipeE, ih]
    rw [hl, r.len]
  · rw [wipeE_get] at e
    rw [wipe_get]
    split at e
    · cases h : ρ[i]? with
      | none => rw [h] at e; cases e
      | some o => rw [h] at e; cases e
    · rename_i hn
      rw [if_neg hn]
      exact r.at_ i d e
mutual
theorem gP_run {K : PySem.W.Frag} {β : List Addr} {H : Hp} : ∀ (p : TP) {d : Dt} {v : V} {ρ ρ' : Env} {σ : L2.St}, assignP p d ρ = some ρ' → RepV β H d v → RepS β H ρ σ →
    ∃ σ', RepS β H ρ' σ' ∧ (∀ Q, Q σ' H → gP K p v σ H Q) ∧ ∀ vs : List Nat, (∀ i ∈ p.slots, i ∈ vs) → wipe σ' vs = wipe σ vs
  | .nm i, d, v, ρ, ρ', σ, e, rv, rs => by
    simp only [assignP, Option.some.injEq] at e
    subst e
    exact ⟨_, rs.set i rv, fun Q q => q, fun vs h => wipe_set (h i (by simp [TP.slots]))⟩
  | .tp ps, d, v, ρ, ρ', σ, e, rv, rs => by
    cases rv with
    | @tup ds p vs he hl r =>
      simp only [assignP] at e
      split at e
      · rename_i hlen
        obtain ⟨σ', h1, h2, h3⟩ := gPs_run (K := K) ps e r rs
        exact ⟨σ', h1, fun Q q => ⟨p, vs, rfl, SqT.of he, by rw [← r.length]; exact hlen, h2 Q q⟩, fun ws h => h3 ws (by simpa [TP.slots] using h)⟩
      · cases e
    | _ => simp only [assignP] at e; cases e
theorem gPs_run {K : PySem.W.Frag} {β : List Addr} {H : Hp} : ∀ (ps : List TP) {ds : List Dt} {vs : List V} {ρ ρ' : Env} {σ : L2.St}, assignPs ps ds ρ = some ρ' → RepVs β H ds vs → RepS β H ρ σ →
    ∃ σ', RepS β H ρ' σ' ∧ (∀ Q, Q σ' H → gPs K ps vs σ H Q) ∧ ∀ ws : List Nat, (∀ i ∈ slotsL ps, i ∈ ws) → wipe σ' ws = wipe σ ws
  | [], ds, vs, ρ, ρ', σ, e, rv, rs => by
    cases rv with
    | nil => simp only [assignPs, Option.some.injEq] at e; subst e; exact ⟨σ, rs, fun Q q => ⟨rfl, q⟩, fun _ _ => rfl⟩
    | cons _ _ => simp [assignPs] at e
  | p :: ps, ds, vs, ρ, ρ', σ, e, rv, rs => by
    cases rv with
    | nil => simp [assignPs] at e
    | cons a r =>
      simp only [assignPs] at e
      split at e
      · rename_i ρ1 e1
        obtain ⟨σ1, h1, h2, h3⟩ := gP_run (K := K) p e1 a rs
        obtain ⟨σ2, k1, k2, k3⟩ := gPs_run (K := K) ps e r h1
        exact ⟨σ2, k1, fun Q q => ⟨_, _, rfl, h2 _ (k2 Q q)⟩, fun ws h => (k3 ws fun i hi => h i (by simp [slotsL, hi])).trans (h3 ws fun i hi => h i (by simp [slotsL, hi]))⟩
      · cases e
end
theorem assignEach_smp {e : Expr} (h : smp e = true) (es : List Expr) (env : PySem.Env) : assignEach (e :: es) env = (false, assign e env) :: assignEach es env := by
  cases e <;> first | rfl | exact nomatch h
theorem assignEach_len {es : List Expr} (h : es.all smp = true) (env : PySem.Env) : (assignEach es env).length = es.length ∧ (assignEach es env).findIdx? (·.1) = none := by
  induction es with
  | nil => exact ⟨rfl, rfl⟩
  | cons e es ih =>
    simp only [List.all_cons, Bool.and_eq_true] at h
    obtain ⟨h1, h2⟩ := ih h.2
    rw [assignEach_smp h.1]
    refine ⟨by simp [h1], ?_⟩
    rw [List.findIdx?_cons]
    simp [h2]
section
variable {Γ : Ctx} {G : Orc} {k : Nat} {W : WX} {X : Cx} {pos : Pos}
theorem sg_nm {i : Nat} {x : Str} (o : XOk Γ G k W X) (hN : Γ.N[i]? = some x) (hs : x ∈ Γ.stor) : PG X (.Name x pos) (gP X.K (.nm i)) :=
  pg_name (by rw [o.N]; exact o.nd) (by rw [o.N]; exact hN) (o.stor x hs).1 (o.stor x hs).2
theorem sg_nil : PGs X [] (gPs X.K []) := pgs_nil
theorem sg_cons {e : Expr} {es : List Expr} {p : TP} {ps : List TP} (hs : smp e = true) (h1 : PG X e (gP X.K p)) (h2 : PGs X es (gPs X.K ps)) : PGs X (e :: es) (gPs X.K (p :: ps)) :=
  pgs_cons h1 h2 (by rw [assignEach_smp hs]; rfl)
theorem sg_tp {es : List Expr} {j : Nat} {ps : List TP} (o : XOk Γ G k W X) (hl : es.length = ps.length) (hs : es.all smp = true) (h : PGs X es (gPs X.K ps)) : PG X (.Tuple es j pos) (gP X.K (.tp ps)) :=
  pg_tup (n := ps.length) o.calm h (by rw [(assignEach_len hs _).1]; exact hl) (assignEach_len hs _).2
end

/-! ### walks -/
structure ItRel (R : Rc) (β0 : List Addr) (H0 : Hp) (I : Wk) (J : It) : Prop where
  go : ∀ (i : Nat) (β : List Addr) (H : Hp) (h : MH) (d : Dt), Ext β0 β H0 H → RepH R.K R.mg β h H → I.get i h = some d → J.go i H
  yld : ∀ (i : Nat) (β : List Addr) (H : Hp) (h : MH) (d : Dt) (x : V) (H' : Hp), Ext β0 β H0 H → RepH R.K R.mg β h H → I.get i h = some d → J.yld i H x H' → Ext β β H H' ∧ RepH R.K R.mg β h H' ∧ RepV β H' d x
  stop : ∀ (β : List Addr) (H : Hp) (h : MH), Ext β0 β H0 H → RepH R.K R.mg β h H → I.fin h = true → J.stop I.tot H
abbrev tIt (X : Cx) (W : WX) (g : Env → M Wk) : TI := tG X W (fun β H I J => ItRel (rc X) β H I J) g
section
variable {R : Rc} {β0 : List Addr} {H0 : Hp}
theorem rel_list {n tot : Nat} {p : Addr} (hp : β0[n]? = some p) : ItRel R β0 H0 (itL n tot) (Itl R.K p) where
  go := fun i β H h d x rh e => by
    obtain ⟨xs, e1, e2⟩ := Option.bind_eq_some_iff.mp e
    obtain ⟨q, vs, bq, sq, rv, _⟩ := rh.list e1
    rw [x.pre n p hp] at bq; cases bq
    obtain ⟨v, h1, _⟩ := rv.get e2
    exact ⟨vs, v, sq, h1⟩
  yld := fun i β H h d y H' x rh e q => by
    obtain ⟨xs, e1, e2⟩ := Option.bind_eq_some_iff.mp e
    obtain ⟨p', vs, bq, sq, rv, _⟩ := rh.list e1
    rw [x.pre n p hp] at bq; cases bq
    obtain ⟨v, h1, h2⟩ := rv.get e2
    obtain ⟨rfl, q⟩ := q
    have e3 := q vs sq
    rw [h1] at e3; cases e3
    exact ⟨Ext.refl _ _, rh, h2⟩
  stop := fun β H h x rh e => by
    have e' : (match getL h n with | some xs => decide (xs.length ≤ tot) | none => false) = true := e
    split at e'
    · rename_i xs e1
      obtain ⟨p', vs, bq, sq, rv, _⟩ := rh.list e1
      rw [x.pre n p hp] at bq; cases bq
      exact ⟨vs, sq, by rw [← rv.length]; exact of_decide_eq_true e'⟩
    · cases e'
theorem tup_at {p : Addr} {vs ws : List V} {H : Hp} {K : PySem.W.Frag} (h : H p = some (.tup vs)) (r : Rd H p (.tup ws)) : ws = vs := by
  rcases r with r | ⟨o, r⟩
  · rw [h] at r; cases r; rfl
  · rw [h] at r; cases r
/-- a tuple at p, whatever the written part says there -/
def OnlyT (K : PySem.W.Frag) (H : Hp) (p : Addr) (vs : List V) : Prop := ∀ ws, SqT K H p ws → ws = vs
theorem rel_tup {ds : List Dt} {p : Addr} {vs : List V} (hp : H0 p = some (.tup vs)) (rv : RepVs β0 H0 ds vs) : ItRel R β0 H0 (itT ds) (Itt R.K p) where
  go := fun i β H h d x rh e => by
    obtain ⟨v, h1, _⟩ := rv.get e
    exact ⟨vs, v, SqT.of (x.tup _ _ hp), h1⟩
  yld := fun i β H h d y H' x rh e q => by
    obtain ⟨v, h1, h2⟩ := rv.get e
    obtain ⟨rfl, q⟩ := q
    have e3 := q vs (SqT.of (x.tup _ _ hp))
    rw [h1] at e3; cases e3
    exact ⟨Ext.refl _ _, rh, h2.ext x⟩
  stop := fun β H h x rh e => ⟨vs, SqT.of (x.tup _ _ hp), by show vs.length ≤ ds.length; rw [← rv.length]; exact Nat.le_refl _⟩
theorem rel_rng {lo : Int} {n : Nat} : ItRel R β0 H0 (itR lo n) (Itr lo n) where
  go := fun i β H h d x rh e => by
    have e' : (if i < n then some (Dt.int (lo + (i : Nat))) else none) = some d := e
    split at e'
    · assumption
    · cases e'
  yld := fun i β H h d y H' x rh e q => by
    have e' : (if i < n then some (Dt.int (lo + (i : Nat))) else none) = some d := e
    split at e'
    · obtain ⟨rfl, rfl⟩ := q
      cases e'
      exact ⟨Ext.refl _ _, rh, .int _⟩
    · cases e'
  stop := fun β H h x rh e => Nat.le_refl _
theorem pair_new {β : List Addr} {H : Hp} {h : MH} {T : Addr} {a b : Dt} {u v : V} (rh : RepH R.K R.mg β h H) (hT : H T = none) (ra : RepV β H a u) (rb : RepV β H b v) :
    Ext β β H (upd H T (.tup [u, v])) ∧ RepH R.K R.mg β h (upd H T (.tup [u, v])) ∧ RepV β (upd H T (.tup [u, v])) (.tup [a, b]) (.ref T) :=
  ⟨Ext.fresh hT, rh.fresh hT, .tup upd_same (by show 2 ≤ sizeLine; decide) (.cons (ra.ext (Ext.fresh hT)) (.cons (rb.ext (Ext.fresh hT)) .nil))⟩
theorem rel_enumL {n tot : Nat} {p : Addr} (hp : β0[n]? = some p) : ItRel R β0 H0 (itE (itL n tot)) (Ite R.K p) where
  go := fun i β H h d x rh e => by
    obtain ⟨d', e1, _⟩ := Option.map_eq_some_iff.mp e
    exact (rel_list (R := R) (tot := tot) hp).go i β H h d' x rh e1
  yld := fun i β H h d y H' x rh e q => by
    obtain ⟨d', e0, rfl⟩ := Option.map_eq_some_iff.mp e
    obtain ⟨xs, e1, e2⟩ := Option.bind_eq_some_iff.mp e0
    obtain ⟨p', vs, bq, sq, rv, _⟩ := rh.list e1
    rw [x.pre n p hp] at bq; cases bq
    obtain ⟨v, h1, h2⟩ := rv.get e2
    obtain ⟨T, y', rfl, hT, rfl, q⟩ := q
    have e3 := q vs sq
    rw [h1] at e3; cases e3
    exact pair_new rh hT (.int _) h2
  stop := fun β H h x rh e => (rel_list (R := R) (tot := tot) hp).stop β H h x rh e
theorem rel_enumT {ds : List Dt} {p : Addr} {vs : List V} (hp : H0 p = some (.tup vs)) (rv : RepVs β0 H0 ds vs) : ItRel R β0 H0 (itE (itT ds)) (IteT R.K p) where
  go := fun i β H h d x rh e => by
    obtain ⟨d', e1, _⟩ := Option.map_eq_some_iff.mp e
    exact (rel_tup (R := R) hp rv).go i β H h d' x rh e1
  yld := fun i β H h d y H' x rh e q => by
    obtain ⟨d', e0, rfl⟩ := Option.map_eq_some_iff.mp e
    obtain ⟨v, h1, h2⟩ := rv.get (show ds[i]? = some d' from e0)
    obtain ⟨T, y', rfl, hT, rfl, q⟩ := q
    have e3 := q vs (SqT.of (x.tup _ _ hp))
    rw [h1] at e3; cases e3
    exact pair_new rh hT (.int _) (h2.ext x)
  stop := fun β H h x rh e => (rel_tup (R := R) hp rv).stop β H h x rh e
theorem rel_zipL {n m t1 t2 c : Nat} {p q : Addr} (hp : β0[n]? = some p) (hq : β0[m]? = some q) : ItRel R β0 H0 (itZ (itL n t1) (itL m t2) c) (Itz R.K p q) where
  go := fun i β H h d x rh e => by
    have e' : (match (itL n t1).get i h, (itL m t2).get i h with | some a, some b => some (Dt.tup [a, b]) | _, _ => none) = some d := e
    split at e'
    · rename_i a b e1 e2
      obtain ⟨xs, a1, a2⟩ := Option.bind_eq_some_iff.mp e1
      obtain ⟨ys, b1, b2⟩ := Option.bind_eq_some_iff.mp e2
      obtain ⟨p', vs, bq, sq, rv, _⟩ := rh.list a1
      rw [x.pre n p hp] at bq; cases bq
      obtain ⟨q', ws, bq, sq', rv', _⟩ := rh.list b1
      rw [x.pre m q hq] at bq; cases bq
      obtain ⟨v, h1, _⟩ := rv.get a2
      obtain ⟨w, h2, _⟩ := rv'.get b2
      exact ⟨vs, ws, v, w, sq, sq', h1, h2⟩
    · cases e'
  yld := fun i β H h d y H' x rh e qq => by
    have e' : (match (itL n t1).get i h, (itL m t2).get i h with | some a, some b => some (Dt.tup [a, b]) | _, _ => none) = some d := e
    split at e'
    · rename_i a b e1 e2
      cases e'
      obtain ⟨xs, a1, a2⟩ := Option.bind_eq_some_iff.mp e1
      obtain ⟨ys, b1, b2⟩ := Option.bind_eq_some_iff.mp e2
      obtain ⟨p', vs, bq, sq, rv, _⟩ := rh.list a1
      rw [x.pre n p hp] at bq; cases bq
      obtain ⟨q', ws, bq, sq', rv', _⟩ := rh.list b1
      rw [x.pre m q hq] at bq; cases bq
      obtain ⟨v, h1, g1⟩ := rv.get a2
      obtain ⟨w, h2, g2⟩ := rv'.get b2
      obtain ⟨T, x', y', rfl, hT, rfl, q1, q2⟩ := qq
      have e3 := q1 vs sq
      rw [h1] at e3; cases e3
      have e4 := q2 ws sq'
      rw [h2] at e4; cases e4
      exact pair_new rh hT g1 g2
    · cases e'
  stop := fun β H h x rh e => by
    have e' : ((itL n t1).fin h && (itL m t2).fin h && (decide (t1 ≤ c) || decide (t2 ≤ c))) = true := e
    simp only [Bool.and_eq_true, Bool.or_eq_true, decide_eq_true_eq] at e'
    obtain ⟨⟨e1, e2⟩, e3⟩ := e'
    obtain ⟨xs, a1, a2⟩ := (rel_list (R := R) (tot := t1) hp).stop β H h x rh e1
    obtain ⟨ys, b1, b2⟩ := (rel_list (R := R) (tot := t2) hq).stop β H h x rh e2
    have a2' : xs.length ≤ t1 := a2
    have b2' : ys.length ≤ t2 := b2
    exact ⟨xs, ys, a1, b1, by show xs.length ≤ c ∨ ys.length ≤ c; omega⟩
theorem rel_zipT {ds es : List Dt} {c : Nat} {p q : Addr} {vs ws : List V} (hp : H0 p = some (.tup vs)) (rv : RepVs β0 H0 ds vs) (hq : H0 q = some (.tup ws)) (rw' : RepVs β0 H0 es ws) : ItRel R β0 H0 (itZ (itT ds) (itT es) c) (RZ.ItzT R.K p q) where
  go := fun i β H h d x rh e => by
    have e' : (match ds[i]?, es[i]? with | some a, some b => some (Dt.tup [a, b]) | _, _ => none) = some d := e
    split at e'
    · rename_i a b e1 e2
      obtain ⟨v, h1, _⟩ := rv.get e1
      obtain ⟨w, h2, _⟩ := rw'.get e2
      exact ⟨vs, ws, v, w, SqT.of (x.tup _ _ hp), SqT.of (x.tup _ _ hq), h1, h2⟩
    · cases e'
  yld := fun i β H h d y H' x rh e qq => by
    have e' : (match ds[i]?, es[i]? with | some a, some b => some (Dt.tup [a, b]) | _, _ => none) = some d := e
    split at e'
    · rename_i a b e1 e2
      cases e'
      obtain ⟨v, h1, g1⟩ := rv.get e1
      obtain ⟨w, h2, g2⟩ := rw'.get e2
      obtain ⟨T, x', y', rfl, hT, rfl, q1, q2⟩ := qq
      have e3 := q1 vs (SqT.of (x.tup _ _ hp))
      rw [h1] at e3; cases e3
      have e4 := q2 ws (SqT.of (x.tup _ _ hq))
      rw [h2] at e4; cases e4
      exact pair_new rh hT (g1.ext x) (g2.ext x)
    · cases e'
  stop := fun β H h x rh e => by
    have e' : (true && true && (decide (ds.length ≤ c) || decide (es.length ≤ c))) = true := e
    simp only [Bool.and_true, Bool.true_and, Bool.or_eq_true, decide_eq_true_eq] at e'
    refine ⟨vs, ws, SqT.of (x.tup _ _ hp), SqT.of (x.tup _ _ hq), ?_⟩
    show vs.length ≤ c ∨ ws.length ≤ c
    rw [← rv.length, ← rw'.length]; exact e'
end
section
variable {Γ : Ctx} {G : Orc} {k : Nat} {W : WX} {X : Cx} {pos : Pos} {a b tg : Expr} {fa fb : SE}
/-- a list or a tuple at hand, as a walk -/
theorem itOf_at {β : List Addr} {h : MH} {H : Hp} {d : Dt} {v : V} {I : Wk} {h' : MH} (rh : RepH X.K X.mg β h H) (r : RepV β H d v) (e : itOf d h = .ok I h') : h' = h ∧ ∃ p, v = .ref p ∧
    ((∃ n xs vs, d = .loc n ∧ β[n]? = some p ∧ I = itL n xs.length ∧ SqL X.K H p vs ∧ getL h n = some xs ∧ RepVs β H xs vs) ∨ ∃ ds vs, d = .tup ds ∧ H p = some (.tup vs) ∧ RepVs β H ds vs ∧ I = itT ds) := by
  cases r with
  | @tup ds p vs he hl rv => cases e; exact ⟨rfl, p, rfl, .inr ⟨ds, vs, rfl, he, rv, rfl⟩⟩
  | @loc n p hp =>
    simp only [itOf] at e
    split at e
    · rename_i xs ex
      cases e
      obtain ⟨q, vs, bq, sq, rv, _⟩ := rh.list ex
      rw [hp] at bq; cases bq
      exact ⟨rfl, p, rfl, .inl ⟨n, xs, vs, rfl, hp, rfl, sq, ex, rv⟩⟩
    · cases e
  | _ => cases e
theorem itOf_noex {d : Dt} {h h' : MH} {C : Str} {fs : Fs} : itOf d h ≠ .ex C fs h' := fun e => by
  unfold itOf at e
  split at e
  · cases e
  · split at e <;> cases e
  · cases e
theorem si_seq (ha : PE X a (tE X W (fa G))) : PI X tg a (tIt X W (iSeq fa G)) :=
  (pi_seqA ha).imp fun σ H Q ⟨ρ, h, β, rs, rh, p⟩ => ⟨ρ, h, β, rs, rh, p.bnd fun x h1 β1 H1 v x1 rh1 rv1 p1 => by
    cases e : itOf x h1 with
    | ok I h2 =>
      rw [e] at p1
      obtain ⟨rfl, q, rfl, hq⟩ := itOf_at rh1 rv1 e
      rcases hq with ⟨n, xs, vs, rfl, bq, rfl, sq, _, _⟩ | ⟨ds, vs, rfl, hp, rv, rfl⟩
      · exact ⟨q, vs, rfl, .inl ⟨sq, Post.here p1 rh1 (rel_list bq)⟩⟩
      · exact ⟨q, vs, rfl, .inr ⟨SqT.of hp, Post.here p1 rh1 (rel_tup hp rv)⟩⟩
    | ex C fs h2 => exact absurd e itOf_noex
    | bad => rw [e] at p1; exact p1.elim⟩
theorem si_enum {p : Pos} {elts : List Expr} {kk : Nat} {tpos : Pos} (o : XOk Γ G k W X) (hg : Γ.names.lookup ("enumerate" : Str) = some .globalImplicit) (hm : ("enumerate" : Str) ∈ Γ.tab.free) (ha : PE X a (tE X W (fa G))) (hs : smp a = true) :
    PI X (.Tuple elts kk tpos) (.Call (.Name "enumerate" p) [a] [] pos) (tIt X W (iEnum fa G)) :=
  (pi_enumA (gl_of o hg) (o.free _ hm) (pa_cons ha pa_nil (star_smp hs _ _)) (star_smp hs _ _)).imp fun σ H Q ⟨ρ, h, β, rs, rh, p⟩ => ⟨ρ, h, β, rs, rh, p.bnd fun x h1 β1 H1 v x1 rh1 rv1 p1 => by
    cases e : itOf x h1 with
    | ok I h2 =>
      rw [e] at p1
      obtain ⟨rfl, q, rfl, hq⟩ := itOf_at rh1 rv1 e
      rcases hq with ⟨n, xs, vs, rfl, bq, rfl, sq, _, _⟩ | ⟨ds, vs, rfl, hp, rv, rfl⟩
      · exact ⟨q, vs, rfl, .inl ⟨sq, Post.here p1 rh1 (rel_enumL bq)⟩⟩
      · exact ⟨q, vs, rfl, .inr ⟨SqT.of hp, Post.here p1 rh1 (rel_enumT hp rv)⟩⟩
    | ex C fs h2 => exact absurd e itOf_noex
    | bad => rw [e] at p1; exact p1.elim⟩
theorem si_zip {p : Pos} {elts : List Expr} {kk : Nat} {tpos : Pos} (o : XOk Γ G k W X) (hg : Γ.names.lookup ("zip" : Str) = some .globalImplicit) (hm : ("zip" : Str) ∈ Γ.tab.free) (ha : PE X a (tE X W (fa G))) (hb : PE X b (tE X W (fb G))) (hs : smp a = true) (hs2 : smp b = true) :
    PI X (.Tuple elts kk tpos) (.Call (.Name "zip" p) [a, b] [] pos) (tIt X W (EP.iZip fa fb G)) :=
  (RZ.pi_zipA (gl_of o hg) (o.free _ hm) (pa_cons ha (pa_cons hb pa_nil (star_smp hs2 _ _)) (star_smp hs _ _)) (by rw [star_smp hs]) (stars_none (by simp [hs2]) _ _)).imp fun σ H Q ⟨ρ, h, β, rs, rh, p⟩ => ⟨ρ, h, β, rs, rh, p.bnd fun x h1 β1 H1 v x1 rh1 rv1 p1 => ⟨ρ, h1, β1, rs.ext x1, rh1, p1.bnd fun y h2 β2 H2 w x2 rh2 rv2 p2 => by
    split at p2
    · rename_i hk
      have rv1' := rv1.ext x2
      cases e1 : itOf x h2 with
      | ok I h3 =>
        rw [e1] at p2
        obtain ⟨rfl, q1, rfl, hq1⟩ := itOf_at rh2 rv1' e1
        simp only [EP.bnd] at p2
        cases e2 : itOf y h3 with
        | ok J h4 =>
          rw [e2] at p2
          obtain ⟨rfl, q2, rfl, hq2⟩ := itOf_at rh2 rv2 e2
          simp only [EP.bnd] at p2
          rcases hq1 with ⟨n, xs, vs, rfl, bq, rfl, sq, _, _⟩ | ⟨ds, vs, rfl, hp, rv, rfl⟩ <;> rcases hq2 with ⟨n', xs', vs', rfl, bq', rfl, sq', _, _⟩ | ⟨ds', vs', rfl, hp', rv', rfl⟩
          · exact ⟨q1, q2, vs, vs', rfl, .inl ⟨sq, sq', Post.here p2 rh2 (rel_zipL bq bq')⟩⟩
          · cases hk
          · cases hk
          · exact ⟨q1, q2, vs, vs', rfl, .inr ⟨SqT.of hp, SqT.of hp', Post.here p2 rh2 (rel_zipT hp rv hp' rv')⟩⟩
        | ex C fs h2 => exact absurd e2 itOf_noex
        | bad => rw [e2] at p2; exact p2.elim
      | ex C fs h2 => exact absurd e1 itOf_noex
      | bad => rw [e1] at p2; exact p2.elim
    · exact p2.elim⟩⟩
theorem si_rg1 {p : Pos} (o : XOk Γ G k W X) (hg : Γ.names.lookup ("range" : Str) = some .globalImplicit) (hm : ("range" : Str) ∈ Γ.tab.free) (ha : PE X a (tE X W (fa G))) (hs : smp a = true) :
    PI X tg (.Call (.Name "range" p) [a] [] pos) (tIt X W (iRg (rg1 fa) G)) :=
  (pi_range1 (gl_of o hg) (o.free _ hm) (pa_cons ha pa_nil (star_smp hs _ _)) (star_smp hs _ _)).imp fun σ H Q ⟨ρ, h, β, rs, rh, p⟩ => by
    have p' : Post (rc X) W σ β H (fun β H I J => ItRel (rc X) β H I J) Q (EP.bnd (fa G ρ h) fun x h1 => EP.bnd (match x with | .int i => RE.ok ((0 : Int), i) h1 | _ => .bad) fun p h1 => if -lim62 ≤ p.1 ∧ p.1 < lim62 ∧ -lim62 ≤ p.2 ∧ p.2 < lim62 then .ok (itR p.1 (p.2 - p.1).toNat) h1 else .bad) := by
      have e : iRg (rg1 fa) G ρ h = (EP.bnd (fa G ρ h) fun x h1 => EP.bnd (match x with | .int i => RE.ok ((0 : Int), i) h1 | _ => .bad) fun p h1 => if -lim62 ≤ p.1 ∧ p.1 < lim62 ∧ -lim62 ≤ p.2 ∧ p.2 < lim62 then .ok (itR p.1 (p.2 - p.1).toNat) h1 else .bad) := by
        unfold iRg rg1
        cases fa G ρ h <;> rfl
      rw [← e]; exact p
    refine ⟨ρ, h, β, rs, rh, p'.bnd fun x h1 β1 H1 v x1 rh1 rv1 p1 => ?_⟩
    cases x with
    | int i =>
      cases rv1
      simp only [EP.bnd] at p1
      split at p1
      · rename_i hk
        rw [lim62_eq] at hk
        refine ⟨i, rfl, hk.2.2.1, hk.2.2.2, ?_⟩
        have e : (i - 0).toNat = i.toNat := by rw [Int.sub_zero]
        rw [e] at p1
        exact Post.here p1 rh1 rel_rng
      · exact p1.elim
    | _ => exact p1.elim
theorem si_rg2 {p : Pos} (o : XOk Γ G k W X) (hg : Γ.names.lookup ("range" : Str) = some .globalImplicit) (hm : ("range" : Str) ∈ Γ.tab.free) (ha : PE X a (tE X W (fa G))) (hb : PE X b (tE X W (fb G))) (hs : smp a = true) (hs2 : smp b = true) :
    PI X tg (.Call (.Name "range" p) [a, b] [] pos) (tIt X W (iRg (rg2 fa fb) G)) :=
  (pi_range2 (gl_of o hg) (o.free _ hm) (pa_cons ha (pa_cons hb pa_nil (star_smp hs2 _ _)) (star_smp hs _ _)) (by rw [star_smp hs, star_smp hs2]; rfl) (star_smp hs2 _ _)).imp fun σ H Q ⟨ρ, h, β, rs, rh, p⟩ => by
    have p' : Post (rc X) W σ β H (fun β H I J => ItRel (rc X) β H I J) Q (EP.bnd (fa G ρ h) fun x h1 => EP.bnd (fb G ρ h1) fun y h2 => EP.bnd (match x, y with | .int i, .int j => RE.ok (i, j) h2 | _, _ => .bad) fun p h1 => if -lim62 ≤ p.1 ∧ p.1 < lim62 ∧ -lim62 ≤ p.2 ∧ p.2 < lim62 then .ok (itR p.1 (p.2 - p.1).toNat) h1 else .bad) := by
      have e : iRg (rg2 fa fb) G ρ h = (EP.bnd (fa G ρ h) fun x h1 => EP.bnd (fb G ρ h1) fun y h2 => EP.bnd (match x, y with | .int i, .int j => RE.ok (i, j) h2 | _, _ => .bad) fun p h1 => if -lim62 ≤ p.1 ∧ p.1 < lim62 ∧ -lim62 ≤ p.2 ∧ p.2 < lim62 then .ok (itR p.1 (p.2 - p.1).toNat) h1 else .bad) := by
        unfold iRg rg2
        cases fa G ρ h with
        | ok x h1 =>
          simp only [EP.bnd]
          cases fb G ρ h1 <;> rfl
        | _ => rfl
      rw [← e]; exact p
    refine ⟨ρ, h, β, rs, rh, p'.bnd fun x h1 β1 H1 v x1 rh1 rv1 p1 => ⟨ρ, h1, β1, rs.ext x1, rh1, p1.bnd fun y h2 β2 H2 w x2 rh2 rv2 p2 => ?_⟩⟩
    show ∃ i j : Int, [v, w] = [V.int i, V.int j] ∧ _
    cases x with
    | int i =>
      cases y with
      | int j =>
        cases rv1; cases rv2
        simp only [EP.bnd] at p2
        split at p2
        · rename_i hk
          rw [lim62_eq] at hk
          exact ⟨i, j, rfl, hk, Post.here p2 rh2 rel_rng⟩
        · exact p2.elim
      | _ => exact p2.elim
    | _ => exact p2.elim
end
end EP
end
section
set_option maxHeartbeats 1000000
/-! Snd6: comprehensions. -/
namespace EP
open PySem PySem.Spec PyProof.Rows L2
abbrev W0 : WX := fun _ _ _ _ => False
/-- a block's names, as they run -/
def relN (scn names : List (Str × NameKind)) : List (Str × NameKind) := scn.map fun (n, k) => if (k == .free && names.lookup n == some .cell) then (n, .cell) else (n, k)
def storN (scn : List (Str × NameKind)) : List Str := (scn.filter fun y => decide (scn.lookup y.1 = some .local) || decide (scn.lookup y.1 = some .cell)).map (·.1)
def Ctx.blk (Γ : Ctx) (scope : Scope) : Ctx := { Γ with names := relN scope.names Γ.names, stor := storN scope.names, top := false }
section
variable {Γ : Ctx} {G : Orc} {k : Nat} {W : WX} {X : Cx} {pos : Pos}
theorem relabel_names {scope : Scope} {env : PySem.Env} {names : List (Str × NameKind)} (hk : env.scope.kind = .function) (hn : env.scope.names = names) : (relabel scope env).names = relN scope.names names := by
  unfold relabel relN
  simp only
  refine List.map_congr_left fun y _ => ?_
  obtain ⟨n, k⟩ := y
  have e1 : env.kindOf n = names.lookup n := by unfold PySem.Env.kindOf; rw [hn]
  have e2 : (env.scope.kind == ScopeKind.function) = true := by rw [hk]; rfl
  simp only [e1, e2, Bool.and_true]
theorem stor_at {scn : List (Str × NameKind)} {x : Str} (h : x ∈ storN scn) : scn.lookup x = some .local ∨ scn.lookup x = some .cell := by
  unfold storN at h
  obtain ⟨y, hy, rfl⟩ := List.mem_map.mp h
  have := (List.mem_filter.mp hy).2
  simpa using this
theorem XOk.blk (o : XOk Γ G k W X) {scope : Scope} (hk : scope.kind = .function) (s : Shared) (H : Hp) (C : Addr) (cl : List (Str × Addr)) (fp : List Addr) : XOk (Γ.blk scope) G k W0 (X.blk s H scope (compEnvC scope cl C X.env) fp) where
  N := o.N
  nd := o.nd
  names := relabel_names o.kind o.names
  kind := hk
  calm := o.calm
  tk := takes_none5
  po := PassesOwn.never
  room := o.room
  stor := fun x hx => by
    have h := stor_at hx
    have e : (X.blk s H scope (compEnvC scope cl C X.env) fp).env.scope.names = relN scope.names Γ.names := relabel_names o.kind o.names
    have keep : ∀ {kk : NameKind}, kk ≠ .free → scope.names.lookup x = some kk → (relN scope.names Γ.names).lookup x = some kk := fun {kk} ne h => by
      have := lookup_relS_keep (sc := { scope with kind := .function, names := Γ.names }) ne h
      simpa [relN] using this
    rcases h with h | h
    · have h2 := keep (kk := .local) (fun z => nomatch z) h
      exact ⟨.inl (by rw [e]; exact h2), .inr (by rw [e]; exact h2)⟩
    · have h2 := keep (kk := .cell) (fun z => nomatch z) h
      refine ⟨.inr (by rw [e]; exact h2), .inl ?_⟩
      show (scope.names.lookup x == some NameKind.cell) = true
      rw [h]; rfl
  fns := fun x n ar h => ⟨(o.fns x n ar h).ex⟩
  nums := o.nums
  free := o.free
  excs := fun C n names h => ⟨(o.excs C n names h).ex⟩
  subs := o.subs
  flds := o.flds
  top := fun z => nomatch z
theorem XOk.blkOk (o : XOk Γ G k W X) {scope sc : Scope} {own : List (Str × Nat)} (h : blkC Γ.N { sc with names := Γ.names } scope own = true) : BlkOk X.N X.env.scope scope own := by
  have b := blkOk_by h
  refine ⟨b.kind, b.uniq, by rw [o.N]; exact b.ix, fun y hy e => ?_, fun y hy e => by rw [o.N]; exact b.own y hy e⟩
  rw [o.names]
  exact b.free y hy e
theorem Post.noEx {R : Rc} {α γ α' γ' : Type} {σ σ' : L2.St} {β : List Addr} {H : Hp} {Rel : List Addr → Hp → α → γ → Prop} {Rel' : List Addr → Hp → α' → γ' → Prop} {Q : γ' → Hp → Prop} {P : γ → Hp → Prop} {m : RE α} {f : α → MH → RE α'} (p : Post R W σ β H Rel' Q (EP.bnd (EP.noEx m) f))
    (kk : ∀ a h1 β' H' c, Ext β β' H H' → RepH R.K R.mg β' h1 H' → Rel β' H' a c → Post R W σ β' H' Rel' Q (f a h1) → P c H') : Post R W0 σ' β H Rel P m := by
  cases m with
  | ok a h => exact fun β2 H2 c x rh rc => kk a h β2 H2 c x rh rc (Post.ext x p)
  | ex C fs h => exact p.elim
  | bad => exact p.elim
theorem wipe_idem (σ : L2.St) (vs : List Nat) : wipe (wipe σ vs) vs = wipe σ vs := by
  refine List.ext_getElem? fun j => ?_
  rw [wipe_get, wipe_get]
  by_cases hj : j ∈ vs
  · rw [if_pos hj, if_pos hj]
    cases σ[j]? <;> rfl
  · rw [if_neg hj, if_neg hj]
theorem new_at {β : List Addr} {h : MH} {D : Addr} {K : PySem.W.Frag} {mg : Str → Option Value} {H : Hp} (rh : RepH K mg β h H) : (β ++ [D])[h.length]? = some D := by
  rw [← rh.len]; simp
/-! ### lists -/
theorem r_lc {fi : SI} {p : TP} {ft : ST} {fe : SE} {vs : List Nat} {Xt Xe : Cx} (kt : Xt.K = X.K ∧ Xt.mg = X.mg) (ke : Xe.K = X.K ∧ Xe.mg = X.mg) (hv : ∀ i ∈ p.slots, i ∈ vs) {σ : L2.St} {H : Hp} {Q : VK} (q : tE X W (eLc fi p ft fe vs G) σ H Q) :
    tLc (tIt X W (fi G)) (gP X.K p) (tT Xt W0 (ft G)) (tE Xe W0 (fe G)) vs σ H Q := by
  obtain ⟨ρ, h, β, rs, rh, pp⟩ := q
  refine ⟨ρ, h, β, rs, rh, pp.bnd fun I h1 β1 H1 J x1 rh1 rel p1 => fun D hD => ?_⟩
  have xa : Ext β1 (β1 ++ [D]) H1 (upd H1 D (.lst [])) := Ext.alloc hD
  have rha : RepH X.K X.mg (β1 ++ [D]) (h1 ++ [.lst []]) (upd H1 D (.lst [])) := rh1.alloc hD ⟨Nat.zero_le _, [], upd_same, .nil⟩
  have hDa : (β1 ++ [D])[h1.length]? = some D := new_at rh1
  generalize hdn : h1.length = dn at p1 hDa
  refine ⟨fun i m Hc => i + m = I.tot ∧ ∃ hc βc, Ext (β1 ++ [D]) βc (upd H1 D (.lst [])) Hc ∧ RepH X.K X.mg βc hc Hc ∧ Post (rc X) W σ βc Hc RepV Q (lcLoop I p ft fe G (wipeE ρ vs) dn m hc), ⟨I.tot, Nat.zero_add _, _, _, Ext.refl _ _, rha, Post.ext xa p1⟩, ?_⟩
  rintro i m Hc ⟨him, hc, βc, xc, rhc, pc⟩
  have x0 := xa.trans xc
  cases m with
  | zero =>
    refine .inl ?_
    unfold lcLoop at pc
    split at pc
    · rename_i hf
      have ei : i = I.tot := him
      subst ei
      exact ⟨rel.stop βc Hc hc x0 rhc hf, pc.here rhc (.loc (xc.pre _ _ hDa))⟩
    · exact pc.elim
  | succ mm =>
    refine .inr ?_
    unfold lcLoop at pc
    have ei : I.tot - (mm + 1) = i := by omega
    rw [ei] at pc
    cases hg : I.get i hc with
    | none => rw [hg] at pc; exact pc.elim
    | some d =>
      rw [hg] at pc
      simp only at pc
      refine ⟨rel.go i βc Hc hc d x0 rhc hg, fun H' => i + 1 + mm = I.tot ∧ ∃ hc βc, Ext (β1 ++ [D]) βc (upd H1 D (.lst [])) H' ∧ RepH X.K X.mg βc hc H' ∧ Post (rc X) W σ βc H' RepV Q (lcLoop I p ft fe G (wipeE ρ vs) dn mm hc), fun H' w => ⟨mm, Nat.lt_succ_self _, w⟩, fun x H' y => ?_⟩
      obtain ⟨x2, rh2, rv⟩ := rel.yld i βc Hc hc d x H' x0 rhc hg y
      cases ha : assignP p d (wipeE ρ vs) with
      | none => rw [ha] at pc; exact pc.elim
      | some ρ' =>
        rw [ha] at pc
        simp only at pc
        have rs' : RepS βc H' (wipeE ρ vs) (wipe σ vs) := RepS.wipe ((rs.ext (x1.trans x0)).ext x2) vs
        obtain ⟨σ', rs2, run, hw⟩ := gP_run (K := X.K) p ha rv rs'
        refine run _ ⟨by rw [hw vs hv, wipe_idem], ρ', hc, βc, rs2, by rw [kt.1, kt.2]; exact rh2, ?_⟩
        have pc' := Post.ext x2 pc
        show Post (rc Xt) W0 σ' βc H' RelE _ (ft G ρ' hc)
        have e1 : rc Xt = rc X := by unfold rc; rw [kt.1, kt.2]
        rw [e1]
        refine pc'.noEx fun b h3 β3 H3 b' x3 rh3 eb p3 => ?_
        have eb' : b = b' := eb
        subst eb'
        have step : ∀ {β4 : List Addr} {H4 : Hp} {h4 : MH}, Ext βc β4 H' H4 → RepH X.K X.mg β4 h4 H4 → Post (rc X) W σ β4 H4 RepV Q (lcLoop I p ft fe G (wipeE ρ vs) dn mm h4) → i + 1 + mm = I.tot ∧ ∃ hc βc, Ext (β1 ++ [D]) βc (upd H1 D (.lst [])) H4 ∧ RepH X.K X.mg βc hc H4 ∧ Post (rc X) W σ βc H4 RepV Q (lcLoop I p ft fe G (wipeE ρ vs) dn mm hc) :=
          fun {β4 H4 h4} x4 rh4 p4 => ⟨by omega, h4, β4, (xc.trans x2).trans x4, rh4, p4⟩
        cases b with
        | false =>
          rw [if_neg (by simp)]
          rw [if_neg (by simp)] at p3
          exact step x3 rh3 p3
        | true =>
          rw [if_pos rfl]
          rw [if_pos rfl] at p3
          refine ⟨ρ', h3, β3, rs2.ext x3, by rw [ke.1, ke.2]; exact rh3, ?_⟩
          have e2 : rc Xe = rc X := by unfold rc; rw [ke.1, ke.2]
          rw [e2]
          refine p3.noEx fun y h4 β4 H4 v x4 rh4 rv4 p4 => ?_
          have hD4 : β4[dn]? = some D := x4.pre _ _ (x3.pre _ _ (x2.pre _ _ (xc.pre _ _ hDa)))
          split at p4
          · rename_i acc em
            obtain ⟨hl, us, e4, r4⟩ := rh4.lst em hD4
            split at p4
            · rename_i hz
              refine ⟨us, e4, by rw [← r4.length]; exact hz, ?_⟩
              have new : Ext β4 β4 H4 (upd H4 D (.lst (us ++ [v]))) → RepO X.K X.mg β4 (upd H4 D (.lst (us ++ [v]))) D (.lst (acc ++ [y])) := fun x => ⟨by rw [List.length_append]; exact hz, _, upd_same, (r4.append (.cons rv4 .nil)).ext x⟩
              have x5 : Ext β4 β4 H4 (upd H4 D (.lst (us ++ [v]))) := Ext.write e4 trivial (List.mem_of_getElem? hD4)
              obtain ⟨rh5, _⟩ := rh4.write em hD4 rfl (new x5)
              exact step ((x3.trans x4).trans x5) rh5 (Post.ext x5 p4)
            · exact p4.elim
          · exact p4.elim
section
variable {elt tg iter : Expr} {ifs : List Expr} {scope sc : Scope} {own : List (Str × Nat)} {fi : SI} {p : TP} {ft : ST} {fe : SE}
theorem se_lc (o : XOk Γ G k W X) (hi : PI X tg iter (tIt X W (fi G))) (hb : blkC Γ.N { sc with names := Γ.names } scope own = true) (hg : ∀ X', XOk (Γ.blk scope) G k W0 X' → PG X' tg (gP X'.K p)) (ht : ∀ X', XOk (Γ.blk scope) G k W0 X' → PTs X' ifs (tT X' W0 (ft G)))
    (he : ∀ X', XOk (Γ.blk scope) G k W0 X' → PE X' elt (tE X' W0 (fe G))) (hs : smp iter = true) (hv : ∀ i ∈ p.slots, i ∈ own.map (·.2)) : PE X (.ListComp elt [⟨tg, iter, ifs, 0⟩] scope pos) (tE X W (eLc fi p ft fe (own.map (·.2)) G)) :=
  have b := o.blkOk hb
  (pe_lc (te := tE X W0 (fe G)) (tt := tT X W0 (ft G)) o.calm (by rw [o.N]; exact o.nd) hi b (fun s H C cl fp => hg _ (o.blk b.kind s H C cl fp)) (fun s H C cl fp => ht _ (o.blk b.kind s H C cl fp)) (fun s H C cl fp => he _ (o.blk b.kind s H C cl fp)) (folded_smp hs _)).imp
    fun σ H Q q => r_lc ⟨rfl, rfl⟩ ⟨rfl, rfl⟩ hv q
theorem sp_nil : PTs X [] (tT X W (EP.tYes G)) := ⟨fun pins s σ H Q I q => pts_nil.run pins s σ H Q I (by obtain ⟨ρ, h, β, rs, rh, p⟩ := q; exact Post.here p rh rfl)⟩
theorem sp_one {c : Expr} (h : PT X c (tT X W (ft G))) : PTs X [c] (tT X W (ft G)) := pts_one h
end
end
end EP
end
section
set_option maxHeartbeats 1000000
set_option maxRecDepth 100000
/-! Snd7: dict comprehensions, dict displays of one pair. -/
namespace EP
open PySem PySem.Spec PyProof.Rows L2

/-- d[k] = v by a comprehension, the key a tuple (after HandS.DictComp.d_dictSet) -/
theorem d_dictSetT {X : Cx} {pins : List (Addr × Obj)} {σ : L2.St} {H : Hp} {s : Shared} {E : Value → Shared → Prop} {D b : Addr} {kvs : List (List Key × V)} {k : List Key} {v : V} {r : Value} {Q : Unit → Shared → Prop} (hu : X.A.units < cLine) (I : Inv X pins σ H s) (hD : H D = some (.dT kvs)) (hz : kvs.length < sizeLine)
    (eb : H b = some (.tup (k.map kV))) (rv : RelV v r) (h : ∀ s', Inv X pins σ (upd H D (.dT (putK kvs k v))) s' → Q () s') : wpAny (model X.prog X.w) X.A (dictSet D (.ref b) r) Q E s := by
  obtain ⟨z, hd, xs, rel, dd⟩ := dt_of I.hok hD
  have hzv : xs.length ≤ sizeLine := by rw [← Paired.length rel]; exact z
  have hl : (putK kvs k v).length ≤ sizeLine := by have := length_putK kvs k v; omega
  refine wpAny_dictSet_heap (knd := tupleKind (mixKind X.prog X.w)) (hsz := hzv) hu (key_of I.hok eb) dd fun h' dd' hs => h _ ?_
  obtain ⟨q, es, ep, hq, h2, h3, h4, _, h5⟩ := dd'
  refine d_write I (by rw [hD]; exact True.intro) hs ⟨q, hq⟩ ⟨hl, hd, _, (rel.put k eb rv).keeps fun c ys ec => ?_, q, es, ep, hq, h2, h3, h4, h5⟩
  rw [upd_ne (ne_of ec hD (fun z => nomatch z))]
  exact ec
/-- {k: v for target in iter if ..}, keys tuples: D the new dict -/
def tDcT (wi : TI) (g : TG) (tt : TT) (tk tv : TE) (vs : List Nat) : TE := fun σ H Q => wi σ H fun J H1 => ∀ D, H1 D = none → ∃ W : Nat → Nat → Hp → Prop, (∃ m, W 0 m (upd H1 D (.dT []))) ∧ ∀ i m H, W i m H →
  (J.stop i H ∧ Q (.ref D) H) ∨ (J.go i H ∧ ∃ Nx : Hp → Prop, (∀ H', Nx H' → ∃ m', m' < m ∧ W (i + 1) m' H') ∧ ∀ x H', J.yld i H x H' → g x (wipe σ vs) H' fun σ2 H2 => wipe σ2 vs = wipe σ vs ∧ tt σ2 H2 fun b H3 =>
    if b = true then tk σ2 H3 fun y H4 => tv σ2 H4 fun z H5 => ∃ kvs k c, y = .ref c ∧ H5 c = some (.tup (k.map kV)) ∧ H5 D = some (.dT kvs) ∧ kvs.length < sizeLine ∧ Nx (upd H5 D (.dT (putK kvs k z))) else Nx H3)
section
variable {X : Cx}
theorem dcT_core {pins : List (Addr × Obj)} {s : Shared} {σ : L2.St} {H : Hp} {Q : VK} {kx vx tg iter : Expr} {ifs : List Expr} {scope : Scope} {own : List (Str × Nat)} {pos pos' : Pos} {wi : TI} {g : TG} {tt : TT} {tk tv : TE} {use : Option (Value → Sem Unit)} {Qf : Value → Shared → Prop}
    (hu : X.A.units < cLine) (hc : X.calm = true) (hN : X.N.Nodup) (I : Inv X pins σ H s) (hi : PI X tg iter wi) (ok : BlkOk X.N X.env.scope scope own)
    (hg : ∀ (s : Shared) (H : Hp) (C : Addr) (cl : List (Str × Addr)) (fp : List Addr), PG (X.blk s H scope (compEnvC scope cl C X.env) fp) tg g) (ht : ∀ (s : Shared) (H : Hp) (C : Addr) (cl : List (Str × Addr)) (fp : List Addr), PTs (X.blk s H scope (compEnvC scope cl C X.env) fp) ifs tt)
    (hk : ∀ (s : Shared) (H : Hp) (C : Addr) (cl : List (Str × Addr)) (fp : List Addr), PE (X.blk s H scope (compEnvC scope cl C X.env) fp) kx tk)
    (he : ∀ (s : Shared) (H : Hp) (C : Addr) (cl : List (Str × Addr)) (fp : List Addr), PE (X.blk s H scope (compEnvC scope cl C X.env) fp) vx tv) (hs : ∀ x, foldedSetIterable iter X.env x = pure x)
    (h : tDcT wi g tt tk tv (own.map (·.2)) σ H Q)
    (hRR : ∀ D C s' m H', Inv X pins σ H' s' → Q (.ref D) H' → s'.heap.Ns C m → FpOk X pins H' C → compPost (model X.prog X.w) X.A X.xe use Qf (.ref D) C (.ok .next) s') :
    wpAny (model X.prog X.w) X.A (comprehension (.DictComp kx vx [⟨tg, iter, ifs, 0⟩] scope pos) scope X.env pos' newDict false (eval iter X.env) use) Qf X.xe s := by
  have hfree : ∀ y ∈ scope.names, y.2 = .free → ∃ c, X.env.cells.lookup y.1 = some c := fun y hy e => by
    rcases ok.free y hy e with k | k
    · exact I.ok.has _ (.inl k)
    · exact I.ok.has _ (.inr k)
  refine wpAny_comprehension_free (use := use) rfl hs (closure_ok hfree) ok.kind (fun y hy e => by rw [ok.uniq y hy, e])
    (thn (hi.run pins s σ H _ I h) fun xv s1 hx => thn hx fun itv s2 h2 => ?_)
  obtain ⟨it, fp, tn, J, H2, e, I2, T, st2, f2, q⟩ := h2
  subst e
  refine wpAny_newObj_type (newEnv_comp ?_)
  generalize hD : s2.heap.objs.size = D
  have hDn : H2 D = none := I2.hok.fresh (Nat.le_of_eq hD)
  obtain ⟨W, ⟨m0, w0⟩, turn⟩ := q D hDn
  -- the new list
  generalize hs3 : ({ s2 with heap := s2.heap.push { cls := .type "dict", data := .dict #[] } } : Shared) = s3
  have I3 : Inv X pins σ (upd H2 D (.dT [])) s3 := by
    rw [← hs3]
    refine I2.laid (t' := s2.toks) (fun b o e => Heap.get?_push_of_some _ e) (Nat.le_of_eq hD) ?_
    rw [← hD]
    exact dt_empty s2.heap I2.big
  have h3 : s3.heap = s2.heap.push { cls := .type "dict", data := .dict #[] } := by rw [← hs3]
  have sz : ∀ b ∈ fp, b < s2.heap.objs.size := fun b hb => by
    obtain ⟨o, e, _⟩ := T.obj _ _ st2 b hb
    exact Heap.lt_size e
  have f3 : ∀ b ∈ fp, FpOk X pins (upd H2 D (.dT [])) b ∧ b < s3.heap.objs.size := fun b hb => by
    have hlt := sz b hb
    refine ⟨⟨?_, (f2 b hb).2⟩, by rw [h3, Heap.size_push]; exact Nat.lt_succ_of_lt hlt⟩
    rw [upd_ne (by rw [← hD]; exact Nat.ne_of_lt hlt)]
    exact (f2 b hb).1
  have st3 : tn 0 s3.heap := T.keep _ _ _ st2 fun b _ o e => by rw [h3]; exact Heap.get?_push_of_some _ e
  have I4 := block_start I3 ok hN f3
  have pg := hg s3 (upd H2 D (.dT [])) s3.heap.objs.size (cellsFrom (s3.heap.objs.size + 1) scope.names (cloFrom X.env.cells scope.names [])) fp
  have pt := ht s3 (upd H2 D (.dT [])) s3.heap.objs.size (cellsFrom (s3.heap.objs.size + 1) scope.names (cloFrom X.env.cells scope.names [])) fp
  have pk := hk s3 (upd H2 D (.dT [])) s3.heap.objs.size (cellsFrom (s3.heap.objs.size + 1) scope.names (cloFrom X.env.cells scope.names [])) fp
  have pe := he s3 (upd H2 D (.dT [])) s3.heap.objs.size (cellsFrom (s3.heap.objs.size + 1) scope.names (cloFrom X.env.cells scope.names [])) fp
  show codeAny _ _ (.compStart (.DictComp kx vx [⟨tg, iter, ifs, 0⟩] scope pos) 0 (.ref it) (.ref D) (compEnvC scope (cellsFrom (s3.heap.objs.size + 1) scope.names (cloFrom X.env.cells scope.names [])) s3.heap.objs.size X.env)) (compPost (model X.prog X.w) X.A X.xe use Qf (.ref D) s3.heap.objs.size) { s3 with heap := pushCells (s3.heap.push { cls := .type "dict", data := .dict #[] }) scope.names }
  have nfp : ∀ b ∈ fp, (upd H2 D (.dT [])) b = none := fun b hb => (f3 b hb).1.1
  generalize hce : compEnvC scope (cellsFrom (s3.heap.objs.size + 1) scope.names (cloFrom X.env.cells scope.names [])) s3.heap.objs.size X.env = ce at I4 pg pt pk pe ⊢
  have cL : ce.locals = s3.heap.objs.size := by subst hce; rfl
  generalize hH3 : upd H2 D (.dT []) = H3 at I3 I4 pg pt pk pe w0 nfp f3
  generalize hs4 : ({ s3 with heap := pushCells (s3.heap.push { cls := .type "dict", data := .dict #[] }) scope.names } : Shared) = s4 at I4 ⊢
  have st4 : tn 0 s4.heap := T.keep _ _ _ st3 fun b _ o e => by rw [← hs4]; exact pushCells_keeps _ _ _ _ (Heap.get?_push_of_some _ e)
  have stat : ∀ {σ' : L2.St} {H' : Hp} {s' : Shared}, Inv (X.blk s3 H3 scope ce fp) [] σ' H' s' → (∀ b ∈ fp, H' b = none) → ∀ b ∈ fp, FpOk (X.blk s3 H3 scope ce fp) [] H' b := fun {σ' H' s'} I' hn b hb =>
    ⟨hn b hb, (I'.ok.exf b hb).1, I'.ok.exfs b hb, .inl hb, fun x c e => (I'.ok.exf b hb).2 x c e, fun p hp => absurd (show p ∈ ([] : List (Addr × Obj)) ++ [] from hp) (by simp)⟩
  have loop : codeAny (model X.prog X.w) X.A (.compLoop (.DictComp kx vx [⟨tg, iter, ifs, 0⟩] scope pos) 0 (.ref it) (.ref D) ce) (compPost (model X.prog X.w) X.A X.xe use Qf (.ref D) s3.heap.objs.size) s4 := by
    refine compLoop_anyD (fun n s' => ∃ i H', Inv (X.blk s3 H3 scope ce fp) [] (wipe σ (own.map (·.2))) H' s' ∧ tn i s'.heap ∧ (∀ b ∈ fp, H' b = none) ∧ W i n H') ?_ m0 ⟨0, H3, I4, st4, nfp, w0⟩
    rintro n s5 ⟨i, H5, I5, st5, n5, w5⟩
    rcases turn i n H5 w5 with ⟨stop, qq⟩ | ⟨go, Nx, hNx, step⟩
    · have td := T.done (X.blk s3 H3 scope ce fp) rfl rfl rfl hc i [] s5 _ H5 (fun _ _ => False) I5 (stat I5 n5) st5 stop
      refine thnF td fun r s6 ⟨hr, I6⟩ => ?_
      subst hr
      -- back in the def's context
      have I7 : Inv X pins σ H5 s6 := I3.call' (ch := fp) I6.os I6.base I6.hok I6.bare fun b hb => ⟨(f3 b hb).1.2.2.2.1, (f3 b hb).1.2.1, (f3 b hb).1.2.2.2.2.1, (f3 b hb).1.2.2.2.2.2⟩
      have nC : H5 s3.heap.objs.size = none := by
        have z : H5 ce.locals = none := I6.free
        rw [cL] at z
        exact z
      obtain ⟨m, hn, _⟩ := I6.loc
      have hn : s6.heap.Ns ce.locals m := hn
      rw [cL] at hn
      exact hRR D s3.heap.objs.size s6 m H5 I7 qq hn (I3.fpOk (Nat.le_refl _) nC)
    · have ti := T.item (X.blk s3 H3 scope ce fp) rfl rfl rfl hc i [] s5 _ H5 (fun _ _ => False) I5 (stat I5 n5) st5 go
      refine thnF ti fun r s6 ⟨u, hr, h6⟩ => ?_
      subst hr
      refine thnF h6 fun _ s7 ⟨x, H7, I7, r7, y7, st7, n7⟩ => ?_
      have I7' := I7.pinned (stat I7 n7) (T.obj _ _ st7)
      refine thnF (pg.run _ s7 _ H7 x u _ I7' r7 (step x H7 y7)) fun _ s8 ⟨σ8, H8, I8, hw8, q8⟩ => ?_
      refine thnF (pt.run _ s8 σ8 H8 _ I8 q8) fun b s9 ⟨H9, I9, q9⟩ => ?_
      -- the turn's end
      have fin : ∀ {s' : Shared} {H' : Hp}, Inv (X.blk s3 H3 scope ce fp) ([] ++ pinsAt fp s7.heap) σ8 H' s' → Nx H' → ∃ m, m < n ∧ ∃ i H', Inv (X.blk s3 H3 scope ce fp) [] (wipe σ (own.map (·.2))) H' s' ∧ tn i s'.heap ∧ (∀ b ∈ fp, H' b = none) ∧ W i m H' := fun {s' H'} I' nx => by
        obtain ⟨m', hm, w'⟩ := hNx H' nx
        have pin' : ∀ b ∈ fp, ∀ o, s7.heap.get? b = some o → s'.heap.get? b = some o ∧ H' b = none := fun b hb o e =>
          let z := I'.pin (b, o) (List.mem_append_right _ (List.mem_append_right _ (mem_pinsAt hb e)))
          ⟨z.1, z.2.1⟩
        have hl : (wipe σ (own.map (·.2))).length = σ8.length := by rw [← hw8, wipe_length]
        refine ⟨m', hm, i + 1, H', (I'.unpinned (pins := [])).weak hl (fun j v e => ?_), T.keep _ _ _ st7 fun b hb o e => (pin' b hb o e).1, fun b hb => ?_, w'⟩
        · rw [← hw8] at e
          exact (wipe_some e).1
        · obtain ⟨o, e, _⟩ := T.obj _ _ st7 b hb
          exact (pin' b hb o e).2
      cases b with
      | false =>
        simp only [Bool.false_eq_true, if_false] at q9 ⊢
        exact fin I9 q9
      | true =>
        simp only [if_true] at q9 ⊢
        refine thnF (pk.run _ s9 σ8 H9 _ I9 q9) fun z s10 ⟨yk, H10, I10, r10, q10⟩ => ?_
        refine thnF (pe.run _ s10 σ8 H10 _ I10 q10) fun z2 s11 ⟨yv, H11, I11, r11, kvs, k, cc, ek, hcc, hD11, hz11, nx⟩ => ?_
        subst ek
        obtain rfl : z = Value.ref cc := r10
        exact d_dictSetT (X := X.blk s3 H3 scope ce fp) hu I11 hD11 hz11 hcc r11 fun s12 I12 => fin I12 nx
  exact codeAny_compStart_dict loop (T.self X.A 0 _ _ _ st4 loop)
/-- as a value -/
theorem pe_dcT {kx vx tg iter : Expr} {ifs : List Expr} {scope : Scope} {own : List (Str × Nat)} {pos : Pos} {wi : TI} {g : TG} {tt : TT} {tk tv : TE} (hu : X.A.units < cLine) (hc : X.calm = true) (hN : X.N.Nodup) (hi : PI X tg iter wi) (ok : BlkOk X.N X.env.scope scope own)
    (hg : ∀ (s : Shared) (H : Hp) (C : Addr) (cl : List (Str × Addr)) (fp : List Addr), PG (X.blk s H scope (compEnvC scope cl C X.env) fp) tg g) (ht : ∀ (s : Shared) (H : Hp) (C : Addr) (cl : List (Str × Addr)) (fp : List Addr), PTs (X.blk s H scope (compEnvC scope cl C X.env) fp) ifs tt)
    (hk : ∀ (s : Shared) (H : Hp) (C : Addr) (cl : List (Str × Addr)) (fp : List Addr), PE (X.blk s H scope (compEnvC scope cl C X.env) fp) kx tk)
    (he : ∀ (s : Shared) (H : Hp) (C : Addr) (cl : List (Str × Addr)) (fp : List Addr), PE (X.blk s H scope (compEnvC scope cl C X.env) fp) vx tv) (hs : ∀ x, foldedSetIterable iter X.env x = pure x := by intro _; rfl) :
    PE X (.DictComp kx vx [⟨tg, iter, ifs, 0⟩] scope pos) (tDcT wi g tt tk tv (own.map (·.2))) := by
  refine ⟨fun pins s σ H Q I h => ?_⟩
  rw [arm_eval_DictComp]
  refine dcT_core hu hc hN I hi ok hg ht hk he hs h fun D C s' m H' I' q hn f => ⟨m, hn, fun h'' sb => ?_⟩
  obtain ⟨f0, f1, f2, f3, f4, f5⟩ := f
  exact ⟨.ref D, H', I'.turned (t' := s'.toks) (fun b o hb e => (sb.2 b hb).trans e) f0 f1 f3 f4 f5, rfl, q⟩
end

section
variable {Γ : Ctx} {G : Orc} {k : Nat} {W : WX} {X : Cx} {pos : Pos}
theorem setK_length {κ : Type} [DecidableEq κ] (kvs : List (κ × Dt)) (kk : κ) (y : Dt) : (setK kvs kk y).length ≤ kvs.length + 1 := by
  unfold setK
  split
  · simp
  · simp
theorem r_dc {fi : SI} {p : TP} {ft : ST} {fk fe : SE} {vs : List Nat} {Xt Xk Xe : Cx} (kt : Xt.K = X.K ∧ Xt.mg = X.mg) (kk : Xk.K = X.K ∧ Xk.mg = X.mg) (ke : Xe.K = X.K ∧ Xe.mg = X.mg) (hv : ∀ i ∈ p.slots, i ∈ vs) {σ : L2.St} {H : Hp} {Q : VK} (q : tE X W (eDc false fi p ft fk fe vs G) σ H Q) :
    tDc (tIt X W (fi G)) (gP X.K p) (tT Xt W0 (ft G)) (tE Xk W0 (fk G)) (tE Xe W0 (fe G)) vs σ H Q := by
  obtain ⟨ρ, h, β, rs, rh, pp⟩ := q
  refine ⟨ρ, h, β, rs, rh, pp.bnd fun I h1 β1 H1 J x1 rh1 rel p1 => fun D hD => ?_⟩
  have xa : Ext β1 (β1 ++ [D]) H1 (upd H1 D (.dK [])) := Ext.alloc hD
  have rha : RepH X.K X.mg (β1 ++ [D]) (h1 ++ [.dK []]) (upd H1 D (.dK [])) := rh1.alloc hD ⟨Nat.zero_le _, [], upd_same, .nil⟩
  have hDa : (β1 ++ [D])[h1.length]? = some D := new_at rh1
  generalize hdn : h1.length = dn at p1 hDa
  refine ⟨fun i m Hc => i + m = I.tot ∧ ∃ hc βc, Ext (β1 ++ [D]) βc (upd H1 D (.dK [])) Hc ∧ RepH X.K X.mg βc hc Hc ∧ Post (rc X) W σ βc Hc RepV Q (dcLoop false I p ft fk fe G (wipeE ρ vs) dn m hc), ⟨I.tot, Nat.zero_add _, _, _, Ext.refl _ _, rha, Post.ext xa p1⟩, ?_⟩
  rintro i m Hc ⟨him, hc, βc, xc, rhc, pc⟩
  have x0 := xa.trans xc
  cases m with
  | zero =>
    refine .inl ?_
    unfold dcLoop at pc
    split at pc
    · rename_i hf
      have ei : i = I.tot := him
      subst ei
      exact ⟨rel.stop βc Hc hc x0 rhc hf, pc.here rhc (.loc (xc.pre _ _ hDa))⟩
    · exact pc.elim
  | succ mm =>
    refine .inr ?_
    unfold dcLoop at pc
    have ei : I.tot - (mm + 1) = i := by omega
    rw [ei] at pc
    cases hg : I.get i hc with
    | none => rw [hg] at pc; exact pc.elim
    | some d =>
      rw [hg] at pc
      simp only at pc
      refine ⟨rel.go i βc Hc hc d x0 rhc hg, fun H' => i + 1 + mm = I.tot ∧ ∃ hc βc, Ext (β1 ++ [D]) βc (upd H1 D (.dK [])) H' ∧ RepH X.K X.mg βc hc H' ∧ Post (rc X) W σ βc H' RepV Q (dcLoop false I p ft fk fe G (wipeE ρ vs) dn mm hc), fun H' w => ⟨mm, Nat.lt_succ_self _, w⟩, fun x H' y => ?_⟩
      obtain ⟨x2, rh2, rv⟩ := rel.yld i βc Hc hc d x H' x0 rhc hg y
      cases ha : assignP p d (wipeE ρ vs) with
      | none => rw [ha] at pc; exact pc.elim
      | some ρ' =>
        rw [ha] at pc
        simp only at pc
        have rs' : RepS βc H' (wipeE ρ vs) (wipe σ vs) := RepS.wipe ((rs.ext (x1.trans x0)).ext x2) vs
        obtain ⟨σ', rs2, run, hw⟩ := gP_run (K := X.K) p ha rv rs'
        refine run _ ⟨by rw [hw vs hv, wipe_idem], ρ', hc, βc, rs2, by rw [kt.1, kt.2]; exact rh2, ?_⟩
        have pc' := Post.ext x2 pc
        show Post (rc Xt) W0 σ' βc H' RelE _ (ft G ρ' hc)
        have e1 : rc Xt = rc X := by unfold rc; rw [kt.1, kt.2]
        rw [e1]
        refine pc'.noEx fun b h3 β3 H3 b' x3 rh3 eb p3 => ?_
        have eb' : b = b' := eb
        subst eb'
        have step : ∀ {β4 : List Addr} {H4 : Hp} {h4 : MH}, Ext βc β4 H' H4 → RepH X.K X.mg β4 h4 H4 → Post (rc X) W σ β4 H4 RepV Q (dcLoop false I p ft fk fe G (wipeE ρ vs) dn mm h4) → i + 1 + mm = I.tot ∧ ∃ hc βc, Ext (β1 ++ [D]) βc (upd H1 D (.dK [])) H4 ∧ RepH X.K X.mg βc hc H4 ∧ Post (rc X) W σ βc H4 RepV Q (dcLoop false I p ft fk fe G (wipeE ρ vs) dn mm hc) :=
          fun {β4 H4 h4} x4 rh4 p4 => ⟨by omega, h4, β4, (xc.trans x2).trans x4, rh4, p4⟩
        cases b with
        | false =>
          rw [if_neg (by simp)]
          rw [if_neg (by simp)] at p3
          exact step x3 rh3 p3
        | true =>
          rw [if_pos rfl]
          rw [if_pos rfl] at p3
          refine ⟨ρ', h3, β3, rs2.ext x3, by rw [kk.1, kk.2]; exact rh3, ?_⟩
          have e2 : rc Xk = rc X := by unfold rc; rw [kk.1, kk.2]
          rw [e2]
          refine p3.noEx fun y0 h4 β4 H4 v0 x4 rh4 rv4 p4 => ?_
          refine ⟨ρ', h4, β4, (rs2.ext x3).ext x4, by rw [ke.1, ke.2]; exact rh4, ?_⟩
          have e3 : rc Xe = rc X := by unfold rc; rw [ke.1, ke.2]
          rw [e3]
          refine p4.noEx fun y h5 β5 H5 v x5 rh5 rv5 p5 => ?_
          have hD5 : β5[dn]? = some D := x5.pre _ _ (x4.pre _ _ (x3.pre _ _ (x2.pre _ _ (xc.pre _ _ hDa))))
          split at p5
          · rename_i kvs em
            split at p5
            · rename_i kk ek
              split at p5
              · rename_i hz
                obtain ⟨hl, ws, e5, r5⟩ := rh5.dK em hD5
                refine ⟨ws, kk, key_at (rv4.ext x5) ek, e5, by rw [← r5.length]; exact hz.1, ?_⟩
                have new : Ext β5 β5 H5 (upd H5 D (.dK (putK ws kk v))) → RepO X.K X.mg β5 (upd H5 D (.dK (putK ws kk v))) D (.dK (setK kvs kk y)) := fun x => ⟨by have := setK_length kvs kk y; omega, _, upd_same, (r5.put kk rv5).ext x⟩
                have x6 : Ext β5 β5 H5 (upd H5 D (.dK (putK ws kk v))) := Ext.write e5 trivial (List.mem_of_getElem? hD5)
                obtain ⟨rh6, _⟩ := rh5.write em hD5 rfl (new x6)
                exact step (((x3.trans x4).trans x5).trans x6) rh6 (Post.ext x6 p5)
              · exact p5.elim
            · exact p5.elim
          · rename_i kvs em
            split at p5
            · rename_i kk ek
              split at p5
              · rename_i hz
                exact absurd hz.2 (by decide)
              · exact p5.elim
            · exact p5.elim
          · exact p5.elim
theorem r_dcT {fi : SI} {p : TP} {ft : ST} {fk fe : SE} {vs : List Nat} {Xt Xk Xe : Cx} (kt : Xt.K = X.K ∧ Xt.mg = X.mg) (kk : Xk.K = X.K ∧ Xk.mg = X.mg) (ke : Xe.K = X.K ∧ Xe.mg = X.mg) (hv : ∀ i ∈ p.slots, i ∈ vs) {σ : L2.St} {H : Hp} {Q : VK} (q : tE X W (eDc true fi p ft fk fe vs G) σ H Q) :
    tDcT (tIt X W (fi G)) (gP X.K p) (tT Xt W0 (ft G)) (tE Xk W0 (fk G)) (tE Xe W0 (fe G)) vs σ H Q := by
  obtain ⟨ρ, h, β, rs, rh, pp⟩ := q
  refine ⟨ρ, h, β, rs, rh, pp.bnd fun I h1 β1 H1 J x1 rh1 rel p1 => fun D hD => ?_⟩
  have xa : Ext β1 (β1 ++ [D]) H1 (upd H1 D (.dT [])) := Ext.alloc hD
  have rha : RepH X.K X.mg (β1 ++ [D]) (h1 ++ [.dT []]) (upd H1 D (.dT [])) := rh1.alloc hD ⟨Nat.zero_le _, [], upd_same, .nil⟩
  have hDa : (β1 ++ [D])[h1.length]? = some D := new_at rh1
  generalize hdn : h1.length = dn at p1 hDa
  refine ⟨fun i m Hc => i + m = I.tot ∧ ∃ hc βc, Ext (β1 ++ [D]) βc (upd H1 D (.dT [])) Hc ∧ RepH X.K X.mg βc hc Hc ∧ Post (rc X) W σ βc Hc RepV Q (dcLoop true I p ft fk fe G (wipeE ρ vs) dn m hc), ⟨I.tot, Nat.zero_add _, _, _, Ext.refl _ _, rha, Post.ext xa p1⟩, ?_⟩
  rintro i m Hc ⟨him, hc, βc, xc, rhc, pc⟩
  have x0 := xa.trans xc
  cases m with
  | zero =>
    refine .inl ?_
    unfold dcLoop at pc
    split at pc
    · rename_i hf
      have ei : i = I.tot := him
      subst ei
      exact ⟨rel.stop βc Hc hc x0 rhc hf, pc.here rhc (.loc (xc.pre _ _ hDa))⟩
    · exact pc.elim
  | succ mm =>
    refine .inr ?_
    unfold dcLoop at pc
    have ei : I.tot - (mm + 1) = i := by omega
    rw [ei] at pc
    cases hg : I.get i hc with
    | none => rw [hg] at pc; exact pc.elim
    | some d =>
      rw [hg] at pc
      simp only at pc
      refine ⟨rel.go i βc Hc hc d x0 rhc hg, fun H' => i + 1 + mm = I.tot ∧ ∃ hc βc, Ext (β1 ++ [D]) βc (upd H1 D (.dT [])) H' ∧ RepH X.K X.mg βc hc H' ∧ Post (rc X) W σ βc H' RepV Q (dcLoop true I p ft fk fe G (wipeE ρ vs) dn mm hc), fun H' w => ⟨mm, Nat.lt_succ_self _, w⟩, fun x H' y => ?_⟩
      obtain ⟨x2, rh2, rv⟩ := rel.yld i βc Hc hc d x H' x0 rhc hg y
      cases ha : assignP p d (wipeE ρ vs) with
      | none => rw [ha] at pc; exact pc.elim
      | some ρ' =>
        rw [ha] at pc
        simp only at pc
        have rs' : RepS βc H' (wipeE ρ vs) (wipe σ vs) := RepS.wipe ((rs.ext (x1.trans x0)).ext x2) vs
        obtain ⟨σ', rs2, run, hw⟩ := gP_run (K := X.K) p ha rv rs'
        refine run _ ⟨by rw [hw vs hv, wipe_idem], ρ', hc, βc, rs2, by rw [kt.1, kt.2]; exact rh2, ?_⟩
        have pc' := Post.ext x2 pc
        show Post (rc Xt) W0 σ' βc H' RelE _ (ft G ρ' hc)
        have e1 : rc Xt = rc X := by unfold rc; rw [kt.1, kt.2]
        rw [e1]
        refine pc'.noEx fun b h3 β3 H3 b' x3 rh3 eb p3 => ?_
        have eb' : b = b' := eb
        subst eb'
        have step : ∀ {β4 : List Addr} {H4 : Hp} {h4 : MH}, Ext βc β4 H' H4 → RepH X.K X.mg β4 h4 H4 → Post (rc X) W σ β4 H4 RepV Q (dcLoop true I p ft fk fe G (wipeE ρ vs) dn mm h4) → i + 1 + mm = I.tot ∧ ∃ hc βc, Ext (β1 ++ [D]) βc (upd H1 D (.dT [])) H4 ∧ RepH X.K X.mg βc hc H4 ∧ Post (rc X) W σ βc H4 RepV Q (dcLoop true I p ft fk fe G (wipeE ρ vs) dn mm hc) :=
          fun {β4 H4 h4} x4 rh4 p4 => ⟨by omega, h4, β4, (xc.trans x2).trans x4, rh4, p4⟩
        cases b with
        | false =>
          rw [if_neg (by simp)]
          rw [if_neg (by simp)] at p3
          exact step x3 rh3 p3
        | true =>
          rw [if_pos rfl]
          rw [if_pos rfl] at p3
          refine ⟨ρ', h3, β3, rs2.ext x3, by rw [kk.1, kk.2]; exact rh3, ?_⟩
          have e2 : rc Xk = rc X := by unfold rc; rw [kk.1, kk.2]
          rw [e2]
          refine p3.noEx fun y0 h4 β4 H4 v0 x4 rh4 rv4 p4 => ?_
          refine ⟨ρ', h4, β4, (rs2.ext x3).ext x4, by rw [ke.1, ke.2]; exact rh4, ?_⟩
          have e3 : rc Xe = rc X := by unfold rc; rw [ke.1, ke.2]
          rw [e3]
          refine p4.noEx fun y h5 β5 H5 v x5 rh5 rv5 p5 => ?_
          have hD5 : β5[dn]? = some D := x5.pre _ _ (x4.pre _ _ (x3.pre _ _ (x2.pre _ _ (xc.pre _ _ hDa))))
          split at p5
          · rename_i kvs em
            split at p5
            · rename_i kk ek
              split at p5
              · rename_i hz
                exact absurd hz.2 (by decide)
              · exact p5.elim
            · exact p5.elim
          · rename_i kvs em
            split at p5
            · rename_i kk ek
              split at p5
              · rename_i hz
                obtain ⟨hl, ws, e5, r5⟩ := rh5.dT em hD5
                obtain ⟨cc, e6, e7⟩ := keys_at (rv4.ext x5) ek
                refine ⟨ws, kk, cc, e6, e7, e5, by rw [← r5.length]; exact hz.1, ?_⟩
                have new : Ext β5 β5 H5 (upd H5 D (.dT (putK ws kk v))) → RepO X.K X.mg β5 (upd H5 D (.dT (putK ws kk v))) D (.dT (setK kvs kk y)) := fun x => ⟨by have := setK_length kvs kk y; omega, _, upd_same, (r5.put kk rv5).ext x⟩
                have x6 : Ext β5 β5 H5 (upd H5 D (.dT (putK ws kk v))) := Ext.write e5 trivial (List.mem_of_getElem? hD5)
                obtain ⟨rh6, _⟩ := rh5.write em hD5 rfl (new x6)
                exact step (((x3.trans x4).trans x5).trans x6) rh6 (Post.ext x6 p5)
              · exact p5.elim
            · exact p5.elim
          · exact p5.elim
section
variable {kx vx tg iter : Expr} {ifs : List Expr} {scope sc : Scope} {own : List (Str × Nat)} {fi : SI} {p : TP} {ft : ST} {fk fe : SE}
theorem se_dc (T : Bool) (o : XOk Γ G k W X) (hi : PI X tg iter (tIt X W (fi G))) (hb : blkC Γ.N { sc with names := Γ.names } scope own = true) (hg : ∀ X', XOk (Γ.blk scope) G k W0 X' → PG X' tg (gP X'.K p)) (ht : ∀ X', XOk (Γ.blk scope) G k W0 X' → PTs X' ifs (tT X' W0 (ft G)))
    (hk : ∀ X', XOk (Γ.blk scope) G k W0 X' → PE X' kx (tE X' W0 (fk G))) (he : ∀ X', XOk (Γ.blk scope) G k W0 X' → PE X' vx (tE X' W0 (fe G))) (hs : smp iter = true) (hv : ∀ i ∈ p.slots, i ∈ own.map (·.2)) : PE X (.DictComp kx vx [⟨tg, iter, ifs, 0⟩] scope pos) (tE X W (eDc T fi p ft fk fe (own.map (·.2)) G)) := by
  have b := o.blkOk hb
  cases T with
  | false =>
    exact (pe_dc (tk := tE X W0 (fk G)) (tv := tE X W0 (fe G)) (tt := tT X W0 (ft G)) o.calm (by rw [o.N]; exact o.nd) hi b (fun s H C cl fp => hg _ (o.blk b.kind s H C cl fp)) (fun s H C cl fp => ht _ (o.blk b.kind s H C cl fp)) (fun s H C cl fp => hk _ (o.blk b.kind s H C cl fp)) (fun s H C cl fp => he _ (o.blk b.kind s H C cl fp)) (folded_smp hs _)).imp
      fun σ H Q q => r_dc ⟨rfl, rfl⟩ ⟨rfl, rfl⟩ ⟨rfl, rfl⟩ hv q
  | true =>
    exact (pe_dcT (tk := tE X W0 (fk G)) (tv := tE X W0 (fe G)) (tt := tT X W0 (ft G)) (by have := o.u1; omega) o.calm (by rw [o.N]; exact o.nd) hi b (fun s H C cl fp => hg _ (o.blk b.kind s H C cl fp)) (fun s H C cl fp => ht _ (o.blk b.kind s H C cl fp)) (fun s H C cl fp => hk _ (o.blk b.kind s H C cl fp)) (fun s H C cl fp => he _ (o.blk b.kind s H C cl fp)) (folded_smp hs _)).imp
      fun σ H Q q => r_dcT ⟨rfl, rfl⟩ ⟨rfl, rfl⟩ ⟨rfl, rfl⟩ hv q
end
end
end EP
end
section
set_option maxHeartbeats 1000000
/-! Snd8: statements. -/
namespace EP
open PySem PySem.Spec PyProof.Rows L2

def PostS (R : Rc) (W : WX) (D : Ends) (β : List Addr) (H : Hp) : RS → Prop
  | .nx ρ h => ∀ β' H' σ', Ext β β' H H' → RepH R.K R.mg β' h H' → RepS β' H' ρ σ' → D.nx σ' H'
  | .rt d h => ∀ β' H' v, Ext β β' H H' → RepH R.K R.mg β' h H' → RepV β' H' d v → D.rt v H'
  | .bk ρ h => ∀ β' H' σ', Ext β β' H H' → RepH R.K R.mg β' h H' → RepS β' H' ρ σ' → D.bk σ' H'
  | .ct ρ h => ∀ β' H' σ', Ext β β' H H' → RepH R.K R.mg β' h H' → RepS β' H' ρ σ' → D.ct σ' H'
  | .ex C fs ρ h => ∀ β' H' σ' Cv od, Ext β β' H H' → RepH R.K R.mg β' h H' → RepS β' H' ρ σ' → R.mg C = some Cv → RepX β' H' fs od → W Cv od σ' H'
  | .bad => False
def tS (X : Cx) (W : WX) (g : Env → MH → RS) : TS := fun D σ H => ∃ ρ h β, RepS β H ρ σ ∧ RepH X.K X.mg β h H ∧ PostS (rc X) W D β H (g ρ h)
section
variable {R : Rc} {W : WX} {D : Ends} {β β' : List Addr} {H H' : Hp} {σ : L2.St} {ρ : Env}
theorem PostS.ext {r : RS} (x : Ext β β' H H') (p : PostS R W D β H r) : PostS R W D β' H' r := by
  cases r with
  | nx ρ h => exact fun b h s y => p b h s (x.trans y)
  | rt d h => exact fun b h s y => p b h s (x.trans y)
  | bk ρ h => exact fun b h s y => p b h s (x.trans y)
  | ct ρ h => exact fun b h s y => p b h s (x.trans y)
  | ex C fs ρ h => exact fun b h s c d y => p b h s c d (x.trans y)
  | bad => exact p
theorem PostS.bnd {α γ : Type} {Rel : List Addr → Hp → α → γ → Prop} {P : γ → Hp → Prop} {m : RE α} {f : α → MH → RS} (p : PostS R W D β H (EP.bndS ρ m f)) (rs : RepS β H ρ σ)
    (k : ∀ a h1 β' H' c, Ext β β' H H' → RepH R.K R.mg β' h1 H' → RepS β' H' ρ σ → Rel β' H' a c → PostS R W D β' H' (f a h1) → P c H') : Post R W σ β H Rel P m := by
  cases m with
  | ok a h => exact fun β2 H2 c x rh rc => k a h β2 H2 c x rh (rs.ext x) rc (PostS.ext x p)
  | ex C fs h => exact fun β2 H2 Cv od x rh e1 e2 => p β2 H2 σ Cv od x rh (rs.ext x) e1 e2
  | bad => exact p
theorem PostS.nx {h : MH} (p : PostS R W D β H (.nx ρ h)) (rs : RepS β H ρ σ) (rh : RepH R.K R.mg β h H) : D.nx σ H := p β H σ (Ext.refl _ _) rh rs
theorem PostS.rt {d : Dt} {v : V} {h : MH} (p : PostS R W D β H (.rt d h)) (rv : RepV β H d v) (rh : RepH R.K R.mg β h H) : D.rt v H := p β H v (Ext.refl _ _) rh rv
theorem PostS.bk {h : MH} (p : PostS R W D β H (.bk ρ h)) (rs : RepS β H ρ σ) (rh : RepH R.K R.mg β h H) : D.bk σ H := p β H σ (Ext.refl _ _) rh rs
theorem PostS.ct {h : MH} (p : PostS R W D β H (.ct ρ h)) (rs : RepS β H ρ σ) (rh : RepH R.K R.mg β h H) : D.ct σ H := p β H σ (Ext.refl _ _) rh rs
/-- what comes next -/
theorem PostS.seq {D' : Ends} {r : RS} {f : Env → MH → RS} (p : PostS R W D β H (match r with | .nx ρ1 h1 => f ρ1 h1 | r => r)) (hr : D'.rt = D.rt) (hb : D'.bk = D.bk) (hc : D'.ct = D.ct)
    (hn : ∀ ρ1 h1 β' H' σ', Ext β β' H H' → RepH R.K R.mg β' h1 H' → RepS β' H' ρ1 σ' → PostS R W D β' H' (f ρ1 h1) → D'.nx σ' H') : PostS R W D' β H r := by
  cases r with
  | nx ρ h => exact fun b hh s y rh rs => hn ρ h b hh s y rh rs (PostS.ext y p)
  | rt d h => unfold PostS; rw [hr]; exact p
  | bk ρ h => unfold PostS; rw [hb]; exact p
  | ct ρ h => unfold PostS; rw [hc]; exact p
  | ex C fs ρ h => exact p
  | bad => exact p
/-- a loop's body -/
theorem PostS.body {D' : Ends} {r : RS} {f : Env → MH → RS} (p : PostS R W D β H (match r with | .nx ρ2 h2 => f ρ2 h2 | .ct ρ2 h2 => f ρ2 h2 | .bk ρ2 h2 => .nx ρ2 h2 | r => r)) (hr : D'.rt = D.rt) (hb : D'.bk = D.nx)
    (hn : ∀ ρ1 h1 β' H' σ', Ext β β' H H' → RepH R.K R.mg β' h1 H' → RepS β' H' ρ1 σ' → PostS R W D β' H' (f ρ1 h1) → D'.nx σ' H') (hc : D'.ct = D'.nx) : PostS R W D' β H r := by
  cases r with
  | nx ρ h => exact fun b hh s y rh rs => hn ρ h b hh s y rh rs (PostS.ext y p)
  | rt d h => unfold PostS; rw [hr]; exact p
  | bk ρ h => unfold PostS; rw [hb]; exact p
  | ct ρ h => unfold PostS; rw [hc]; exact fun b hh s y rh rs => hn ρ h b hh s y rh rs (PostS.ext y p)
  | ex C fs ρ h => exact p
  | bad => exact p
end
section
variable {Γ : Ctx} {G : Orc} {k : Nat} {W : WX} {X : Cx} {pos : Pos} {e a b c : Expr} {fe fa fb fc : SE} {st : Stmt} {sts : List Stmt} {s s' : SS}
theorem ss_nil : PSs X [] (tS X W (sSkip G)) := pss_nil.imp fun D σ H ⟨ρ, h, β, rs, rh, p⟩ => p.nx rs rh
theorem ss_cons (h1 : PS X st (tS X W (s G))) (h2 : PSs X sts (tS X W (s' G))) : PSs X (st :: sts) (tS X W (sSeq s s' G)) :=
  (pss_cons h1 h2).imp fun D σ H ⟨ρ, h, β, rs, rh, p⟩ => ⟨ρ, h, β, rs, rh, PostS.seq (D' := { D with nx := _ }) p rfl rfl rfl fun ρ1 h1 β1 H1 σ1 x1 rh1 rs1 p1 => ⟨ρ1, h1, β1, rs1, rh1, p1⟩⟩
theorem ss_one (h1 : PS X st (tS X W (s G))) : PSs X [st] (tS X W (s G)) := (pss_one h1).imp fun D σ H q => q
theorem ss_pass : PS X (.Pass pos) (tS X W (sSkip G)) := ps_pass.imp fun D σ H ⟨ρ, h, β, rs, rh, p⟩ => p.nx rs rh
theorem ss_break : PS X (.Break pos) (tS X W (sBreak G)) := ps_break.imp fun D σ H ⟨ρ, h, β, rs, rh, p⟩ => p.bk rs rh
theorem ss_cont : PS X (.Continue pos) (tS X W (sCont G)) := ps_continue.imp fun D σ H ⟨ρ, h, β, rs, rh, p⟩ => p.ct rs rh
theorem ss_expr (he : PE X e (tE X W (fe G))) (hn : noComp e = true) : PS X (.Expr e pos) (tS X W (sExpr fe G)) :=
  (ps_expr he (swaps_noComp hn _ _ _)).imp fun D σ H ⟨ρ, h, β, rs, rh, p⟩ => ⟨ρ, h, β, rs, rh, p.bnd rs fun x h1 β1 H1 v x1 rh1 rs1 rv1 p1 => p1.nx rs1 rh1⟩
theorem ss_ret (he : PE X e (tE X W (fe G))) : PS X (.Return (some e) pos) (tS X W (sRet fe G)) :=
  (ps_ret he).imp fun D σ H ⟨ρ, h, β, rs, rh, p⟩ => ⟨ρ, h, β, rs, rh, p.bnd rs fun x h1 β1 H1 v x1 rh1 rs1 rv1 p1 => p1.rt rv1 rh1⟩
theorem ss_retN : PS X (.Return none pos) (tS X W (sRetN G)) := ps_retN.imp fun D σ H ⟨ρ, h, β, rs, rh, p⟩ => p.rt .non rh
theorem ss_if {t : ST} {u v : List Stmt} (hc : PT X c (tT X W (t G))) (ha : PSs X u (tS X W (s G))) (hb : PSs X v (tS X W (s' G))) : PS X (.If c u v pos) (tS X W (sIf t s s' G)) :=
  (ps_if hc ha hb).imp fun D σ H ⟨ρ, h, β, rs, rh, p⟩ => ⟨ρ, h, β, rs, rh, p.bnd rs fun x h1 β1 H1 x' x1 rh1 rs1 e p1 => by
    have e' : x = x' := e
    subst e'
    cases x with
    | true => rw [if_pos rfl]; exact ⟨ρ, h1, β1, rs1, rh1, p1⟩
    | false => rw [if_neg (by simp)]; exact ⟨ρ, h1, β1, rs1, rh1, p1⟩⟩
/-! ### assignments -/
/-- a value, then a target -/
theorem r_set {te : TE} {p : TP} {D : Ends} {σ : L2.St} {H : Hp} (hh : ∀ σ H Q, tE X W (fe G) σ H Q → te σ H Q) (q : tS X W (sSet p fe G) D σ H) : tAsg te (gP X.K p) D σ H := by
  obtain ⟨ρ, h, β, rs, rh, pp⟩ := q
  refine hh _ _ _ ⟨ρ, h, β, rs, rh, pp.bnd rs fun x h1 β1 H1 v x1 rh1 rs1 rv1 p1 => ?_⟩
  cases ha : assignP p x ρ with
  | none => rw [ha] at p1; exact p1.elim
  | some ρ' =>
    rw [ha] at p1
    obtain ⟨σ', rs2, run, _⟩ := gP_run (K := X.K) p ha rv1 rs1
    exact run _ (p1.nx rs2 rh1)
theorem ss_name {i : Nat} {x : Str} {pos' : Pos} (o : XOk Γ G k W X) (hi : Γ.N[i]? = some x) (hx : x ∈ Γ.stor) (he : PE X e (tE X W (fe G))) (hs : swapsWith e (some (.Name x pos')) pos.line X.env = pure false) : PS X (.Assign [.Name x pos'] e pos) (tS X W (sSet (.nm i) fe G)) :=
  (ps_set (by rw [o.N]; exact o.nd) (by rw [o.N]; exact hi) (o.stor x hx).1 he hs (o.stor x hx).2).imp fun D σ H q => r_set (fun _ _ _ z => z) q
/-- does the store of a tuple's parts go from the right? none: not known -/
def swO (names : List (Str × NameKind)) (ts vs : List Expr) : Option (Option (List Str)) :=
  if (!(ts.length == 2 || ts.length == 3) || vs.length != ts.length) = true then some none else
  if (vs.any fun | .Starred .. => true | _ => false) = true then some none else
  let line := (ts.head?.map (·.pos.line)).getD 0
  let nms := ts.filterMap fun
    | .Name id pos => if (names.lookup id == some .local && pos.line == line) = true then some id else none
    | _ => none
  if (nms.length != ts.length || nms.eraseDups.length != nms.length) = true then some none else
  if vs.all (foldedForSure 8) = true then some none else
  if vs.all (constantsAlone 8) = true then none else some (some nms)
theorem swO_ok {env : PySem.Env} {names : List (Str × NameKind)} {ts vs : List Expr} {kt k2 : Nat} {p p2 : Pos} {r : Option (List Str)} (hk : env.scope.kind = .function) (hn : env.scope.names = names) (h : swO names ts vs = some r) :
    swappedStores [.Tuple ts kt p] (.Tuple vs k2 p2) env = pure r := by
  have hb : env.blockKind = .function := by unfold PySem.Env.blockKind; rw [hk]; rfl
  have hq : ∀ x, env.kindOf x = names.lookup x := fun x => by unfold PySem.Env.kindOf; rw [hn]
  unfold swO at h
  unfold swappedStores
  simp only [hb, hq]
  split at h
  · rename_i h1
    cases h
    rw [if_pos (by simpa using h1)]
  · rename_i h1
    rw [if_neg (by simpa using h1)]
    split at h
    · rename_i h2
      cases h
      exact if_pos h2
    · rename_i h2
      refine (if_neg h2).trans ?_
      simp only at h
      split at h
      · rename_i h3
        cases h
        exact if_pos h3
      · rename_i h3
        refine (if_neg h3).trans ?_
        split at h
        · rename_i h4
          cases h
          exact if_pos h4
        · rename_i h4
          refine (if_neg h4).trans ?_
          split at h
          · cases h
          · rename_i h5
            refine (if_neg h5).trans ?_
            cases h
            rfl
end
end EP
end
section
set_option maxHeartbeats 1000000
/-! Snd9: more statements. -/
namespace EP
open PySem PySem.Spec PyProof.Rows L2
section
variable {Γ : Ctx} {G : Orc} {k : Nat} {W : WX} {X : Cx} {pos : Pos} {e a b c : Expr} {fe fa fb fc : SE} {st : Stmt} {sts : List Stmt} {s s' : SS}
/-! ### a, b, .. = e -/
theorem sole_noComp {e tg : Expr} (h : noComp e = true) (l : Nat) (env : PySem.Env) : swapsWithSole [tg] e l env = pure false := swaps_noComp h (some tg) l env
theorem ss_tup {es : List Expr} {j : Nat} {ps : List TP} {p : Pos} (hg : PG X (.Tuple es j p) (gP X.K (.tp ps))) (he : PE X e (tE X W (fe G))) (hn : noComp e = true) (hw : swappedStores [.Tuple es j p] e X.env = pure none) : PS X (.Assign [.Tuple es j p] e pos) (tS X W (sSet (.tp ps) fe G)) :=
  (ps_asg he hg (sole_noComp hn _ _) hw rfl).imp fun D σ H q => r_set (fun _ _ _ z => z) q
def noTup : Expr → Bool
  | .Tuple .. => false
  | _ => true
theorem sw_noTup {es : List Expr} {j : Nat} {p : Pos} {env : PySem.Env} (h : noTup e = true) : swappedStores [.Tuple es j p] e env = pure none := by
  cases e <;> first | rfl | exact nomatch h
theorem ss_par {i j : Nat} {x y : Str} {px py pt : Pos} {kt k2 : Nat} {pt2 : Pos} (o : XOk Γ G k W X) (hi : Γ.N[i]? = some x) (hj : Γ.N[j]? = some y) (hij : i ≠ j) (hx : Γ.names.lookup x = some .local) (hy : Γ.names.lookup y = some .local) (ha : PE X a (tE X W (fa G))) (hb : PE X b (tE X W (fb G)))
    (hs : smp a = true) (hs2 : smp b = true) (hw : swO Γ.names [.Name x px, .Name y py] [a, b] = some (some [x, y])) :
    PS X (.Assign [.Tuple [.Name x px, .Name y py] kt pt] (.Tuple [a, b] k2 pt2) pos) (tS X W (sPar i j fa fb G)) :=
  (ps_par o.calm (by rw [o.N]; exact o.nd) (by rw [o.N]; exact hi) (by rw [o.N]; exact hj) hij (by rw [o.names]; exact hx) (by rw [o.names]; exact hy) (pa_cons ha (pa_cons hb pa_nil (star_smp hs2 _ _)) (star_smp hs _ _)) (swO_ok o.kind o.names hw)).imp
    fun D σ H ⟨ρ, h, β, rs, rh, p⟩ => ⟨ρ, h, β, rs, rh, p.bnd rs fun x h1 β1 H1 v x1 rh1 rs1 rv1 p1 => ⟨ρ, h1, β1, rs1, rh1, p1.bnd rs1 fun y h2 β2 H2 w x2 rh2 rs2 rv2 p2 => ⟨v, w, rfl, p2.nx ((rs2.set i (rv1.ext x2)).set j rv2) rh2⟩⟩⟩
/-! ### o[i] = e -/
theorem ss_setI {ob ix : Expr} {fo fi : SE} {p : Pos} (o : XOk Γ G k W X) (he : PE X e (tE X W (fe G))) (ho : PE X ob (tE X W (fo G))) (hi : PE X ix (tE X W (fi G))) (hn : noComp e = true) (hs : smp ix = true) : PS X (.Assign [.Subscript ob ix p] e pos) (tS X W (sSetI fo fi fe G)) :=
  (ps_asg he (pg_sub ho hi (set_all o.u1) (fun v => by cases ix <;> first | rfl | exact nomatch hs)) (sole_noComp hn _ _) rfl rfl).imp
    fun D σ H ⟨ρ, h, β, rs, rh, p⟩ => ⟨ρ, h, β, rs, rh, p.bnd rs fun x h1 β1 H1 v x1 rh1 rs1 rv1 p1 => ⟨ρ, h1, β1, rs1, rh1, p1.bnd rs1 fun y h2 β2 H2 w x2 rh2 rs2 rv2 p2 => ⟨ρ, h2, β2, rs2, rh2, p2.bnd rs2 fun z h3 β3 H3 u x3 rh3 rs3 rv3 p3 => by
      cases hq : oSet y z x h3 with
      | none => rw [hq] at p3; exact p3.elim
      | some h4 =>
        rw [hq] at p3
        exact ⟨β3, h3, y, z, x, h4, rh3, rv2.ext x3, rv3, (rv1.ext x2).ext x3, hq, fun H4 x4 rh4 => (PostS.ext x4 p3).nx (rs3.ext x4) rh4⟩⟩⟩⟩
/-! ### x op= e -/
theorem ip_of {op : Operator} {f : Op2} (h : PIp X op (fun x y H Q => rS X f x y H Q)) : PIp X op (fun x y H Q => rS X f x y H Q) := h
theorem ips_add : PIp X .Add (fun x y H Q => rS X oAddI x y H Q) := by
  intro pins s σ H x y v u Q I rx ry ⟨W, σ', β, h, a, b, rh, ra, rb, p⟩
  unfold oAddI at p
  split at p
  · cases ra; cases rb
    exact ip_add pins s σ H _ _ v u Q I rx ry ⟨_, _, rfl, rfl, p.here rh (.int _)⟩
  · exact p.elim
theorem ips_sub : PIp X .Sub (fun x y H Q => rS X oSub x y H Q) := by
  intro pins s σ H x y v u Q I rx ry ⟨W, σ', β, h, a, b, rh, ra, rb, p⟩
  unfold oSub at p
  split at p
  · cases ra; cases rb
    exact ip_sub pins s σ H _ _ v u Q I rx ry ⟨_, _, rfl, rfl, p.here rh (.int _)⟩
  · exact p.elim
theorem ss_aug {i : Nat} {x : Str} {pos' : Pos} {op : Operator} {f : Op2} (o : XOk Γ G k W X) (hi : Γ.N[i]? = some x) (hx : x ∈ Γ.stor) (hp : PIp X op (fun x y H Q => rS X f x y H Q)) (he : PE X e (tE X W (fe G))) : PS X (.AugAssign (.Name x pos') op e pos) (tS X W (sAug i f fe G)) :=
  (ps_aug (by rw [o.N]; exact o.nd) (by rw [o.N]; exact hi) (o.stor x hx).1 he hp (o.stor x hx).2).imp fun D σ H ⟨ρ, h, β, rs, rh, p⟩ => by
    unfold sAug at p
    split at p
    · rename_i d ed
      obtain ⟨v, e1, rv⟩ := rs.at_ i d ed
      refine ⟨v, e1, ρ, h, β, rs, rh, p.bnd rs fun y h1 β1 H1 w x1 rh1 rs1 rv1 p1 => ⟨W, σ, β1, h1, d, y, rh1, rv.ext x1, rv1, p1.bnd rs1 fun z h2 β2 H2 u x2 rh2 rs2 rv2 p2 => p2.nx (rs2.set i rv2) rh2⟩⟩
    · exact p.elim
/-! ### loops -/
theorem ss_for {tg iter : Expr} {body : List Stmt} {fi : SI} {p : TP} (o : XOk Γ G k W X) (hi : PI X tg iter (tIt X W (fi G))) (hg : PG X tg (gP X.K p)) (hb : PSs X body (tS X W (s G))) (hs : smp iter = true) : PS X (.For tg iter body [] pos) (tS X W (sFor fi p s G)) :=
  (ps_for o.po o.calm hi hg hb (folded_smp hs _)).imp fun D σ H ⟨ρ, h, β, rs, rh, pp⟩ => by
    refine ⟨ρ, h, β, rs, rh, pp.bnd rs fun I h1 β1 H1 J x1 rh1 rs1 rel p1 => ?_⟩
    refine ⟨fun i m σc Hc => i + m = I.tot ∧ ∃ ρc hc βc, Ext β1 βc H1 Hc ∧ RepS βc Hc ρc σc ∧ RepH X.K X.mg βc hc Hc ∧ PostS (rc X) W D βc Hc (forLoop I p s G m ρc hc), ⟨I.tot, Nat.zero_add _, _, _, _, Ext.refl _ _, rs1, rh1, p1⟩, ?_⟩
    rintro i m σc Hc ⟨him, ρc, hc, βc, xc, rsc, rhc, pc⟩
    cases m with
    | zero =>
      refine .inl ?_
      unfold forLoop at pc
      split at pc
      · rename_i hf
        have ei : i = I.tot := him
        subst ei
        exact ⟨rel.stop βc Hc hc xc rhc hf, pc.nx rsc rhc⟩
      · exact pc.elim
    | succ mm =>
      refine .inr ?_
      unfold forLoop at pc
      have ei : I.tot - (mm + 1) = i := by omega
      rw [ei] at pc
      cases hg : I.get i hc with
      | none => rw [hg] at pc; exact pc.elim
      | some d =>
        rw [hg] at pc
        simp only at pc
        refine ⟨rel.go i βc Hc hc d xc rhc hg, fun σ' H' => i + 1 + mm = I.tot ∧ ∃ ρc hc βc, Ext β1 βc H1 H' ∧ RepS βc H' ρc σ' ∧ RepH X.K X.mg βc hc H' ∧ PostS (rc X) W D βc H' (forLoop I p s G mm ρc hc), fun σ' H' w => ⟨mm, Nat.lt_succ_self _, w⟩, fun x H' y => ?_⟩
        obtain ⟨x2, rh2, rv⟩ := rel.yld i βc Hc hc d x H' xc rhc hg y
        cases ha : assignP p d ρc with
        | none => rw [ha] at pc; exact pc.elim
        | some ρ' =>
          rw [ha] at pc
          simp only at pc
          obtain ⟨σ', rs2, run, _⟩ := gP_run (K := X.K) p ha rv (rsc.ext x2)
          refine run _ ⟨ρ', hc, βc, rs2, rh2, PostS.body (D := D) (D' := { D with nx := _, ct := _, bk := D.nx }) (PostS.ext x2 pc) rfl rfl (fun ρ1 h3 β3 H3 σ3 x3 rh3 rs3 p3 => ⟨by omega, ρ1, h3, β3, (xc.trans x2).trans x3, rs3, rh3, p3⟩) rfl⟩
theorem ss_while {body : List Stmt} {t : ST} (o : XOk Γ G k W X) (hc : PT X c (tT X W (t G))) (hb : PSs X body (tS X W (s G))) : PS X (.While c body [] pos) (tS X W (sWhile t s G)) :=
  (ps_while o.po hc hb).imp fun D σ H ⟨ρ, h, β, rs, rh, pp⟩ => by
    refine ⟨fun m σc Hc => ∃ ρc hc βc, RepS βc Hc ρc σc ∧ RepH X.K X.mg βc hc Hc ∧ PostS (rc X) W D βc Hc (whileLoop t s G m ρc hc), ⟨whileFuel, ρ, h, β, rs, rh, pp⟩, ?_⟩
    rintro m σc Hc ⟨ρc, hc, βc, rsc, rhc, pc⟩
    cases m with
    | zero => exact pc.elim
    | succ mm =>
      unfold whileLoop at pc
      refine ⟨ρc, hc, βc, rsc, rhc, pc.bnd rsc fun b h1 β1 H1 b' x1 rh1 rs1 e p1 => ?_⟩
      have e' : b = b' := e
      subst e'
      cases b with
      | false =>
        rw [if_neg (by simp)]
        rw [if_neg (by simp)] at p1
        exact p1.nx rs1 rh1
      | true =>
        rw [if_pos rfl]
        rw [if_pos rfl] at p1
        exact ⟨fun σ' H' => ∃ ρc hc βc, RepS βc H' ρc σ' ∧ RepH X.K X.mg βc hc H' ∧ PostS (rc X) W D βc H' (whileLoop t s G mm ρc hc), fun σ' H' w => ⟨mm, Nat.lt_succ_self _, w⟩, ρc, h1, β1, rs1, rh1, PostS.body (D := D) (D' := { D with nx := _, ct := _, bk := D.nx }) p1 rfl rfl (fun ρ1 h3 β3 H3 σ3 x3 rh3 rs3 p3 => ⟨ρ1, h3, β3, rs3, rh3, p3⟩) rfl⟩
end
end EP
end
section
set_option maxHeartbeats 1000000
set_option maxRecDepth 100000
/-! SndA: a name = a comprehension on one line; a dict display of one pair. -/
namespace EP
open PySem PySem.Spec PyProof.Rows L2
section
variable {X : Cx}
/-- name = {..} on one line, the name a local -/
theorem ps_setDc {i : Nat} {y : Str} {py : Pos} {kx vx tg iter : Expr} {ifs : List Expr} {scope : Scope} {own : List (Str × Nat)} {pos spos : Pos} {wi : TI} {g : TG} {tt : TT} {tk te : TE} (hc : X.calm = true) (hN : X.N.Nodup) (hy : X.N[i]? = some y) (hyl : X.env.scope.names.lookup y = some .local)
    (hsw : swapsWith (.DictComp kx vx [⟨tg, iter, ifs, 0⟩] scope pos) (some (.Name y py)) spos.line X.env = pure true) (hi : PI X tg iter wi) (ok : BlkOk X.N X.env.scope scope own)
    (hg : ∀ (s : Shared) (H : Hp) (C : Addr) (cl : List (Str × Addr)) (fp : List Addr), PG (X.blk s H scope (compEnvC scope cl C X.env) fp) tg g) (ht : ∀ (s : Shared) (H : Hp) (C : Addr) (cl : List (Str × Addr)) (fp : List Addr), PTs (X.blk s H scope (compEnvC scope cl C X.env) fp) ifs tt)
    (hkx : ∀ (s : Shared) (H : Hp) (C : Addr) (cl : List (Str × Addr)) (fp : List Addr), PE (X.blk s H scope (compEnvC scope cl C X.env) fp) kx tk)
    (he : ∀ (s : Shared) (H : Hp) (C : Addr) (cl : List (Str × Addr)) (fp : List Addr), PE (X.blk s H scope (compEnvC scope cl C X.env) fp) vx te) (hs : ∀ x, foldedSetIterable iter X.env x = pure x := by intro _; rfl) :
    PS X (.Assign [.Name y py] (.DictComp kx vx [⟨tg, iter, ifs, 0⟩] scope pos) spos) (tAsg (tDc wi g tt tk te (own.map (·.2))) (gName i)) := by
  refine ⟨fun pins s σ H D I h => ?_⟩
  rw [exec_Assign_Name_used _ _ _ _ hsw]
  refine wpAny_bind (wpAny_standAt (wpAny_bind ?_))
  show wpAny _ X.A (do let _ ← comprehension (.DictComp kx vx [⟨tg, iter, ifs, 0⟩] scope pos) scope X.env (firstIterPos [⟨tg, iter, ifs, 0⟩] pos) (newDict) false (eval iter X.env) (some (assign (.Name y py) X.env))) _ _ s
  have h : tDc wi g tt tk te (own.map (·.2)) σ H (fun x H1 => gName i x σ H1 D.nx) := h
  refine wpAny_bind (thn (dc_core (Qf := fun _ s' => SP X pins D .next s') hc hN I hi ok hg ht hkx he hs h fun L C s' m H' I' q hn f => ?_) fun _ s' hq => wpAny_pure (wpAny_pure hq))
  show wpAny _ _ (assign (.Name y py) X.env (.ref L)) _ _ _
  refine wpAny_assign_Name (store_ok2 (v := V.ref L) I' hN hy (.inl hyl) rfl (fun s2 I2 ⟨a, sb, ha⟩ => ?_) (.inr hyl))
  obtain ⟨f0, f1, f2, f3, f4, f5⟩ := f
  have haC : C ≠ a := by
    rcases ha with z | z
    · rw [z]; exact f1
    · exact fun e => f4 y a z e.symm
  refine ⟨m, hn.sameBut sb haC, fun h3 sb3 => ?_⟩
  exact ⟨_, H', I2.turned (t' := s2.toks) (fun b o hb e => (sb3.2 b hb).trans e) f0 f1 f3 f4 f5, q⟩
/-- name = {..} on one line, the name a local -/
theorem ps_setDcT {i : Nat} {y : Str} {py : Pos} {kx vx tg iter : Expr} {ifs : List Expr} {scope : Scope} {own : List (Str × Nat)} {pos spos : Pos} {wi : TI} {g : TG} {tt : TT} {tk te : TE} (hu : X.A.units < cLine) (hc : X.calm = true) (hN : X.N.Nodup) (hy : X.N[i]? = some y) (hyl : X.env.scope.names.lookup y = some .local)
    (hsw : swapsWith (.DictComp kx vx [⟨tg, iter, ifs, 0⟩] scope pos) (some (.Name y py)) spos.line X.env = pure true) (hi : PI X tg iter wi) (ok : BlkOk X.N X.env.scope scope own)
    (hg : ∀ (s : Shared) (H : Hp) (C : Addr) (cl : List (Str × Addr)) (fp : List Addr), PG (X.blk s H scope (compEnvC scope cl C X.env) fp) tg g) (ht : ∀ (s : Shared) (H : Hp) (C : Addr) (cl : List (Str × Addr)) (fp : List Addr), PTs (X.blk s H scope (compEnvC scope cl C X.env) fp) ifs tt)
    (hkx : ∀ (s : Shared) (H : Hp) (C : Addr) (cl : List (Str × Addr)) (fp : List Addr), PE (X.blk s H scope (compEnvC scope cl C X.env) fp) kx tk)
    (he : ∀ (s : Shared) (H : Hp) (C : Addr) (cl : List (Str × Addr)) (fp : List Addr), PE (X.blk s H scope (compEnvC scope cl C X.env) fp) vx te) (hs : ∀ x, foldedSetIterable iter X.env x = pure x := by intro _; rfl) :
    PS X (.Assign [.Name y py] (.DictComp kx vx [⟨tg, iter, ifs, 0⟩] scope pos) spos) (tAsg (tDcT wi g tt tk te (own.map (·.2))) (gName i)) := by
  refine ⟨fun pins s σ H D I h => ?_⟩
  rw [exec_Assign_Name_used _ _ _ _ hsw]
  refine wpAny_bind (wpAny_standAt (wpAny_bind ?_))
  show wpAny _ X.A (do let _ ← comprehension (.DictComp kx vx [⟨tg, iter, ifs, 0⟩] scope pos) scope X.env (firstIterPos [⟨tg, iter, ifs, 0⟩] pos) (newDict) false (eval iter X.env) (some (assign (.Name y py) X.env))) _ _ s
  have h : tDcT wi g tt tk te (own.map (·.2)) σ H (fun x H1 => gName i x σ H1 D.nx) := h
  refine wpAny_bind (thn (dcT_core (Qf := fun _ s' => SP X pins D .next s') hu hc hN I hi ok hg ht hkx he hs h fun L C s' m H' I' q hn f => ?_) fun _ s' hq => wpAny_pure (wpAny_pure hq))
  show wpAny _ _ (assign (.Name y py) X.env (.ref L)) _ _ _
  refine wpAny_assign_Name (store_ok2 (v := V.ref L) I' hN hy (.inl hyl) rfl (fun s2 I2 ⟨a, sb, ha⟩ => ?_) (.inr hyl))
  obtain ⟨f0, f1, f2, f3, f4, f5⟩ := f
  have haC : C ≠ a := by
    rcases ha with z | z
    · rw [z]; exact f1
    · exact fun e => f4 y a z e.symm
  refine ⟨m, hn.sameBut sb haC, fun h3 sb3 => ?_⟩
  exact ⟨_, H', I2.turned (t' := s2.toks) (fun b o hb e => (sb3.2 b hb).trans e) f0 f1 f3 f4 f5, q⟩
end
def compSc : Expr → Option Scope
  | .ListComp _ _ s _ => some s
  | .DictComp _ _ _ s _ => some s
  | _ => none
/-- is the store done within the comprehension? -/
def swN (names : List (Str × NameKind)) (scope : Scope) (y : Str) (pl el : Nat) : Bool := names.lookup y == some .local && pl == el && !(scope.names.any fun (n, k) => n == y && (k == .local || k == .cell))
theorem sw_name {e : Expr} {scope : Scope} {y : Str} {py : Pos} {l : Nat} {env : PySem.Env} {names : List (Str × NameKind)} (hk : env.scope.kind = .function) (hn : env.scope.names = names) (he : compSc e = some scope) :
    swapsWith e (some (.Name y py)) l env = pure (swN names scope y py.line e.pos.line) := by
  have hb : env.blockKind = .function := by unfold PySem.Env.blockKind; rw [hk]; rfl
  have hq : ∀ x, env.kindOf x = names.lookup x := fun x => by unfold PySem.Env.kindOf; rw [hn]
  cases e with
  | ListComp a b s p => cases he; unfold swapsWith swN; simp only [hb, hq]; rfl
  | DictComp a b c s p => cases he; unfold swapsWith swN; simp only [hb, hq]; rfl
  | _ => cases he
section
variable {Γ : Ctx} {G : Orc} {k : Nat} {W : WX} {X : Cx} {pos spos : Pos}
variable {elt kx vx tg iter : Expr} {ifs : List Expr} {scope sc : Scope} {own : List (Str × Nat)} {fi : SI} {p : TP} {ft : ST} {fk fe : SE}
theorem ss_lcN {i : Nat} {y : Str} {py : Pos} (o : XOk Γ G k W X) (hiN : Γ.N[i]? = some y) (hy : y ∈ Γ.stor) (hi : PI X tg iter (tIt X W (fi G))) (hb : blkC Γ.N { sc with names := Γ.names } scope own = true) (hg : ∀ X', XOk (Γ.blk scope) G k W0 X' → PG X' tg (gP X'.K p)) (ht : ∀ X', XOk (Γ.blk scope) G k W0 X' → PTs X' ifs (tT X' W0 (ft G)))
    (he : ∀ X', XOk (Γ.blk scope) G k W0 X' → PE X' elt (tE X' W0 (fe G))) (hs : smp iter = true) (hv : ∀ i ∈ p.slots, i ∈ own.map (·.2)) : PS X (.Assign [.Name y py] (.ListComp elt [⟨tg, iter, ifs, 0⟩] scope pos) spos) (tS X W (sSet (.nm i) (eLc fi p ft fe (own.map (·.2))) G)) := by
  have b := o.blkOk hb
  have sw := sw_name (e := .ListComp elt [⟨tg, iter, ifs, 0⟩] scope pos) (y := y) (py := py) (l := spos.line) o.kind o.names rfl
  cases q : swN Γ.names scope y py.line pos.line with
  | false =>
    have q' : swN Γ.names scope y py.line (Expr.ListComp elt [⟨tg, iter, ifs, 0⟩] scope pos).pos.line = false := q
    exact ss_name o hiN hy (se_lc o hi hb hg ht he hs hv) (by rw [sw, q'])
  | true =>
    have q' : swN Γ.names scope y py.line (Expr.ListComp elt [⟨tg, iter, ifs, 0⟩] scope pos).pos.line = true := q
    have hl : X.env.scope.names.lookup y = some .local := by
      rw [o.names]
      unfold swN at q
      simp only [Bool.and_eq_true] at q
      simpa using q.1.1
    exact (ps_setLc (te := tE X W0 (fe G)) (tt := tT X W0 (ft G)) o.calm (by rw [o.N]; exact o.nd) (by rw [o.N]; exact hiN) hl (by rw [sw, q']) hi b (fun s H C cl fp => hg _ (o.blk b.kind s H C cl fp)) (fun s H C cl fp => ht _ (o.blk b.kind s H C cl fp)) (fun s H C cl fp => he _ (o.blk b.kind s H C cl fp)) (folded_smp hs _)).imp
      fun D σ H z => r_set (p := .nm i) (fun σ H Q q => r_lc ⟨rfl, rfl⟩ ⟨rfl, rfl⟩ hv q) z
theorem ss_dcN (T : Bool) {i : Nat} {y : Str} {py : Pos} (o : XOk Γ G k W X) (hiN : Γ.N[i]? = some y) (hy : y ∈ Γ.stor) (hi : PI X tg iter (tIt X W (fi G))) (hb : blkC Γ.N { sc with names := Γ.names } scope own = true) (hg : ∀ X', XOk (Γ.blk scope) G k W0 X' → PG X' tg (gP X'.K p)) (ht : ∀ X', XOk (Γ.blk scope) G k W0 X' → PTs X' ifs (tT X' W0 (ft G)))
    (hk : ∀ X', XOk (Γ.blk scope) G k W0 X' → PE X' kx (tE X' W0 (fk G))) (he : ∀ X', XOk (Γ.blk scope) G k W0 X' → PE X' vx (tE X' W0 (fe G))) (hs : smp iter = true) (hv : ∀ i ∈ p.slots, i ∈ own.map (·.2)) : PS X (.Assign [.Name y py] (.DictComp kx vx [⟨tg, iter, ifs, 0⟩] scope pos) spos) (tS X W (sSet (.nm i) (eDc T fi p ft fk fe (own.map (·.2))) G)) := by
  have b := o.blkOk hb
  have sw := sw_name (e := .DictComp kx vx [⟨tg, iter, ifs, 0⟩] scope pos) (y := y) (py := py) (l := spos.line) o.kind o.names rfl
  cases q : swN Γ.names scope y py.line pos.line with
  | false =>
    have q' : swN Γ.names scope y py.line (Expr.DictComp kx vx [⟨tg, iter, ifs, 0⟩] scope pos).pos.line = false := q
    exact ss_name o hiN hy (se_dc T o hi hb hg ht hk he hs hv) (by rw [sw, q'])
  | true =>
    have q' : swN Γ.names scope y py.line (Expr.DictComp kx vx [⟨tg, iter, ifs, 0⟩] scope pos).pos.line = true := q
    have hl : X.env.scope.names.lookup y = some .local := by
      rw [o.names]
      unfold swN at q
      simp only [Bool.and_eq_true] at q
      simpa using q.1.1
    cases T with
    | false =>
      exact (ps_setDc (te := tE X W0 (fe G)) (tk := tE X W0 (fk G)) (tt := tT X W0 (ft G)) o.calm (by rw [o.N]; exact o.nd) (by rw [o.N]; exact hiN) hl (by rw [sw, q']) hi b (fun s H C cl fp => hg _ (o.blk b.kind s H C cl fp)) (fun s H C cl fp => ht _ (o.blk b.kind s H C cl fp)) (fun s H C cl fp => hk _ (o.blk b.kind s H C cl fp)) (fun s H C cl fp => he _ (o.blk b.kind s H C cl fp)) (folded_smp hs _)).imp
        fun D σ H z => r_set (p := .nm i) (fun σ H Q q => r_dc ⟨rfl, rfl⟩ ⟨rfl, rfl⟩ ⟨rfl, rfl⟩ hv q) z
    | true =>
      exact (ps_setDcT (te := tE X W0 (fe G)) (tk := tE X W0 (fk G)) (tt := tT X W0 (ft G)) (by have := o.u1; omega) o.calm (by rw [o.N]; exact o.nd) (by rw [o.N]; exact hiN) hl (by rw [sw, q']) hi b (fun s H C cl fp => hg _ (o.blk b.kind s H C cl fp)) (fun s H C cl fp => ht _ (o.blk b.kind s H C cl fp)) (fun s H C cl fp => hk _ (o.blk b.kind s H C cl fp)) (fun s H C cl fp => he _ (o.blk b.kind s H C cl fp)) (folded_smp hs _)).imp
        fun D σ H z => r_set (p := .nm i) (fun σ H Q q => r_dcT ⟨rfl, rfl⟩ ⟨rfl, rfl⟩ ⟨rfl, rfl⟩ hv q) z
end
/-! ### {k: v}, k a tuple -/
def tDisp1 (K : PySem.W.Frag) (tk tv : TE) : TE := fun σ H Q => ∀ p, H p = none → K.lookup p = none → tk σ (upd H p (.dT [])) fun x H2 => tv σ H2 fun y H3 => H3 p = some (.dT []) ∧ ∃ c ks, x = .ref c ∧ H3 c = some (.tup (ks.map kV)) ∧ Q (.ref p) (upd H3 p (.dT [(ks, y)]))
section
variable {X : Cx} {pos : Pos} {kx vx : Expr} {tk tv : TE}
theorem pe_disp1 (hu : X.A.units < cLine) (hk : PE X kx tk) (hv : PE X vx tv) : PE X (.Dict [some kx] [vx] pos) (tDisp1 X.K tk tv) := by
  refine ⟨fun pins s σ H Q I q => ?_⟩
  have hn := I.hok.fresh (Nat.le_refl s.heap.objs.size)
  have hK : X.K.lookup s.heap.objs.size = none := by
    cases e : X.K.lookup s.heap.objs.size with
    | none => rfl
    | some o => exact absurd (Heap.lt_size (I.kIn _ _ e)) (Nat.lt_irrefl _)
  have I1 := I.laid (a := s.heap.objs.size) (o := .dT []) (h' := s.heap.push { cls := .type "dict", data := .dict #[] }) (t' := s.toks) (fun _ _ q => Heap.get?_push_of_some _ q) (Nat.le_refl _) (dt_empty s.heap I.big)
  rw [arm_eval_Dict, zip_pairTrees [some kx] [vx] X.env pos rfl rfl, dictDisplay_pairs _ (by simp [pairTrees]) (by simp [pairTrees])]
  refine wpAny_bind (wpAny_standAt (wpAny_bind ?_))
  unfold subDict
  refine wpAny_bind (wpAny_alloc (wpAny_bind (wpAny_holding ?_)))
  rw [if_pos (by simp [pairTrees])]
  refine wpAny_bind (thn ((pps_cons hk hv pps_nil : PPs X pos [some kx] [vx] [(tk, tv)]).run pins _ σ _ (fun ps H' => match ps with
    | [(x, y)] => H' s.heap.objs.size = some (.dT []) ∧ ∃ c ks, x = .ref c ∧ H' c = some (.tup (ks.map kV)) ∧ Q (.ref s.heap.objs.size) (upd H' s.heap.objs.size (.dT [(ks, y)]))
    | _ => False) I1 (q _ hn hK)) fun ws s2 ⟨ps, H2, I2, rel, q2⟩ => ?_)
  cases rel with
  | nil => exact q2.elim
  | @cons a b as bs h t =>
    cases t with
    | cons _ _ => exact q2.elim
    | nil =>
      obtain ⟨b1, b2⟩ := b
      obtain ⟨x, y⟩ := a
      obtain ⟨eD, c, ks, ex, ec, qq⟩ := q2
      have hx : x = .ref c := ex
      subst hx
      obtain rfl : b1 = Value.ref c := h.1
      refine wpAny_holding ?_
      refine wpAny_bind ?_
      rw [List.forIn_cons]
      refine wpAny_bind (wpAny_bind (d_dictSetT (kvs := []) hu I2 eD (by show 0 < sizeLine; decide) ec h.2 fun s3 I3 => wpAny_pure ?_))
      exact wpAny_pure (wpAny_pure (wpAny_pure (wpAny_pure ⟨.ref s.heap.objs.size, _, I3, rfl, qq⟩)))
end
section
variable {Γ : Ctx} {G : Orc} {k : Nat} {W : WX} {X : Cx} {pos : Pos} {kx vx : Expr} {fk fv : SE}
theorem se_disp1 (o : XOk Γ G k W X) (hk : PE X kx (tE X W (fk G))) (hv : PE X vx (tE X W (fv G))) : PE X (.Dict [some kx] [vx] pos) (tE X W (eDict1 fk fv G)) :=
  (pe_disp1 (by have := o.u1; omega) hk hv).imp fun σ H Q ⟨ρ, h, β, rs, rh, p⟩ => fun D hD hK => by
    have hn := rh.notin hD hK
    refine ⟨ρ, h, β, rs.ext (Ext.fresh hD), rh.fresh hD, (Post.ext (Ext.fresh hD) p).bndE fun x h1 β1 H1 v q1 x1 rh1 rv1 p1 => ?_⟩
    refine ⟨ρ, h1, β1, (rs.ext (Ext.fresh hD)).ext x1, rh1, p1.bndE fun y h2 β2 H2 w q2 x2 rh2 rv2 p2 => ?_⟩
    have x12 := x1.trans x2
    have e2 : H2 D = some (.dT []) := x12.keep D _ upd_same hn
    have hn2 : D ∉ β2 := fun hm => by
      rcases x12.new D hm with z | z
      · exact hn z
      · rw [upd_same] at z; cases z
    have ht : ∀ xs, H2 D ≠ some (.tup xs) := fun xs z => by rw [e2] at z; cases z
    have hf : ∀ a b, H2 D ≠ some (.frz a b) := fun a b z => by rw [e2] at z; cases z
    cases hq : toKeys x with
    | none => rw [hq] at p2; exact p2.elim
    | some ks =>
      rw [hq] at p2
      obtain ⟨c, e6, e7⟩ := keys_at (rv1.ext x2) hq
      refine ⟨e2, c, ks, e6, e7, ?_⟩
      have p0 : Post (rc X) W σ β H RepV Q (.ok (.loc h2.length) (h2 ++ [.dT [(ks, y)]])) := by
        have e : eDict1 fk fv G ρ h = .ok (.loc h2.length) (h2 ++ [.dT [(ks, y)]]) := by
          unfold eDict1
          rw [q1]; simp only [EP.bnd]
          rw [q2]; simp only
          rw [hq]
        rw [← e]; exact p
      refine p0 (β2 ++ [D]) _ _ (Ext.adopt hD x12) (rh2.adopt hn2 ht hf ⟨by show 1 ≤ sizeLine; decide, _, upd_same, .cons (RepV.adopt ht rv2) .nil⟩) (.loc ?_)
      rw [← rh2.len]; simp
end
end EP
end
section
set_option maxHeartbeats 1000000
/-! SndB: exceptions made and raised. -/
namespace EP
open PySem PySem.Spec PyProof.Rows L2
section
variable {K : PySem.W.Frag} {mg : Str → Option Value} {β β' : List Addr} {H H' : Hp} {h : MH} {p a d : Addr}
theorem upd_self {u : HO} (e : H p = some u) : upd H p u = H := by
  funext q
  by_cases hq : q = p
  · rw [hq, upd_same, e]
  · rw [upd_ne hq]
theorem dropH_same : dropH H p p = none := if_pos rfl
theorem dropH_free (e : H p = none) : dropH H p = H := by
  funext q
  by_cases hq : q = p
  · rw [hq, dropH_same, e]
  · rw [dropH_ne hq]
theorem Ext.dropH (x : Ext β β' H H') (p : Addr) : Ext β β' (EP.dropH H p) (EP.dropH H' p) := by
  have key : ∀ {q : Addr} {o : HO}, EP.dropH H p q = some o → q ≠ p ∧ H q = some o := fun {q o} e => by
    by_cases hq : q = p
    · rw [hq, dropH_same] at e; cases e
    · rw [dropH_ne hq] at e; exact ⟨hq, e⟩
  refine ⟨x.pre, fun q o e hn => ?_, fun q o e => ?_, fun q o u e => ?_, fun q o e => ?_, fun q o e => ?_, fun q e => ?_, fun q hm => ?_⟩
  · obtain ⟨h1, h2⟩ := key e; rw [dropH_ne h1]; exact x.keep q o h2 hn
  · obtain ⟨h1, h2⟩ := key e; rw [dropH_ne h1]; exact x.tup q o h2
  · obtain ⟨h1, h2⟩ := key e; rw [dropH_ne h1]; exact x.frz q o u h2
  · obtain ⟨h1, h2⟩ := key e; rw [dropH_ne h1]; exact x.ext q o h2
  · obtain ⟨h1, h2⟩ := key e; rw [dropH_ne h1]; exact x.xd q o h2
  · by_cases hq : q = p
    · rw [hq, dropH_same]
    · rw [dropH_ne hq] at e ⊢; exact x.dom q e
  · rcases x.new q hm with z | z
    · exact .inl z
    · refine .inr ?_
      by_cases hq : q = p
      · rw [hq, dropH_same]
      · rw [dropH_ne hq]; exact z
theorem RepH.undrop {u : HO} (r : RepH K mg β h (dropH H p)) (e : H p = some u) : RepH K mg β h H := by
  have := r.fresh (p := p) (u := u) dropH_same
  rw [dropH_upd, upd_self e] at this
  exact this
theorem RepH.dropX {φ : Heap → Prop} (r : RepH K mg β h H) (ep : H p = some (.ext φ)) : RepH K mg β h (dropH H p) := by
  have ht : ∀ xs, H p ≠ some (.tup xs) := fun xs z => by rw [ep] at z; cases z
  refine ⟨r.len, fun n o q e1 e2 => ?_, r.inj⟩
  have ra := r.at_ n o q e1 e2
  have hq : ∀ {u : HO}, H q = some u → (∀ ψ, u ≠ .ext ψ) → dropH H p q = some u := fun {u} e z => by
    rw [dropH_ne fun y => ?_]; exact e
    subst y; rw [e] at ep; exact z _ (Option.some.inj ep)
  cases o with
  | lst xs => obtain ⟨l, vs, e, rv⟩ := ra; exact ⟨l, vs, (hq e fun _ z => nomatch z), rv.drop' ht⟩
  | fro xs =>
    obtain ⟨l, vs, f, rv⟩ := ra
    refine ⟨l, vs, ?_, rv.drop' ht⟩
    rcases f with ⟨ob, f⟩ | f
    · exact .inl ⟨ob, hq f fun _ z => nomatch z⟩
    · exact .inr f
  | dK xs => obtain ⟨l, vs, e, rv⟩ := ra; exact ⟨l, vs, (hq e fun _ z => nomatch z), rv.drop ht⟩
  | dT xs => obtain ⟨l, vs, e, rv⟩ := ra; exact ⟨l, vs, (hq e fun _ z => nomatch z), rv.drop ht⟩
  | ins C fs =>
    obtain ⟨Ca, dx, gs, m, e, l, rv⟩ := ra
    refine ⟨Ca, dx, gs, m, (hq e fun _ z => nomatch z), l, fun f => ?_⟩
    rcases rv f with z | ⟨d, v, h1, h2, h3⟩
    · exact .inl z
    · exact .inr ⟨d, v, h1, h2, h3.drop ht⟩
mutual
theorem RepV.mono (m : ∀ p xs, H p = some (.tup xs) → H' p = some (.tup xs)) : ∀ {d : Dt} {v : V}, RepV β H d v → RepV β H' d v
  | _, _, .non => .non
  | _, _, .bl b => .bl b
  | _, _, .int i => .int i
  | _, _, .str y => .str y
  | _, _, .tup e l r => .tup (m _ _ e) l (RepVs.mono m r)
  | _, _, .loc e => .loc e
theorem RepVs.mono (m : ∀ p xs, H p = some (.tup xs) → H' p = some (.tup xs)) : ∀ {ds : List Dt} {vs : List V}, RepVs β H ds vs → RepVs β H' ds vs
  | _, _, .nil => .nil
  | _, _, .cons a b => .cons (RepV.mono m a) (RepVs.mono m b)
end
theorem RepF.put {fs : Fs} {gs : List (Str × V)} {f : Str} {x : Dt} {v : V} (r : RepF β H fs gs) (rv : RepV β H x v) : RepF β H ((f, x) :: fs) ((f, v) :: gs) := fun g => by
  by_cases e : (g == f) = true
  · exact .inr ⟨x, v, by simp [List.lookup, e], by simp [List.lookup, e], rv⟩
  · have e' : (g == f) = false := by simpa using e
    simp only [List.lookup, e']
    exact r g
def dropO (H : Hp) (a : Addr) : Option Addr → Hp
  | none => dropH H a
  | some d => dropH (dropH H d) a
end

/-! ### raise C(..) -/
section
variable {Γ : Ctx} {G : Orc} {k : Nat} {W : WX} {X : Cx} {pos : Pos} {e : Expr} {es : List Expr} {fs : SA}
theorem ss_raise {C : Str} {n : Nat} {names : List Str} {p spos : Pos} (o : XOk Γ G k W X) (hg : Γ.names.lookup C = some .globalImplicit) (hx : Γ.tab.excs.lookup C = some (n, names)) (ha : PA X (e :: es) (tA X W (fs G))) (hl : ∀ ρ h xs h', fs G ρ h = .ok xs h' → xs.length = names.length)
    (hd : (C == ("__debug__" : Str)) = false) (hs : (e :: es).all smp = true) (hz : names.length ≤ 1000) : PS X (.Raise (some (.Call (.Name C p) (e :: es) [] pos)) none spos) (tS X W (sRaise C n names fs G)) := by
  simp only [List.all_cons, Bool.and_eq_true] at hs
  obtain ⟨Ca, fI, fd, ps, hm, T, iC, tI, hb, F⟩ := (o.excs C n names hx).ex
  refine (ps_raise o.calm o.tk (pmk_oex T iC tI F o.room hb .nil (passes_call o.tk fun _ _ _ _ z => z.elim) (gl_of o hg) hm ha hd (star_smp hs.1 _ _) (stars_none hs.2 _ _))).imp fun D σ H ⟨ρ, h, β, rs, rh, pp⟩ => ?_
  refine ⟨ρ, h, β, rs, rh, ?_⟩
  have key : ∀ xs h1 β1 H1 vs, xs.length = names.length → RepH X.K X.mg β1 h1 H1 → RepS β1 H1 ρ σ → RepVs β1 H1 xs vs → PostS (rc X) W D β1 H1 (match G n xs h1 with
      | .ok (.tup ds) h2 => if ds.length = names.length then .ex C (names.zip ds).reverse ρ h2 else .bad
      | _ => .bad) → vs.length ≤ 1000 ∧ ∀ a, H1 a = none → spIni (rc X) Ca (G n) names (.ref a :: (vs ++ [])) (upd H1 a (exo a Ca none))
        (fun v H2 => v = .non ∧ ∃ (d : Addr) (fs : List (Str × V)), H2 a = some (exo a Ca (some d)) ∧ H2 d = some (exd d fs) ∧ H1 d = none ∧ W (.ref Ca) (some d) σ (upd (del H2 a) d (.xd fs))) (fun _ _ _ => False) := by
    intro xs h1 β1 H1 vs hlen rh1 rs1 rv1 p1
    refine ⟨by rw [← rv1.length, hlen]; exact hz, fun a hna => ?_⟩
    split at p1
    · rename_i ds h2 e2
      split at p1
      · have e0 : dropH (upd H1 a (exo a Ca none)) a = H1 := by
          funext q
          by_cases hq : q = a
          · rw [hq, dropH_same, hna]
          · rw [dropH_ne hq, upd_ne hq]
        refine ⟨a, vs, xs, h1, β1, ds, h2, by rw [List.append_nil], hlen, upd_same, rv1.ext (Ext.fresh hna), rh1.fresh hna, e2, fun β2 H2 d gs x2 rh2 ea ed hd0 hda rf => ?_⟩
        rw [e0] at x2 hd0
        refine ⟨rfl, d, gs, ea, ed, hd0, ?_⟩
        have e3 : upd (del H2 a) d (.xd gs) = upd (dropH (dropH H2 d) a) d (.xd gs) := by
          funext q
          by_cases hq : q = d
          · rw [hq, upd_same, upd_same]
          · rw [upd_ne hq, upd_ne hq]
            by_cases hqa : q = a
            · rw [hqa, dropH_same]; exact if_pos rfl
            · rw [dropH_ne hqa, dropH_ne hq]; exact if_neg hqa
        have hfree : dropH (dropH H2 d) a d = none := by rw [dropH_ne hda]; exact dropH_same
        rw [e3]
        have x3 := x2.trans (Ext.fresh (u := .xd gs) hfree)
        exact p1 β2 _ σ (.ref Ca) (some d) x3 (rh2.fresh hfree) (rs1.ext x3) hm ⟨gs, upd_same, rf.ext (Ext.fresh hfree)⟩
      · exact p1.elim
    · exact p1.elim
  have pp' : PostS (rc X) W D β H (EP.bndS ρ (fs G ρ h) fun xs h1 => match G n xs h1 with
      | .ok (.tup ds) h2 => if ds.length = names.length then .ex C (names.zip ds).reverse ρ h2 else .bad
      | _ => .bad) := pp
  cases hq : fs G ρ h with
  | ok xs h1 =>
    rw [hq] at pp'
    exact fun β1 H1 vs x1 rh1 rv1 => key xs h1 β1 H1 vs (hl _ _ _ _ hq) rh1 (rs.ext x1) rv1 (PostS.ext x1 pp')
  | ex C fs h1 =>
    rw [hq] at pp'
    exact fun β2 H2 Cv od x rh e1 e2 => pp' β2 H2 σ Cv od x rh (rs.ext x) e1 e2
  | bad => rw [hq] at pp'; exact pp'
end
end EP
end
section
set_option maxHeartbeats 1000000
/-! SndC: an exception's __init__. -/
namespace EP
open PySem PySem.Spec PyProof.Rows L2
/-- the parameters, at their slots -/
def ParAt (β : List Addr) (H : Hp) (σ : L2.St) : List (Str × Nat) → List Dt → Prop
  | [], [] => True
  | (_, j) :: r, x :: xs => (∃ v, σ[j]? = some (some v) ∧ RepV β H x v) ∧ ParAt β H σ r xs
  | _, _ => False
theorem ParAt.ext {β β' : List Addr} {H H' : Hp} {σ : L2.St} (x : Ext β β' H H') : ∀ {r : List (Str × Nat)} {xs : List Dt}, ParAt β H σ r xs → ParAt β' H' σ r xs
  | [], [], _ => trivial
  | (_, _) :: _, _ :: _, ⟨⟨v, h1, h2⟩, h⟩ => ⟨⟨v, h1, h2.ext x⟩, ParAt.ext x h⟩
  | [], _ :: _, h => h.elim
  | (_, _) :: _, [], h => h.elim
theorem ParAt.mono {β : List Addr} {H H' : Hp} {σ : L2.St} (m : ∀ p xs, H p = some (.tup xs) → H' p = some (.tup xs)) : ∀ {r : List (Str × Nat)} {xs : List Dt}, ParAt β H σ r xs → ParAt β H' σ r xs
  | [], [], _ => trivial
  | (_, _) :: _, _ :: _, ⟨⟨v, h1, h2⟩, h⟩ => ⟨⟨v, h1, h2.mono m⟩, ParAt.mono m h⟩
  | [], _ :: _, h => h.elim
  | (_, _) :: _, [], h => h.elim
def OdOk (H0 H : Hp) (a : Addr) (acc : Fs) (gs : List (Str × V)) (rem : List (Str × Nat)) : Option Addr → Prop
  | none => acc = [] ∧ gs = [] ∧ rem ≠ []
  | some d => H d = some (exd d gs) ∧ d ≠ a ∧ H0 d = none
/-- what the rest of an __init__ does -/
def tI (R : Rc) (Ca : Addr) (sp : Nat) (G : Orc) (rem : List (Str × Nat)) : TS := fun D σ H => ∃ a od gs acc xs h β β0 H0 es h2, σ[0]? = some (some (.ref a)) ∧ H a = some (exo a Ca od) ∧ H0 a = none ∧ OdOk H0 H a acc gs rem od ∧ gs.length + rem.length ≤ 900 ∧
  Ext β0 β H0 (dropO H a od) ∧ RepH R.K R.mg β h (dropO H a od) ∧ RepF β (dropO H a od) acc gs ∧ ParAt β H σ rem xs ∧ initLoop sp G xs h = .ok es h2 ∧
  ∀ β' H' d gs', Ext β0 β' H0 (dropH (dropH H' d) a) → RepH R.K R.mg β' h2 (dropH (dropH H' d) a) → H' a = some (exo a Ca (some d)) → H' d = some (exd d gs') → H0 d = none → d ≠ a → RepF β' (dropH (dropH H' d) a) (((rem.map (·.1)).zip es).reverse ++ acc) gs' → D.nx σ H'
section
variable {Γ : Ctx} {G : Orc} {k : Nat} {W : WX} {X : Cx} {Ca : Addr} {sp : Nat}
theorem ti_nil : PSs X [] (tI (rc X) Ca sp G []) := pss_nil.imp fun D σ H ⟨a, od, gs, acc, xs, h, β, β0, H0, es, h2, e0, ea, ha0, hod, hl, x, rh, rf, par, hi, q⟩ => by
  cases xs with
  | cons _ _ => exact par.elim
  | nil =>
    cases hi
    cases od with
    | none => exact absurd rfl hod.2.2
    | some d => exact q β H d gs x rh ea hod.1 hod.2.2 hod.2.1 (by simpa [dropO] using rf)
theorem dropO_un {K : PySem.W.Frag} {mg : Str → Option Value} {β : List Addr} {h : MH} {H H0 : Hp} {a Ca : Addr} {acc : Fs} {gs : List (Str × V)} {rem : List (Str × Nat)} {od : Option Addr} (ea : H a = some (exo a Ca od)) (hod : OdOk H0 H a acc gs rem od) (rh : RepH K mg β h (dropO H a od)) : RepH K mg β h H := by
  cases od with
  | none => exact RepH.undrop (H := H) rh ea
  | some d =>
    have h1 : RepH K mg β h (dropH H d) := RepH.undrop (H := dropH H d) rh (by rw [dropH_ne (Ne.symm hod.2.1)]; exact ea)
    exact RepH.undrop (H := H) h1 hod.1
theorem ti_cons {f x sf : Str} {j : Nat} {sts : List Stmt} {rem : List (Str × Nat)} {p1 p2 p3 p4 p5 p6 : Pos} (o : XOk Γ G k W X) (T : OexC X.K Ca) (hno : PySem.W.findIn X.K (.ref Ca) f = some none) (h0 : Γ.N[0]? = some ("self" : Str)) (hj : Γ.N[j]? = some x)
    (hs0 : Γ.names.lookup ("self" : Str) = some .local) (hsx : Γ.names.lookup x = some .local) (hxd : (x == ("__debug__" : Str)) = false) (hxc : (x == ("__classdict__" : Str)) = false) (hf : Γ.tab.fns.lookup sf = some (sp, 1)) (hg : Γ.names.lookup sf = some .globalImplicit) (hd : (sf == ("__debug__" : Str)) = false)
    (hr : PSs X sts (tI (rc X) Ca sp G rem)) : PSs X (.Assign [.Attribute (.Name "self" p1) f p2] (.Call (.Name sf p3) [.Name x p4] [] p5) p6 :: sts) (tI (rc X) Ca sp G ((f, j) :: rem)) := by
  have he : PE X (.Call (.Name sf p3) [.Name x p4] [] p5) (tE X W (eCall sp (aCons (eVar j) aNil) G)) := se_call o hg hf (sa_cons rfl (se_var o hj (.inl hsx) hxd hxc) sa_nil) (fun ρ h xs h' e => by
    have e' : (EP.bnd (eVar j G ρ h) fun x h1 => RE.ok [x] h1) = RE.ok xs h' := e
    cases hq : eVar j G ρ h with
    | ok y h1 => rw [hq] at e'; cases e'; rfl
    | ex C fs h1 => rw [hq] at e'; cases e'
    | bad => rw [hq] at e'; cases e') hd (by rfl)
  have hself : PE X (.Name "self" p1) (tVar 0) := pe_var (i := 0) (by rw [o.N]; exact h0) (by unfold Vis; rw [o.names]; exact .inl hs0) (by decide) (by decide)
  refine (pss_cons (ps_ost hself he (swaps_noComp (e := .Call (.Name sf p3) [.Name x p4] [] p5) rfl _ _ _)) hr).imp fun D σ H ⟨a, od, gs, acc, xs, h, β, β0, H0, es, h2, e0, ea, ha0, hod, hl, x, rh, rf, par, hi, q⟩ => ?_
  cases xs with
  | nil => exact par.elim
  | cons x1 xs =>
    obtain ⟨⟨v, hv, rv⟩, par⟩ := par
    have rhH : RepH X.K X.mg β h H := dropO_un ea hod rh
    have hi' : (EP.bnd (G sp [x1] h) fun d h1 => EP.bnd (initLoop sp G xs h1) fun ds h2 => RE.ok (d :: ds) h2) = .ok es h2 := hi
    -- the value
    cases hq : G sp [x1] h with
    | ex C fs h1 => rw [hq] at hi'; cases hi'
    | bad => rw [hq] at hi'; cases hi'
    | ok y h1 =>
      rw [hq] at hi'
      simp only [EP.bnd] at hi'
      cases hq2 : initLoop sp G xs h1 with
      | ex C fs h1 => rw [hq2] at hi'; cases hi'
      | bad => rw [hq2] at hi'; cases hi'
      | ok es' h2' =>
        rw [hq2] at hi'
        simp only at hi'
        cases hi'
        have hjl : j < σ.length := (List.getElem?_eq_some_iff.mp hv).1
        have rs : RepS β H ((List.replicate σ.length none).set j (some x1)) σ := by
          refine ⟨by simp, fun i d e => ?_⟩
          by_cases hij : j = i
          · subst hij
            rw [List.getElem?_set_self (by simpa using hjl)] at e
            cases e
            exact ⟨v, hv, rv⟩
          · rw [List.getElem?_set_ne hij] at e
            have := List.mem_of_getElem? e
            have := List.eq_of_mem_replicate this
            cases this
        have ev : eVar j G ((List.replicate σ.length none).set j (some x1)) h = .ok x1 h := by
          unfold eVar
          rw [List.getElem?_set_self (by simpa using hjl)]
        have ec : eCall sp (aCons (eVar j) aNil) G ((List.replicate σ.length none).set j (some x1)) h = .ok y h1 := by
          unfold eCall aCons aNil
          rw [ev]
          simp only [EP.bnd]
          exact hq
        refine ⟨_, h, β, rs, rhH, ?_⟩
        rw [ec]
        intro β1 H1 w x1' rh1 rw1
        have ea1 : H1 a = some (exo a Ca od) := x1'.ext a _ ea
        refine ⟨.ref a, e0, a, Ca, rfl, T, hno, ?_⟩
        have hta : ∀ xs, H1 a ≠ some (.tup xs) := fun xs z => by rw [ea1] at z; cases z
        cases od with
        | none =>
          refine .inl ⟨ea1, fun dx hdx hne => ?_⟩
          have eD : dropO (upd (upd H1 dx (exd dx [(f, w)])) a (exo a Ca (some dx))) a (some dx) = dropH H1 a := by
            funext q
            show dropH (dropH _ dx) a q = _
            by_cases hqa : q = a
            · rw [hqa, dropH_same, dropH_same]
            · rw [dropH_ne hqa, dropH_ne hqa]
              by_cases hqd : q = dx
              · rw [hqd, dropH_same, hdx]
              · rw [dropH_ne hqd, upd_ne hqa, upd_ne hqd]
          have xD := x.trans (x1'.dropH a)
          have rhD : RepH X.K X.mg β1 h1 (dropH H1 a) := rh1.dropX ea1
          obtain ⟨rfl, rfl, _⟩ := hod
          have mm : ∀ p xs, H1 p = some (.tup xs) → upd (upd H1 dx (exd dx [(f, w)])) a (exo a Ca (some dx)) p = some (.tup xs) := fun p xs e => by
            rw [upd_ne (fun z => hta xs (by rw [← z]; exact e)), upd_ne (ne_of_none e hdx)]; exact e
          refine ⟨a, some dx, [(f, w)], [(f, y)], xs, h1, β1, β0, H0, es', h2, e0, upd_same, ha0, ⟨by rw [upd_ne hne]; exact upd_same, hne, xD.dom dx (by rw [dropH_ne hne]; exact hdx)⟩, by simp only [List.length_cons, List.length_nil] at hl ⊢; omega, ?_, ?_, ?_, (par.ext x1').mono mm, hq2, ?_⟩
          · rw [eD]; exact xD
          · rw [eD]; exact rhD
          · rw [eD]
            exact RepF.put (fun g => .inl ⟨rfl, rfl⟩) (rw1.drop hta)
          · intro β' H' d gs' y1 y2 y3 y4 y5 y6 y7
            refine q β' H' d gs' y1 y2 y3 y4 y5 y6 ?_
            simpa using y7
        | some d =>
          obtain ⟨ed, hda, hd0⟩ := hod
          have ed1 : H1 d = some (exd d gs) := x1'.ext d _ ed
          refine .inr ⟨d, gs, ea1, ed1, by have : gs.length + (rem.length + 1) ≤ 900 := hl; omega, ?_⟩
          have htd : ∀ xs, H1 d ≠ some (.tup xs) := fun xs z => by rw [ed1] at z; cases z
          have eD : dropO (upd H1 d (exd d ((f, w) :: gs))) a (some d) = dropH (dropH H1 d) a := by
            funext q
            show dropH (dropH _ d) a q = _
            by_cases hqa : q = a
            · rw [hqa, dropH_same, dropH_same]
            · rw [dropH_ne hqa, dropH_ne hqa]
              by_cases hqd : q = d
              · rw [hqd, dropH_same, dropH_same]
              · rw [dropH_ne hqd, dropH_ne hqd, upd_ne hqd]
          have xD := x.trans ((x1'.dropH d).dropH a)
          have ea2 : dropH H1 d a = some (exo a Ca (some d)) := by rw [dropH_ne (Ne.symm hda)]; exact ea1
          have rhD : RepH X.K X.mg β1 h1 (dropH (dropH H1 d) a) := (rh1.dropX ed1).dropX ea2
          have mm : ∀ p xs, H1 p = some (.tup xs) → upd H1 d (exd d ((f, w) :: gs)) p = some (.tup xs) := fun p xs e => by
            rw [upd_ne (fun z => htd xs (by rw [← z]; exact e))]; exact e
          refine ⟨a, some d, (f, w) :: gs, (f, y) :: acc, xs, h1, β1, β0, H0, es', h2, e0, by rw [upd_ne (Ne.symm hda)]; exact ea1, ha0, ⟨upd_same, hda, hd0⟩, by simp only [List.length_cons] at hl ⊢; omega, ?_, ?_, ?_, (par.ext x1').mono mm, hq2, ?_⟩
          · rw [eD]; exact xD
          · rw [eD]; exact rhD
          · rw [eD]
            refine RepF.put (rf.ext ((x1'.dropH d).dropH a)) ((rw1.drop htd).drop fun xs z => ?_)
            rw [ea2] at z; cases z
          · intro β' H' d' gs' y1 y2 y3 y4 y5 y6 y7
            refine q β' H' d' gs' y1 y2 y3 y4 y5 y6 ?_
            simpa using y7
end
end EP
end
section
set_option maxHeartbeats 1000000
set_option maxRecDepth 100000
/-! SndD: try, several clauses 'except C as e' (after HandS.Exc.ps_try_as and HandS.TryMany.ps_try_many). -/
namespace EP
open PySem PySem.Spec PyProof.Rows L2
structure HdS where
  c : Value
  i : Nat
  ts : Addr → Value → Option Addr → TS
def wAsM (K : PySem.W.Frag) (Wout : WX) (D : Ends) : List HdS → WX
  | [] => Wout
  | hd :: r => fun cls d σ H => ∃ b, PySem.W.exmOne K cls hd.c = some b ∧ (b = true → ∀ a, H a = none → hd.ts a cls d { nx := fun σ' H' => D.nx (σ'.set hd.i none) H', rt := D.rt, bk := fun σ' H' => D.bk (σ'.set hd.i none) H', ct := fun σ' H' => D.ct (σ'.set hd.i none) H' } (σ.set hd.i (some (.ref a))) H) ∧
    (b = false → wAsM K Wout D r cls d σ H)
inductive HdA (X : Cx) : List ExceptHandler → List HdS → Prop
  | nil : HdA X [] []
  | cons {x n : Str} {c : Value} {i : Nat} {ts : Addr → Value → Option Addr → TS} {b₀ : Stmt} {suite : List Stmt} {np pos' : Pos} {hds : List ExceptHandler} {l : List HdS} (hc : Names X x c) (hi : X.N[i]? = some n) (hln : X.env.kindOf n = some .local)
      (hsu : ∀ (a : Addr) (oe : Obj) (cls : Value) (d : Option Addr) (pn : List (Addr × Obj)), Zc cls d oe → (∃ vs, oe.data = .fields vs) → PSs (X.suite a ((a, oe) :: pn)) (b₀ :: suite) (ts a cls d)) (r : HdA X hds l) :
      HdA X (.ExceptHandler (some (.Name x np)) (some n) (b₀ :: suite) pos' :: hds) (⟨c, i, ts⟩ :: l)
section
variable {X : Cx} {body : List Stmt} {h₀ : ExceptHandler} {hds : List ExceptHandler} {l : List HdS} {pos : Pos} {tb : WX → TS} {Wout : WX}
theorem ps_try_asM (hs : X.stack = X.env :: X.outer) (hf : X.env.frame = some X.env.locals) (hN : X.N.Nodup) (tk : Takes X Wout)
    (hb : ∀ (W : WX) (pn : List (Addr × Obj)) (xe : Value → Shared → Prop), Takes (X.tr pn xe) W → PassesOwn (model X.prog X.w) X.A X.env xe → PSs (X.tr pn xe) body (tb W))
    (hh : HdA X (h₀ :: hds) l) : PS X (.Try body (h₀ :: hds) [] [] pos) (fun D σ H => tb (wAsM X.K Wout D l) D σ H) := by
  refine ⟨fun pins s σ H D I h => ?_⟩
  have ok := I.ok
  have hfr : X.A.frames = some (X.env :: X.outer) := by rw [ok.frames, hs]
  refine wpAny_Try_except ?_
  refine wpAny_mono ((hb (wAsM X.K Wout D l) (X.pn ++ pins) (fun e s₁ => wpAny (model X.prog X.w) X.A (noteFrame e X.env) (fun _ s₂ => wpAny (model X.prog X.w) X.A (setFlight e none) (fun _ s₃ =>
    wpAny (model X.prog X.w) X.A (handleBy e X.env (h₀ :: hds)) (SP X pins D) X.xe s₃) X.xe s₂) X.xe s₁) (fun u s' xx => ?_) PassesOwn.looking).run [] s σ H D (I.toTry _) h) (fun f s1 hsp => ?_) (fun e s1 he => he)
  · -- the catch
    obtain ⟨a, B, sI, pins', σ', H', cls, d, rfl, J', nb, up, sky, na, os, ag, w⟩ := xx
    have J : Inv X pins σ' H' sI := J'.ofTry ok
    have sky' : Sky B (X.env :: X.outer) a (Zc cls d) X.env.locals s'.heap := by rw [← hs]; exact sky
    show wpAny (model X.prog X.w) X.A (noteFrame (.ref a) X.env) _ _ _
    refine Sky.land Zc.steady hfr hf sky' fun h3 fl3 up3 => ?_
    have J3 : Inv X pins σ' H' { s' with heap := h3 } := J.landed nb fl3.1 (up.trans up3) os ag
    obtain ⟨oe3, vs3, he3, hz3, hd3⟩ := fl3.there
    have notFr : ∀ {h : Heap} {o : Obj} {vs : Array Value}, h.FunFrames B (X.env :: X.outer) → h.get? a = some o → o.data = .fields vs → a ∉ frs (X.env :: X.outer) := fun {h o vs} ff e dd hm => by
      obtain ⟨_, o', e', hnf⟩ := ff.mem hm
      rw [e] at e'; cases e'
      exact hnf _ dd
    have nfr := notFr fl3.2.2.1 he3 hd3
    have nL : a ≠ X.env.locals := fun z => nfr (List.mem_filterMap.mpr ⟨X.env, List.mem_cons_self, by rw [hf, z]⟩)
    have nF : a ∉ X.fs := fun hm => by
      obtain ⟨e, he, q⟩ := List.mem_filterMap.mp hm
      exact nfr (List.mem_filterMap.mpr ⟨e, List.mem_cons_of_mem _ he, q⟩)
    have S3 := J3.suite he3 hd3 na nL nF
    have go : ∀ {hds' : List ExceptHandler} {l' : List HdS}, HdA X hds' l' → wAsM X.K Wout D l' cls d σ' H' →
        wpAny (model X.prog X.w) X.A (handleBy (.ref a) X.env hds') (SP X pins D) X.xe { s' with heap := h3 } := by
      intro hds' l' hk
      induction hk with
      | nil =>
        intro w
        refine wpAny_handleBy_nil ?_
        obtain ⟨k1, k2, k3, oe, vs, T, oT, ts', he, hz, hd, h1, hr⟩ := id fl3
        unfold PySem.passOn
        refine wpAny_bind (wpAny_field he hd h1 ?_)
        rw [if_neg (show ¬ ((Value.ref T == Value.none) = true) from by simp)]
        have fin : wpAny (model X.prog X.w) X.A (setFlight (.ref a) X.env.frame) (fun _ s4 => wpAny (model X.prog X.w) X.A (throw (.ref a) : Sem Flow) (SP X pins D) X.xe s4) X.xe { s' with heap := h3 } := by
          rw [hf]
          refine HandSPX.setFlight_upZ fl3 fun h4 hh4 up4 => wpAny_throw (tk _ _ ?_)
          exact ⟨a, B, sI, pins, σ', H', cls, d, rfl, J, nb, (up.trans up3).trans up4, .inr (.inr (by rw [hs]; exact hh4)), na, os, ag, w⟩
        first
          | exact wpAny_bind (wpAny_pure (wpAny_bind fin))
          | exact wpAny_bind fin
      | @cons x n c i ts b₀ suite np pos' hds2 l2 hc hi hln hsu r ih =>
        have hloc : Loc X.env.scope n := .inl hln
        intro w
        obtain ⟨b, hb1, hyes, hno⟩ := w
        refine wpAny_handleBy_cons (codeAny_handlers_test ?_) (by intro q; cases q)
        have LT : PySem.W.Looks (model X.prog X.w) h3 (typeOf (.ref a)) cls := fun A Q E s k q => wpAny_typeOf_ref (k _ _ he3) (by rw [hz3.1]; exact q)
        have LM := PySem.W.exm_one (M := model X.prog X.w) (J3.kIn) LT hb1
        have test : ∀ {Q : Value → Shared → Prop} {E : Value → Shared → Prop}, Q c { s' with heap := h3 } → wpAny (model X.prog X.w) (X.A.mark (some (.ref a))) (eval (.Name x np) X.env) Q E { s' with heap := h3 } := fun {Q E} q => by
          obtain ⟨hg, hdbg, hm | ⟨hm, hv, hnn⟩⟩ := hc
          · exact ld_glob (X := X.suite a ((a, oe3) :: (X.pn ++ pins))) S3 hg hm q hdbg
          · exact ld_blt (X := X.suite a ((a, oe3) :: (X.pn ++ pins))) S3 hg hm hv q hnn hdbg
        refine test (LM.here ?_)
        cases b with
        | true =>
          refine codeAny_handlers_suite_as ?_
          refine HandSPX.lands_againZ fl3 fun h4 fl4 up4 => ?_
          have J4 : Inv X pins σ' H' { s' with heap := h4 } := J.landed nb fl4.1 ((up.trans up3).trans up4) os ag
          obtain ⟨oe4, vs4, he4, hz4, hd4⟩ := fl4.there
          have S4 := J4.suite he4 hd4 na nL nF
          refine store_ok (X := X.suite a ((a, oe4) :: (X.pn ++ pins))) (v := .ref a) S4 hN hi hloc rfl (fun s5 S5 => ?_) (.inr hln)
          refine wpAny_mono ((hsu a oe4 cls d (X.pn ++ pins) hz4 ⟨_, hd4⟩).run [] s5 _ H' _ S5 (hyes rfl a na)) (fun f s6 hsp => ?_) (fun _ _ z => False.elim z)
          have end_ : ∀ {σ6 : L2.St} {H6 : Hp} {Q : Shared → Prop}, Inv (X.suite a ((a, oe4) :: (X.pn ++ pins))) [] σ6 H6 s6 → (∀ s7, Inv X pins (σ6.set i none) H6 s7 → Q s7) →
              wpAny (model X.prog X.w) X.A (do bindName X.env n .none; unbindBehindTheSuite X.env n pos') (fun _ s7 => Q s7) X.xe s6 := fun {σ6 H6 Q} S6 hq => gone_ok (S6.unsuite ok) hN hi hln hq
          cases f with
          | next =>
            obtain ⟨σ6, H6, S6, q6⟩ := hsp
            exact end_ S6 fun s7 J7 => ⟨_, _, J7, q6⟩
          | brk =>
            obtain ⟨σ6, H6, S6, q6⟩ := hsp
            exact end_ S6 fun s7 J7 => ⟨_, _, J7, q6⟩
          | cont =>
            obtain ⟨σ6, H6, S6, q6⟩ := hsp
            exact end_ S6 fun s7 J7 => ⟨_, _, J7, q6⟩
          | ret u =>
            obtain ⟨v6, σ6, H6, S6, r6, q6⟩ := hsp
            exact end_ S6 fun s7 J7 => ⟨_, _, _, J7, r6, q6⟩
        | false =>
          show wpAny _ X.A (handleBy (.ref a) X.env hds2) _ _ _
          exact ih (hno rfl)
    exact go hh w
  · cases f with
    | next =>
      obtain ⟨σ', H', J', q⟩ := hsp
      exact wpAny_execs_nil ⟨σ', H', J'.ofTry ok, q⟩
    | brk =>
      obtain ⟨σ', H', J', q⟩ := hsp
      exact ⟨σ', H', J'.ofTry ok, q⟩
    | cont =>
      obtain ⟨σ', H', J', q⟩ := hsp
      exact ⟨σ', H', J'.ofTry ok, q⟩
    | ret u =>
      obtain ⟨v, σ', H', J', r, q⟩ := hsp
      exact ⟨v, σ', H', J'.ofTry ok, r, q⟩
end
end EP
end
section
set_option maxHeartbeats 1000000
/-! SndE: try. -/
namespace EP
open PySem PySem.Spec PyProof.Rows L2
/-- a suite's readings: a the exception at slot i, cls its class, d its dict -/
def tX {α γ : Type} (Y : Cx) (a : Addr) (cls : Value) (d : Option Addr) (i : Nat) (Rel : List Addr → Hp → α → γ → Prop) (g : Str → Fs → Env → M α) : L2.St → Hp → (γ → Hp → Prop) → Prop := fun σ H Q =>
  ∃ C fs ρ h β, Y.mg C = some cls ∧ RepX β H fs d ∧ σ[i]? = some (some (.ref a)) ∧ RepS β H ρ σ ∧ RepH Y.K Y.mg β h H ∧ Post (rc Y) W0 σ β H Rel Q (g C fs ρ h)
def tXS (Y : Cx) (a : Addr) (cls : Value) (d : Option Addr) (i : Nat) (g : Str → Fs → Env → MH → RS) : TS := fun D σ H =>
  ∃ C fs ρ h β, Y.mg C = some cls ∧ RepX β H fs d ∧ σ[i]? = some (some (.ref a)) ∧ RepS β H ρ σ ∧ RepH Y.K Y.mg β h H ∧ PostS (rc Y) W0 D β H (g C fs ρ h)
theorem RepX.ext {β β' : List Addr} {H H' : Hp} {fs : Fs} {d : Option Addr} (x : Ext β β' H H') (r : RepX β H fs d) : RepX β' H' fs d := by
  cases d with
  | none => exact r
  | some dd => obtain ⟨gs, h1, h2⟩ := r; exact ⟨gs, x.xd _ _ h1, h2.ext x⟩
section
variable {Γ : Ctx} {G : Orc} {k : Nat} {W : WX} {X : Cx} {pos : Pos} {a : Addr} {oe : Obj} {cls : Value} {d : Option Addr} {pn : List (Addr × Obj)} {i : Nat} {e b : Expr} {es : List Expr} {fe fb : XE} {fs : XA}
abbrev sx (X : Cx) (a : Addr) (oe : Obj) (pn : List (Addr × Obj)) : Cx := X.suite a ((a, oe) :: pn)
abbrev tXE (X : Cx) (a : Addr) (oe : Obj) (cls : Value) (d : Option Addr) (pn : List (Addr × Obj)) (i : Nat) (G : Orc) (fe : XE) : TE := tX (sx X a oe pn) a cls d i RepV fun C fs => fe C fs G
abbrev tXA (X : Cx) (a : Addr) (oe : Obj) (cls : Value) (d : Option Addr) (pn : List (Addr × Obj)) (i : Nat) (G : Orc) (fe : XA) : TA := tX (sx X a oe pn) a cls d i RepVs fun C fs => fe C fs G
abbrev tXT (X : Cx) (a : Addr) (oe : Obj) (cls : Value) (d : Option Addr) (pn : List (Addr × Obj)) (i : Nat) (G : Orc) (s : XS) : TS := tXS (sx X a oe pn) a cls d i fun C fs => s C fs G
theorem xe_var {j : Nat} {x : Str} (o : XOk Γ G k W X) (hN : Γ.N[j]? = some x) (hv : Γ.names.lookup x = some .local ∨ Γ.names.lookup x = some .cell ∨ Γ.names.lookup x = some .free)
    (hd : (x == ("__debug__" : Str)) = false) (hcd : (x == ("__classdict__" : Str)) = false) : PE (sx X a oe pn) (.Name x pos) (tXE X a oe cls d pn i G (fun _ _ => eVar j)) := by
  refine PE.imp (pe_var (i := j) (by show X.N[j]? = _; rw [o.N]; exact hN) (by show Vis X.env.scope x; unfold Vis; rw [o.names]; exact hv) hd hcd) fun σ H Q ⟨C, fs, ρ, h, β, hm, rx, hs, rs, rh, p⟩ => ?_
  change Post _ _ _ _ _ _ _ (eVar j G ρ h) at p
  unfold eVar at p
  split at p
  · rename_i d e
    obtain ⟨v, e1, r⟩ := rs.at_ j d e
    exact ⟨v, e1, p.here rh r⟩
  · exact p.elim
theorem xe_c {e : Expr} {z : Dt} {v : V} (h : PE (sx X a oe pn) e (tC v)) (r : ∀ β H, RepV β H z v) : PE (sx X a oe pn) e (tXE X a oe cls d pn i G (fun _ _ => eC z)) :=
  h.imp fun σ H Q ⟨C, fs, ρ, h, β, hm, rx, hs, rs, rh, p⟩ => p.here rh (r β H)
theorem xe_int {z : Int} {j : Nat} : PE (sx X a oe pn) (.Constant (.int z) j pos) (tXE X a oe cls d pn i G (fun _ _ => eC (.int z))) := xe_c pe_int fun _ _ => .int z
theorem xe_bl {z : Bool} {j : Nat} : PE (sx X a oe pn) (.Constant (.bool z) j pos) (tXE X a oe cls d pn i G (fun _ _ => eC (.bl z))) := xe_c pe_bl fun _ _ => .bl z
theorem xe_non {j : Nat} : PE (sx X a oe pn) (.Constant .none j pos) (tXE X a oe cls d pn i G (fun _ _ => eC .non)) := xe_c pe_non fun _ _ => .non
theorem xe_str {z : Str} {j : Nat} : PE (sx X a oe pn) (.Constant (.str z) j pos) (tXE X a oe cls d pn i G (fun _ _ => eC (.str z))) := xe_c pe_str fun _ _ => .str z
theorem xa_nil : PA (sx X a oe pn) [] (tXA X a oe cls d pn i G (fun _ _ => aNil)) := pa_nil.imp fun σ H Q ⟨C, fs, ρ, h, β, hm, rx, hs, rs, rh, p⟩ => p.here rh .nil
theorem xa_cons (he : smp e = true) (ha : PE (sx X a oe pn) e (tXE X a oe cls d pn i G fe)) (hr : PA (sx X a oe pn) es (tXA X a oe cls d pn i G fs)) : PA (sx X a oe pn) (e :: es) (tXA X a oe cls d pn i G (fun C f => aCons (fe C f) (fs C f))) :=
  (pa_cons ha hr (star_smp he _ _)).imp fun σ H Q ⟨C, f, ρ, h, β, hm, rx, hs, rs, rh, p⟩ => ⟨C, f, ρ, h, β, hm, rx, hs, rs, rh, p.bnd fun x h1 β1 H1 v x1 rh1 rv1 p1 => ⟨C, f, ρ, h1, β1, hm, rx.ext x1, hs, rs.ext x1, rh1, p1.bnd fun xs h2 β2 H2 vs x2 rh2 rv2 p2 => p2.here rh2 (.cons (rv1.ext x2) rv2)⟩⟩
theorem xe_tup {j : Nat} (ha : PA (sx X a oe pn) es (tXA X a oe cls d pn i G fs)) : PE (sx X a oe pn) (.Tuple es j pos) (tXE X a oe cls d pn i G (fun C f => eTup (fs C f))) :=
  (pe_tup ha).imp fun σ H Q ⟨C, f, ρ, h, β, hm, rx, hs, rs, rh, p⟩ => ⟨C, f, ρ, h, β, hm, rx, hs, rs, rh, p.bnd fun xs h1 β1 H1 vs x1 rh1 rv1 p1 => p1.newT rh1 rv1⟩
theorem xe_or {rest : List Expr} (ha : PE (sx X a oe pn) e (tXE X a oe cls d pn i G fe)) (hb : PE (sx X a oe pn) (.BoolOp .Or (b :: rest) pos) (tXE X a oe cls d pn i G fb)) : PE (sx X a oe pn) (.BoolOp .Or (e :: b :: rest) pos) (tXE X a oe cls d pn i G (fun C f => eOr (fe C f) (fb C f))) :=
  (pe_or ha hb).imp fun σ H Q ⟨C, f, ρ, h, β, hm, rx, hs, rs, rh, p⟩ => ⟨C, f, ρ, h, β, hm, rx, hs, rs, rh, p.bnd fun x h1 β1 H1 v x1 rh1 rv1 p1 => by
    split at p1
    · cases rv1; exact ⟨true, rfl, iteT (p1.here rh1 (.bl _))⟩
    · cases rv1; exact ⟨false, rfl, iteF ⟨C, f, ρ, h1, β1, hm, rx.ext x1, hs, rs.ext x1, rh1, p1⟩⟩
    · exact p1.elim⟩
/-- e.f -/
theorem xe_fld {n f : Str} {p1 : Pos} (o : XOk Γ G k W X) (hN : Γ.N[i]? = some n) (hv : Γ.names.lookup n = some .local) (hd : (n == ("__debug__" : Str)) = false) (hcd : (n == ("__classdict__" : Str)) = false) (hz : Zc cls d oe) (hf : ∃ vs, oe.data = .fields vs) :
    PE (sx X a oe pn) (.Attribute (.Name n p1) f pos) (tXE X a oe cls d pn i G (xF Γ.tab.flds f)) := by
  have hvar : PE (sx X a oe pn) (.Name n p1) (tVar i) := pe_var (i := i) (by show X.N[i]? = _; rw [o.N]; exact hN) (by show Vis X.env.scope n; unfold Vis; rw [o.names]; exact .inl hv) hd hcd
  refine ⟨fun pins s σ H Q I q => ?_⟩
  obtain ⟨C, fs, ρ, h, β, hm, rx, hs, rs, rh, p⟩ := q
  have hm' : X.mg C = some cls := hm
  unfold xF at p
  simp only at p
  split at p
  · rename_i l el
    split at p
    · rename_i hfl
      split at p
      · rename_i dt ed
        obtain ⟨Ca, mC, T, na⟩ := o.flds C l el
        rw [hm'] at mC
        cases mC
        refine (pe_xf (X := X) (a := a) (oe := oe) (d := d) (pn := pn) T (na f (by simpa using hfl)) hz hf hvar rfl).run pins s σ H Q I ?_
        refine ⟨.ref a, hs, rfl, rfl, ?_⟩
        cases d with
        | none =>
          have e0 : fs = [] := rx
          subst e0
          cases ed
        | some dd =>
          obtain ⟨gs, h1, h2⟩ := rx
          rcases h2 f with ⟨z, _⟩ | ⟨d', v, e1, e2, e3⟩
          · rw [z] at ed; cases ed
          · rw [e1] at ed; cases ed
            exact ⟨dd, gs, v, rfl, h1, e2, p.here rh e3⟩
      · exact p.elim
    · exact p.elim
  · exact p.elim
/-- isinstance(e, T) -/
def rIsX (K : PySem.W.Frag) (Ca a : Addr) (d : Option Addr) : List V → Hp → VK → Prop := fun xs H Q => ∃ (Da : Addr) (b : Bool), xs = [.ref a, .ref Da] ∧ PySem.W.kitOne K (.ref Ca) (.ref Da) = some b ∧
  (∀ dd, d = some dd → ∃ gs, H dd = some (.xd gs)) ∧ Q (.bl b) H
theorem call_isX {C D : Str} {b0 : Bool} {Ca : Addr} (mC : X.mg C = some (.ref Ca)) (C0 : SubAt X.K X.mg C D b0) (hz : Zc (.ref Ca) d oe) (hf : ∃ vs, oe.data = .fields vs) : CallR (sx X a oe pn) (.builtin "isinstance") (rIsX X.K Ca a d) := by
  intro pins s σ H xs us Q I r h
  obtain ⟨Da, b, rfl, e, hdd, q⟩ := h
  obtain ⟨Ca', Da', m1, m2, _, _, k1, k2, k3, k4, k5, k6, k7, k8⟩ := C0
  rw [mC] at m1; cases m1
  cases r with
  | cons rx rr =>
    cases rr with
    | cons rt rr =>
      cases rr
      cases rx
      cases rt
      obtain ⟨hget, _⟩ := I.pin (a, oe) (List.mem_append.mpr (.inl List.mem_cons_self))
      obtain ⟨vs, hv⟩ := hf
      have J : ∃ od, PySem.W.InstAt s.heap a oe Ca od := by
        cases d with
        | none =>
          refine ⟨none, hget, hz.1, by unfold PySem.W.notCls; rw [hv], by rw [hz.2]; trivial⟩
        | some dd =>
          obtain ⟨gs, hgs⟩ := hdd dd rfl
          have hx : ObjOk X.prog X.w H s.heap dd (.xd gs) := I.hok dd _ hgs
          obtain ⟨mA, hns, hr⟩ := hx
          obtain ⟨od, ho, hl⟩ := lookIn_ns hns
          exact ⟨some od, hget, hz.1, by unfold PySem.W.notCls; rw [hv], by rw [hz.2]; exact ho⟩
      obtain ⟨od, J⟩ := J
      exact PySem.W.kia_one (PySem.W.kitx_exc (od := od) k1 k2 k3 k4 k5 k6 k7 k8) I.kIn J e (fun z => nomatch z) fun tk => ⟨.bl b, H, I.kept (t' := tk) fun _ _ z => z, rfl, q⟩
theorem xe_is {n T x : Str} {p1 p2 p3 : Pos} (o : XOk Γ G k W X) (hx : x = "isinstance") (hN : Γ.N[i]? = some n) (hv : Γ.names.lookup n = some .local) (hd : (n == ("__debug__" : Str)) = false) (hcd : (n == ("__classdict__" : Str)) = false) (hz : Zc cls d oe) (hf : ∃ vs, oe.data = .fields vs)
    (hg : Γ.names.lookup x = some .globalImplicit) (hm : x ∈ Γ.tab.free) (hgT : Γ.names.lookup T = some .globalImplicit) (hdT : (T == ("__debug__" : Str)) = false) :
    PE (sx X a oe pn) (.Call (.Name x p1) [.Name n p2, .Name T p3] [] pos) (tXE X a oe cls d pn i G (xIs Γ.tab.sub T)) := by
  subst hx
  have hvar : PE (sx X a oe pn) (.Name n p2) (tVar i) := pe_var (i := i) (by show X.N[i]? = _; rw [o.N]; exact hN) (by show Vis X.env.scope n; unfold Vis; rw [o.names]; exact .inl hv) hd hcd
  refine ⟨fun pins s σ H Q I q => ?_⟩
  obtain ⟨C, fs, ρ, h, β, hmC, rx, hs, rs, rh, p⟩ := q
  have hm' : X.mg C = some cls := hmC
  unfold xIs at p
  simp only at p
  split at p
  · rename_i b eb
    have S := o.subs C T b eb
    obtain ⟨Ca, Da, m1, m2, _, k0, _⟩ := id S
    rw [hm'] at m1
    cases m1
    have hgl : PE (sx X a oe pn) (.Name T p3) (tC (.ref Da)) := pe_glob (v := .ref Da) (u := .ref Da) (gl_of o hgT) m2 rfl hdT
    refine (pe_callB (call_isX hm' S hz hf) (gl_of o hg) (o.free _ hm) boot_isinstance (pa_cons hvar (pa_cons hgl pa_nil (by rfl)) (by rfl)) (by decide) (by decide) (by rfl) (by rfl)).run pins s σ H Q I ?_
    refine ⟨.ref a, hs, Da, b, rfl, k0, fun dd e => ?_, p.here rh (.bl _)⟩
    subst e
    obtain ⟨gs, h1, _⟩ := rx
    exact ⟨gs, h1⟩
  · exact p.elim
/-! ### a suite's statements -/
variable {st : Stmt} {sts : List Stmt} {s s' : XS}
theorem xs_nil : PSs (sx X a oe pn) [] (tXT X a oe cls d pn i G (fun _ _ => sSkip)) := pss_nil.imp fun D σ H ⟨C, f, ρ, h, β, hm, rx, hs, rs, rh, p⟩ => p.nx rs rh
theorem xs_ret (he : PE (sx X a oe pn) e (tXE X a oe cls d pn i G fe)) : PSs (sx X a oe pn) [.Return (some e) pos] (tXT X a oe cls d pn i G (fun C f => sRet (fe C f))) :=
  (pss_one (ps_ret he)).imp fun D σ H ⟨C, f, ρ, h, β, hm, rx, hs, rs, rh, p⟩ => ⟨C, f, ρ, h, β, hm, rx, hs, rs, rh, p.bnd rs fun x h1 β1 H1 v x1 rh1 rs1 rv1 p1 => p1.rt rv1 rh1⟩
/-- x = e, then the rest -/
theorem xs_set {j : Nat} {x : Str} {p1 : Pos} (o : XOk Γ G k W X) (hj : Γ.N[j]? = some x) (hx : Γ.names.lookup x = some .local) (hji : j ≠ i) (he : PE (sx X a oe pn) e (tXE X a oe cls d pn i G fe)) (hn : noComp e = true) (hr : PSs (sx X a oe pn) sts (tXT X a oe cls d pn i G s)) :
    PSs (sx X a oe pn) (.Assign [.Name x p1] e pos :: sts) (tXT X a oe cls d pn i G (fun C f => sSeq (sSet (.nm j) (fe C f)) (s C f))) :=
  (pss_cons (ps_set (i := j) (by show X.N.Nodup; rw [o.N]; exact o.nd) (by show X.N[j]? = _; rw [o.N]; exact hj) (.inl (by show X.env.scope.names.lookup x = _; rw [o.names]; exact hx)) he (swaps_noComp hn _ _ _) (.inr (by show X.env.scope.names.lookup x = _; rw [o.names]; exact hx))) hr).imp
    fun D σ H ⟨C, f, ρ, h, β, hm, rx, hs, rs, rh, p⟩ => by
      refine ⟨C, f, ρ, h, β, hm, rx, hs, rs, rh, ?_⟩
      have p' : PostS (rc (sx X a oe pn)) W0 D β H (EP.bndS ρ (fe C f G ρ h) fun z h1 => s C f G (ρ.set j (some z)) h1) := by
        have e : sSeq (sSet (.nm j) (fe C f)) (s C f) G ρ h = EP.bndS ρ (fe C f G ρ h) fun z h1 => s C f G (ρ.set j (some z)) h1 := by
          unfold sSeq sSet EP.bndS
          cases fe C f G ρ h <;> rfl
        rw [← e]; exact p
      exact p'.bnd rs fun x h1 β1 H1 v x1 rh1 rs1 rv1 p1 => ⟨C, f, _, h1, β1, hm, rx.ext x1, by rw [List.getElem?_set_ne hji]; exact hs, rs1.set j rv1, rh1, p1⟩
/-! ### try -/
theorem XOk.tr {W' : WX} (o : XOk Γ G k W X) {pn : List (Addr × Obj)} {xe : Value → Shared → Prop} (tk : Takes (X.tr pn xe) W') (po : PassesOwn (model X.prog X.w) X.A X.env xe) : XOk Γ G k W' (X.tr pn xe) where
  N := o.N
  nd := o.nd
  names := o.names
  kind := o.kind
  calm := o.calm
  tk := tk
  po := po
  room := o.room
  stor := o.stor
  fns := fun x n ar h => ⟨(o.fns x n ar h).ex⟩
  nums := o.nums
  free := o.free
  excs := fun C n names h => ⟨(o.excs C n names h).ex⟩
  subs := o.subs
  flds := o.flds
  top := o.top
/-- the clauses -/
inductive HdX (Γ : Ctx) (G : Orc) (k : Nat) : List ExceptHandler → List (Str × Nat × XS) → Prop
  | nil : HdX Γ G k [] []
  | cons {D n : Str} {i : Nat} {b₀ : Stmt} {suite : List Stmt} {np pos' : Pos} {hds : List ExceptHandler} {l : List (Str × Nat × XS)} {s : XS} (hg : Γ.names.lookup D = some .globalImplicit) (hd : (D == ("__debug__" : Str)) = false) (hi : Γ.N[i]? = some n) (hln : Γ.names.lookup n = some .local) (hD : ∃ C b, Γ.tab.sub C D = some b)
      (hsu : ∀ (X : Cx) (W : WX) (a : Addr) (oe : Obj) (cls : Value) (d : Option Addr) (pn : List (Addr × Obj)), XOk Γ G k W X → Zc cls d oe → (∃ vs, oe.data = .fields vs) → PSs (sx X a oe pn) (b₀ :: suite) (tXT X a oe cls d pn i G s)) (r : HdX Γ G k hds l) :
      HdX Γ G k (.ExceptHandler (some (.Name D np)) (some n) (b₀ :: suite) pos' :: hds) ((D, i, s) :: l)
theorem hdx_a (o : XOk Γ G k W X) {hds : List ExceptHandler} {l : List (Str × Nat × XS)} (hh : HdX Γ G k hds l) : ∃ l' : List HdS, HdA X hds l' ∧ ∀ (D : Ends) (C : Str) (fs : Fs) (ρ : Env) (h : MH) (β : List Addr) (H : Hp) (σ : L2.St) (Cv : Value) (od : Option Addr),
    RepS β H ρ σ → RepH X.K X.mg β h H → X.mg C = some Cv → RepX β H fs od → PostS (rc X) W D β H (runH Γ.tab.sub C fs G l ρ h) → wAsM X.K W D l' Cv od σ H := by
  induction hh with
  | nil => exact ⟨[], .nil, fun D C fs ρ h β H σ Cv od rs rh hm rx p => p β H σ Cv od (Ext.refl _ _) rh rs hm rx⟩
  | @cons D n i b₀ suite np pos' hds l s hg hd hi hln hD hsu r ih =>
    obtain ⟨l', h1, h2⟩ := ih
    obtain ⟨C0, b0, hs0⟩ := hD
    obtain ⟨_, Da, _, mD, _⟩ := o.subs _ _ _ hs0
    refine ⟨⟨.ref Da, i, fun a cls d => tXS X a cls d i fun C fs => s C fs G⟩ :: l', .cons ⟨gl_of o hg, hd, .inl mD⟩ (by rw [o.N]; exact hi) (by unfold PySem.Env.kindOf; rw [o.names]; exact hln) (fun a oe cls d pn hz hf => hsu X W a oe cls d pn o hz hf) h1, ?_⟩
    intro DD C fs ρ h β H σ Cv od rs rh hm rx p
    unfold runH at p
    cases hs : Γ.tab.sub C D with
    | none => rw [hs] at p; exact p.elim
    | some b =>
      rw [hs] at p
      obtain ⟨Ca, Da', mC, mD', kx, _⟩ := o.subs _ _ _ hs
      rw [hm] at mC
      cases mC
      rw [mD] at mD'
      cases mD'
      refine ⟨b, kx, fun e a na => ?_, fun e => ?_⟩
      · subst e
        simp only at p
        split at p
        case isFalse => exact p.elim
        rename_i hil
        refine ⟨C, fs, ρ.set i none, h, β, hm, rx, ?_, ?_, rh, ?_⟩
        · rw [List.getElem?_set_self (by rw [← rs.len]; exact hil)]
        · refine ⟨by simp [rs.len], fun j d' e => ?_⟩
          by_cases hj : i = j
          · subst hj
            by_cases hl : i < ρ.length
            · rw [List.getElem?_set_self hl] at e; cases e
            · rw [List.getElem?_eq_none (by simpa using hl)] at e; cases e
          · rw [List.getElem?_set_ne hj] at e ⊢
            exact rs.at_ j d' e
        · show PostS _ _ _ _ _ (s C fs G (ρ.set i none) h)
          cases hr : s C fs G (ρ.set i none) h with
          | nx ρ2 h2 =>
            rw [hr] at p
            intro β' H' σ' x rh' rs'
            refine p β' H' _ x rh' ⟨by simp [rs'.len], fun j d' e => ?_⟩
            by_cases hj : i = j
            · subst hj
              by_cases hl : i < ρ2.length
              · rw [List.getElem?_set_self hl] at e; cases e
              · rw [List.getElem?_eq_none (by simpa using hl)] at e; cases e
            · rw [List.getElem?_set_ne hj] at e ⊢
              exact rs'.at_ j d' e
          | rt d h2 => rw [hr] at p; exact p
          | bk ρ2 h2 => rw [hr] at p; exact p.elim
          | ct ρ2 h2 => rw [hr] at p; exact p.elim
          | ex C2 f2 ρ2 h2 => rw [hr] at p; exact p.elim
          | bad => rw [hr] at p; exact p.elim
      · subst e
        exact h2 DD C fs ρ h β H σ _ od rs rh hm rx p
theorem ss_try {body : List Stmt} {h₀ : ExceptHandler} {hds : List ExceptHandler} {l : List (Str × Nat × XS)} {sb : SS} (o : XOk Γ G k W X) (ht : Γ.top = true) (hb : ∀ X' W', XOk Γ G k W' X' → PSs X' body (tS X' W' (sb G))) (hh : HdX Γ G k (h₀ :: hds) l) : PS X (.Try body (h₀ :: hds) [] [] pos) (tS X W (sTry Γ.tab.sub sb l G)) := by
  obtain ⟨l', h1, h2⟩ := hdx_a o hh
  refine (ps_try_asM (tb := fun W' => tS X W' (sb G)) (o.top ht).1 (o.top ht).2 (by rw [o.N]; exact o.nd) o.tk (fun W' pn xe tk po => hb _ W' (o.tr tk po)) h1).imp fun D σ H ⟨ρ, h, β, rs, rh, p⟩ => ⟨ρ, h, β, rs, rh, ?_⟩
  unfold sTry at p
  cases hq : sb G ρ h with
  | ex C fs ρ1 h1 =>
    rw [hq] at p
    exact fun β' H' σ' Cv od x rh' rs' hm rx => h2 D C fs ρ1 h1 β' H' σ' Cv od rs' rh' hm rx (PostS.ext x p)
  | nx ρ1 h1 => rw [hq] at p; exact p
  | rt d h1 => rw [hq] at p; exact p
  | bk ρ1 h1 => rw [hq] at p; exact p
  | ct ρ1 h1 => rw [hq] at p; exact p
  | bad => rw [hq] at p; exact p
end
end EP
end
section
set_option maxHeartbeats 1000000
/-! Cmp: from the program's trees to their meanings; expressions. -/
namespace EP
open PySem PySem.Spec PyProof.Rows L2

def gd {α : Type} (b : Bool) (x : Option α) : Option α := if b = true then x else none
theorem gd_some {α : Type} {b : Bool} {x : Option α} {r : α} (h : gd b x = some r) : b = true ∧ x = some r := by
  unfold gd at h
  split at h
  · exact ⟨by assumption, h⟩
  · cases h
def o2 {α β γ : Type} (x : Option α) (y : Option β) (f : α → β → γ) : Option γ := x.bind fun a => y.map (f a)
theorem o2_some {α β γ : Type} {x : Option α} {y : Option β} {f : α → β → γ} {r : γ} (h : o2 x y f = some r) : ∃ a b, x = some a ∧ y = some b ∧ f a b = r := by
  unfold o2 at h
  obtain ⟨a, h1, h2⟩ := Option.bind_eq_some_iff.mp h
  obtain ⟨b, h3, h4⟩ := Option.map_eq_some_iff.mp h2
  exact ⟨a, b, h1, h3, h4⟩
def o3 {α β γ δ : Type} (x : Option α) (y : Option β) (z : Option γ) (f : α → β → γ → δ) : Option δ := x.bind fun a => o2 y z (f a)
theorem o3_some {α β γ δ : Type} {x : Option α} {y : Option β} {z : Option γ} {f : α → β → γ → δ} {r : δ} (h : o3 x y z f = some r) : ∃ a b c, x = some a ∧ y = some b ∧ z = some c ∧ f a b c = r := by
  unfold o3 at h
  obtain ⟨a, h1, h2⟩ := Option.bind_eq_some_iff.mp h
  obtain ⟨b, c, h3, h4, h5⟩ := o2_some h2
  exact ⟨a, b, c, h1, h3, h4, h5⟩

def ixOf (N : List Str) (x : Str) : Option Nat := (N.findIdx? fun y => decide (y = x)).bind fun i => gd (decide (N[i]? = some x)) (some i)
theorem ixOf_some {N : List Str} {x : Str} {i : Nat} (h : ixOf N x = some i) : N[i]? = some x := by
  unfold ixOf at h
  obtain ⟨j, _, h2⟩ := Option.bind_eq_some_iff.mp h
  obtain ⟨h3, h4⟩ := gd_some h2
  cases h4
  exact of_decide_eq_true h3
def okN (x : Str) : Bool := !(x == ("__debug__" : Str)) && !(x == ("__classdict__" : Str))
theorem okN_ok {x : Str} (h : okN x = true) : (x == ("__debug__" : Str)) = false ∧ (x == ("__classdict__" : Str)) = false := by
  unfold okN at h
  simp only [Bool.and_eq_true, Bool.not_eq_true'] at h
  exact h
def visK : NameKind → Bool
  | .local => true | .cell => true | .free => true | _ => false
def isGl (Γ : Ctx) (x : Str) : Bool := decide (Γ.names.lookup x = some .globalImplicit)
def isFr (Γ : Ctx) (x : Str) : Bool := decide (x ∈ Γ.tab.free)
def cVar (Γ : Ctx) (x : Str) : Option SE := match Γ.names.lookup x with
  | some .globalImplicit => gd (okN x) ((Γ.tab.nums.lookup x).map fun i => eC (.int i))
  | some k => gd (visK k && okN x) ((ixOf Γ.N x).map eVar)
  | none => none
theorem cVar_ok {Γ : Ctx} {x : Str} {f : SE} (h : cVar Γ x = some f) {pos : Pos} {G : Orc} {k : Nat} {W : WX} {X : Cx} (o : XOk Γ G k W X) : PE X (.Name x pos) (tE X W (f G)) := by
  unfold cVar at h
  split at h
  · rename_i hl
    obtain ⟨h1, h2⟩ := gd_some h
    obtain ⟨i, h3, rfl⟩ := Option.map_eq_some_iff.mp h2
    exact se_num o hl h3 (okN_ok h1).1
  · rename_i kk _ hl
    obtain ⟨h1, h2⟩ := gd_some h
    simp only [Bool.and_eq_true] at h1
    obtain ⟨i, h3, rfl⟩ := Option.map_eq_some_iff.mp h2
    refine se_var o (ixOf_some h3) ?_ (okN_ok h1.2).1 (okN_ok h1.2).2
    cases kk with
    | «local» => exact .inl hl
    | cell => exact .inr (.inl hl)
    | free => exact .inr (.inr hl)
    | _ => cases h1.1
  · cases h

def cOp : Operator → Option Op2
  | .Add => some oAdd | .Sub => some oSub | .Mult => some oMul | .FloorDiv => some oFdiv | .Mod => some oMod | .Pow => some oPow | _ => none
theorem cOp_ok {op : Operator} {f : Op2} (h : cOp op = some f) {X : Cx} : OpR X (binaryOp op) (rS X f) := by
  cases op <;> first | (cases h; first | exact os_add | exact os_sub | exact os_mul | exact os_fdiv | exact os_mod | exact os_pow) | cases h
def cCm : CmpOp → Op2
  | .Eq => oEq false | .NotEq => oEq true | .Lt => oLt | .LtE => oLe | .Gt => oGt | .GtE => oGe | .Is => oIs false | .IsNot => oIs true | .In => oIn false | .NotIn => oIn true
theorem cCm_ok (op : CmpOp) {Γ : Ctx} {G : Orc} {k : Nat} {W : WX} {X : Cx} (o : XOk Γ G k W X) : OpR X (compareOp op) (rS X (cCm op)) := by
  cases op with
  | Eq => exact os_eq o.u64
  | NotEq => exact os_ne o.u64
  | Lt => exact os_lt
  | LtE => exact os_le
  | Gt => exact os_gt
  | GtE => exact os_ge
  | Is => exact os_is
  | IsNot => exact os_isnot
  | In => exact os_in o.u65
  | NotIn => exact os_notin o.u65

def cBf (x : Str) : Option Bf :=
  if x = "len" then some bLen else if x = "tuple" then some bTuple else if x = "list" then some bList else if x = "int" then some bInt else if x = "abs" then some bAbs else if x = "sum" then some bSum else
  if x = "min" then some bMin else if x = "max" then some bMax else if x = "any" then some bAny else if x = "all" then some bAll else none
theorem cBf_ok {x : Str} {f : Bf} (h : cBf x = some f) : x ≠ "__name__" ∧ (x == ("__debug__" : Str)) = false ∧ ∀ X : Cx, X.calm = true → (∃ id, CallR X (.builtin id) (rB X f) ∧ bootBuiltins x = some (.builtin id)) ∨ ∃ T, CallR X (.type T) (rB X f) ∧ bootBuiltins x = some (.type T) := by
  unfold cBf at h
  split at h; · cases h; rename_i e; subst e; exact ⟨by decide, by decide, fun X _ => .inl ⟨_, cs_len, boot_len⟩⟩
  split at h; · cases h; rename_i e; subst e; exact ⟨by decide, by decide, fun X _ => .inr ⟨_, cs_tuple, boot_tuple⟩⟩
  split at h; · cases h; rename_i e; subst e; exact ⟨by decide, by decide, fun X _ => .inr ⟨_, cs_list, boot_list⟩⟩
  split at h; · cases h; rename_i e; subst e; exact ⟨by decide, by decide, fun X _ => .inr ⟨_, cs_int, boot_int⟩⟩
  split at h; · cases h; rename_i e; subst e; exact ⟨by decide, by decide, fun X _ => .inl ⟨_, cs_abs, boot_abs⟩⟩
  split at h; · cases h; rename_i e; subst e; exact ⟨by decide, by decide, fun X hc => .inl ⟨_, cs_sum hc, boot_sum⟩⟩
  split at h; · cases h; rename_i e; subst e; exact ⟨by decide, by decide, fun X hc => .inl ⟨_, cs_min hc, boot_min⟩⟩
  split at h; · cases h; rename_i e; subst e; exact ⟨by decide, by decide, fun X hc => .inl ⟨_, cs_max hc, boot_max⟩⟩
  split at h; · cases h; rename_i e; subst e; exact ⟨by decide, by decide, fun X hc => .inl ⟨_, cs_any hc, boot_any⟩⟩
  split at h; · cases h; rename_i e; subst e; exact ⟨by decide, by decide, fun X hc => .inl ⟨_, cs_all hc, boot_all⟩⟩
  cases h
def cTy (x : Str) : Option String :=
  if x = "int" then some "int" else if x = "bool" then some "bool" else if x = "str" then some "str" else if x = "list" then some "list" else if x = "tuple" then some "tuple" else if x = "dict" then some "dict" else none
theorem cTy_ok {x : Str} {T : String} (h : cTy x = some T) : bootBuiltins x = some (.type T) ∧ x ≠ "__name__" ∧ (x == ("__debug__" : Str)) = false := by
  unfold cTy at h
  split at h; · cases h; rename_i e; subst e; exact ⟨boot_int, by decide, by decide⟩
  split at h; · cases h; rename_i e; subst e; exact ⟨boot_bool, by decide, by decide⟩
  split at h; · cases h; rename_i e; subst e; exact ⟨boot_str, by decide, by decide⟩
  split at h; · cases h; rename_i e; subst e; exact ⟨boot_list, by decide, by decide⟩
  split at h; · cases h; rename_i e; subst e; exact ⟨boot_tuple, by decide, by decide⟩
  split at h; · cases h; rename_i e; subst e; exact ⟨boot_dict, by decide, by decide⟩
  cases h
def cMf (x : Str) : Option Mf := if x = "append" then some mAppend else if x = "extend" then some mExtend else if x = "pop" then some mPop else if x = "index" then some mIndex else none
theorem cMf_ok {x : Str} {f : Mf} (h : cMf x = some f) : ∃ id, Slot "list" x id ∧ typeOf (.builtin id) = pure (.type "method_descriptor") ∧ ∀ {Γ : Ctx} {G : Orc} {k : Nat} {W : WX} {X : Cx}, XOk Γ G k W X → MtR X id (rM X f) := by
  unfold cMf at h
  split at h; · cases h; rename_i e; subst e; exact ⟨_, PySem.F.slot_list_append, PySem.F.type_list_append, fun o => ms_append⟩
  split at h; · cases h; rename_i e; subst e; exact ⟨_, PySem.F.slot_list_extend, PySem.F.type_list_extend, fun o => ms_extend⟩
  split at h; · cases h; rename_i e; subst e; exact ⟨_, PySem.F.slot_list_pop, PySem.F.type_list_pop, fun o => ms_pop⟩
  split at h; · cases h; rename_i e; subst e; exact ⟨_, PySem.F.slot_list_index, PySem.F.type_list_index, fun o => ms_index o.u65⟩
  cases h
def noCall0 : Expr → Bool
  | .Call _ [] _ _ => false
  | _ => true

structure Cmp where
  e : Ctx → Expr → Option SE
  a : Ctx → List Expr → Option SA
  t : Ctx → Expr → Option ST
  w : Ctx → Expr → Option ST
  i : Ctx → Expr → Expr → Option SI
  p : Ctx → Expr → Option TP
  ps : Ctx → List Expr → Option (List TP)
structure CmpOk (c : Cmp) : Prop where
  e : ∀ {Γ x f}, c.e Γ x = some f → ∀ {G k W X}, XOk Γ G k W X → PE X x (tE X W (f G))
  a : ∀ {Γ x f}, c.a Γ x = some f → x.all smp = true ∧ (∀ {G ρ h xs h'}, f G ρ h = .ok xs h' → xs.length = x.length) ∧ ∀ {G k W X}, XOk Γ G k W X → PA X x (tA X W (f G))
  t : ∀ {Γ x f}, c.t Γ x = some f → ∀ {G k W X}, XOk Γ G k W X → PT X x (tT X W (f G))
  w : ∀ {Γ x f}, c.w Γ x = some f → ∀ {G k W X}, XOk Γ G k W X → PW X x (tT X W (f G))
  i : ∀ {Γ tg x f}, c.i Γ tg x = some f → ∀ {G k W X}, XOk Γ G k W X → PI X tg x (tIt X W (f G))
  p : ∀ {Γ x f}, c.p Γ x = some f → ∀ {G k W X}, XOk Γ G k W X → PG X x (gP X.K f)
  ps : ∀ {Γ x f}, c.ps Γ x = some f → x.all smp = true ∧ x.length = f.length ∧ ∀ {G k W X}, XOk Γ G k W X → PGs X x (gPs X.K f)
  an : ∀ {Γ f}, c.a Γ [] = some f → f = aNil
  n : ∀ {Γ x f}, c.e Γ x = some f → ∀ {G k W X}, XOk Γ G k W X → ∀ {i y py spos}, Γ.N[i]? = some y → y ∈ Γ.stor → PS X (.Assign [.Name y py] x spos) (tS X W (sSet (.nm i) f G))

def c0 : Cmp := ⟨fun _ _ => none, fun _ _ => none, fun _ _ => none, fun _ _ => none, fun _ _ _ => none, fun _ _ => none, fun _ _ => none⟩
theorem c0_ok : CmpOk c0 := ⟨(fun h => nomatch h), (fun h => nomatch h), (fun h => nomatch h), (fun h => nomatch h), (fun h => nomatch h), (fun h => nomatch h), (fun h => nomatch h), (fun h => nomatch h), (fun h => nomatch h)⟩
section
variable (c : Cmp) (Γ : Ctx)
def cA : List Expr → Option SA
  | [] => some aNil
  | e :: r => gd (smp e) (o2 (c.e Γ e) (c.a Γ r) aCons)
def cRgA : List Expr → Option SR
  | [a] => gd (smp a) ((c.e Γ a).map rg1)
  | [a, b] => gd (smp a && smp b) (o2 (c.e Γ a) (c.e Γ b) rg2)
  | _ => none
def cRg : Expr → Option SR
  | .Call (.Name y _) ra [] _ => gd (decide (y = "range") && isGl Γ y && isFr Γ y) (cRgA c Γ ra)
  | _ => none
def cRgO : List Expr → Option SR
  | [e] => cRg c Γ e
  | _ => none
def cIsi : List Expr → Option SE
  | [e, .Name y _] => gd (isGl Γ y && isFr Γ y && smp e) (o2 (c.e Γ e) (cTy y) fun fe T => eBf (bIsi T) (aCons fe aNil))
  | _ => none
def cBlt (x : Str) (args : List Expr) : Option SE := match cRgO c Γ args with
  | some r => if x = "list" then some (eLRg r) else if x = "tuple" then some (eTRg r) else none
  | none => if x = "isinstance" then cIsi c Γ args else gd (!args.isEmpty) (o2 (cBf x) (c.a Γ args) eBf)
def cCallN (x : Str) (args : List Expr) : Option SE := gd (okN x && isGl Γ x) (match Γ.tab.fns.lookup x with
  | some (n, ar) => gd (decide (args.length = ar) && !args.isEmpty) ((c.a Γ args).map (eCall n))
  | none => gd (isFr Γ x) (cBlt c Γ x args))
def cMeth (o : Expr) (name : Str) (apos : Pos) (args : List Expr) (cpos : Pos) : Option SE :=
  gd ((apos.endLine == cpos.line) && noCall0 o && decide (args.length < 20)) (o3 (cMf name) (c.e Γ o) (c.a Γ args) eMf)
def cO : Option Expr → Option SO
  | none => some oNo
  | some e => (c.e Γ e).map oSome
def ownN (N : List Str) (scope : Scope) : List (Str × Nat) := (N.zipIdx).filter fun y => match scope.names.lookup y.1 with
  | some .local => true
  | some .cell => true
  | _ => false
def cIf : List Expr → Option ST
  | [] => some tYes
  | [x] => c.t Γ x
  | _ => none
def inOwn (p : TP) (own : List (Str × Nat)) : Bool := p.slots.all fun i => (own.map (·.2)).contains i
def cLc (elt : Expr) (gens : List Comprehension) (scope : Scope) : Option SE := match gens with
  | [⟨tg, it, ifs, 0⟩] => gd (blkC Γ.N { scope with names := Γ.names } scope (ownN Γ.N scope) && smp it) ((c.i Γ tg it).bind fun fi => (c.p (Γ.blk scope) tg).bind fun p => gd (inOwn p (ownN Γ.N scope)) (o2 (cIf c (Γ.blk scope) ifs) (c.e (Γ.blk scope) elt) fun ft fe => eLc fi p ft fe ((ownN Γ.N scope).map (·.2))))
  | _ => none
def cDc (kx vx : Expr) (gens : List Comprehension) (scope : Scope) : Option SE := match gens with
  | [⟨tg, it, ifs, 0⟩] => gd (blkC Γ.N { scope with names := Γ.names } scope (ownN Γ.N scope) && smp it) ((c.i Γ tg it).bind fun fi => (c.p (Γ.blk scope) tg).bind fun p => gd (inOwn p (ownN Γ.N scope)) (o3 (cIf c (Γ.blk scope) ifs) (c.e (Γ.blk scope) kx) (c.e (Γ.blk scope) vx) fun ft fk fe => eDc Γ.tk fi p ft fk fe ((ownN Γ.N scope).map (·.2))))
  | _ => none
def cCp (a : Expr) (ops : List CmpOp) (bs : List Expr) : Option SE := match ops, bs with
  | [op], [b] => gd (smp b) (o2 (c.e Γ a) (c.e Γ b) (eOp (cCm op)))
  | [op, op'], [b, d] => gd (smp d) (o3 (c.e Γ a) (c.e Γ b) (c.e Γ d) (eChain (cCm op) (cCm op')))
  | _, _ => none
def cE : Expr → Option SE
  | .Constant k _ _ => match k with
    | .int i => some (eC (.int i))
    | .bool b => some (eC (.bl b))
    | .none => some (eC .non)
    | .str x => some (eC (.str x))
    | _ => none
  | .Name x _ => cVar Γ x
  | .BinOp a op b _ => o3 (cOp op) (c.e Γ a) (c.e Γ b) eOp
  | .UnaryOp op a _ => match op with
    | .Not => (c.e Γ a).map eNot
    | .USub => (c.e Γ a).map eNeg
    | _ => none
  | .BoolOp op es p => match op, es with
    | _, [a] => c.e Γ a
    | .And, a :: b :: r => o2 (c.e Γ a) (c.e Γ (.BoolOp .And (b :: r) p)) eAnd
    | .Or, a :: b :: r => o2 (c.e Γ a) (c.e Γ (.BoolOp .Or (b :: r) p)) eOr
    | _, _ => none
  | .Compare a ops bs _ => cCp c Γ a ops bs
  | .IfExp t a b _ => o3 (c.t Γ t) (c.e Γ a) (c.e Γ b) eIf
  | .Tuple es _ _ => (c.a Γ es).map eTup
  | .List es _ => (c.a Γ es).map eLst
  | .Subscript a s _ => match s with
    | .Slice lo hi none _ => o3 (c.e Γ a) (cO c Γ lo) (cO c Γ hi) eCut
    | b => gd (smp b) (o2 (c.e Γ a) (c.e Γ b) (eOp oGet))
  | .Call f args kws cpos => match f, kws with
    | .Name x _, [] => cCallN c Γ x args
    | .Attribute o name apos, [] => cMeth c Γ o name apos args cpos
    | _, _ => none
  | .Dict ks vs _ => match ks, vs with
    | [], [] => some (eDict0 Γ.tk)
    | [some k], [v] => o2 (c.e Γ k) (c.e Γ v) eDict1
    | _, _ => none
  | .ListComp elt gens scope _ => cLc c Γ elt gens scope
  | .DictComp kx vx gens scope _ => cDc c Γ kx vx gens scope
  | _ => none
def cT : Expr → Option ST
  | .Compare a ops bs _ => (cCp c Γ a ops bs).map tBl
  | .UnaryOp .Not a _ => (c.t Γ a).map tNot
  | .BoolOp op es p => c.w Γ (.BoolOp op es p)
  | e => gd (plainT e) ((c.e Γ e).map tVal)
def cW : Expr → Option ST
  | .BoolOp op es p => match op, es with
    | .And, [a] => c.t Γ a
    | .Or, [a] => c.t Γ a
    | .And, a :: b :: r => o2 (c.t Γ a) (c.w Γ (.BoolOp .And (b :: r) p)) tAnd
    | .Or, a :: b :: r => o2 (c.t Γ a) (c.w Γ (.BoolOp .Or (b :: r) p)) tOr
    | _, _ => none
  | _ => none
def isTupE : Expr → Bool
  | .Tuple .. => true
  | _ => false
def cI (tg : Expr) : Expr → Option SI
  | .Call f args kws p => match cRg c Γ (.Call f args kws p) with
    | some r => some (iRg r)
    | none => match f, args, kws with
      | .Name x _, [a], [] => if x = "enumerate" then gd (isGl Γ x && isFr Γ x && isTupE tg && smp a) ((c.e Γ a).map iEnum) else (c.e Γ (.Call f args kws p)).map iSeq
      | .Name x _, [a, b], [] => if x = "zip" then gd (isGl Γ x && isFr Γ x && isTupE tg && smp a && smp b) (o2 (c.e Γ a) (c.e Γ b) iZip) else (c.e Γ (.Call f args kws p)).map iSeq
      | _, _, _ => (c.e Γ (.Call f args kws p)).map iSeq
  | e => (c.e Γ e).map iSeq
def cP : Expr → Option TP
  | .Name x _ => gd (decide (x ∈ Γ.stor)) ((ixOf Γ.N x).map .nm)
  | .Tuple es _ _ => (c.ps Γ es).map .tp
  | _ => none
def cPs : List Expr → Option (List TP)
  | [] => some []
  | e :: r => gd (smp e) (o2 (c.p Γ e) (c.ps Γ r) (· :: ·))
end
def cNext (c : Cmp) : Cmp := ⟨cE c, cA c, cT c, cW c, cI c, cP c, cPs c⟩
def cmpN : Nat → Cmp
  | 0 => c0
  | n + 1 => cNext (cmpN n)
end EP
end
section
set_option maxHeartbeats 1000000
/-! CmpOk: the meanings are the program's; expressions. -/
namespace EP
open PySem PySem.Spec PyProof.Rows L2
section
variable {c : Cmp} (ok : CmpOk c) {Γ : Ctx}
include ok
theorem cA_ok {x : List Expr} {f : SA} (h : cA c Γ x = some f) : x.all smp = true ∧ (∀ {G ρ h xs h'}, f G ρ h = .ok xs h' → xs.length = x.length) ∧ ∀ {G k W X}, XOk Γ G k W X → PA X x (tA X W (f G)) := by
  cases x with
  | nil => cases h; exact ⟨rfl, fun e => by cases e; rfl, fun o => sa_nil⟩
  | cons e r =>
    unfold cA at h
    obtain ⟨h1, h2⟩ := gd_some h
    obtain ⟨fe, fr, h3, h4, rfl⟩ := o2_some h2
    obtain ⟨k1, k2, k3⟩ := ok.a h4
    refine ⟨by simp [h1, k1], fun {G ρ h xs h'} e => ?_, fun o => sa_cons h1 (ok.e h3 o) (k3 o)⟩
    unfold aCons at e
    cases q : fe G ρ h with
    | ok y h1 =>
      rw [q] at e
      simp only [EP.bnd] at e
      cases q2 : fr G ρ h1 with
      | ok ys h2 =>
        rw [q2] at e
        simp only [EP.bnd] at e
        cases e
        simp [k2 q2]
      | ex C fs h2 => rw [q2] at e; cases e
      | bad => rw [q2] at e; cases e
    | ex C fs h2 => rw [q] at e; cases e
    | bad => rw [q] at e; cases e
theorem isGl_ok {x : Str} (h : isGl Γ x = true) : Γ.names.lookup x = some .globalImplicit := of_decide_eq_true h
theorem isFr_ok {x : Str} (h : isFr Γ x = true) : x ∈ Γ.tab.free := of_decide_eq_true h
theorem cRg_ok {e : Expr} {r : SR} (h : cRg c Γ e = some r) : smp e = true ∧ (∀ {G k W X}, XOk Γ G k W X → PRG X W e (r G)) ∧ ∀ {G k W X tg}, XOk Γ G k W X → PI X tg e (tIt X W (iRg r G)) := by
  unfold cRg at h
  split at h
  · rename_i y p ra p2
    obtain ⟨h1, h2⟩ := gd_some h
    simp only [Bool.and_eq_true, decide_eq_true_eq] at h1
    obtain ⟨⟨rfl, hg⟩, hf⟩ := h1
    have hg := isGl_ok ok hg
    have hf := isFr_ok ok hf
    unfold cRgA at h2
    split at h2
    · obtain ⟨h3, h4⟩ := gd_some h2
      obtain ⟨fa, h5, rfl⟩ := Option.map_eq_some_iff.mp h4
      exact ⟨rfl, fun o => sr_1 o hg hf (ok.e h5 o) h3, fun o => si_rg1 o hg hf (ok.e h5 o) h3⟩
    · obtain ⟨h3, h4⟩ := gd_some h2
      simp only [Bool.and_eq_true] at h3
      obtain ⟨fa, fb, h5, h6, rfl⟩ := o2_some h4
      exact ⟨rfl, fun o => sr_2 o hg hf (ok.e h5 o) (ok.e h6 o) h3.1 h3.2, fun o => si_rg2 o hg hf (ok.e h5 o) (ok.e h6 o) h3.1 h3.2⟩
    · cases h2
  · cases h
theorem cBlt_ok {x : Str} {args : List Expr} {f : SE} {p cpos : Pos} (hg : Γ.names.lookup x = some .globalImplicit) (hf : x ∈ Γ.tab.free) (h : cBlt c Γ x args = some f) {G : Orc} {k : Nat} {W : WX} {X : Cx} (o : XOk Γ G k W X) :
    PE X (.Call (.Name x p) args [] cpos) (tE X W (f G)) := by
  unfold cBlt at h
  split at h
  · rename_i r hr
    unfold cRgO at hr
    split at hr
    · rename_i e
      obtain ⟨h1, h2, _⟩ := cRg_ok ok hr
      split at h
      · cases h; rename_i ex; subst ex; exact se_lrg o hg hf (h2 o) h1
      · split at h
        · cases h; rename_i ex; subst ex; exact se_trg o hg hf (h2 o) h1
        · cases h
    · cases hr
  · split at h
    · rename_i ex
      unfold cIsi at h
      split at h
      · rename_i e y p2
        obtain ⟨h1, h2⟩ := gd_some h
        simp only [Bool.and_eq_true] at h1
        obtain ⟨fe, T, h3, h4, rfl⟩ := o2_some h2
        obtain ⟨b1, b2, b3⟩ := cTy_ok h4
        exact se_isi o ex hg hf (isGl_ok ok h1.1.1) (isFr_ok ok h1.1.2) b1 b2 b3 h1.2 (ok.e h3 o)
      · cases h
    · obtain ⟨h1, h2⟩ := gd_some h
      obtain ⟨b, fa, h3, h4, rfl⟩ := o2_some h2
      obtain ⟨n1, n2, n3⟩ := cBf_ok h3
      obtain ⟨k1, _, k3⟩ := ok.a h4
      cases args with
      | nil => cases h1
      | cons e es =>
        rcases n3 X o.calm with ⟨id, hc, hv⟩ | ⟨T, hc, hv⟩
        · exact se_bf o hc hg hf hv (k3 o) n1 n2 k1
        · exact se_ty o hc hg hf hv (k3 o) n1 n2 k1
theorem cCallN_ok {x : Str} {args : List Expr} {f : SE} {p cpos : Pos} (h : cCallN c Γ x args = some f) {G : Orc} {k : Nat} {W : WX} {X : Cx} (o : XOk Γ G k W X) : PE X (.Call (.Name x p) args [] cpos) (tE X W (f G)) := by
  unfold cCallN at h
  obtain ⟨h1, h2⟩ := gd_some h
  simp only [Bool.and_eq_true] at h1
  have hg := isGl_ok ok h1.2
  split at h2
  · rename_i n ar hl
    obtain ⟨h3, h4⟩ := gd_some h2
    simp only [Bool.and_eq_true, decide_eq_true_eq] at h3
    obtain ⟨fa, h5, rfl⟩ := Option.map_eq_some_iff.mp h4
    obtain ⟨k1, k2, k3⟩ := ok.a h5
    cases args with
    | nil => cases h3.2
    | cons e es => exact se_call o hg hl (k3 o) (fun ρ h xs h' q => (k2 q).trans h3.1) (okN_ok h1.1).1 k1
  · obtain ⟨h3, h4⟩ := gd_some h2
    exact cBlt_ok ok hg (isFr_ok ok h3) h4 o
theorem noCall0_ok {o : Expr} (h : noCall0 o = true) : ∀ x p q, o ≠ .Call (.Name x p) [] [] q := fun x p q e => by subst e; cases h
theorem cMeth_ok {ob : Expr} {name : Str} {apos cpos : Pos} {args : List Expr} {f : SE} (h : cMeth c Γ ob name apos args cpos = some f) {G : Orc} {k : Nat} {W : WX} {X : Cx} (o : XOk Γ G k W X) : PE X (.Call (.Attribute ob name apos) args [] cpos) (tE X W (f G)) := by
  unfold cMeth at h
  obtain ⟨h1, h2⟩ := gd_some h
  simp only [Bool.and_eq_true, decide_eq_true_eq] at h1
  obtain ⟨m, fo, fa, h3, h4, h5, rfl⟩ := o3_some h2
  obtain ⟨id, s1, s2, s3⟩ := cMf_ok h3
  obtain ⟨k1, _, k3⟩ := ok.a h5
  cases args with
  | nil =>
    have e := ok.an h5
    subst e
    exact se_mf0 s1 s2 (s3 o) (ok.e h4 o) (noCall0_ok ok h1.1.2) h1.1.1
  | cons e es => exact se_mf s1 s2 (s3 o) (ok.e h4 o) (k3 o) (noCall0_ok ok h1.1.2) h1.1.1 k1 h1.2
theorem cO_ok {x : Option Expr} {f : SO} (h : cO c Γ x = some f) {G : Orc} {k : Nat} {W : WX} {X : Cx} (o : XOk Γ G k W X) : PO X x (tO X W (f G)) := by
  cases x with
  | none => cases h; exact so_no
  | some e =>
    obtain ⟨fe, h1, rfl⟩ := Option.map_eq_some_iff.mp (show (c.e Γ e).map oSome = some f from h)
    exact so_some (ok.e h1 o)
theorem cIf_ok {x : List Expr} {f : ST} (h : cIf c Γ x = some f) {G : Orc} {k : Nat} {W : WX} {X : Cx} (o : XOk Γ G k W X) : PTs X x (tT X W (f G)) := by
  unfold cIf at h
  split at h
  · cases h; exact sp_nil
  · exact sp_one (ok.t h o)
  · cases h
theorem inOwn_ok {p : TP} {own : List (Str × Nat)} (h : inOwn p own = true) : ∀ i ∈ p.slots, i ∈ own.map (·.2) := fun i hi => by
  unfold inOwn at h
  have := List.all_eq_true.mp h i hi
  simpa using this
theorem cLc_ok {elt : Expr} {gens : List Comprehension} {scope : Scope} {f : SE} (h : cLc c Γ elt gens scope = some f) {G : Orc} {k : Nat} {W : WX} {X : Cx} (o : XOk Γ G k W X) :
    (∀ {pos}, PE X (.ListComp elt gens scope pos) (tE X W (f G))) ∧ ∀ {i y py pos spos}, Γ.N[i]? = some y → y ∈ Γ.stor → PS X (.Assign [.Name y py] (.ListComp elt gens scope pos) spos) (tS X W (sSet (.nm i) f G)) := by
  unfold cLc at h
  split at h
  · rename_i tg it ifs
    obtain ⟨h1, h2⟩ := gd_some h
    simp only [Bool.and_eq_true] at h1
    obtain ⟨fi, h3, h4⟩ := Option.bind_eq_some_iff.mp h2
    obtain ⟨p, h5, h6⟩ := Option.bind_eq_some_iff.mp h4
    obtain ⟨h7, h8⟩ := gd_some h6
    obtain ⟨ft, fe, h9, h10, rfl⟩ := o2_some h8
    exact ⟨fun {pos} => se_lc o (ok.i h3 o) h1.1 (fun X' o' => ok.p h5 o') (fun X' o' => cIf_ok ok h9 o') (fun X' o' => ok.e h10 o') h1.2 (inOwn_ok ok h7),
      fun {i y py pos spos} hi hy => ss_lcN o hi hy (ok.i h3 o) h1.1 (fun X' o' => ok.p h5 o') (fun X' o' => cIf_ok ok h9 o') (fun X' o' => ok.e h10 o') h1.2 (inOwn_ok ok h7)⟩
  · cases h
theorem cDc_ok {kx vx : Expr} {gens : List Comprehension} {scope : Scope} {f : SE} (h : cDc c Γ kx vx gens scope = some f) {G : Orc} {k : Nat} {W : WX} {X : Cx} (o : XOk Γ G k W X) :
    (∀ {pos}, PE X (.DictComp kx vx gens scope pos) (tE X W (f G))) ∧ ∀ {i y py pos spos}, Γ.N[i]? = some y → y ∈ Γ.stor → PS X (.Assign [.Name y py] (.DictComp kx vx gens scope pos) spos) (tS X W (sSet (.nm i) f G)) := by
  unfold cDc at h
  split at h
  · rename_i tg it ifs
    obtain ⟨h1, h2⟩ := gd_some h
    simp only [Bool.and_eq_true] at h1
    obtain ⟨fi, h3, h4⟩ := Option.bind_eq_some_iff.mp h2
    obtain ⟨p, h5, h6⟩ := Option.bind_eq_some_iff.mp h4
    obtain ⟨h7, h8⟩ := gd_some h6
    obtain ⟨ft, fk, fe, h9, h10, h11, rfl⟩ := o3_some h8
    exact ⟨fun {pos} => se_dc Γ.tk o (ok.i h3 o) h1.1 (fun X' o' => ok.p h5 o') (fun X' o' => cIf_ok ok h9 o') (fun X' o' => ok.e h10 o') (fun X' o' => ok.e h11 o') h1.2 (inOwn_ok ok h7),
      fun {i y py pos spos} hi hy => ss_dcN Γ.tk o hi hy (ok.i h3 o) h1.1 (fun X' o' => ok.p h5 o') (fun X' o' => cIf_ok ok h9 o') (fun X' o' => ok.e h10 o') (fun X' o' => ok.e h11 o') h1.2 (inOwn_ok ok h7)⟩
  · cases h
theorem slice_not {s : Expr} {lo hi : Option Expr} {p2 : Pos} : smp (.Slice lo hi none p2) = false := rfl
theorem cE_ok {x : Expr} {f : SE} (h : cE c Γ x = some f) {G : Orc} {k : Nat} {W : WX} {X : Cx} (o : XOk Γ G k W X) : PE X x (tE X W (f G)) := by
  unfold cE at h
  split at h
  · split at h
    · cases h; exact se_int
    · cases h; exact se_bl
    · cases h; exact se_non
    · cases h; exact se_str
    · cases h
  · exact cVar_ok h o
  · obtain ⟨f', fa, fb, h1, h2, h3, rfl⟩ := o3_some h
    exact se_op (cOp_ok h1) (ok.e h2 o) (ok.e h3 o)
  · split at h
    · obtain ⟨fa, h1, rfl⟩ := Option.map_eq_some_iff.mp h
      exact se_not (ok.e h1 o)
    · obtain ⟨fa, h1, rfl⟩ := Option.map_eq_some_iff.mp h
      exact se_neg (ok.e h1 o)
    · cases h
  · split at h
    · exact pe_one (ok.e h o)
    · obtain ⟨fa, fb, h1, h2, rfl⟩ := o2_some h
      exact se_and (ok.e h1 o) (ok.e h2 o)
    · obtain ⟨fa, fb, h1, h2, rfl⟩ := o2_some h
      exact se_or (ok.e h1 o) (ok.e h2 o)
    · cases h
  · unfold cCp at h
    split at h
    · obtain ⟨h0, h'⟩ := gd_some h
      obtain ⟨fa, fb, h1, h2, rfl⟩ := o2_some h'
      exact se_cmp (cCm_ok _ o) (ok.e h1 o) (ok.e h2 o) (behind_smp h0 _)
    · obtain ⟨h0, h'⟩ := gd_some h
      obtain ⟨fa, fb, fd, h1, h2, h3, rfl⟩ := o3_some h'
      exact se_chain (cCm_ok _ o) (cCm_ok _ o) (ok.e h1 o) (ok.e h2 o) (ok.e h3 o) (behind_smp h0 _)
    · cases h
  · obtain ⟨ft, fa, fb, h1, h2, h3, rfl⟩ := o3_some h
    exact se_if (ok.t h1 o) (ok.e h2 o) (ok.e h3 o)
  · obtain ⟨fa, h1, rfl⟩ := Option.map_eq_some_iff.mp h
    exact se_tup ((ok.a h1).2.2 o)
  · obtain ⟨fa, h1, rfl⟩ := Option.map_eq_some_iff.mp h
    exact se_lst ((ok.a h1).2.2 o)
  · split at h
    · obtain ⟨fa, fl, fh, h1, h2, h3, rfl⟩ := o3_some h
      exact se_cut (ok.e h1 o) (cO_ok ok h2 o) (cO_ok ok h3 o)
    · obtain ⟨h0, h'⟩ := gd_some h
      obtain ⟨fa, fb, h1, h2, rfl⟩ := o2_some h'
      exact se_get o (ok.e h1 o) (ok.e h2 o) h0
  · split at h
    · exact cCallN_ok ok h o
    · exact cMeth_ok ok h o
    · cases h
  · split at h
    · cases h; exact se_dict0 _
    · obtain ⟨fa, fb, h1, h2, rfl⟩ := o2_some h
      exact se_disp1 o (ok.e h1 o) (ok.e h2 o)
    · cases h
  · exact (cLc_ok ok h o).1
  · exact (cDc_ok ok h o).1
  · cases h
theorem cN_ok {x : Expr} {f : SE} (h : cE c Γ x = some f) {G : Orc} {k : Nat} {W : WX} {X : Cx} (o : XOk Γ G k W X) {i : Nat} {y : Str} {py spos : Pos} (hi : Γ.N[i]? = some y) (hy : y ∈ Γ.stor) : PS X (.Assign [.Name y py] x spos) (tS X W (sSet (.nm i) f G)) := by
  have he := cE_ok ok h o
  by_cases hn : noComp x = true
  · exact ss_name o hi hy he (swaps_noComp hn _ _ _)
  · cases x with
    | ListComp elt gens scope p => exact (cLc_ok ok (show cLc c Γ elt gens scope = some f from h) o).2 hi hy
    | DictComp kx vx gens scope p => exact (cDc_ok ok (show cDc c Γ kx vx gens scope = some f from h) o).2 hi hy
    | SetComp elt gens scope p => cases h
    | _ => exact absurd rfl hn
theorem cT_ok {x : Expr} {f : ST} (h : cT c Γ x = some f) {G : Orc} {k : Nat} {W : WX} {X : Cx} (o : XOk Γ G k W X) : PT X x (tT X W (f G)) := by
  unfold cT at h
  split at h
  · rename_i a ops bs p
    obtain ⟨fe, h1, rfl⟩ := Option.map_eq_some_iff.mp h
    have h2 := h1
    unfold cCp at h2
    split at h2
    · obtain ⟨h0, h'⟩ := gd_some h2
      obtain ⟨fa, fb, g1, g2, rfl⟩ := o2_some h'
      exact st_cmp (cCm_ok _ o) (ok.e g1 o) (ok.e g2 o) (behind_smp h0 _)
    · obtain ⟨h0, h'⟩ := gd_some h2
      obtain ⟨fa, fb, fd, g1, g2, g3, rfl⟩ := o3_some h'
      exact st_chain (cCm_ok _ o) (cCm_ok _ o) (ok.e g1 o) (ok.e g2 o) (ok.e g3 o) (behind_smp h0 _)
    · cases h2
  · obtain ⟨fa, h1, rfl⟩ := Option.map_eq_some_iff.mp h
    exact st_not (ok.t h1 o)
  · exact (ok.w h o).pt
  · obtain ⟨h0, h'⟩ := gd_some h
    obtain ⟨fa, h1, rfl⟩ := Option.map_eq_some_iff.mp h'
    exact st_val (ok.e h1 o) h0
theorem cW_ok {x : Expr} {f : ST} (h : cW c Γ x = some f) {G : Orc} {k : Nat} {W : WX} {X : Cx} (o : XOk Γ G k W X) : PW X x (tT X W (f G)) := by
  unfold cW at h
  split at h
  · split at h
    · exact pw_and1 (ok.t h o)
    · exact pw_or1 (ok.t h o)
    · obtain ⟨fa, fb, h1, h2, rfl⟩ := o2_some h
      exact st_and (ok.t h1 o) (ok.w h2 o)
    · obtain ⟨fa, fb, h1, h2, rfl⟩ := o2_some h
      exact st_or (ok.t h1 o) (ok.w h2 o)
    · cases h
  · cases h
theorem isTupE_ok {tg : Expr} (h : isTupE tg = true) : ∃ es k p, tg = .Tuple es k p := by
  cases tg <;> first | exact ⟨_, _, _, rfl⟩ | cases h
theorem cI_ok {tg x : Expr} {f : SI} (h : cI c Γ tg x = some f) {G : Orc} {k : Nat} {W : WX} {X : Cx} (o : XOk Γ G k W X) : PI X tg x (tIt X W (f G)) := by
  unfold cI at h
  split at h
  · split at h
    · rename_i r hr
      cases h
      exact (cRg_ok ok hr).2.2 o
    · split at h
      · split at h
        · rename_i ex
          obtain ⟨h1, h2⟩ := gd_some h
          simp only [Bool.and_eq_true] at h1
          obtain ⟨fa, h3, rfl⟩ := Option.map_eq_some_iff.mp h2
          obtain ⟨es, kk, p, rfl⟩ := isTupE_ok ok h1.1.2
          subst ex
          exact si_enum o (isGl_ok ok h1.1.1.1) (isFr_ok ok h1.1.1.2) (ok.e h3 o) h1.2
        · obtain ⟨fa, h3, rfl⟩ := Option.map_eq_some_iff.mp h
          exact si_seq (ok.e h3 o)
      · split at h
        · rename_i ex
          obtain ⟨h1, h2⟩ := gd_some h
          simp only [Bool.and_eq_true] at h1
          obtain ⟨fa, fb, h3, h4, rfl⟩ := o2_some h2
          obtain ⟨es, kk, p, rfl⟩ := isTupE_ok ok h1.1.1.2
          subst ex
          exact si_zip o (isGl_ok ok h1.1.1.1.1) (isFr_ok ok h1.1.1.1.2) (ok.e h3 o) (ok.e h4 o) h1.1.2 h1.2
        · obtain ⟨fa, h3, rfl⟩ := Option.map_eq_some_iff.mp h
          exact si_seq (ok.e h3 o)
      · obtain ⟨fa, h3, rfl⟩ := Option.map_eq_some_iff.mp h
        exact si_seq (ok.e h3 o)
  · obtain ⟨fa, h3, rfl⟩ := Option.map_eq_some_iff.mp h
    exact si_seq (ok.e h3 o)
theorem cP_ok {x : Expr} {f : TP} (h : cP c Γ x = some f) {G : Orc} {k : Nat} {W : WX} {X : Cx} (o : XOk Γ G k W X) : PG X x (gP X.K f) := by
  unfold cP at h
  split at h
  · obtain ⟨h1, h2⟩ := gd_some h
    obtain ⟨i, h3, rfl⟩ := Option.map_eq_some_iff.mp h2
    exact sg_nm o (ixOf_some h3) (of_decide_eq_true h1)
  · obtain ⟨ps, h3, rfl⟩ := Option.map_eq_some_iff.mp h
    obtain ⟨k1, k2, k3⟩ := ok.ps h3
    exact sg_tp o k2 k1 (k3 o)
  · cases h
theorem cPs_ok {x : List Expr} {f : List TP} (h : cPs c Γ x = some f) : x.all smp = true ∧ x.length = f.length ∧ ∀ {G k W X}, XOk Γ G k W X → PGs X x (gPs X.K f) := by
  cases x with
  | nil => cases h; exact ⟨rfl, rfl, fun o => sg_nil⟩
  | cons e r =>
    unfold cPs at h
    obtain ⟨h1, h2⟩ := gd_some h
    obtain ⟨p, ps, h3, h4, rfl⟩ := o2_some h2
    obtain ⟨k1, k2, k3⟩ := ok.ps h4
    exact ⟨by simp [h1, k1], by simp [k2], fun o => sg_cons h1 (ok.p h3 o) (k3 o)⟩
theorem cNext_ok : CmpOk (cNext c) where
  e := fun h _ _ _ _ o => cE_ok ok h o
  a := fun h => cA_ok ok h
  t := fun h _ _ _ _ o => cT_ok ok h o
  w := fun h _ _ _ _ o => cW_ok ok h o
  i := fun h _ _ _ _ o => cI_ok ok h o
  p := fun h _ _ _ _ o => cP_ok ok h o
  ps := fun h => cPs_ok ok h
  an := fun h => by cases h; rfl
  n := fun h _ _ _ _ o _ _ _ _ hi hy => cN_ok ok h o hi hy
end
theorem cmpN_ok : ∀ n, CmpOk (cmpN n)
  | 0 => c0_ok
  | n + 1 => cNext_ok (cmpN_ok n)
end EP
end
section
set_option maxHeartbeats 1000000
/-! CmS: statements, clauses, bodies. -/
namespace EP
open PySem PySem.Spec PyProof.Rows L2
/-! ### a clause's suite: n its name, i its slot -/
structure CmX where
  e : Expr → Option XE
  a : List Expr → Option XA
section
variable (Γ : Ctx) (n : Str) (i : Nat)
structure CmXOk (c : CmX) : Prop where
  e : ∀ {x f}, c.e x = some f → ∀ {G k W X a oe cls d pn}, XOk Γ G k W X → Zc cls d oe → (∃ vs, oe.data = .fields vs) → PE (sx X a oe pn) x (tXE X a oe cls d pn i G f)
  a : ∀ {x f}, c.a x = some f → ∀ {G k W X a oe cls d pn}, XOk Γ G k W X → Zc cls d oe → (∃ vs, oe.data = .fields vs) → PA (sx X a oe pn) x (tXA X a oe cls d pn i G f)
def xVar (x : Str) : Option XE := match Γ.names.lookup x with
  | some k => gd (visK k && okN x) ((ixOf Γ.N x).map fun j => fun _ _ => eVar j)
  | none => none
def isN (e : Expr) : Bool := match e with
  | .Name y _ => decide (y = n)
  | _ => false
def xE (c : CmX) : Expr → Option XE
  | .Constant k _ _ => match k with
    | .int z => some fun _ _ => eC (.int z)
    | .bool z => some fun _ _ => eC (.bl z)
    | .none => some fun _ _ => eC .non
    | .str z => some fun _ _ => eC (.str z)
    | _ => none
  | .Name x _ => xVar Γ x
  | .Tuple es _ _ => (c.a es).map fun fa C fs => eTup (fa C fs)
  | .BoolOp op es p => match op, es with
    | .Or, [a] => c.e a
    | .Or, a :: b :: r => o2 (c.e a) (c.e (.BoolOp .Or (b :: r) p)) fun fa fb C fs => eOr (fa C fs) (fb C fs)
    | _, _ => none
  | .Attribute (.Name y _) f _ => gd (decide (y = n)) (some (xF Γ.tab.flds f))
  | .Call (.Name x _) [.Name y _, .Name T _] [] _ => gd (decide (x = "isinstance") && decide (y = n) && isGl Γ x && isFr Γ x && isGl Γ T && okN T) (some (xIs Γ.tab.sub T))
  | _ => none
def xA (c : CmX) : List Expr → Option XA
  | [] => some fun _ _ => aNil
  | e :: r => gd (smp e) (o2 (c.e e) (c.a r) fun fe fr C fs => aCons (fe C fs) (fr C fs))
def cmX : Nat → CmX
  | 0 => ⟨fun _ => none, fun _ => none⟩
  | k + 1 => ⟨xE Γ n (cmX k), xA (cmX k)⟩
variable {Γ n i}
theorem xE_ok {c : CmX} (ok : CmXOk Γ i c) (hN : Γ.N[i]? = some n) (hv : Γ.names.lookup n = some .local) (hn : okN n = true) {x : Expr} {f : XE} (h : xE Γ n c x = some f) {G k W X a oe cls d pn} (o : XOk Γ G k W X) (hz : Zc cls d oe) (hf : ∃ vs, oe.data = .fields vs) :
    PE (sx X a oe pn) x (tXE X a oe cls d pn i G f) := by
  unfold xE at h
  split at h
  · split at h
    · cases h; exact xe_int
    · cases h; exact xe_bl
    · cases h; exact xe_non
    · cases h; exact xe_str
    · cases h
  · unfold xVar at h
    split at h
    · rename_i kk hl
      obtain ⟨h1, h2⟩ := gd_some h
      simp only [Bool.and_eq_true] at h1
      obtain ⟨j, h3, rfl⟩ := Option.map_eq_some_iff.mp h2
      refine xe_var o (ixOf_some h3) ?_ (okN_ok h1.2).1 (okN_ok h1.2).2
      cases kk with
      | «local» => exact .inl hl
      | cell => exact .inr (.inl hl)
      | free => exact .inr (.inr hl)
      | _ => cases h1.1
    · cases h
  · obtain ⟨fa, h1, rfl⟩ := Option.map_eq_some_iff.mp h
    exact xe_tup (ok.a h1 o hz hf)
  · split at h
    · exact pe_one (ok.e h o hz hf)
    · obtain ⟨fa, fb, h1, h2, rfl⟩ := o2_some h
      exact xe_or (ok.e h1 o hz hf) (ok.e h2 o hz hf)
    · cases h
  · obtain ⟨h1, h2⟩ := gd_some h
    cases h2
    have e := of_decide_eq_true h1
    subst e
    exact xe_fld o hN hv (okN_ok hn).1 (okN_ok hn).2 hz hf
  · obtain ⟨h1, h2⟩ := gd_some h
    cases h2
    simp only [Bool.and_eq_true, decide_eq_true_eq] at h1
    obtain ⟨⟨⟨⟨⟨e1, e2⟩, h3⟩, h4⟩, h5⟩, h6⟩ := h1
    subst e2
    exact xe_is o e1 hN hv (okN_ok hn).1 (okN_ok hn).2 hz hf (of_decide_eq_true h3) (of_decide_eq_true h4) (of_decide_eq_true h5) (okN_ok h6).1
  · cases h
theorem xA_ok {c : CmX} (ok : CmXOk Γ i c) {x : List Expr} {f : XA} (h : xA c x = some f) {G k W X a oe cls d pn} (o : XOk Γ G k W X) (hz : Zc cls d oe) (hf : ∃ vs, oe.data = .fields vs) :
    PA (sx X a oe pn) x (tXA X a oe cls d pn i G f) := by
  cases x with
  | nil => cases h; exact xa_nil
  | cons e r =>
    unfold xA at h
    obtain ⟨h1, h2⟩ := gd_some h
    obtain ⟨fe, fr, h3, h4, rfl⟩ := o2_some h2
    exact xa_cons h1 (ok.e h3 o hz hf) (ok.a h4 o hz hf)
theorem cmX_ok (hN : Γ.N[i]? = some n) (hv : Γ.names.lookup n = some .local) (hn : okN n = true) : ∀ k, CmXOk Γ i (cmX Γ n k)
  | 0 => ⟨(fun h => nomatch h), (fun h => nomatch h)⟩
  | k + 1 => ⟨fun h _ _ _ _ _ _ _ _ _ o hz hf => xE_ok (cmX_ok hN hv hn k) hN hv hn h o hz hf, fun h _ _ _ _ _ _ _ _ _ o hz hf => xA_ok (cmX_ok hN hv hn k) h o hz hf⟩
end
def xS (Γ : Ctx) (i : Nat) (c : CmX) : List Stmt → Option XS
  | [.Return (some e) _] => (c.e e).map fun fe C fs => sRet (fe C fs)
  | .Assign [.Name x _] e _ :: r => gd (decide (Γ.names.lookup x = some .local) && noComp e) ((ixOf Γ.N x).bind fun j => gd (decide (j ≠ i)) (o2 (c.e e) (xS Γ i c r) fun fe fr C fs => sSeq (sSet (.nm j) (fe C fs)) (fr C fs)))
  | _ => none
theorem xS_ok {Γ : Ctx} {i : Nat} {c : CmX} (ok : CmXOk Γ i c) : ∀ {x : List Stmt} {f : XS}, xS Γ i c x = some f → ∀ {G k W X a oe cls d pn}, XOk Γ G k W X → Zc cls d oe → (∃ vs, oe.data = .fields vs) → PSs (sx X a oe pn) x (tXT X a oe cls d pn i G f) := by
  intro x
  induction x with
  | nil => intro f h; cases h
  | cons st r ih =>
    intro f h G k W X a oe cls d pn o hz hf
    unfold xS at h
    split at h
    · rename_i e p heq
      cases heq
      obtain ⟨fe, h1, rfl⟩ := Option.map_eq_some_iff.mp h
      exact xs_ret (ok.e h1 o hz hf)
    · rename_i x p e p2 r' heq
      cases heq
      obtain ⟨h1, h2⟩ := gd_some h
      simp only [Bool.and_eq_true, decide_eq_true_eq] at h1
      obtain ⟨j, h3, h4⟩ := Option.bind_eq_some_iff.mp h2
      obtain ⟨h5, h6⟩ := gd_some h4
      obtain ⟨fe, fr, h7, h8, rfl⟩ := o2_some h6
      exact xs_set o (ixOf_some h3) h1.1 (of_decide_eq_true h5) (ok.e h7 o hz hf) h1.2 (ih h8 o hz hf)
    · cases h
def subHas (t : Tab) (D : Str) : Bool := t.subs.any fun q => decide (q.1.2 = D)
theorem subHas_ok {t : Tab} {D : Str} (h : subHas t D = true) : ∃ C b, t.sub C D = some b := by
  unfold subHas at h
  obtain ⟨⟨⟨C, D'⟩, b⟩, h1, h2⟩ := List.any_eq_true.mp h
  have e := of_decide_eq_true h2
  dsimp only at e
  subst e
  unfold Tab.sub
  cases q : t.subs.lookup (C, D') with
  | some b' => exact ⟨C, b', q⟩
  | none =>
    have := List.lookup_eq_none_iff.mp q _ h1
    simp at this
/-- the clauses -/
def cHs (Γ : Ctx) : List ExceptHandler → Option (List (Str × Nat × XS))
  | [] => some []
  | .ExceptHandler (some (.Name D _)) (some n) body _ :: r => gd (isGl Γ D && okN D && okN n && decide (Γ.names.lookup n = some .local) && subHas Γ.tab D && !body.isEmpty) ((ixOf Γ.N n).bind fun i => o2 (xS Γ i (cmX Γ n 30) body) (cHs Γ r) fun s l => (D, i, s) :: l)
  | _ => none
theorem cHs_ok {Γ : Ctx} : ∀ {x : List ExceptHandler} {l : List (Str × Nat × XS)}, cHs Γ x = some l → ∀ {G k}, HdX Γ G k x l := by
  intro x
  induction x with
  | nil => intro l h G k; cases h; exact .nil
  | cons hd r ih =>
    intro l h G k
    unfold cHs at h
    split at h
    · rename_i heq; cases heq
    · rename_i D p1 n body p2 r' heq
      cases heq
      obtain ⟨h1, h2⟩ := gd_some h
      simp only [Bool.and_eq_true, decide_eq_true_eq] at h1
      obtain ⟨⟨⟨⟨⟨k1, k2⟩, k3⟩, k4⟩, k5⟩, k6⟩ := h1
      obtain ⟨i, h3, h4⟩ := Option.bind_eq_some_iff.mp h2
      obtain ⟨s, l', h5, h6, rfl⟩ := o2_some h4
      cases body with
      | nil => cases k6
      | cons b0 suite =>
        exact .cons (of_decide_eq_true k1) (okN_ok k2).1 (ixOf_some h3) k4 (subHas_ok k5) (fun X W a oe cls d pn o hz hf => xS_ok (cmX_ok (ixOf_some h3) k4 k3 30) h5 o hz hf) (ih h6)
    · cases h
/-! ### statements -/
structure Cms where
  s : Stmt → Option SS
  ss : List Stmt → Option SS
structure CmsOk (Γ : Ctx) (m : Cms) : Prop where
  s : ∀ {x f}, m.s x = some f → ∀ {G k W X}, XOk Γ G k W X → PS X x (tS X W (f G))
  ss : ∀ {x f}, m.ss x = some f → ∀ {G k W X}, XOk Γ G k W X → PSs X x (tS X W (f G))
section
variable (c : Cmp) (Γ : Ctx) (m : Cms)
def cTupA (es vs : List Expr) : Option SS := match es, vs with
  | [.Name x _, .Name y _], [a, b] => gd (decide (Γ.names.lookup x = some .local) && decide (Γ.names.lookup y = some .local) && smp a && smp b) ((ixOf Γ.N x).bind fun i => (ixOf Γ.N y).bind fun j => gd (decide (i ≠ j)) (o2 (c.e Γ a) (c.e Γ b) (sPar i j)))
  | _, _ => none
def cTup (es : List Expr) (k : Nat) (p : Pos) (e : Expr) : Option SS := match e with
  | .Tuple vs k2 p2 => match swO Γ.names es vs with
    | some none => o2 (c.p Γ (.Tuple es k p)) (c.e Γ (.Tuple vs k2 p2)) sSet
    | some (some nms) => match es with
      | [.Name x _, .Name y _] => gd (decide (nms = [x, y])) (cTupA c Γ es vs)
      | _ => none
    | none => none
  | e => gd (noComp e) (o2 (c.p Γ (.Tuple es k p)) (c.e Γ e) sSet)
def isTP : TP → Bool
  | .tp _ => true
  | _ => false
def cAsg (e : Expr) : Expr → Option SS
  | .Name y _ => gd (decide (y ∈ Γ.stor)) (o2 (ixOf Γ.N y) (c.e Γ e) fun i => sSet (.nm i))
  | .Tuple es k p => cTup c Γ es k p e
  | .Subscript ob ix _ => gd (noComp e && smp ix) (o3 (c.e Γ ob) (c.e Γ ix) (c.e Γ e) sSetI)
  | _ => none
def cAug : Operator → Option Op2
  | .Add => some oAddI | .Sub => some oSub | _ => none
def cRaise (C : Str) (args : List Expr) : Option SS := gd (isGl Γ C && okN C && !args.isEmpty) (match Γ.tab.excs.lookup C with
  | some (n, names) => gd (decide (args.length = names.length) && decide (names.length ≤ 1000)) ((c.a Γ args).map (sRaise C n names))
  | none => none)
def cS : Stmt → Option SS
  | .Pass _ => some sSkip
  | .Break _ => some sBreak
  | .Continue _ => some sCont
  | .Expr e _ => gd (noComp e) ((c.e Γ e).map sExpr)
  | .Return v _ => match v with
    | none => some sRetN
    | some e => (c.e Γ e).map sRet
  | .If t a b _ => o3 (c.t Γ t) (m.ss a) (m.ss b) sIf
  | .Assign tgs e _ => match tgs with
    | [tg] => cAsg c Γ e tg
    | _ => none
  | .AugAssign tg op e _ => match tg with
    | .Name x _ => gd (decide (x ∈ Γ.stor)) (o3 (ixOf Γ.N x) (cAug op) (c.e Γ e) sAug)
    | _ => none
  | .For tg it body els _ => match els with
    | [] => gd (smp it) (o3 (c.i Γ tg it) (c.p Γ tg) (m.ss body) sFor)
    | _ => none
  | .While t body els _ => match els with
    | [] => o2 (c.t Γ t) (m.ss body) sWhile
    | _ => none
  | .Raise v cs _ => match v, cs with
    | some (.Call (.Name C _) args [] _), none => cRaise c Γ C args
    | _, _ => none
  | .Try body hds els fin _ => match els, fin with
    | [], [] => gd (Γ.top && !hds.isEmpty) (o2 (m.ss body) (cHs Γ hds) (sTry Γ.tab.sub))
    | _, _ => none
  | _ => none
def cSs : List Stmt → Option SS
  | [] => some sSkip
  | [s] => m.s s
  | s :: r => o2 (m.s s) (m.ss r) sSeq
variable {c Γ m}
variable (ok : CmpOk c) (om : CmsOk Γ m)
include ok
theorem cTup_ok {es : List Expr} {kk : Nat} {p : Pos} {e : Expr} {f : SS} (h : cTup c Γ es kk p e = some f) {G : Orc} {k : Nat} {W : WX} {X : Cx} (o : XOk Γ G k W X) {pos : Pos} (hp : ∀ {q : TP}, c.p Γ (.Tuple es kk p) = some q → ∃ ps, q = .tp ps) : PS X (.Assign [.Tuple es kk p] e pos) (tS X W (f G)) := by
  unfold cTup at h
  split at h
  · rename_i vs k2 p2
    split at h
    · rename_i hw
      obtain ⟨q, fe, h1, h2, rfl⟩ := o2_some h
      obtain ⟨ps, rfl⟩ := hp h1
      exact ss_tup (ok.p h1 o) (ok.e h2 o) rfl (swO_ok o.kind o.names hw)
    · rename_i nms hw
      split at h
      · rename_i x px y py
        obtain ⟨h1, h2⟩ := gd_some h
        have e := of_decide_eq_true h1
        subst e
        unfold cTupA at h2
        split at h2
        · rename_i x' px' y' py' a b heq
          cases heq
          obtain ⟨h3, h4⟩ := gd_some h2
          simp only [Bool.and_eq_true, decide_eq_true_eq] at h3
          obtain ⟨i, h5, h6⟩ := Option.bind_eq_some_iff.mp h4
          obtain ⟨j, h7, h8⟩ := Option.bind_eq_some_iff.mp h6
          obtain ⟨h9, h10⟩ := gd_some h8
          obtain ⟨fa, fb, h11, h12, rfl⟩ := o2_some h10
          exact ss_par o (ixOf_some h5) (ixOf_some h7) (of_decide_eq_true h9) h3.1.1.1 h3.1.1.2 (ok.e h11 o) (ok.e h12 o) h3.1.2 h3.2 hw
        · cases h2
      · cases h
    · cases h
  · rename_i hnt
    obtain ⟨h0, h'⟩ := gd_some h
    obtain ⟨q, fe, h1, h2, rfl⟩ := o2_some h'
    obtain ⟨ps, rfl⟩ := hp h1
    exact ss_tup (ok.p h1 o) (ok.e h2 o) h0 (sw_noTup (by cases e <;> first | rfl | exact absurd rfl (hnt _ _ _)))
omit ok in
theorem cAug_ok {op : Operator} {f : Op2} (h : cAug op = some f) {X : Cx} : PIp X op (fun x y H Q => rS X f x y H Q) := by
  cases op <;> first | (cases h; first | exact ips_add | exact ips_sub) | cases h
theorem cRaise_ok {C : Str} {args : List Expr} {f : SS} (h : cRaise c Γ C args = some f) {G : Orc} {k : Nat} {W : WX} {X : Cx} (o : XOk Γ G k W X) {p p2 pos : Pos} : PS X (.Raise (some (.Call (.Name C p) args [] p2)) none pos) (tS X W (f G)) := by
  unfold cRaise at h
  obtain ⟨h0, h'⟩ := gd_some h
  simp only [Bool.and_eq_true] at h0
  split at h'
  · rename_i n names hl
    obtain ⟨h1, h2⟩ := gd_some h'
    simp only [Bool.and_eq_true, decide_eq_true_eq] at h1
    obtain ⟨fa, h3, rfl⟩ := Option.map_eq_some_iff.mp h2
    obtain ⟨k1, k2, k3⟩ := ok.a h3
    cases args with
    | nil => cases h0.2
    | cons e es => exact ss_raise o (of_decide_eq_true h0.1.1) hl (k3 o) (fun ρ h xs h' q => (k2 q).trans h1.1) (okN_ok h0.1.2).1 k1 h1.2
  · cases h'
include om
omit ok in
theorem cTry_ok {body : List Stmt} {hds : List ExceptHandler} {f : SS} (h : gd (Γ.top && !hds.isEmpty) (o2 (m.ss body) (cHs Γ hds) (sTry Γ.tab.sub)) = some f) {G : Orc} {k : Nat} {W : WX} {X : Cx} (o : XOk Γ G k W X) {pos : Pos} : PS X (.Try body hds [] [] pos) (tS X W (f G)) := by
  obtain ⟨h0, h'⟩ := gd_some h
  simp only [Bool.and_eq_true] at h0
  obtain ⟨fb, l, h1, h2, rfl⟩ := o2_some h'
  cases hds with
  | nil => cases h0.2
  | cons hd r => exact ss_try o h0.1 (fun X' W' o' => om.ss h1 o') (cHs_ok h2)
theorem cS_ok (hp : ∀ {es kk p} {q : TP}, c.p Γ (.Tuple es kk p) = some q → ∃ ps, q = .tp ps) {x : Stmt} {f : SS} (h : cS c Γ m x = some f) {G : Orc} {k : Nat} {W : WX} {X : Cx} (o : XOk Γ G k W X) : PS X x (tS X W (f G)) := by
  unfold cS at h
  split at h
  · cases h; exact ss_pass
  · cases h; exact ss_break
  · cases h; exact ss_cont
  · obtain ⟨h0, h'⟩ := gd_some h
    obtain ⟨fe, h1, rfl⟩ := Option.map_eq_some_iff.mp h'
    exact ss_expr (ok.e h1 o) h0
  · split at h
    · cases h; exact ss_retN
    · obtain ⟨fe, h1, rfl⟩ := Option.map_eq_some_iff.mp h
      exact ss_ret (ok.e h1 o)
  · obtain ⟨ft, fa, fb, h1, h2, h3, rfl⟩ := o3_some h
    exact ss_if (ok.t h1 o) (om.ss h2 o) (om.ss h3 o)
  · split at h
    · unfold cAsg at h
      split at h
      · obtain ⟨h0, h'⟩ := gd_some h
        obtain ⟨i, fe, h1, h2, rfl⟩ := o2_some h'
        exact ok.n h2 o (ixOf_some h1) (of_decide_eq_true h0)
      · exact cTup_ok ok h o hp
      · obtain ⟨h0, h'⟩ := gd_some h
        simp only [Bool.and_eq_true] at h0
        obtain ⟨fo, fi, fe, h1, h2, h3, rfl⟩ := o3_some h'
        exact ss_setI o (ok.e h3 o) (ok.e h1 o) (ok.e h2 o) h0.1 h0.2
      · cases h
    · cases h
  · split at h
    · obtain ⟨h0, h'⟩ := gd_some h
      obtain ⟨i, f2, fe, h1, h2, h3, rfl⟩ := o3_some h'
      exact ss_aug o (ixOf_some h1) (of_decide_eq_true h0) (cAug_ok h2) (ok.e h3 o)
    · cases h
  · split at h
    · obtain ⟨h0, h'⟩ := gd_some h
      obtain ⟨fi, p, fb, h1, h2, h3, rfl⟩ := o3_some h'
      exact ss_for o (ok.i h1 o) (ok.p h2 o) (om.ss h3 o) h0
    · cases h
  · split at h
    · obtain ⟨ft, fb, h1, h2, rfl⟩ := o2_some h
      exact ss_while o (ok.t h1 o) (om.ss h2 o)
    · cases h
  · split at h
    · exact cRaise_ok ok h o
    · cases h
  · split at h
    · exact cTry_ok om h o
    · cases h
  · cases h
omit ok in
theorem cSs_ok {x : List Stmt} {f : SS} (h : cSs m x = some f) {G : Orc} {k : Nat} {W : WX} {X : Cx} (o : XOk Γ G k W X) : PSs X x (tS X W (f G)) := by
  unfold cSs at h
  split at h
  · cases h; exact ss_nil
  · exact ss_one (om.s h o)
  · obtain ⟨f1, f2, h1, h2, rfl⟩ := o2_some h
    exact ss_cons (om.s h1 o) (om.ss h2 o)
end
def cmS (c : Cmp) (Γ : Ctx) : Nat → Cms
  | 0 => ⟨fun _ => none, fun _ => none⟩
  | k + 1 => ⟨cS c Γ (cmS c Γ k), cSs (cmS c Γ k)⟩
theorem cmS_ok {c : Cmp} {Γ : Ctx} (ok : CmpOk c) (hp : ∀ {es kk p} {q : TP}, c.p Γ (.Tuple es kk p) = some q → ∃ ps, q = .tp ps) : ∀ n, CmsOk Γ (cmS c Γ n)
  | 0 => ⟨(fun h => nomatch h), (fun h => nomatch h)⟩
  | n + 1 => ⟨fun h _ _ _ _ o => cS_ok ok (cmS_ok ok hp n) hp h o, fun h _ _ _ _ o => cSs_ok (cmS_ok ok hp n) h o⟩
theorem cmpN_tp {n : Nat} {Γ : Ctx} {es : List Expr} {kk : Nat} {p : Pos} {q : TP} (h : (cmpN n).p Γ (.Tuple es kk p) = some q) : ∃ ps, q = .tp ps := by
  cases n with
  | zero => cases h
  | succ n =>
    have h' : ((cmpN n).ps Γ es).map TP.tp = some q := h
    obtain ⟨ps, _, e⟩ := Option.map_eq_some_iff.mp h'
    exact ⟨ps, e.symm⟩
/-- a body -/
def comp (Γ : Ctx) (body : List Stmt) : Option SS := (cmS (cmpN 60) Γ 400).ss body
theorem comp_ok {Γ : Ctx} {body : List Stmt} {f : SS} (h : comp Γ body = some f) {G : Orc} {k : Nat} {W : WX} {X : Cx} (o : XOk Γ G k W X) : PSs X body (tS X W (f G)) := (cmS_ok (cmpN_ok 60) cmpN_tp 400).ss h o
end EP
end
section
set_option maxHeartbeats 1000000
/-! Prog: the program's defs keep their promises. -/
namespace EP
open PySem PySem.Spec PyProof.Rows L2
def mkΓ (N : List Str) (scope : Scope) (tab : Tab) (tk : Bool) : Ctx := ⟨N, scope.names, storN scope.names, tab, tk, true⟩
section
variable {P : Program} {w : World} {K : PySem.W.Frag} {mg : Str → Option Value} {base : Heap}
structure TabOk (P : Program) (w : World) (K : PySem.W.Frag) (mg : Str → Option Value) (base : Heap) (tab : Tab) (G : Orc) (k : Nat) : Prop where
  fns : ∀ x n ar, tab.fns.lookup x = some (n, ar) → ∃ f fd ps, mg x = some (.ref f) ∧ PySem.W.keepIn K (.ref f) = true ∧ Binds K fd ps [] ∧ FnOk P w K mg base (L2.CX P w) k f fd ps (spOf ⟨K, mg⟩ (G n) ar)
  excs : ∀ C n names, tab.excs.lookup C = some (n, names) → ∃ Ca fI fd ps, mg C = some (.ref Ca) ∧ OexC K Ca ∧ PySem.W.findIn K (.ref Ca) "__init__" = some (some (.ref fI)) ∧ PySem.W.typeIn K (.ref fI) = some (.type "function") ∧ Binds K fd ps [] ∧
    FnOk P w K mg base (L2.CX P w) k fI fd ps (spIni ⟨K, mg⟩ Ca (G n) names)
  nums : ∀ x i, tab.nums.lookup x = some i → ∃ t, mg x = some (.int i t)
  free : ∀ x ∈ tab.free, mg x = none
  subs : ∀ C D b, tab.sub C D = some b → SubAt K mg C D b
  flds : ∀ C fl, tab.flds.lookup C = some fl → FldAt K mg C fl
theorem xok_of {tab : Tab} {tk : Bool} {G : Orc} {k : Nat} {N ps : List Str} {scope : Scope} {qual : Str} {f : Addr} {cdv : Value} {A : Around} {outer : List PySem.Env} {s : Shared} {H : Hp} {E : XK} (t : TabOk P w K mg base tab G k) (S : FnScope N ps scope)
    (hr : Room (k + 1) (A.deeper (envOfC qual scope s.heap.objs.size f cdv))) : XOk (mkΓ N scope tab tk) G k (fun c d _ H => E c d H) (cxOf (L2.CX P w) P w K mg base N qual scope f cdv A outer s H E) where
  N := rfl
  nd := S.nd
  names := rfl
  kind := S.kind
  calm := rfl
  tk := takes_of rfl rfl rfl rfl
  po := passes_of rfl
  room := hr
  stor := fun x hx => ⟨stor_at hx, .inl rfl⟩
  fns := fun x n ar h => ⟨t.fns x n ar h⟩
  nums := t.nums
  free := t.free
  excs := fun C n names h => ⟨t.excs C n names h⟩
  subs := t.subs
  flds := t.flds
  top := fun _ => ⟨rfl, rfl⟩
theorem start_rep {β : List Addr} {H : Hp} {N : List Str} {ds : List Dt} {vs : List V} (r : RepVs β H ds vs) : RepS β H (ds.map some ++ List.replicate (N.length - ds.length) none) (L2.start N vs) := by
  unfold L2.start
  have hl := r.length
  refine ⟨by simp [hl], fun i d e => ?_⟩
  by_cases hi : i < ds.length
  · rw [List.getElem?_append_left (by simpa using hi), List.getElem?_map] at e
    obtain ⟨d', h1, h2⟩ := Option.map_eq_some_iff.mp e
    cases h2
    obtain ⟨v, h3, h4⟩ := r.get h1
    refine ⟨v, ?_, h4⟩
    rw [List.getElem?_append_left (by simp; omega), List.getElem?_map, h3]
    rfl
  · rw [List.getElem?_append_right (by simpa using Nat.not_lt.mp hi)] at e
    have := List.mem_of_getElem? e
    have := List.eq_of_mem_replicate this
    cases this
/-- a def -/
def gOf (md : MDef) (G : Orc) (args : List Dt) (h : MH) : RE Dt := if args.length = md.ar then runBody md.sl md.body G args h else .bad
theorem fn_ok {tab : Tab} (tk : Bool) {G : Orc} {k : Nat} {N ps : List Str} {x qual : Str} {params : Arguments} {body : List Stmt} {scope : Scope} {f : Addr} {fd : FuncData} {s : SS} (F : FunD K x qual params body scope [] [] f fd) (S : FnScope N ps scope) (t : TabOk P w K mg base tab G k)
    (hc : comp (mkΓ N scope tab tk) body = some s) : FnOk P w K mg base (L2.CX P w) (k + 2) f fd ps (spOf ⟨K, mg⟩ (gOf ⟨ps.length, N.length, s⟩ G) ps.length) := by
  refine F.ok (k := k + 1) S (fun vs H Q E ⟨ds, h, β, hl, rv, _⟩ => by rw [← rv.length]; exact hl) fun cdv A outer s0 H vs Q E hr ⟨ds, h, β, hl, rv, rh, p⟩ => ?_
  have o := xok_of (tk := tk) (qual := qual) (f := f) (cdv := cdv) (A := A) (outer := outer) (s := s0) (H := H) (E := E) t S hr
  refine ⟨_, comp_ok hc o, _, h, β, start_rep rv, rh, ?_⟩
  unfold gOf at p
  rw [if_pos hl] at p
  unfold runBody at p
  simp only at p
  show PostS _ _ _ β H (s G (ds.map some ++ List.replicate (N.length - ds.length) none) h)
  cases hq : s G (ds.map some ++ List.replicate (N.length - ds.length) none) h with
  | nx ρ h' =>
    rw [hq] at p
    exact fun β' H' σ' xx rh' rs' => p β' H' .non xx rh' .non
  | rt d h' => rw [hq] at p; exact fun β' H' v xx rh' rv' => p β' H' v xx rh' rv'
  | ex C fs ρ h' => rw [hq] at p; exact fun β' H' σ' Cv od xx rh' rs' e1 e2 => p β' H' Cv od xx rh' e1 e2
  | bk ρ h' => rw [hq] at p; exact p.elim
  | ct ρ h' => rw [hq] at p; exact p.elim
  | bad => rw [hq] at p; exact p.elim
/-! ### an exception's __init__ -/
def ini1 (Γ : Ctx) (sf f : Str) (j : Nat) : Stmt → Bool
  | .Assign [.Attribute (.Name s _) f' _] (.Call (.Name sf' _) [.Name x _] [] _) _ => decide (s = "self") && decide (f' = f) && decide (sf' = sf) && decide (Γ.N[j]? = some x) && decide (Γ.names.lookup x = some .local) && okN x
  | _ => false
def iniC (Γ : Ctx) (sf : Str) : List Str → Nat → List Stmt → Bool
  | [], _, [] => true
  | f :: fl, j, st :: r => ini1 Γ sf f j st && iniC Γ sf fl (j + 1) r
  | _, _, _ => false
theorem iniC_ok {Γ : Ctx} {G : Orc} {k : Nat} {W : WX} {X : Cx} {Ca : Addr} {sp : Nat} {sf : Str} (o : XOk Γ G k W X) (T : OexC X.K Ca) (h0 : Γ.N[0]? = some ("self" : Str)) (hs0 : Γ.names.lookup ("self" : Str) = some .local) (hf : Γ.tab.fns.lookup sf = some (sp, 1)) (hg : Γ.names.lookup sf = some .globalImplicit) (hd : (sf == ("__debug__" : Str)) = false) :
    ∀ {fl : List Str} {j : Nat} {body : List Stmt}, (∀ f ∈ fl, PySem.W.findIn X.K (.ref Ca) f = some none) → iniC Γ sf fl j body = true → PSs X body (tI (rc X) Ca sp G (fl.zipIdx j))
  | [], j, [], _, _ => ti_nil
  | [], j, _ :: _, _, h => by simp [iniC] at h
  | _ :: _, j, [], _, h => by simp [iniC] at h
  | f :: fl, j, st :: r, hno, h => by
    have h' : (ini1 Γ sf f j st && iniC Γ sf fl (j + 1) r) = true := h
    obtain ⟨h1, h2⟩ := Bool.and_eq_true_iff.mp h'
    have ih := iniC_ok o T h0 hs0 hf hg hd (fl := fl) (j := j + 1) (body := r) (fun f hf => hno f (by simp [hf])) h2
    unfold ini1 at h1
    split at h1
    · simp only [Bool.and_eq_true, decide_eq_true_eq] at h1
      obtain ⟨⟨⟨⟨⟨rfl, rfl⟩, rfl⟩, h4⟩, h5⟩, h6⟩ := h1
      rw [List.zipIdx_cons]
      exact ti_cons o T (hno _ (by simp)) h0 h4 hs0 h5 (okN_ok h6).1 (okN_ok h6).2 hf hg hd ih
    · cases h1
theorem getSome_map : ∀ ds : List Dt, getSome (ds.map some) = some ds
  | [] => rfl
  | d :: ds => by
    show (getSome (ds.map some)).map (d :: ·) = _
    rw [getSome_map ds]; rfl
theorem gOf_ini {n m sp : Nat} {G : Orc} {ds : List Dt} {h : MH} {v : Dt} {h' : MH} (e : gOf ⟨n, m, sInit sp⟩ G ds h = .ok v h') (hm : m ≤ n) : ∃ es, v = .tup es ∧ initLoop sp G ds h = .ok es h' := by
  unfold gOf at e
  split at e
  · rename_i hl
    have hl' : ds.length = n := hl
    unfold runBody sInit at e
    have : m - ds.length = 0 := by omega
    simp only [this, List.replicate_zero, List.append_nil, getSome_map] at e
    cases hq : initLoop sp G ds h with
    | ok es h1 => rw [hq] at e; simp only at e; cases e; exact ⟨es, rfl, rfl⟩
    | ex C fs h1 => rw [hq] at e; cases e
    | bad => rw [hq] at e; cases e
  · cases e
theorem parAt_start {β : List Addr} {H : Hp} : ∀ {fl : List Str} {ds : List Dt} {us : List V} {σ : L2.St} {j : Nat}, fl.length = ds.length → RepVs β H ds us → (∀ (i : Nat) (v : V), us[i]? = some v → σ[j + i]? = some (some v)) → ParAt β H σ (fl.zipIdx j) ds
  | [], [], _, _, _, _, _, _ => trivial
  | f :: fl, d :: ds, _, σ, j, hl, .cons (v := v) (vs := vs) rv rr, hs => by
    rw [List.zipIdx_cons]
    refine ⟨⟨v, hs 0 v rfl, rv⟩, parAt_start (by simpa using hl) rr fun i u hu => ?_⟩
    have := hs (i + 1) u (by simpa using hu)
    have e : j + 1 + i = j + (i + 1) := by omega
    rw [e]; exact this
  | [], _ :: _, _, _, _, hl, _, _ => by cases hl
  | _ :: _, [], _, _, _, hl, _, _ => by cases hl
theorem ini_ok {tab : Tab} {G : Orc} {k : Nat} {fl : List Str} {x qual : Str} {params : Arguments} {body : List Stmt} {scope : Scope} {f Ca : Addr} {fd : FuncData} {sp : Nat} {sf : Str} (F : FunD K x qual params body scope [] [] f fd) (S : FnScope ("self" :: fl) ("self" :: fl) scope) (t : TabOk P w K mg base tab G k)
    (T : OexC K Ca) (hno : ∀ f ∈ fl, PySem.W.findIn K (.ref Ca) f = some none) (hs0 : scope.names.lookup ("self" : Str) = some .local) (hf : tab.fns.lookup sf = some (sp, 1)) (hg : scope.names.lookup sf = some .globalImplicit) (hd : (sf == ("__debug__" : Str)) = false) (hne : fl ≠ []) (hz : fl.length ≤ 900)
    (hc : iniC (mkΓ ("self" :: fl) scope tab false) sf fl 1 body = true) : FnOk P w K mg base (L2.CX P w) (k + 2) f fd ("self" :: fl) (spIni ⟨K, mg⟩ Ca (gOf ⟨fl.length, fl.length, sInit sp⟩ G) fl) := by
  refine F.ok (k := k + 1) S (fun vs H Q E ⟨a, us, ds, h, β, es, h2, e, hl, _, rv, _⟩ => by subst e; simp only [List.length_cons]; rw [← rv.length, hl]) fun cdv A outer s0 H vs Q E hr ⟨a, us, ds, h, β, es, h2, e, hl, ea, rv, rh, eg, q⟩ => ?_
  subst e
  have o := xok_of (tk := false) (qual := qual) (f := f) (cdv := cdv) (A := A) (outer := outer) (s := s0) (H := H) (E := E) t S hr
  refine ⟨_, iniC_ok (fl := fl) (j := 1) o T rfl hs0 hf hg hd hno hc, ?_⟩
  obtain ⟨es', e1, e2⟩ := gOf_ini eg (Nat.le_refl _)
  cases e1
  have hlen := rv.length
  refine ⟨a, none, [], [], ds, h, β, β, dropH H a, es, h2, rfl, ea, dropH_same, ⟨rfl, rfl, ?_⟩, by simp; omega, Ext.refl _ _, rh.dropX ea, fun g => .inl ⟨rfl, rfl⟩, parAt_start hl.symm rv fun i v hv => ?_, e2, fun β' H' d gs' y1 y2 y3 y4 y5 y6 y7 => ?_⟩
  · cases fl with
    | nil => exact absurd rfl hne
    | cons _ _ => simp [List.zipIdx]
  · unfold L2.start
    have hi : i < us.length := (List.getElem?_eq_some_iff.mp hv).1
    rw [List.getElem?_append_left (by simp; omega), List.getElem?_map]
    have : (V.ref a :: us)[1 + i]? = some v := by rw [Nat.add_comm]; simpa using hv
    rw [this]; rfl
  · refine q β' H' d gs' y1 y2 y3 y4 y5 y6 ?_
    have e : (fl.zipIdx 1).map (·.1) = fl := by simp
    rw [e] at y7
    simpa using y7
/-! ### all defs -/
theorem tab_ok {tab : Tab} {D : List MDef} (hf : ∀ x n ar, tab.fns.lookup x = some (n, ar) → ∃ f fd ps md, mg x = some (.ref f) ∧ PySem.W.keepIn K (.ref f) = true ∧ Binds K fd ps [] ∧ D[n]? = some md ∧ md.ar = ar ∧ ∀ G k, TabOk P w K mg base tab G k → FnOk P w K mg base (L2.CX P w) (k + 2) f fd ps (spOf ⟨K, mg⟩ (gOf md G) ar))
    (he : ∀ C n names, tab.excs.lookup C = some (n, names) → ∃ Ca fI fd ps md, mg C = some (.ref Ca) ∧ OexC K Ca ∧ PySem.W.findIn K (.ref Ca) "__init__" = some (some (.ref fI)) ∧ PySem.W.typeIn K (.ref fI) = some (.type "function") ∧ Binds K fd ps [] ∧ D[n]? = some md ∧
      ∀ G k, TabOk P w K mg base tab G k → FnOk P w K mg base (L2.CX P w) (k + 2) fI fd ps (spIni ⟨K, mg⟩ Ca (gOf md G) names))
    (hn : ∀ x i, tab.nums.lookup x = some i → ∃ t, mg x = some (.int i t)) (hr : ∀ x ∈ tab.free, mg x = none) (hs : ∀ C D b, tab.sub C D = some b → SubAt K mg C D b) (hl : ∀ C fl, tab.flds.lookup C = some fl → FldAt K mg C fl) :
    ∀ k, TabOk P w K mg base tab (callK D k) (2 * k)
  | 0 => by
    refine ⟨fun x n ar h => ?_, fun C n names h => ?_, hn, hr, hs, hl⟩
    · obtain ⟨f, fd, ps, md, h1, h2, h3, _, _, _⟩ := hf x n ar h
      refine ⟨f, fd, ps, h1, h2, h3, ⟨fun vs H Q E ⟨ds, h, β, _, _, _, p⟩ => p.elim, fun A outer s H args us vs Q E _ _ _ _ ⟨ds, h, β, _, _, _, p⟩ => p.elim⟩⟩
    · obtain ⟨Ca, fI, fd, ps, md, h1, h2, h3, h4, h5, _, _⟩ := he C n names h
      refine ⟨Ca, fI, fd, ps, h1, h2, h3, h4, h5, ⟨(fun vs H Q E ⟨a, us, ds, h, β, es, h2, e, hl, _, rv, _, eg, _⟩ => nomatch eg), fun A outer s H args us vs Q E _ _ _ _ ⟨a, us', ds, h, β, es, h2, e, hl, _, rv, _, eg, _⟩ => nomatch eg⟩⟩
  | k + 1 => by
    have ih := tab_ok hf he hn hr hs hl k
    refine ⟨fun x n ar h => ?_, fun C n names h => ?_, hn, hr, hs, hl⟩
    · obtain ⟨f, fd, ps, md, h1, h2, h3, h4, h5, h6⟩ := hf x n ar h
      have e : callK D (k + 1) n = gOf md (callK D k) := by
        funext args hh
        show (match D[n]? with | some d => if args.length = d.ar then runBody d.sl d.body (callK D k) args hh else .bad | none => .bad) = _
        rw [h4]; rfl
      exact ⟨f, fd, ps, h1, h2, h3, by rw [e]; exact h6 _ _ ih⟩
    · obtain ⟨Ca, fI, fd, ps, md, h1, h2, h3, h4, h5, h6, h7⟩ := he C n names h
      have e : callK D (k + 1) n = gOf md (callK D k) := by
        funext args hh
        show (match D[n]? with | some d => if args.length = d.ar then runBody d.sl d.body (callK D k) args hh else .bad | none => .bad) = _
        rw [h6]; rfl
      exact ⟨Ca, fI, fd, ps, h1, h2, h3, h4, h5, by rw [e]; exact h7 _ _ ih⟩
end
end EP
end
section
set_option maxHeartbeats 1000000
set_option maxRecDepth 100000
/-! HeadP: what the top leaves, told of the defs and of the exceptions. -/
namespace EP
open PySem PySem.Spec PyProof.Rows L2
/-! ### exceptions -/
def oexB (K : PySem.W.Frag) (C : Addr) : Bool := match K.lookup C with
  | some ⟨.type T, _, .cls cd, sl⟩ => decide (T = "type") && (match cd.mro, sl.toList with
    | .ref C' :: bm, [_, _, _, _, some (.builtin n), _] => C' == C && n == "ValueError.__new__" && !cd.hasDel && cd.hasDict && PySem.HandSPX.refsVE bm
    | _, _ => false)
  | _ => false
theorem oexB_ok {K : PySem.W.Frag} {C : Addr} (q : oexB K C = true) : ∃ nm q N bs bm sn sub ab col dd k0 k1 k2 k3 k5, K.lookup C = some (excClassObj nm q C N bs bm true sn sub ab col dd k0 k1 k2 k3 k5 "ValueError.__new__") ∧ PySem.HandSPX.refsVE bm = true := by
  unfold oexB at q
  split at q
  · rename_i T dd cd sl ho
    have q1 := (Bool.and_eq_true_iff.mp q).1
    have q2 := (Bool.and_eq_true_iff.mp q).2
    clear q
    have eT := of_decide_eq_true q1
    subst eT
    split at q2
    · rename_i C' bm k0 k1 k2 k3 n k5 hm hs
      simp only [Bool.and_eq_true, beq_iff_eq, Bool.not_eq_true'] at q2
      obtain ⟨⟨⟨⟨e1, e2⟩, hdel⟩, hdct⟩, ht⟩ := q2
      subst e1
      subst e2
      obtain ⟨nm, bs, mro, ns, qn, hd, sn, sub, ab, col, del⟩ := cd
      dsimp only at hm hdel hdct
      subst hm
      subst hdel
      subst hdct
      have hsl : sl = #[k0, k1, k2, k3, some (.builtin "ValueError.__new__"), k5] := by
        obtain ⟨l⟩ := sl
        exact congrArg Array.mk hs
      subst hsl
      exact ⟨nm, qn, ns, bs, bm, sn, sub, ab, col, dd, k0, k1, k2, k3, k5, ho, ht⟩
    · cases q2
  · cases q
def eqB (a b : Option (Option Value)) : Bool := He.eqO a b
def clsB (K : PySem.W.Frag) (q : Str × List Str) : Bool :=
  (He.Fa.glo q.1).ok K && (oexB K (He.ga K q.1) && (He.eqO (PySem.W.findIn K (.ref (He.ga K q.1)) "__setattr__") (some (some (.builtin "object.__setattr__"))) && (decide (PySem.W.subIn K (.ref (He.ga K q.1)) (.type "BaseException") = some true) &&
    (decide (PySem.W.typeIn K (.ref (He.ga K q.1)) = some (.type "type")) && (PySem.W.keepIn K (.ref (He.ga K q.1)) && (He.eqO (PySem.W.findIn K (.ref (He.ga K q.1)) "__init__") (some (some (.ref (He.ma K (He.ga K q.1) "__init__")))) &&
    (decide (PySem.W.typeIn K (.ref (He.ma K (He.ga K q.1) "__init__")) = some (.type "function")) && (xfB K (He.ga K q.1) && q.2.all fun f => He.eqO (PySem.W.findIn K (.ref (He.ga K q.1)) f) (some none)))))))))
structure ClsF (K : PySem.W.Frag) (mg : Str → Option Value) (C : Str) (fl : List Str) : Prop where
  m : mg C = some (.ref (He.ga K C))
  oex : OexC K (He.ga K C)
  ini : PySem.W.findIn K (.ref (He.ga K C)) "__init__" = some (some (.ref (He.ma K (He.ga K C) "__init__")))
  ty : PySem.W.typeIn K (.ref (He.ma K (He.ga K C) "__init__")) = some (.type "function")
  xf : XfC K (He.ga K C)
  no : ∀ f ∈ fl, PySem.W.findIn K (.ref (He.ga K C)) f = some none
section
variable {K : PySem.W.Frag} {h : Heap} {mg : Str → Option Value}
theorem clsB_ok (X : K.In h) (G : h.Ns mainGlobals mg) {C : Str} {fl : List Str} (q : clsB K (C, fl) = true) : ClsF K mg C fl := by
  unfold clsB at q
  simp only [Bool.and_eq_true] at q
  obtain ⟨h1, h2, h3, h4, h5, h6, h7, h8, h9, h10⟩ := q
  refine ⟨He.glo_ok X G h1, ⟨oexB_ok h2, He.eqO_ok h3, of_decide_eq_true h4, of_decide_eq_true h5, h6⟩, He.eqO_ok h7, of_decide_eq_true h8, xfB_ok h9, fun f hf => ?_⟩
  exact He.eqO_ok (List.all_eq_true.mp h10 f hf)
def kitB0 (K : PySem.W.Frag) (C : Str) : Bool := (He.Fa.glo C).ok K && ((PySem.W.clsIn K (He.ga K C)).isSome && (He.eqO (PySem.W.findIn K (.ref (He.ga K C)) "__getattribute__") (some (some (.builtin "BaseException.__getattribute__"))) && (He.eqO (PySem.W.findIn K (.ref (He.ga K C)) "__getattr__") (some none) &&
  (decide (PySem.W.subIn K (.ref (He.ga K C)) (.type "BaseException") = some true) && (He.eqO (PySem.W.findIn K (.ref (He.ga K C)) "__class__") (some (some (.builtin "object.__class__"))) && (He.eqO (PySem.W.specialIn K (.builtin "object.__class__") "__get__") (some (some (.builtin "getset_descriptor.__get__"))) &&
  (decide (PySem.W.takesIn K (.builtin "object.__class__") = some true) && decide (PySem.W.mroIn K (He.ga K C) (.type "object") = some true))))))))
def subB (K : PySem.W.Frag) (q : (Str × Str) × Bool) : Bool := kitB0 K q.1.1 && ((He.Fa.glo q.1.2).ok K && (decide (PySem.W.exmOne K (.ref (He.ga K q.1.1)) (.ref (He.ga K q.1.2)) = some q.2) && decide (PySem.W.kitOne K (.ref (He.ga K q.1.1)) (.ref (He.ga K q.1.2)) = some q.2)))
theorem subB_ok (X : K.In h) (G : h.Ns mainGlobals mg) {C D : Str} {b : Bool} (q : subB K ((C, D), b) = true) : SubAt K mg C D b := by
  unfold subB kitB0 at q
  simp only [Bool.and_eq_true] at q
  obtain ⟨⟨h1, h2, h3, h4, h5, h6, h7, h8, h9⟩, k1, k2, k3⟩ := q
  exact ⟨He.ga K C, He.ga K D, He.glo_ok X G h1, He.glo_ok X G k1, of_decide_eq_true k2, of_decide_eq_true k3, h2, He.eqO_ok h3, He.eqO_ok h4, of_decide_eq_true h5, He.eqO_ok h6, He.eqO_ok h7, of_decide_eq_true h8, of_decide_eq_true h9⟩
/-- all that is told of exceptions; numbers; names that are left alone -/
def exB (t : Tab) (K : PySem.W.Frag) : Bool := (t.flds.all (clsB K)) && (t.subs.all (subB K) && (t.nums.all (fun q => (He.Fa.int q.1 q.2).ok K) && t.free.all fun x => (He.Fa.free x).ok K))
theorem lookup_mem {α β : Type} [BEq α] [LawfulBEq α] {x : α} {v : β} : ∀ {l : List (α × β)}, l.lookup x = some v → (x, v) ∈ l
  | [], h => nomatch h
  | (y, w) :: r, h => by
    rw [List.lookup_cons] at h
    split at h
    · rename_i e
      cases h
      have := eq_of_beq e
      subst this
      exact List.mem_cons_self
    · exact List.mem_cons_of_mem _ (lookup_mem h)
end
/-! ### the hook -/
def obsP (fa : List He.Fa) (fn : List He.DefD) (ex : PySem.W.Frag → Bool) (K : PySem.W.Frag) : He.AlD := ((He.obsD fa fn K).1 && ex K, (He.obsD fa fn K).2)
def SaysP (fa : List He.Fa) (fn : List He.DefD) (ex : PySem.W.Frag → Bool) (K : PySem.W.Frag) : Prop := He.SaysD fa fn K ∧ ex K = true
theorem saysP_of {fa : List He.Fa} {fn : List He.DefD} {ex : PySem.W.Frag → Bool} {K : PySem.W.Frag} (e : obsP fa fn ex K = He.valD fn) : SaysP fa fn ex K := by
  unfold obsP He.valD at e
  have e1 := congrArg Prod.fst e
  have e2 := congrArg Prod.snd e
  obtain ⟨h1, h2⟩ := Bool.and_eq_true_iff.mp e1
  exact ⟨Prod.ext h1 e2, h2⟩
def obsPG (n : Nat) (fa : List He.Fa) (fn : List He.DefD) (ex : PySem.W.Frag → Bool) (g : Addr → Option Obj) : He.AlD := obsP fa fn ex (He.frG g (He.asD g n))
def hookP (n : Nat) (fa : List He.Fa) (fn : List He.DefD) (ex : PySem.W.Frag → Bool) : PySem.W.Hook where
  α := He.AlD
  obs := fun s => obsPG n fa fn ex s.heap.get?
  val := fun _ => He.valD fn
  says := fun _ h => ∃ K : PySem.W.Frag, K.In h ∧ SaysP fa fn ex K
  of := fun _ _ e => ⟨_, He.frG_in, saysP_of e⟩
  keeps := fun _ _ _ ⟨K, hK, c⟩ k => ⟨K, PySem.W.Frag.In.keeps hK k, c⟩
theorem obsPG_eq {n : Nat} {fa : List He.Fa} {fn : List He.DefD} {ex : PySem.W.Frag → Bool} {g : Addr → Option Obj} {s : Shared} (h : ∀ a, g a = s.heap.get? a) : obsPG n fa fn ex g = (hookP n fa fn ex).obs s := by
  have : g = s.heap.get? := funext h
  subst this
  rfl
/-! ### defs -/
/-- how a def binds what it is given -/
abbrev BindOk (d : He.DefD) (ps : List Str) : Prop := ∀ (kV doc pm : Value) (an : Option Addr) (cdv ct : Value) (us : List Value), us.length = ps.length → bindArgs (PySem.W.fnOf d.name d.qual d.params d.body d.scope .none kV doc pm an cdv ct) ⟨us, []⟩ = pure (ps.zip us)
def fnSc (N ps : List Str) (sc : Scope) : Bool := decide (sc.kind = .function) && (decide (sc.isCoroutine = false) && (decide (sc.isGenerator = false) && (decide N.Nodup && (decide (N.take ps.length = ps) && (ps.all (fun x => decide (sc.names.lookup x = some .local ∨ sc.names.lookup x = some .cell)) && sc.names.all fun y => decide (y.2 ≠ .free))))))
theorem fnSc_ok {N ps : List Str} {sc : Scope} (h : fnSc N ps sc = true) : FnScope N ps sc := by
  unfold fnSc at h
  simp only [Bool.and_eq_true, decide_eq_true_eq, List.all_eq_true] at h
  obtain ⟨h1, h2, h3, h4, h5, h6, h7⟩ := h
  exact ⟨h1, h2, h3, h4, h5, h6, h7⟩
/-- what is looked at in a def's text -/
def dOk (d : He.DefD) (N ps : List Str) : Bool := fnSc N ps d.scope
section
variable {P : Program} {w : World} {K : PySem.W.Frag} {mg : Str → Option Value} {base h : Heap} {tab : Tab} {Ds : List MDef} {fa : List He.Fa} {fn : List He.DefD}
def FP (P : Program) (w : World) (K : PySem.W.Frag) (mg : Str → Option Value) (base : Heap) (tab : Tab) (Ds : List MDef) (q : Str × Nat × Nat) : Prop := ∃ f fd ps md, mg q.1 = some (.ref f) ∧ PySem.W.keepIn K (.ref f) = true ∧ Binds K fd ps [] ∧ Ds[q.2.1]? = some md ∧ md.ar = q.2.2 ∧
  ∀ G k, TabOk P w K mg base tab G k → FnOk P w K mg base (L2.CX P w) (k + 2) f fd ps (spOf ⟨K, mg⟩ (gOf md G) q.2.2)
theorem fp_of {d : He.DefD} {x : Str} {n : Nat} {N ps : List Str} {s : SS} {tk : Bool} (c : He.SaysD fa fn K) (X : K.In h) (Gn : h.Ns mainGlobals mg) (ig : ∃ i : Nat, fa[i]? = some (He.Fa.glo x)) (id : fn[n]? = some d) (hat : d.at_ = (x, none)) (hd1 : d.dfl = []) (hd2 : d.kwd = []) (hb : BindOk d ps) (ok : dOk d N ps = true)
    (hc : comp (mkΓ N d.scope tab tk) d.body = some s) (hD : Ds[n]? = some ⟨ps.length, N.length, s⟩) : FP P w K mg base tab Ds (x, n, ps.length) := by
  obtain ⟨ig, ig'⟩ := ig
  obtain ⟨fd, F⟩ := c.def_ n id
  have e1 : d.dvs K = [] := by unfold He.DefD.dvs; rw [hd1]; rfl
  have e2 : d.kws K = [] := by unfold He.DefD.kws; rw [hd2]; rfl
  rw [e1, e2] at F
  have ef : He.fAd K d.at_ = He.ga K x := by rw [hat]; rfl
  rw [ef] at F
  exact ⟨_, fd, ps, _, He.glo_ok X Gn (c.fact ig (f := He.Fa.glo x) ig'), F.kp, F.bindsN hb, hD, rfl, fun G k t => fn_ok tk F (fnSc_ok ok) t hc⟩
def XP (P : Program) (w : World) (K : PySem.W.Frag) (mg : Str → Option Value) (base : Heap) (tab : Tab) (Ds : List MDef) (q : Str × Nat × List Str) : Prop := ∃ Ca fI fd ps md, mg q.1 = some (.ref Ca) ∧ OexC K Ca ∧ PySem.W.findIn K (.ref Ca) "__init__" = some (some (.ref fI)) ∧ PySem.W.typeIn K (.ref fI) = some (.type "function") ∧ Binds K fd ps [] ∧ Ds[q.2.1]? = some md ∧
  ∀ G k, TabOk P w K mg base tab G k → FnOk P w K mg base (L2.CX P w) (k + 2) fI fd ps (spIni ⟨K, mg⟩ Ca (gOf md G) q.2.2)
def iniOk (d : He.DefD) (fl : List Str) : Bool := dOk d ("self" :: fl) ("self" :: fl) && (decide (d.scope.names.lookup ("self" : Str) = some .local) && (decide (d.scope.names.lookup ("same_parts" : Str) = some .globalImplicit) && (!fl.isEmpty && decide (fl.length ≤ 900))))
theorem xp_of {d : He.DefD} {C : Str} {n sp : Nat} {fl : List Str} (c : He.SaysD fa fn K) (F0 : ClsF K mg C fl) (id : fn[n]? = some d) (hat : d.at_ = (C, some ("__init__" : Str))) (hd1 : d.dfl = []) (hd2 : d.kwd = []) (hb : BindOk d ("self" :: fl)) (ok : iniOk d fl = true) (hf : tab.fns.lookup ("same_parts" : Str) = some (sp, 1))
    (hc : iniC (mkΓ ("self" :: fl) d.scope tab false) "same_parts" fl 1 d.body = true) (hD : Ds[n]? = some ⟨fl.length, fl.length, sInit sp⟩) : XP P w K mg base tab Ds (C, n, fl) := by
  obtain ⟨fd, F⟩ := c.def_ n id
  unfold iniOk dOk at ok
  simp only [Bool.and_eq_true, decide_eq_true_eq] at ok
  obtain ⟨o2, o4, o5, o6, o7⟩ := ok
  have e1 : d.dvs K = [] := by unfold He.DefD.dvs; rw [hd1]; rfl
  have e2 : d.kws K = [] := by unfold He.DefD.kws; rw [hd2]; rfl
  rw [e1, e2] at F
  have ef : He.fAd K d.at_ = He.ma K (He.ga K C) "__init__" := by rw [hat]; rfl
  rw [ef] at F
  exact ⟨_, _, fd, _, _, F0.m, F0.oex, F0.ini, F0.ty, F.bindsN hb, hD, fun G k t => ini_ok F (fnSc_ok o2) t F0.oex F0.no o4 hf o5 (by decide) (by cases fl <;> simp at o6 ⊢) o7 hc⟩
/-- all are there -/
theorem tabOk_of {ex : PySem.W.Frag → Bool} (hex : ex = exB tab) (c : SaysP fa fn ex K) (X : K.In h) (Gn : h.Ns mainGlobals mg) (hf : ∀ q ∈ tab.fns, FP P w K mg base tab Ds q) (hx : ∀ q ∈ tab.excs, XP P w K mg base tab Ds q) : ∀ k, TabOk P w K mg base tab (callK Ds k) (2 * k) := by
  subst hex
  obtain ⟨_, c2⟩ := c
  unfold exB at c2
  simp only [Bool.and_eq_true, List.all_eq_true] at c2
  obtain ⟨h1, h2, h3, h4⟩ := c2
  refine tab_ok (fun x n ar hl => ?_) (fun C n names hl => ?_) (fun x i hl => He.int_ok X Gn (h3 _ (lookup_mem hl))) (fun x hm => He.free_ok X Gn (h4 x hm)) (fun C D b hl => subB_ok X Gn (h2 _ (lookup_mem hl))) (fun C fl hl => ?_)
  · obtain ⟨f, fd, ps, md, z⟩ := hf _ (lookup_mem hl)
    exact ⟨f, fd, ps, md, z⟩
  · obtain ⟨Ca, fI, fd, ps, md, z⟩ := hx _ (lookup_mem hl)
    exact ⟨Ca, fI, fd, ps, md, z⟩
  · have z := clsB_ok X Gn (h1 _ (lookup_mem hl))
    exact ⟨_, z.m, z.xf, z.no⟩
/-- the law's own promise -/
def spLaw (K : PySem.W.Frag) (most : Nat) : Sp := fun vs H Q _ => ∃ (a : Addr) (ns : List Int), vs = [.ref a] ∧ ns.length ≤ most ∧ FroL K H a (ns.map V.int) ∧ ∀ H', Q (.bl true) H'
theorem reps_ints {β : List Addr} {H : Hp} (ns : List Int) : RepVs β H (ns.map Dt.int) (ns.map V.int) := RepVs.ints ns
theorem law_ok {k j n most : Nat} {f : Addr} {fd : FuncData} {ps : List Str} (hm : most ≤ sizeLine) (F : FnOk P w K mg base (L2.CX P w) j f fd ps (spOf ⟨K, mg⟩ (callK Ds k n) 1)) (hT : ∀ ns : List Int, ns.length ≤ most → ∃ h', callK Ds k n [.loc 0] [.fro (ns.map Dt.int)] = .ok (.bl true) h') :
    FnOk P w K mg base (L2.CX P w) j f fd ps (spLaw K most) := by
  refine F.imp fun vs H Q E ⟨a, ns, e, hl, hS, hQ⟩ => ?_
  subst e
  obtain ⟨h', e⟩ := hT ns hl
  refine ⟨[.loc 0], [.fro (ns.map Dt.int)], [a], rfl, .cons (.loc rfl) .nil, ⟨rfl, fun i o p h1 h2 => ?_, fun i j o o' p h1 h2 h3 => ?_⟩, ?_⟩
  · cases i with
    | zero => cases h1; cases h2; exact ⟨by rw [List.length_map]; exact Nat.le_trans hl hm, _, hS, reps_ints ns⟩
    | succ i => cases h1
  · cases i with
    | zero => cases h1; cases h3
    | succ i => cases h1
  · rw [e]
    intro β' H' v _ _ rv
    cases rv
    exact hQ H'
theorem froL_of {H : Hp} {a : Addr} {vs : List V} (o : Only H) (s : SqL K H a vs) : FroL K H a vs := by
  rcases s with (e | ⟨ob, e⟩) | h
  · rcases o a with z | ⟨_, _, z⟩
    · rw [z] at e; cases e
    · rw [z] at e; cases e
  · exact .inl ⟨ob, e⟩
  · exact .inr h
theorem walk_ofP {l : PySem.W.OpenLaw} {n k : Nat} {q : Program} {loose : List Str} {XP : (Str → Option Value) → Heap → Prop} {YP : World → Heap → Prop} {d : DefRec} {x : Str}
    (hn : l.most = some n) (hn2 : n ≤ sizeLine) (hdf : d.params.defaults = []) (hr : Room k callerA)
    (F : ∀ (w : World) (mg : Str → Option Value) (fa : Addr) (h : Heap), YP w h → h.Ns mainGlobals mg → mg d.name = some (.ref fa) →
      ∃ (K : PySem.W.Frag) (fd : FuncData) (sp : Sp), K.In h ∧ (∀ (s : Shared) (u : Value), BindsTo s fd ⟨[u], []⟩ [(x, u)]) ∧
        (∀ (H : Hp) (a : Addr) (ns : List Int), ns.length ≤ n → Only H → SqL K H a (ns.map V.int) → sp [.ref a] H (fun v _ => v = .bl true) fun _ _ _ => False) ∧
        ∀ base : Heap, K.In base → base.Ns mainGlobals mg → FnOk l.prog w K mg base (L2.CX l.prog w) k fa fd [x] sp) :
    PySem.W.WalkO q loose XP YP l.row.toRowW d [] (fun f vs => PySem.call f vs) := by
  refine Att.attach_call hn hdf fun w s₀ s₁ mg mb fa o pm cd doc a vs ns G Y ho hd hcd hmg hobj hints hlen hg => ?_
  obtain ⟨K, fd, sp, KX, hb, hsp, hF⟩ := F w mg fa _ Y G.T.g hmg
  exact law_call KX G.T.g G.T.b G.T.builtins G.T.nolimit hg hobj hints (Nat.le_trans hlen hn2) hr hF hb (fun H hO hS => hsp H a ns hlen hO hS) fun H e s' hc => by
    obtain ⟨_, _, _, _, _, _, _, _, _, _, _, _, hE⟩ := hc
    exact hE
end
end EP
end
section
/-! MidL: the meanings run, in plain Lean. -/
namespace EP
open PySem L2

/-! ### what grows -/
theorem pre_get {h h' : MH} {n : Nat} {o : MO} (p : h <+: h') (e : h[n]? = some o) : h'[n]? = some o := by
  obtain ⟨t, rfl⟩ := p
  rw [List.getElem?_append_left (List.getElem?_eq_some_iff.mp e).1]; exact e
theorem pre_set {h h' : MH} {n : Nat} {o : MO} (p : h <+: h') (l : h.length ≤ n) : h <+: h'.set n o := by
  obtain ⟨t, rfl⟩ := p
  rw [List.set_append_right _ _ l]
  exact ⟨_, rfl⟩
theorem pre_app (h : MH) (t : MH) : h <+: h ++ t := ⟨t, rfl⟩
theorem pre_len {h h' : MH} (p : h <+: h') : h.length ≤ h'.length := p.length_le
theorem new_get (h : MH) (o : MO) : (h ++ [o])[h.length]? = some o := by simp
theorem pre_refl (h : MH) : h <+: h := List.prefix_refl h
theorem pre_trans {a b c : MH} (x : a <+: b) (y : b <+: c) : a <+: c := x.trans y
theorem lt_of_get {h : MH} {n : Nat} {o : MO} (e : h[n]? = some o) : n < h.length := (List.getElem?_eq_some_iff.mp e).1
theorem set_get {h : MH} {n : Nat} {o o' : MO} (e : h[n]? = some o) : (h.set n o')[n]? = some o' := List.getElem?_set_self (lt_of_get e)

/-! ### calls -/
theorem call_eq {D : List MDef} {k n : Nat} {md : MDef} {args : List Dt} {h : MH} (e : D[n]? = some md) (l : args.length = md.ar) : callK D (k + 1) n args h = runBody md.sl md.body (callK D k) args h := by
  show (match D[n]? with | some d => if args.length = d.ar then runBody d.sl d.body (callK D k) args h else .bad | none => .bad) = _
  rw [e]
  exact if_pos l

/-! ### steps -/
def andK (d : Dt) (r : RE Dt) (h : MH) : RE Dt := match d with
  | .bl true => r
  | .bl false => .ok (.bl false) h
  | _ => .bad
def orK (d : Dt) (r : RE Dt) (h : MH) : RE Dt := match d with
  | .bl true => .ok (.bl true) h
  | .bl false => r
  | _ => .bad
@[simp] theorem andK_bl {b : Bool} {r : RE Dt} {h : MH} : andK (.bl b) r h = if b = true then r else .ok (.bl false) h := by cases b <;> rfl
@[simp] theorem orK_bl {b : Bool} {r : RE Dt} {h : MH} : orK (.bl b) r h = if b = true then .ok (.bl true) h else r := by cases b <;> rfl
theorem if_ok {c : Prop} [Decidable c] {b : Bool} {h : MH} : (if c then RE.ok (Dt.bl b) h else RE.ok (Dt.bl false) h) = RE.ok (Dt.bl (decide c && b)) h := by by_cases hc : c <;> simp [hc]
theorem if_ok2 {c : Prop} [Decidable c] {b : Bool} {h : MH} : (if c then RE.ok (Dt.bl true) h else RE.ok (Dt.bl b) h) = RE.ok (Dt.bl (decide c || b)) h := by by_cases hc : c <;> simp [hc]
section
variable {α β : Type} {a : α} {h h1 : MH} {G : Orc} {ρ : Env} {C : Str} {fs : Fs}
@[simp] theorem bnd_ok {f : α → MH → RE β} : bnd (.ok a h) f = f a h := (rfl)
@[simp] theorem bnd_ex {f : α → MH → RE β} : bnd (.ex C fs h) f = .ex C fs h := (rfl)
@[simp] theorem bndS_ok {f : α → MH → RS} : bndS ρ (.ok a h) f = f a h := (rfl)
@[simp] theorem bndS_ex {f : α → MH → RS} : bndS ρ (.ex C fs h) f = .ex C fs ρ h := (rfl)
@[simp] theorem eVar_s {i : Nat} : eVar i G ρ h = match ρ[i]? with | some (some d) => .ok d h | _ => .bad := (rfl)
@[simp] theorem eC_s {d : Dt} : eC d G ρ h = .ok d h := (rfl)
@[simp] theorem eOp_s {o : Op2} {x y : SE} : eOp o x y G ρ h = bnd (x G ρ h) fun x h1 => bnd (y G ρ h1) fun y h2 => o x y h2 := (rfl)
@[simp] theorem eNeg_s {x : SE} : eNeg x G ρ h = bnd (x G ρ h) fun x h1 => match x with | .int i => .ok (.int (-i)) h1 | _ => .bad := (rfl)
@[simp] theorem eChain_s {o o' : Op2} {x y z : SE} : eChain o o' x y z G ρ h = bnd (x G ρ h) fun x h1 => bnd (y G ρ h1) fun y h2 => bnd (o x y h2) fun z' h3 => andK z' (bnd (z G ρ h3) fun u h4 => o' y u h4) h3 := (rfl)
@[simp] theorem eAnd_s {x y : SE} : eAnd x y G ρ h = bnd (x G ρ h) fun x h1 => andK x (y G ρ h1) h1 := (rfl)
@[simp] theorem eOr_s {x y : SE} : eOr x y G ρ h = bnd (x G ρ h) fun x h1 => orK x (y G ρ h1) h1 := (rfl)
@[simp] theorem eNot_s {x : SE} : eNot x G ρ h = bnd (x G ρ h) fun x h1 => bnd (truth x h1) fun k h2 => .ok (.bl (!k)) h2 := (rfl)
@[simp] theorem eIf_s {t : ST} {x y : SE} : eIf t x y G ρ h = bnd (t G ρ h) fun k h1 => if k = true then x G ρ h1 else y G ρ h1 := (rfl)
@[simp] theorem aNil_s : aNil G ρ h = .ok [] h := (rfl)
@[simp] theorem aCons_s {x : SE} {r : SA} : aCons x r G ρ h = bnd (x G ρ h) fun x h1 => bnd (r G ρ h1) fun xs h2 => .ok (x :: xs) h2 := (rfl)
@[simp] theorem eTup_s {r : SA} : eTup r G ρ h = bnd (r G ρ h) fun xs h1 => newT xs h1 := (rfl)
@[simp] theorem eLst_s {r : SA} : eLst r G ρ h = bnd (r G ρ h) fun xs h1 => newL xs h1 := (rfl)
@[simp] theorem eBf_s {f : Bf} {r : SA} : eBf f r G ρ h = bnd (r G ρ h) fun xs h1 => f xs h1 := (rfl)
@[simp] theorem eMf_s {f : Mf} {o : SE} {r : SA} : eMf f o r G ρ h = bnd (o G ρ h) fun x h1 => if isLst h1 x = true then bnd (r G ρ h1) fun xs h2 => f x xs h2 else .bad := (rfl)
@[simp] theorem eCall_s {n : Nat} {r : SA} : eCall n r G ρ h = bnd (r G ρ h) fun xs h1 => G n xs h1 := (rfl)
@[simp] theorem oNo_s : oNo G ρ h = .ok none h := (rfl)
@[simp] theorem oSome_s {x : SE} : oSome x G ρ h = bnd (x G ρ h) fun x h1 => match x with | .int i => .ok (some i) h1 | _ => .bad := (rfl)
@[simp] theorem eCut_s {x : SE} {lo hi : SO} : eCut x lo hi G ρ h = bnd (x G ρ h) fun x h1 => bnd (lo G ρ h1) fun l h2 => bnd (hi G ρ h2) fun u h3 => oCut x l u h3 := (rfl)
@[simp] theorem rg1_s {x : SE} : rg1 x G ρ h = bnd (x G ρ h) fun x h1 => match x with | .int i => .ok ((0 : Int), i) h1 | _ => .bad := (rfl)
@[simp] theorem rg2_s {x y : SE} : rg2 x y G ρ h = bnd (x G ρ h) fun x h1 => bnd (y G ρ h1) fun y h2 => match x, y with | .int i, .int j => .ok (i, j) h2 | _, _ => .bad := (rfl)
@[simp] theorem eLRg_s {r : SR} : eLRg r G ρ h = bnd (r G ρ h) fun p h1 => if rgOk p.1 p.2 = true then .ok (.loc h1.length) (h1 ++ [.lst (rgD p.1 p.2)]) else .bad := (rfl)
@[simp] theorem eTRg_s {r : SR} : eTRg r G ρ h = bnd (r G ρ h) fun p h1 => if rgOk p.1 p.2 = true then .ok (.tup (rgD p.1 p.2)) h1 else .bad := (rfl)
@[simp] theorem eDict0_s {t : Bool} : eDict0 t G ρ h = .ok (.loc h.length) (h ++ [if t then .dT [] else .dK []]) := (rfl)
@[simp] theorem eDict1_s {x y : SE} : eDict1 x y G ρ h = bnd (x G ρ h) fun x h1 => bnd (y G ρ h1) fun y h2 => match toKeys x with | some ks => .ok (.loc h2.length) (h2 ++ [.dT [(ks, y)]]) | none => .bad := (rfl)
@[simp] theorem tVal_s {x : SE} : tVal x G ρ h = bnd (x G ρ h) fun x h1 => truth x h1 := (rfl)
@[simp] theorem tBl_s {x : SE} : tBl x G ρ h = bnd (x G ρ h) fun x h1 => match x with | .bl t => .ok t h1 | _ => .bad := (rfl)
@[simp] theorem tNot_s {t : ST} : tNot t G ρ h = bnd (t G ρ h) fun k h1 => .ok (!k) h1 := (rfl)
@[simp] theorem tAnd_s {t u : ST} : tAnd t u G ρ h = bnd (t G ρ h) fun k h1 => if k = true then u G ρ h1 else .ok false h1 := (rfl)
@[simp] theorem tOr_s {t u : ST} : tOr t u G ρ h = bnd (t G ρ h) fun k h1 => if k = true then .ok true h1 else u G ρ h1 := (rfl)
@[simp] theorem tYes_s : EP.tYes G ρ h = .ok true h := (rfl)
@[simp] theorem truth_bl {b : Bool} : truth (.bl b) h = .ok b h := (rfl)
@[simp] theorem truth_tup {ds : List Dt} : truth (.tup ds) h = .ok (!ds.isEmpty) h := (rfl)
@[simp] theorem truth_int {i : Int} : truth (.int i) h = .ok (i != 0) h := (rfl)
@[simp] theorem truth_lst {n : Nat} {xs : List Dt} (e : h[n]? = some (.lst xs)) : truth (.loc n) h = .ok (!xs.isEmpty) h := by simp [truth, e]
@[simp] theorem sSkip_s : sSkip G ρ h = .nx ρ h := (rfl)
@[simp] theorem sBreak_s : sBreak G ρ h = .bk ρ h := (rfl)
@[simp] theorem sCont_s : sCont G ρ h = .ct ρ h := (rfl)
theorem sSeq_s {a b : SS} : sSeq a b G ρ h = match a G ρ h with | .nx ρ1 h1 => b G ρ1 h1 | r => r := (rfl)
@[simp] theorem sExpr_s {x : SE} : sExpr x G ρ h = bndS ρ (x G ρ h) fun _ h1 => .nx ρ h1 := (rfl)
@[simp] theorem sRet_s {x : SE} : sRet x G ρ h = bndS ρ (x G ρ h) fun d h1 => .rt d h1 := (rfl)
@[simp] theorem sRetN_s : sRetN G ρ h = .rt .non h := (rfl)
@[simp] theorem sSet_s {p : TP} {x : SE} : sSet p x G ρ h = bndS ρ (x G ρ h) fun d h1 => match assignP p d ρ with | some ρ' => .nx ρ' h1 | none => .bad := (rfl)
@[simp] theorem sPar_s {i j : Nat} {x y : SE} : sPar i j x y G ρ h = bndS ρ (x G ρ h) fun x h1 => bndS ρ (y G ρ h1) fun y h2 => .nx ((ρ.set i (some x)).set j (some y)) h2 := (rfl)
@[simp] theorem sSetI_s {o i x : SE} : sSetI o i x G ρ h = bndS ρ (x G ρ h) fun v h1 => bndS ρ (o G ρ h1) fun x h2 => bndS ρ (i G ρ h2) fun y h3 => match oSet x y v h3 with | some h4 => .nx ρ h4 | none => .bad := (rfl)
@[simp] theorem sIf_s {t : ST} {a b : SS} : sIf t a b G ρ h = bndS ρ (t G ρ h) fun k h1 => if k = true then a G ρ h1 else b G ρ h1 := (rfl)
@[simp] theorem sAug_s {i : Nat} {o : Op2} {x : SE} : sAug i o x G ρ h = match ρ[i]? with | some (some d) => bndS ρ (x G ρ h) fun y h1 => bndS ρ (o d y h1) fun z h2 => .nx (ρ.set i (some z)) h2 | _ => .bad := (rfl)
theorem sFor_s {i : SI} {p : TP} {b : SS} : sFor i p b G ρ h = bndS ρ (i G ρ h) fun I h1 => forLoop I p b G I.tot ρ h1 := (rfl)
theorem sWhile_s {t : ST} {b : SS} : sWhile t b G ρ h = whileLoop t b G whileFuel ρ h := (rfl)
@[simp] theorem assign_nm {i : Nat} {d : Dt} : assignP (.nm i) d ρ = some (ρ.set i (some d)) := (rfl)
@[simp] theorem assign_tp {ps : List TP} {ds : List Dt} : assignP (.tp ps) (.tup ds) ρ = if ds.length = ps.length then assignPs ps ds ρ else none := by simp [assignP]
@[simp] theorem assigns_nil : assignPs [] [] ρ = some ρ := by simp [assignPs]
@[simp] theorem assigns_cons {p : TP} {ps : List TP} {d : Dt} {ds : List Dt} : assignPs (p :: ps) (d :: ds) ρ = match assignP p d ρ with | some ρ' => assignPs ps ds ρ' | none => none := by rw [assignPs] <;> rfl
@[simp] theorem iSeq_s {x : SE} : iSeq x G ρ h = bnd (x G ρ h) itOf := (rfl)
@[simp] theorem iEnum_s {x : SE} : iEnum x G ρ h = bnd (x G ρ h) fun x h1 => bnd (itOf x h1) fun I h2 => .ok (itE I) h2 := (rfl)
@[simp] theorem iRg_s {r : SR} : iRg r G ρ h = bnd (r G ρ h) fun p h1 => if -lim62 ≤ p.1 ∧ p.1 < lim62 ∧ -lim62 ≤ p.2 ∧ p.2 < lim62 then .ok (itR p.1 (p.2 - p.1).toNat) h1 else .bad := (rfl)
@[simp] theorem iZip_s {x y : SE} : iZip x y G ρ h = bnd (x G ρ h) fun x h1 => bnd (y G ρ h1) fun y h2 => if sameKind x y = true then bnd (itOf x h2) fun I h3 => bnd (itOf y h3) fun J h4 => .ok (itZ I J (min I.tot J.tot)) h4 else .bad := (rfl)
@[simp] theorem itOf_tup {xs : List Dt} : itOf (.tup xs) h = .ok (itT xs) h := (rfl)
theorem itOf_lst {n : Nat} {xs : List Dt} (e : h[n]? = some (.lst xs)) : itOf (.loc n) h = .ok (itL n xs.length) h := by simp [itOf, getL, e]
theorem eLc_s {i : SI} {p : TP} {t : ST} {x : SE} {vs : List Nat} : eLc i p t x vs G ρ h = bnd (i G ρ h) fun I h1 => lcLoop I p t x G (wipeE ρ vs) h1.length I.tot (h1 ++ [.lst []]) := (rfl)
theorem eDc_s {T : Bool} {i : SI} {p : TP} {t : ST} {k x : SE} {vs : List Nat} : eDc T i p t k x vs G ρ h = bnd (i G ρ h) fun I h1 => dcLoop T I p t k x G (wipeE ρ vs) h1.length I.tot (h1 ++ [if T then .dT [] else .dK []]) := (rfl)
@[simp] theorem wipe_nil : wipeE ρ [] = ρ := (rfl)
@[simp] theorem wipe_cons {v : Nat} {vs : List Nat} : wipeE ρ (v :: vs) = (wipeE ρ vs).set v none := (rfl)
theorem run_s {n : Nat} {b : SS} {args : List Dt} : runBody n b G args h = match b G (args.map some ++ List.replicate (n - args.length) none) h with | .nx _ h' => .ok .non h' | .rt d h' => .ok d h' | .ex C fs _ h' => .ex C fs h' | _ => .bad := (rfl)
/-! ### operators -/
@[simp] theorem add_int {i j : Int} : oAdd (.int i) (.int j) h = .ok (.int (i + j)) h := (rfl)
@[simp] theorem add_tup {x y : List Dt} : oAdd (.tup x) (.tup y) h = newT (x ++ y) h := (rfl)
@[simp] theorem addI_int {i j : Int} : oAddI (.int i) (.int j) h = .ok (.int (i + j)) h := (rfl)
@[simp] theorem sub_int {i j : Int} : oSub (.int i) (.int j) h = .ok (.int (i - j)) h := (rfl)
@[simp] theorem lt_int {i j : Int} : oLt (.int i) (.int j) h = .ok (.bl (decide (i < j))) h := (rfl)
@[simp] theorem le_int {i j : Int} : oLe (.int i) (.int j) h = .ok (.bl (decide (i ≤ j))) h := (rfl)
@[simp] theorem gt_int {i j : Int} : oGt (.int i) (.int j) h = .ok (.bl (decide (j < i))) h := (rfl)
@[simp] theorem ge_int {i j : Int} : oGe (.int i) (.int j) h = .ok (.bl (decide (j ≤ i))) h := (rfl)
@[simp] theorem eqv_int {i j : Int} : eqv (.int i) (.int j) = decide (i = j) := by
  simp only [eqv, Dt.py, PyData.eqv]
  by_cases h : i = j <;> simp [h]
@[simp] theorem eqOk_int {i : Int} : (Dt.int i).eqOk = true := (rfl)
@[simp] theorem eq_int {n : Bool} {i j : Int} : oEq n (.int i) (.int j) h = .ok (.bl (if n then !decide (i = j) else decide (i = j))) h := by
  simp [oEq]
@[simp] theorem is_non_int {n : Bool} {i : Int} : oIs n (.int i) .non h = .ok (.bl n) h := (rfl)
@[simp] theorem is_non_non {n : Bool} : oIs n .non .non h = .ok (.bl (!n)) h := (rfl)
@[simp] theorem is_non_tup {n : Bool} {x : List Dt} : oIs n (.tup x) .non h = .ok (.bl n) h := (rfl)
@[simp] theorem len_tup {x : List Dt} : bLen [.tup x] h = .ok (.int x.length) h := (rfl)
@[simp] theorem len_lst {n : Nat} {xs : List Dt} (e : h[n]? = some (.lst xs)) : bLen [.loc n] h = .ok (.int xs.length) h := by simp [bLen, e]
@[simp] theorem tuple_tup {x : List Dt} : bTuple [.tup x] h = .ok (.tup x) h := (rfl)
@[simp] theorem tuple_lst {n : Nat} {xs : List Dt} (e : h[n]? = some (.lst xs)) : bTuple [.loc n] h = .ok (.tup xs) h := by simp [bTuple, getL, e]
@[simp] theorem int_int {i : Int} : bInt [.int i] h = .ok (.int i) h := (rfl)
@[simp] theorem int_bl {b : Bool} : bInt [.bl b] h = .ok (.int (if b then 1 else 0)) h := (rfl)
@[simp] theorem isi_int_bool {i : Int} : bIsi "bool" [.int i] h = .ok (.bl false) h := (rfl)
@[simp] theorem isi_int_int {i : Int} : bIsi "int" [.int i] h = .ok (.bl true) h := (rfl)
theorem get_tup {x : List Dt} {i : Int} {d : Dt} (e : atI x i = some d) : oGet (.tup x) (.int i) h = .ok d h := by simp [oGet, e]
end
end EP
end
section
/-! MidW: walks and loops. -/
namespace EP
open PySem L2
/-- I gives the items xs, whatever is laid behind h -/
structure Its (I : Wk) (h : MH) (xs : List Dt) : Prop where
  tot : I.tot = xs.length
  get : ∀ (h' : MH), h <+: h' → ∀ i, i < xs.length → I.get i h' = xs[i]?
  fin : ∀ (h' : MH), h <+: h' → I.fin h' = true
theorem its_tup {h : MH} {xs : List Dt} : Its (itT xs) h xs := ⟨rfl, fun _ _ _ _ => rfl, fun _ _ => rfl⟩
theorem its_lst {h : MH} {n : Nat} {xs : List Dt} (e : h[n]? = some (.lst xs)) : Its (itL n xs.length) h xs :=
  ⟨rfl, fun h' p i _ => by simp [itL, getL, pre_get p e], fun h' p => by simp [itL, getL, pre_get p e]⟩
theorem its_rng {h : MH} {lo : Int} {n : Nat} : Its (itR lo n) h ((List.range n).map fun i => Dt.int (lo + (i : Nat))) :=
  ⟨by simp [itR], fun h' p i hi => by
    have hi' : i < n := by simpa using hi
    simp [itR, hi'], fun h' p => rfl⟩
theorem its_enum {I : Wk} {h : MH} {xs : List Dt} (t : Its I h xs) : Its (itE I) h (xs.zipIdx.map fun q => .tup [.int (q.2 : Nat), q.1]) :=
  ⟨by simp [itE, t.tot], fun h' p i hi => by
    have hi' : i < xs.length := by simpa using hi
    simp [itE, t.get h' p i hi', hi'], fun h' p => t.fin h' p⟩
theorem its_zip {I J : Wk} {h : MH} {xs ys : List Dt} (t : Its I h xs) (u : Its J h ys) : Its (itZ I J (min I.tot J.tot)) h ((xs.zip ys).map fun q => .tup [q.1, q.2]) :=
  ⟨by simp [itZ, t.tot, u.tot], fun h' p i hi => by
    have hi' : i < xs.length ∧ i < ys.length := by simpa [Nat.lt_min] using hi
    simp [itZ, t.get h' p i hi'.1, u.get h' p i hi'.2, hi'.1, hi'.2, List.getElem?_zip_eq_some, List.zip, List.getElem?_zipWith], fun h' p => by
    simp only [itZ, t.fin h' p, u.fin h' p, t.tot, u.tot, Bool.true_and, Bool.or_eq_true, decide_eq_true_eq]
    omega⟩
theorem Its.mono {I : Wk} {h h' : MH} {xs : List Dt} (t : Its I h xs) (p : h <+: h') : Its I h' xs := ⟨t.tot, fun h2 q => t.get h2 (p.trans q), fun h2 q => t.fin h2 (p.trans q)⟩

/-! ### list comprehensions -/
section
variable {I : Wk} {p : TP} {t : ST} {e : SE} {G : Orc} {ρ : Env} {D : Nat}
theorem lc_inv (Inv : Nat → List Dt → MH → Prop)
    (step : ∀ i acc h, i < I.tot → Inv i acc h → h[D]? = some (.lst acc) → ∃ d ρ', I.get i h = some d ∧ assignP p d ρ = some ρ' ∧ ∃ b h1, t G ρ' h = .ok b h1 ∧
      (b = true → ∃ y h2, e G ρ' h1 = .ok y h2 ∧ h2[D]? = some (.lst acc) ∧ acc.length < sizeLine ∧ Inv (i + 1) (acc ++ [y]) (h2.set D (.lst (acc ++ [y])))) ∧ (b = false → h1[D]? = some (.lst acc) ∧ Inv (i + 1) acc h1))
    (fin : ∀ acc h, Inv I.tot acc h → I.fin h = true) : ∀ (m i : Nat) (acc : List Dt) (h : MH), i + m = I.tot → h[D]? = some (.lst acc) → Inv i acc h →
      ∃ acc' h', lcLoop I p t e G ρ D m h = .ok (.loc D) h' ∧ h'[D]? = some (.lst acc') ∧ Inv I.tot acc' h'
  | 0, i, acc, h, hm, hD, inv => by
    have hi : i = I.tot := hm
    subst hi
    exact ⟨acc, h, by unfold lcLoop; rw [if_pos (fin acc h inv)], hD, inv⟩
  | m + 1, i, acc, h, hm, hD, inv => by
    obtain ⟨d, ρ', e1, e2, b, h1, e3, k1, k2⟩ := step i acc h (by omega) inv hD
    have ei : I.tot - (m + 1) = i := by omega
    cases b with
    | true =>
      obtain ⟨y, h2, e4, e5, e6, inv'⟩ := k1 rfl
      obtain ⟨acc', h', r1, r2, r3⟩ := lc_inv Inv step fin m (i + 1) (acc ++ [y]) (h2.set D (.lst (acc ++ [y]))) (by omega) (set_get e5) inv'
      refine ⟨acc', h', ?_, r2, r3⟩
      unfold lcLoop
      rw [ei, e1]
      simp only [e2, e3, noEx, bnd_ok, if_true, e4, e5, e6, r1]
    | false =>
      obtain ⟨e5, inv'⟩ := k2 rfl
      obtain ⟨acc', h', r1, r2, r3⟩ := lc_inv Inv step fin m (i + 1) acc h1 (by omega) e5 inv'
      refine ⟨acc', h', ?_, r2, r3⟩
      unfold lcLoop
      rw [ei, e1]
      simp only [e2, e3, noEx, bnd_ok, Bool.false_eq_true, if_false, r1]
end
/-- a test, an expression that only lays new things -/
def PvT (t : ST) (G : Orc) (ρ : Env) (h : MH) (b : Bool) : Prop := ∃ h', t G ρ h = .ok b h' ∧ h <+: h'
def Pv (e : SE) (G : Orc) (ρ : Env) (h : MH) (d : Dt) : Prop := ∃ h', e G ρ h = .ok d h' ∧ h <+: h'
theorem PvT.now {t : ST} {G : Orc} {ρ : Env} {h : MH} {b : Bool} (e : t G ρ h = .ok b h) : PvT t G ρ h b := ⟨h, e, pre_refl h⟩
theorem Pv.now {t : SE} {G : Orc} {ρ : Env} {h : MH} {b : Dt} (e : t G ρ h = .ok b h) : Pv t G ρ h b := ⟨h, e, pre_refl h⟩
/-- [e for p in i if t], nothing but new things laid: the chosen items -/
theorem lc_pure {i : SI} {p : TP} {t : ST} {e : SE} {vs : List Nat} {G : Orc} {ρ : Env} {h h1 : MH} {I : Wk} {xs : List Dt} (hi : i G ρ h = .ok I h1) (its : Its I h1 xs) (b : Dt → Bool) (f : Dt → Dt) (hz : xs.length ≤ sizeLine)
    (hx : ∀ x ∈ xs, ∃ ρ', assignP p x (wipeE ρ vs) = some ρ' ∧ ∀ h', h1 <+: h' → PvT t G ρ' h' (b x) ∧ (b x = true → Pv e G ρ' h' (f x))) :
    ∃ h', eLc i p t e vs G ρ h = .ok (.loc h1.length) h' ∧ h1 <+: h' ∧ h'[h1.length]? = some (.lst ((xs.filter b).map f)) := by
  rw [eLc_s, hi, bnd_ok]
  have L := lc_inv (I := I) (p := p) (t := t) (e := e) (G := G) (ρ := wipeE ρ vs) (D := h1.length)
    (fun i acc h => h1 <+: h ∧ acc = ((xs.take i).filter b).map f) ?_ (fun acc h q => its.fin h q.1) I.tot 0 [] (h1 ++ [.lst []]) (Nat.zero_add _) (by simp) ⟨pre_app _ _, by simp⟩
  · obtain ⟨acc', h', r1, r2, r3, r4⟩ := L
    refine ⟨h', r1, r3, ?_⟩
    rw [r2, r4, its.tot, List.take_length]
  · rintro i acc h hlt ⟨pr, rfl⟩ hD
    have hl : i < xs.length := by rw [← its.tot]; exact hlt
    obtain ⟨ρ', e1, e2⟩ := hx xs[i] (List.getElem_mem hl)
    obtain ⟨⟨h2, k1, k2⟩, k3⟩ := e2 h pr
    refine ⟨xs[i], ρ', by rw [its.get h pr i hl]; exact List.getElem?_eq_getElem hl, e1, b xs[i], h2, k1, fun hb => ?_, fun hb => ?_⟩
    · obtain ⟨h3, q1, q2⟩ := (e2 h2 (pr.trans k2)).2 hb
      have hD3 := pre_get q2 (pre_get k2 hD)
      have hlen : (((xs.take i).filter b).map f).length < sizeLine := by
        rw [List.length_map]
        have := List.length_filter_le b (xs.take i)
        rw [List.length_take] at this
        omega
      refine ⟨f xs[i], h3, q1, hD3, hlen, pre_set (pr.trans (k2.trans q2)) (Nat.le_refl _), ?_⟩
      rw [List.take_succ, List.getElem?_eq_getElem hl, Option.toList_some, List.filter_append, List.map_append]
      simp [hb]
    · refine ⟨pre_get k2 hD, pr.trans k2, ?_⟩
      rw [List.take_succ, List.getElem?_eq_getElem hl, Option.toList_some, List.filter_append, List.map_append]
      simp [hb]
/-- .. for every item -/
theorem lc_map {i : SI} {p : TP} {e : SE} {vs : List Nat} {G : Orc} {ρ : Env} {h h1 : MH} {I : Wk} {xs : List Dt} (hi : i G ρ h = .ok I h1) (its : Its I h1 xs) (f : Dt → Dt) (hz : xs.length ≤ sizeLine)
    (hx : ∀ x ∈ xs, ∃ ρ', assignP p x (wipeE ρ vs) = some ρ' ∧ ∀ h', h1 <+: h' → Pv e G ρ' h' (f x)) :
    ∃ h', eLc i p EP.tYes e vs G ρ h = .ok (.loc h1.length) h' ∧ h1 <+: h' ∧ h'[h1.length]? = some (.lst (xs.map f)) := by
  have := lc_pure (t := EP.tYes) (e := e) hi its (fun _ => true) f hz fun x hm => by
    obtain ⟨ρ', e1, e2⟩ := hx x hm
    exact ⟨ρ', e1, fun h' p => ⟨.now rfl, fun _ => e2 h' p⟩⟩
  have e : xs.filter (fun _ => true) = xs := List.filter_eq_self.mpr (fun _ _ => rfl)
  rw [e] at this
  exact this
theorem lc_pureA {α : Type} {g : α → Dt} {i : SI} {p : TP} {t : ST} {e : SE} {vs : List Nat} {G : Orc} {ρ : Env} {h h1 : MH} {I : Wk} {xs : List α} (hi : i G ρ h = .ok I h1) (its : Its I h1 (xs.map g)) (b : α → Bool) (f : α → Dt) (hz : xs.length ≤ sizeLine)
    (hx : ∀ x ∈ xs, ∃ ρ', assignP p (g x) (wipeE ρ vs) = some ρ' ∧ ∀ h', h1 <+: h' → PvT t G ρ' h' (b x) ∧ (b x = true → Pv e G ρ' h' (f x))) :
    ∃ h', eLc i p t e vs G ρ h = .ok (.loc h1.length) h' ∧ h1 <+: h' ∧ h'[h1.length]? = some (.lst ((xs.filter b).map f)) := by
  rw [eLc_s, hi, bnd_ok]
  have htot : I.tot = xs.length := by rw [its.tot, List.length_map]
  have L := lc_inv (I := I) (p := p) (t := t) (e := e) (G := G) (ρ := wipeE ρ vs) (D := h1.length)
    (fun i acc h => h1 <+: h ∧ acc = ((xs.take i).filter b).map f) ?_ (fun acc h q => its.fin h q.1) I.tot 0 [] (h1 ++ [.lst []]) (Nat.zero_add _) (by simp) ⟨pre_app _ _, by simp⟩
  · obtain ⟨acc', h', r1, r2, r3, r4⟩ := L
    refine ⟨h', r1, r3, ?_⟩
    rw [r2, r4, htot, List.take_length]
  · rintro i acc h hlt ⟨pr, rfl⟩ hD
    have hl : i < xs.length := by rw [← htot]; exact hlt
    obtain ⟨ρ', e1, e2⟩ := hx xs[i] (List.getElem_mem hl)
    obtain ⟨⟨h2, k1, k2⟩, k3⟩ := e2 h pr
    refine ⟨g xs[i], ρ', by rw [its.get h pr i (by simpa using hl), List.getElem?_map, List.getElem?_eq_getElem hl]; rfl, e1, b xs[i], h2, k1, fun hb => ?_, fun hb => ?_⟩
    · obtain ⟨h3, q1, q2⟩ := (e2 h2 (pr.trans k2)).2 hb
      have hD3 := pre_get q2 (pre_get k2 hD)
      have hlen : (((xs.take i).filter b).map f).length < sizeLine := by
        rw [List.length_map]
        have := List.length_filter_le b (xs.take i)
        rw [List.length_take] at this
        omega
      refine ⟨f xs[i], h3, q1, hD3, hlen, pre_set (pr.trans (k2.trans q2)) (Nat.le_refl _), ?_⟩
      rw [List.take_succ, List.getElem?_eq_getElem hl, Option.toList_some, List.filter_append, List.map_append]
      simp [hb]
    · refine ⟨pre_get k2 hD, pr.trans k2, ?_⟩
      rw [List.take_succ, List.getElem?_eq_getElem hl, Option.toList_some, List.filter_append, List.map_append]
      simp [hb]
theorem lc_mapA {α : Type} {g : α → Dt} {i : SI} {p : TP} {e : SE} {vs : List Nat} {G : Orc} {ρ : Env} {h h1 : MH} {I : Wk} {xs : List α} (hi : i G ρ h = .ok I h1) (its : Its I h1 (xs.map g)) (f : α → Dt) (hz : xs.length ≤ sizeLine)
    (hx : ∀ x ∈ xs, ∃ ρ', assignP p (g x) (wipeE ρ vs) = some ρ' ∧ ∀ h', h1 <+: h' → Pv e G ρ' h' (f x)) :
    ∃ h', eLc i p EP.tYes e vs G ρ h = .ok (.loc h1.length) h' ∧ h1 <+: h' ∧ h'[h1.length]? = some (.lst (xs.map f)) := by
  have := lc_pureA (t := EP.tYes) (e := e) hi its (fun _ => true) f hz fun x hm => by
    obtain ⟨ρ', e1, e2⟩ := hx x hm
    exact ⟨ρ', e1, fun h' p => ⟨.now rfl, fun _ => e2 h' p⟩⟩
  have e : xs.filter (fun _ => true) = xs := List.filter_eq_self.mpr (fun _ _ => rfl)
  rw [e] at this
  exact this
theorem its_lstA {α : Type} {g : α → Dt} {xs : List α} {h : MH} {n : Nat} (e : h[n]? = some (.lst (xs.map g))) : Its (itL n (xs.map g).length) h (xs.map g) := its_lst e
theorem its_enumA {α : Type} {g : α → Dt} {xs : List α} {I : Wk} {h : MH} (t : Its I h (xs.map g)) : Its (itE I) h (xs.zipIdx.map fun q => .tup [.int (q.2 : Nat), g q.1]) := by
  have := its_enum t
  have e : ((xs.map g).zipIdx.map fun q => Dt.tup [.int (q.2 : Nat), q.1]) = xs.zipIdx.map fun q => Dt.tup [.int (q.2 : Nat), g q.1] := by
    rw [List.zipIdx_map, List.map_map]
    rfl
  rw [e] at this
  exact this
theorem intsOf_map : ∀ ns : List Int, intsOf (ns.map Dt.int) = some ns
  | [] => rfl
  | n :: ns => by
    show (intsOf (ns.map Dt.int)).map (n :: ·) = _
    rw [intsOf_map ns]; rfl
theorem sum_lst {h : MH} {n : Nat} {ns : List Int} (e : h[n]? = some (.lst (ns.map Dt.int))) : bSum [.loc n] h = .ok (.int ns.sum) h := by
  simp [bSum, getL, e, intsOf_map]
/-! ### for -/
theorem for_inv {I : Wk} {p : TP} {b : SS} {G : Orc} (Inv : Nat → Env → MH → Prop) (Out : RS → Prop)
    (step : ∀ i ρ h, i < I.tot → Inv i ρ h → ∃ d ρ', I.get i h = some d ∧ assignP p d ρ = some ρ' ∧ match b G ρ' h with
      | .nx ρ2 h2 => Inv (i + 1) ρ2 h2
      | .ct ρ2 h2 => Inv (i + 1) ρ2 h2
      | .bk ρ2 h2 => Out (.nx ρ2 h2)
      | r => Out r)
    (fin : ∀ ρ h, Inv I.tot ρ h → I.fin h = true ∧ Out (.nx ρ h)) : ∀ (m i : Nat) (ρ : Env) (h : MH), i + m = I.tot → Inv i ρ h → Out (forLoop I p b G m ρ h)
  | 0, i, ρ, h, hm, inv => by
    have hi : i = I.tot := hm
    subst hi
    unfold forLoop
    rw [if_pos (fin ρ h inv).1]
    exact (fin ρ h inv).2
  | m + 1, i, ρ, h, hm, inv => by
    obtain ⟨d, ρ', e1, e2, k⟩ := step i ρ h (by omega) inv
    have ei : I.tot - (m + 1) = i := by omega
    unfold forLoop
    rw [ei, e1]
    simp only [e2]
    cases hb : b G ρ' h with
    | nx ρ2 h2 => rw [hb] at k; exact for_inv Inv Out step fin m (i + 1) ρ2 h2 (by omega) k
    | ct ρ2 h2 => rw [hb] at k; exact for_inv Inv Out step fin m (i + 1) ρ2 h2 (by omega) k
    | bk ρ2 h2 => rw [hb] at k; exact k
    | rt d h2 => rw [hb] at k; exact k
    | ex C fs ρ2 h2 => rw [hb] at k; exact k
    | bad => rw [hb] at k; exact k
/-- the whole of a for -/
theorem for_run {I : Wk} {p : TP} {b : SS} {G : Orc} {ρ : Env} {h : MH} (Inv : Nat → Env → MH → Prop) (Out : RS → Prop) (h0 : Inv 0 ρ h)
    (step : ∀ i ρ h, i < I.tot → Inv i ρ h → ∃ d ρ', I.get i h = some d ∧ assignP p d ρ = some ρ' ∧ match b G ρ' h with
      | .nx ρ2 h2 => Inv (i + 1) ρ2 h2
      | .ct ρ2 h2 => Inv (i + 1) ρ2 h2
      | .bk ρ2 h2 => Out (.nx ρ2 h2)
      | r => Out r)
    (fin : ∀ ρ h, Inv I.tot ρ h → I.fin h = true ∧ Out (.nx ρ h)) : Out (forLoop I p b G I.tot ρ h) := for_inv Inv Out step fin I.tot 0 ρ h (Nat.zero_add _) h0
/-- while, by a measure -/
theorem while_run {t : ST} {b : SS} {G : Orc} (Inv : Nat → Env → MH → Prop) (Out : RS → Prop)
    (step : ∀ m ρ h, Inv m ρ h → ∃ c h1, t G ρ h = .ok c h1 ∧ (c = false → Out (.nx ρ h1)) ∧ (c = true → match b G ρ h1 with
      | .nx ρ2 h2 => ∃ m', m' < m ∧ Inv m' ρ2 h2
      | .ct ρ2 h2 => ∃ m', m' < m ∧ Inv m' ρ2 h2
      | .bk ρ2 h2 => Out (.nx ρ2 h2)
      | r => Out r)) : ∀ (F m : Nat) (ρ : Env) (h : MH), m < F → Inv m ρ h → Out (whileLoop t b G F ρ h)
  | 0, m, _, _, hm, _ => absurd hm (Nat.not_lt_zero _)
  | F + 1, m, ρ, h, hm, inv => by
    obtain ⟨c, h1, e, k0, k1⟩ := step m ρ h inv
    unfold whileLoop
    rw [e, bndS_ok]
    cases c with
    | false => rw [if_neg (by simp)]; exact k0 rfl
    | true =>
      rw [if_pos rfl]
      have k := k1 rfl
      cases hb : b G ρ h1 with
      | nx ρ2 h2 => rw [hb] at k; obtain ⟨m', l, inv'⟩ := k; exact while_run Inv Out step F m' ρ2 h2 (by omega) inv'
      | ct ρ2 h2 => rw [hb] at k; obtain ⟨m', l, inv'⟩ := k; exact while_run Inv Out step F m' ρ2 h2 (by omega) inv'
      | bk ρ2 h2 => rw [hb] at k; exact k
      | rt d h2 => rw [hb] at k; exact k
      | ex C fs ρ2 h2 => rw [hb] at k; exact k
      | bad => rw [hb] at k; exact k
end EP
end
section
/-! MidR: bodies run, what is left kept as a pile. -/
namespace EP
open PySem L2
structure Out where
  N : Env → MH → Prop
  Q : Dt → MH → Prop
  B : Env → MH → Prop := fun _ _ => False
  C : Env → MH → Prop := fun _ _ => False
  X : Str → Fs → Env → MH → Prop := fun _ _ _ _ => False
def Out.of (O : Out) : RS → Prop
  | .nx ρ h => O.N ρ h
  | .rt d h => O.Q d h
  | .bk ρ h => O.B ρ h
  | .ct ρ h => O.C ρ h
  | .ex c fs ρ h => O.X c fs ρ h
  | .bad => False
def Run0 (G : Orc) (O : Out) : List SS → RS → Prop
  | [], r => O.of r
  | s :: ks, .nx ρ h => Run0 G O ks (s G ρ h)
  | _ :: _, r => O.of r
/-- what is left of a body, run, ends well -/
@[irreducible] def Run (G : Orc) (O : Out) (ks : List SS) (r : RS) : Prop := Run0 G O ks r
section
variable {G : Orc} {O : Out} {ks : List SS} {ρ : Env} {h : MH}
theorem run_eq {r : RS} : Run G O ks r = Run0 G O ks r := by unfold Run; rfl
@[simp] theorem run_seq {a b : SS} : Run G O ks (sSeq a b G ρ h) = Run G O (b :: ks) (a G ρ h) := by
  rw [run_eq, run_eq, sSeq_s]
  cases a G ρ h with
  | nx ρ1 h1 => rfl
  | _ => cases ks <;> rfl
@[simp] theorem run_nx {s : SS} : Run G O (s :: ks) (.nx ρ h) = Run G O ks (s G ρ h) := by rw [run_eq, run_eq]; rfl
@[simp] theorem run_nx0 : Run G O [] (.nx ρ h) = O.N ρ h := by rw [run_eq]; rfl
@[simp] theorem run_rt {d : Dt} : Run G O ks (.rt d h) = O.Q d h := by rw [run_eq]; cases ks <;> rfl
@[simp] theorem run_bk : Run G O ks (.bk ρ h) = O.B ρ h := by rw [run_eq]; cases ks <;> rfl
@[simp] theorem run_ct : Run G O ks (.ct ρ h) = O.C ρ h := by rw [run_eq]; cases ks <;> rfl
@[simp] theorem run_ex {c : Str} {fs : Fs} : Run G O ks (.ex c fs ρ h) = O.X c fs ρ h := by rw [run_eq]; cases ks <;> rfl
@[simp] theorem run_bad : Run G O ks .bad = False := by rw [run_eq]; cases ks <;> rfl
/-- what a loop's body is to reach -/
structure ToB (O' : Out) (O : Out) (G : Orc) (ks : List SS) (Nx : Env → MH → Prop) : Prop where
  N : ∀ ρ h, Nx ρ h → O'.N ρ h
  C : ∀ ρ h, Nx ρ h → O'.C ρ h
  B : ∀ ρ h, Run G O ks (.nx ρ h) → O'.B ρ h
  Q : ∀ d h, O.Q d h → O'.Q d h
  X : ∀ c fs ρ h, O.X c fs ρ h → O'.X c fs ρ h
theorem ToB.self (O : Out) (G : Orc) (ks : List SS) (Nx : Env → MH → Prop) : ToB { N := Nx, C := Nx, B := fun ρ h => Run G O ks (.nx ρ h), Q := O.Q, X := O.X } O G ks Nx := ⟨fun _ _ h => h, fun _ _ h => h, fun _ _ h => h, fun _ _ h => h, fun _ _ _ _ h => h⟩
theorem run_for {i : SI} {p : TP} {b : SS} {I : Wk} {h1 : MH} (hi : i G ρ h = .ok I h1) (Inv : Nat → Env → MH → Prop) (h0 : Inv 0 ρ h1)
    (step : ∀ i ρ h, i < I.tot → Inv i ρ h → ∃ d ρ', I.get i h = some d ∧ assignP p d ρ = some ρ' ∧ ∀ O', ToB O' O G ks (Inv (i + 1)) → Run G O' [] (b G ρ' h))
    (fin : ∀ ρ h, Inv I.tot ρ h → I.fin h = true ∧ Run G O ks (.nx ρ h)) : Run G O ks (sFor i p b G ρ h) := by
  rw [sFor_s, hi, bndS_ok]
  refine for_run Inv (fun r => Run G O ks r) h0 (fun i ρ h hlt inv => ?_) fin
  obtain ⟨d, ρ', e1, e2, k⟩ := step i ρ h hlt inv
  have k := k _ (ToB.self O G ks (Inv (i + 1)))
  refine ⟨d, ρ', e1, e2, ?_⟩
  cases hb : b G ρ' h with
  | nx ρ2 h2 => rw [hb, run_nx0] at k; exact k
  | ct ρ2 h2 => rw [hb, run_ct] at k; exact k
  | bk ρ2 h2 => rw [hb, run_bk] at k; exact k
  | rt d h2 => rw [hb, run_rt] at k; show Run G O ks (.rt d h2); rw [run_rt]; exact k
  | ex C fs ρ2 h2 => rw [hb, run_ex] at k; show Run G O ks (.ex C fs ρ2 h2); rw [run_ex]; exact k
  | bad => rw [hb, run_bad] at k; exact k.elim
/-- a for over given items, nothing but new things laid by what is walked -/
theorem run_forI {α : Type} {f : α → Dt} {i : SI} {p : TP} {b : SS} {I : Wk} {h1 : MH} {xs : List α} (its : Its I h1 (xs.map f)) (hi : i G ρ h = .ok I h1) (Inv : Nat → Env → MH → Prop) (h0 : Inv 0 ρ h1) (up : ∀ i ρ h, Inv i ρ h → h1 <+: h)
    (step : ∀ i x ρ h, xs[i]? = some x → Inv i ρ h → ∃ ρ', assignP p (f x) ρ = some ρ' ∧ ∀ O', ToB O' O G ks (Inv (i + 1)) → Run G O' [] (b G ρ' h))
    (fin : ∀ ρ h, Inv xs.length ρ h → Run G O ks (.nx ρ h)) : Run G O ks (sFor i p b G ρ h) := by
  refine run_for hi Inv h0 (fun i ρ h hlt inv => ?_) fun ρ h inv => ?_
  · have hl : i < xs.length := by rw [its.tot, List.length_map] at hlt; exact hlt
    obtain ⟨ρ', e1, e2⟩ := step i xs[i] ρ h (List.getElem?_eq_getElem hl) inv
    exact ⟨f xs[i], ρ', by rw [its.get h (up _ _ _ inv) i (by simpa using hl), List.getElem?_map, List.getElem?_eq_getElem hl]; rfl, e1, e2⟩
  · rw [its.tot, List.length_map] at inv
    exact ⟨its.fin h (up _ _ _ inv), fin ρ h inv⟩
theorem run_while {t : ST} {b : SS} (Inv : Nat → Env → MH → Prop) {m : Nat} (hm : m < whileFuel) (h0 : Inv m ρ h)
    (step : ∀ m ρ h, Inv m ρ h → ∃ c h1, t G ρ h = .ok c h1 ∧ (c = false → Run G O ks (.nx ρ h1)) ∧ (c = true → ∀ O', ToB O' O G ks (fun ρ h => ∃ m', m' < m ∧ Inv m' ρ h) → Run G O' [] (b G ρ h1))) :
    Run G O ks (sWhile t b G ρ h) := by
  rw [sWhile_s]
  refine while_run Inv (fun r => Run G O ks r) (fun m ρ h inv => ?_) whileFuel m ρ h hm h0
  obtain ⟨c, h1, e, k0, k1⟩ := step m ρ h inv
  refine ⟨c, h1, e, k0, fun hc => ?_⟩
  have k := k1 hc _ (ToB.self O G ks _)
  cases hb : b G ρ h1 with
  | nx ρ2 h2 => rw [hb, run_nx0] at k; exact k
  | ct ρ2 h2 => rw [hb, run_ct] at k; exact k
  | bk ρ2 h2 => rw [hb, run_bk] at k; exact k
  | rt d h2 => rw [hb, run_rt] at k; show Run G O ks (.rt d h2); rw [run_rt]; exact k
  | ex C fs ρ2 h2 => rw [hb, run_ex] at k; show Run G O ks (.ex C fs ρ2 h2); rw [run_ex]; exact k
  | bad => rw [hb, run_bad] at k; exact k.elim
end
/-- a def's answer -/
def Ans (Q : Dt → MH → Prop) (X : Str → Fs → MH → Prop) : RE Dt → Prop
  | .ok d h => Q d h
  | .ex C fs h => X C fs h
  | .bad => False
theorem call_run {D : List MDef} {k n : Nat} {md : MDef} {args : List Dt} {h : MH} {Q : Dt → MH → Prop} {X : Str → Fs → MH → Prop} (e : D[n]? = some md) (l : args.length = md.ar)
    (r : ∀ O : Out, (∀ ρ h, Q .non h → O.N ρ h) → (∀ d h, Q d h → O.Q d h) → (∀ C fs ρ h, X C fs h → O.X C fs ρ h) → Run (callK D k) O [] (md.body (callK D k) (args.map some ++ List.replicate (md.sl - args.length) none) h)) : Ans Q X (callK D (k + 1) n args h) := by
  have r := r { N := fun _ h => Q .non h, Q := Q, X := fun C fs _ h => X C fs h } (fun _ _ h => h) (fun _ _ h => h) (fun _ _ _ _ h => h)
  rw [call_eq e l, run_s]
  revert r
  cases md.body (callK D k) (args.map some ++ List.replicate (md.sl - args.length) none) h with
  | nx ρ h' => rw [run_nx0]; exact id
  | rt d h' => rw [run_rt]; exact id
  | bk ρ h' => rw [run_bk]; exact id
  | ct ρ h' => rw [run_ct]; exact id
  | ex C fs ρ h' => rw [run_ex]; exact id
  | bad => rw [run_bad]; exact id
theorem Ans.ok {Q : Dt → MH → Prop} {r : RE Dt} (a : Ans Q (fun _ _ _ => False) r) : ∃ d h, r = .ok d h ∧ Q d h := by
  cases r with
  | ok d h => exact ⟨d, h, rfl, a⟩
  | ex C fs h => exact a.elim
  | bad => exact a.elim
theorem Ans.val {v : Dt} {P : MH → Prop} {r : RE Dt} (a : Ans (fun d h => d = v ∧ P h) (fun _ _ _ => False) r) : ∃ h, r = .ok v h ∧ P h := by
  obtain ⟨d, h, e, rfl, p⟩ := a.ok
  exact ⟨h, e, p⟩
end EP
namespace EP
open PySem L2
/-- items that hang on no heap -/
structure HF (I : Wk) (xs : List Dt) : Prop where
  tot : I.tot = xs.length
  get : ∀ h i, i < xs.length → I.get i h = xs[i]?
  fin : ∀ h, I.fin h = true
theorem hf_tup {xs : List Dt} : HF (itT xs) xs := ⟨rfl, fun _ _ _ => rfl, fun _ => rfl⟩
theorem hf_rng {lo : Int} {n : Nat} : HF (itR lo n) ((List.range n).map fun i => Dt.int (lo + (i : Nat))) :=
  ⟨by simp [itR], fun h i hi => by
    have hi' : i < n := by simpa using hi
    simp [itR, hi'], fun h => rfl⟩
theorem hf_enum {I : Wk} {xs : List Dt} (t : HF I xs) : HF (itE I) (xs.zipIdx.map fun q => .tup [.int (q.2 : Nat), q.1]) :=
  ⟨by simp [itE, t.tot], fun h i hi => by
    have hi' : i < xs.length := by simpa using hi
    simp [itE, t.get h i hi', hi'], fun h => t.fin h⟩
section
variable {G : Orc} {O : Out} {ks : List SS} {ρ : Env} {h : MH}
theorem run_forH {α : Type} {f : α → Dt} {i : SI} {p : TP} {b : SS} {I : Wk} {h1 : MH} {xs : List α} (hf : HF I (xs.map f)) (hi : i G ρ h = .ok I h1) (Inv : Nat → Env → MH → Prop) (h0 : Inv 0 ρ h1)
    (step : ∀ i x ρ h, xs[i]? = some x → Inv i ρ h → ∃ ρ', assignP p (f x) ρ = some ρ' ∧ ∀ O', ToB O' O G ks (Inv (i + 1)) → Run G O' [] (b G ρ' h))
    (fin : ∀ ρ h, Inv xs.length ρ h → Run G O ks (.nx ρ h)) : Run G O ks (sFor i p b G ρ h) := by
  refine run_for hi Inv h0 (fun i ρ h hlt inv => ?_) fun ρ h inv => ?_
  · have hl : i < xs.length := by rw [hf.tot, List.length_map] at hlt; exact hlt
    obtain ⟨ρ', e1, e2⟩ := step i xs[i] ρ h (List.getElem?_eq_getElem hl) inv
    exact ⟨f xs[i], ρ', by rw [hf.get h i (by simpa using hl), List.getElem?_map, List.getElem?_eq_getElem hl]; rfl, e1, e2⟩
  · rw [hf.tot, List.length_map] at inv
    exact ⟨hf.fin h, fin ρ h inv⟩
theorem in_dT {a b : Int} {n : Nat} {ng : Bool} {kvs : List (List Key × Dt)} (e : h[n]? = some (.dT kvs)) : oIn ng (.tup [.int a, .int b]) (.loc n) h = .ok (.bl (if ng then !(kvs.any fun kv => decide (kv.1 = [.inl a, .inl b])) else kvs.any fun kv => decide (kv.1 = [.inl a, .inl b]))) h := by
  simp [oIn, e, toKeys, toKeyL, toKey]
theorem set_dT {a b : Int} {n : Nat} {v : Dt} {kvs : List (List Key × Dt)} (e : h[n]? = some (.dT kvs)) (l : kvs.length < sizeLine) : oSet (.loc n) (.tup [.int a, .int b]) v h = some (h.set n (.dT (setK kvs [.inl a, .inl b] v))) := by
  simp [oSet, e, toKeys, toKeyL, toKey, l]
theorem app_lst {n : Nat} {xs : List Dt} {v : Dt} (e : h[n]? = some (.lst xs)) (l : xs.length < sizeLine) : mAppend (.loc n) [v] h = .ok .non (h.set n (.lst (xs ++ [v]))) := by
  simp [mAppend, e, l]
theorem isLst_lst {n : Nat} {xs : List Dt} (e : h[n]? = some (.lst xs)) : isLst h (.loc n) = true := by simp [isLst, getL, e]
theorem set_ne {n m : Nat} {o o' : MO} (e : h[m]? = some o) (ne : n ≠ m) : (h.set n o')[m]? = some o := by rw [List.getElem?_set_ne ne]; exact e
end
/-! ### pigeons -/
theorem nodup_lt : ∀ (n : Nat) (l : List Nat), l.Nodup → (∀ x ∈ l, x < n) → l.length ≤ n
  | 0, l, _, hb => by
    cases l with
    | nil => simp
    | cons a r => exact absurd (hb a (by simp)) (Nat.not_lt_zero _)
  | n + 1, l, hn, hb => by
    by_cases hm : n ∈ l
    · have h1 : (l.erase n).length = l.length - 1 := List.length_erase_of_mem hm
      have h2 := nodup_lt n (l.erase n) (hn.erase n) fun x hx => by
        have := (List.Nodup.mem_erase_iff hn).mp hx
        have := hb x this.2
        omega
      omega
    · have := nodup_lt n l hn fun x hx => by
        have h1 := hb x hx
        have h2 : x ≠ n := fun e => hm (e ▸ hx)
        omega
      omega
end EP
namespace EP
open PySem L2
/-- the object at n is now o -/
structure Up (n : Nat) (h h' : MH) (o : MO) : Prop where
  at_ : h'[n]? = some o
  ne : ∀ m, m ≠ n → h'[m]? = h[m]?
  pre : ∀ {h0 : MH}, h0 <+: h → h0.length ≤ n → h0 <+: h'
  len : h'.length = h.length
theorem Up.of {n : Nat} {h : MH} {o o' : MO} (e : h[n]? = some o) : Up n h (h.set n o') o' :=
  ⟨set_get e, fun m hm => List.getElem?_set_ne (Ne.symm hm), fun p l => pre_set p l, by simp⟩
theorem Up.get {n m : Nat} {h h' : MH} {o o' : MO} (u : Up n h h' o) (ne : m ≠ n) (e : h[m]? = some o') : h'[m]? = some o' := (u.ne m ne).trans e
section
variable {h : MH}
theorem app_ex {n : Nat} {xs : List Dt} {v : Dt} (e : h[n]? = some (.lst xs)) (l : xs.length < sizeLine) : ∃ h', mAppend (.loc n) [v] h = .ok .non h' ∧ Up n h h' (.lst (xs ++ [v])) := ⟨_, app_lst e l, Up.of e⟩
theorem setT_ex {a b : Int} {n : Nat} {v : Dt} {kvs : List (List Key × Dt)} (e : h[n]? = some (.dT kvs)) (l : kvs.length < sizeLine) : ∃ h', oSet (.loc n) (.tup [.int a, .int b]) v h = some h' ∧ Up n h h' (.dT (setK kvs [.inl a, .inl b] v)) := ⟨_, set_dT e l, Up.of e⟩
theorem setL_ex {n : Nat} {i : Int} {v : Dt} {xs : List Dt} (e : h[n]? = some (.lst xs)) (h0 : 0 ≤ i) (l : i < xs.length) : ∃ h', oSet (.loc n) (.int i) v h = some h' ∧ Up n h h' (.lst (xs.set i.toNat v)) :=
  ⟨_, by simp [oSet, e, ixN, h0, l], Up.of e⟩
end
end EP
namespace EP
open PySem L2
section
variable {G : Orc} {O : Out} {ks : List SS} {ρ : Env} {h : MH}
/-- a list that stays as it is while it is walked -/
theorem run_forL {α : Type} {f : α → Dt} {i : SI} {p : TP} {b : SS} {n : Nat} {h1 : MH} {xs : List α} (hi : i G ρ h = .ok (itL n (xs.map f).length) h1) (Inv : Nat → Env → MH → Prop) (h0 : Inv 0 ρ h1) (st : ∀ i ρ h, Inv i ρ h → h[n]? = some (.lst (xs.map f)))
    (step : ∀ i x ρ h, xs[i]? = some x → Inv i ρ h → ∃ ρ', assignP p (f x) ρ = some ρ' ∧ ∀ O', ToB O' O G ks (Inv (i + 1)) → Run G O' [] (b G ρ' h))
    (fin : ∀ ρ h, Inv xs.length ρ h → Run G O ks (.nx ρ h)) : Run G O ks (sFor i p b G ρ h) := by
  refine run_for hi Inv h0 (fun i ρ h hlt inv => ?_) fun ρ h inv => ?_
  · have hl : i < xs.length := by simpa [itL] using hlt
    obtain ⟨ρ', e1, e2⟩ := step i xs[i] ρ h (List.getElem?_eq_getElem hl) inv
    exact ⟨f xs[i], ρ', by simp [itL, getL, st _ _ _ inv, hl], e1, e2⟩
  · have inv' : Inv xs.length ρ h := by simpa [itL] using inv
    exact ⟨by simp [itL, getL, st _ _ _ inv], fin ρ h inv'⟩
theorem run_forE {α : Type} {f : α → Dt} {i : SI} {p : TP} {b : SS} {n : Nat} {h1 : MH} {xs : List α} (hi : i G ρ h = .ok (itE (itL n (xs.map f).length)) h1) (Inv : Nat → Env → MH → Prop) (h0 : Inv 0 ρ h1) (st : ∀ i ρ h, Inv i ρ h → h[n]? = some (.lst (xs.map f)))
    (step : ∀ (i : Nat) x ρ h, xs[i]? = some x → Inv i ρ h → ∃ ρ', assignP p (.tup [.int (i : Nat), f x]) ρ = some ρ' ∧ ∀ O', ToB O' O G ks (Inv (i + 1)) → Run G O' [] (b G ρ' h))
    (fin : ∀ ρ h, Inv xs.length ρ h → Run G O ks (.nx ρ h)) : Run G O ks (sFor i p b G ρ h) := by
  refine run_for hi Inv h0 (fun i ρ h hlt inv => ?_) fun ρ h inv => ?_
  · have hl : i < xs.length := by simpa [itL, itE] using hlt
    obtain ⟨ρ', e1, e2⟩ := step i xs[i] ρ h (List.getElem?_eq_getElem hl) inv
    exact ⟨.tup [.int (i : Nat), f xs[i]], ρ', by simp [itL, itE, getL, st _ _ _ inv, hl], e1, e2⟩
  · have inv' : Inv xs.length ρ h := by simpa [itL, itE] using inv
    exact ⟨by simp [itL, itE, getL, st _ _ _ inv], fin ρ h inv'⟩
/-- .. a tuple's, numbered -/
theorem run_forET {α : Type} {f : α → Dt} {i : SI} {p : TP} {b : SS} {h1 : MH} {xs : List α} (hi : i G ρ h = .ok (itE (itT (xs.map f))) h1) (Inv : Nat → Env → MH → Prop) (h0 : Inv 0 ρ h1)
    (step : ∀ (i : Nat) x ρ h, xs[i]? = some x → Inv i ρ h → ∃ ρ', assignP p (.tup [.int (i : Nat), f x]) ρ = some ρ' ∧ ∀ O', ToB O' O G ks (Inv (i + 1)) → Run G O' [] (b G ρ' h))
    (fin : ∀ ρ h, Inv xs.length ρ h → Run G O ks (.nx ρ h)) : Run G O ks (sFor i p b G ρ h) := by
  refine run_for hi Inv h0 (fun i ρ h hlt inv => ?_) fun ρ h inv => ?_
  · have hl : i < xs.length := by simpa [itT, itE] using hlt
    obtain ⟨ρ', e1, e2⟩ := step i xs[i] ρ h (List.getElem?_eq_getElem hl) inv
    exact ⟨.tup [.int (i : Nat), f xs[i]], ρ', by simp [itT, itE, hl], e1, e2⟩
  · have inv' : Inv xs.length ρ h := by simpa [itT, itE] using inv
    exact ⟨by simp [itT, itE], fin ρ h inv'⟩
end
end EP
end
section
/-! MathA: a search. -/
namespace EP
section
variable {α : Type} [DecidableEq α]
def addAll (P cs : List α) : List α := cs.foldl (fun P c => if c ∈ P then P else P ++ [c]) P
theorem addAll_nil {P : List α} : addAll P [] = P := rfl
theorem addAll_app {P a b : List α} : addAll P (a ++ b) = addAll (addAll P a) b := by simp [addAll, List.foldl_append]
theorem addAll_one {P : List α} {c : α} : addAll P [c] = if c ∈ P then P else P ++ [c] := rfl
theorem addAll_cons {P : List α} {c : α} {r : List α} : addAll P (c :: r) = addAll (addAll P [c]) r := rfl
theorem mem_addAll {x : α} : ∀ {cs P : List α}, x ∈ addAll P cs ↔ x ∈ P ∨ x ∈ cs
  | [], P => by simp [addAll_nil]
  | c :: r, P => by
    rw [addAll_cons, mem_addAll, addAll_one]
    split
    · rename_i h
      simp only [List.mem_cons]
      constructor
      · rintro (h1 | h1)
        · exact .inl h1
        · exact .inr (.inr h1)
      · rintro (h1 | rfl | h1)
        · exact .inl h1
        · exact .inl h
        · exact .inr h1
    · simp only [List.mem_append, List.mem_cons, List.not_mem_nil, or_false]
      constructor
      · rintro ((h1 | h1) | h1)
        · exact .inl h1
        · exact .inr (.inl h1)
        · exact .inr (.inr h1)
      · rintro (h1 | h1 | h1)
        · exact .inl (.inl h1)
        · exact .inl (.inr h1)
        · exact .inr h1
theorem nodup_addAll : ∀ {cs P : List α}, P.Nodup → (addAll P cs).Nodup
  | [], P, h => h
  | c :: r, P, h => by
    rw [addAll_cons]
    refine nodup_addAll ?_
    rw [addAll_one]
    split
    · exact h
    · rename_i hc
      rw [List.nodup_append]
      exact ⟨h, by simp, by rintro a ha b hb rfl; simp at hb; exact hc (hb ▸ ha)⟩
theorem pre_addAll : ∀ {cs P : List α}, P <+: addAll P cs
  | [], P => List.prefix_refl P
  | c :: r, P => by
    rw [addAll_cons]
    refine List.IsPrefix.trans ?_ pre_addAll
    rw [addAll_one]
    split
    · exact List.prefix_refl P
    · exact ⟨_, rfl⟩
def bfs (c : α → List α) : Nat → Nat → List α → List α
  | 0, _, P => P
  | f + 1, i, P => match P[i]? with
    | none => P
    | some q => bfs c f (i + 1) (addAll P (c q))
theorem bfs_done {c : α → List α} {f i : Nat} {P : List α} (h : P.length ≤ i) : bfs c f i P = P := by
  cases f with
  | zero => rfl
  | succ f =>
    unfold bfs
    rw [List.getElem?_eq_none h]
theorem bfs_step {c : α → List α} {f i : Nat} {P : List α} {q : α} (h : P[i]? = some q) : bfs c (f + 1) i P = bfs c f (i + 1) (addAll P (c q)) := by
  conv => lhs; unfold bfs
  rw [h]
/-- what the search finds, if there are at most B things -/
theorem bfs_spec {c : α → List α} (V : α → Prop) (B : Nat) (hB : ∀ P : List α, P.Nodup → (∀ x ∈ P, V x) → P.length ≤ B) (hV : ∀ x, V x → ∀ y ∈ c x, V y) : ∀ (f i : Nat) (P : List α), P.Nodup → (∀ x ∈ P, V x) → i ≤ P.length → B + 1 ≤ f + i →
    (∀ j x, j < i → P[j]? = some x → ∀ y ∈ c x, y ∈ P) → (bfs c f i P).Nodup ∧ (∀ x ∈ bfs c f i P, V x) ∧ (∀ x ∈ bfs c f i P, ∀ y ∈ c x, y ∈ bfs c f i P) ∧ P <+: bfs c f i P
  | 0, i, P, hn, hv, hi, hf, _ => by
    have := hB P hn hv
    omega
  | f + 1, i, P, hn, hv, hi, hf, hc => by
    cases hq : P[i]? with
    | none =>
      have hl : P.length ≤ i := List.getElem?_eq_none_iff.mp hq
      rw [bfs_done hl]
      refine ⟨hn, hv, fun x hx y hy => ?_, List.prefix_refl P⟩
      obtain ⟨j, hj, e⟩ := List.getElem_of_mem hx
      exact hc j x (by omega) (by rw [List.getElem?_eq_getElem hj, e]) y hy
    | some q =>
      rw [bfs_step hq]
      have hqm : q ∈ P := List.mem_of_getElem? hq
      have hl : i < P.length := (List.getElem?_eq_some_iff.mp hq).1
      have pre : P <+: addAll P (c q) := pre_addAll
      have hle := pre.length_le
      obtain ⟨r1, r2, r3, r4⟩ := bfs_spec V B hB hV f (i + 1) (addAll P (c q)) (nodup_addAll hn) (fun x hx => by
        rcases mem_addAll.mp hx with h1 | h1
        · exact hv x h1
        · exact hV q (hv q hqm) x h1) (by omega) (by omega) (fun j x hj hx y hy => by
        by_cases hji : j = i
        · subst hji
          have e : P[j]? = some x := by
            obtain ⟨t, ht⟩ := pre
            rw [← ht, List.getElem?_append_left hl] at hx
            exact hx
          rw [hq] at e
          cases e
          exact mem_addAll.mpr (.inr hy)
        · have e : P[j]? = some x := by
            obtain ⟨t, ht⟩ := pre
            rw [← ht, List.getElem?_append_left (by omega)] at hx
            exact hx
          exact mem_addAll.mpr (.inl (hc j x (by omega) e y hy)))
      exact ⟨r1, r2, r3, pre.trans r4⟩
end
/-- pairs of small numbers -/
theorem pairs_le {a b : Nat} (hb : b ≤ 12) (ha : a ≤ 12) {P : List (Int × Int)} (hn : P.Nodup) (hv : ∀ x ∈ P, 0 ≤ x.1 ∧ x.1 < a ∧ 0 ≤ x.2 ∧ x.2 < b) : P.length ≤ 144 := by
  have h1 := nodup_lt 144 (P.map fun x => x.1.toNat * 12 + x.2.toNat) (by
    rw [List.nodup_iff_pairwise_ne, List.pairwise_map]
    refine List.Pairwise.imp_of_mem ?_ hn
    rintro x y hx hy ne e
    have h1 := hv x hx
    have h2 := hv y hy
    apply ne
    have e1 : x.1 = y.1 := by omega
    have e2 : x.2 = y.2 := by omega
    exact Prod.ext e1 e2) (by
    intro n hn'
    obtain ⟨x, hx, rfl⟩ := List.mem_map.mp hn'
    have := hv x hx
    omega)
  simpa using h1
end EP
end
section
/-! MidD: dict comprehensions run. -/
namespace EP
open PySem L2

theorem dcT_loop {I : Wk} {p : TP} {t : ST} {k e : SE} {G : Orc} {ρ : Env} {D : Nat} {h1 : MH} {α : Type} {g : α → Dt} {xs : List α} (its : Its I h1 (xs.map g)) (hD : h1.length ≤ D) (b : α → Bool) (kf : α → List Key) (vf : α → Dt) (hz : xs.length ≤ sizeLine)
    (hx : ∀ x ∈ xs, ∃ ρ', assignP p (g x) ρ = some ρ' ∧ ∀ h', h1 <+: h' → PvT t G ρ' h' (b x) ∧ (b x = true → ∃ kd, Pv k G ρ' h' kd ∧ toKeys kd = some (kf x) ∧ ∀ h', h1 <+: h' → Pv e G ρ' h' (vf x))) :
    ∀ (m i : Nat) (acc : List (List Key × Dt)) (h : MH), i + m = I.tot → acc.length ≤ i → h1 <+: h → h[D]? = some (.dT acc) →
      ∃ h', dcLoop true I p t k e G ρ D m h = .ok (.loc D) h' ∧ h1 <+: h' ∧ h'[D]? = some (.dT (((xs.drop i).filter b).foldl (fun acc x => setK acc (kf x) (vf x)) acc))
  | 0, i, acc, h, hm, hl, pr, e1 => by
    refine ⟨h, ?_, pr, ?_⟩
    · unfold dcLoop; rw [if_pos (its.fin h pr)]
    · have : xs.length ≤ i := by have := its.tot; rw [List.length_map] at this; omega
      rw [List.drop_eq_nil_of_le this]; exact e1
  | m + 1, i, acc, h, hm, hl, pr, e1 => by
    have hi : i < xs.length := by have := its.tot; rw [List.length_map] at this; omega
    have ei : I.tot - (m + 1) = i := by omega
    obtain ⟨ρ', a1, a2⟩ := hx xs[i] (List.getElem_mem hi)
    obtain ⟨⟨h2, k1, k2⟩, k3⟩ := a2 h pr
    have hdrop : xs.drop i = xs[i] :: xs.drop (i + 1) := (List.drop_eq_getElem_cons hi)
    have hg : I.get i h = some (g xs[i]) := by rw [its.get h pr i (by simpa using hi), List.getElem?_map, List.getElem?_eq_getElem hi]; rfl
    cases hb : b xs[i] with
    | true =>
      obtain ⟨kd, ⟨h3, q1, q2⟩, q3, q4⟩ := (a2 h2 (pr.trans k2)).2 hb
      obtain ⟨h4, r1, r2⟩ := q4 h3 (pr.trans (k2.trans q2))
      have e4 := pre_get r2 (pre_get q2 (pre_get k2 e1))
      have hlen : acc.length < sizeLine := by omega
      have hs : (setK acc (kf xs[i]) (vf xs[i])).length ≤ acc.length + 1 := by
        unfold setK
        split <;> simp
      obtain ⟨h', s1, s2, s3⟩ := dcT_loop its hD b kf vf hz hx m (i + 1) (setK acc (kf xs[i]) (vf xs[i])) (h4.set D (.dT (setK acc (kf xs[i]) (vf xs[i])))) (by omega) (by omega) (pre_set (pr.trans (k2.trans (q2.trans r2))) hD) (set_get e4)
      refine ⟨h', ?_, s2, ?_⟩
      · unfold dcLoop
        rw [ei, hg]
        simp only [a1, k1, hb, noEx, bnd_ok, if_true, q1, r1, e4, q3, hlen, and_self, s1]
      · rw [hdrop, List.filter_cons, hb, if_pos rfl]; exact s3
    | false =>
      rw [hb] at k1
      obtain ⟨h', s1, s2, s3⟩ := dcT_loop its hD b kf vf hz hx m (i + 1) acc h2 (by omega) (by omega) (pr.trans k2) (pre_get k2 e1)
      refine ⟨h', ?_, s2, ?_⟩
      · unfold dcLoop
        rw [ei, hg]
        simp only [a1, k1, noEx, bnd_ok, Bool.false_eq_true, if_false, s1]
      · rw [hdrop, List.filter_cons, hb, if_neg (by simp)]; exact s3
theorem dcT_run {i : SI} {p : TP} {k e : SE} {vs : List Nat} {G : Orc} {ρ : Env} {h h1 : MH} {I : Wk} {α : Type} {g : α → Dt} {xs : List α} (hi : i G ρ h = .ok I h1) (its : Its I h1 (xs.map g)) (kf : α → List Key) (vf : α → Dt) (hz : xs.length ≤ sizeLine)
    (hx : ∀ x ∈ xs, ∃ ρ', assignP p (g x) (wipeE ρ vs) = some ρ' ∧ ∀ h', h1 <+: h' → ∃ kd, Pv k G ρ' h' kd ∧ toKeys kd = some (kf x) ∧ ∀ h', h1 <+: h' → Pv e G ρ' h' (vf x)) :
    ∃ h', eDc true i p EP.tYes k e vs G ρ h = .ok (.loc h1.length) h' ∧ h1 <+: h' ∧ h'[h1.length]? = some (.dT (xs.foldl (fun acc x => setK acc (kf x) (vf x)) [])) := by
  rw [eDc_s, hi, bnd_ok]
  have := dcT_loop (t := EP.tYes) (k := k) (e := e) (G := G) (p := p) (ρ := wipeE ρ vs) (D := h1.length) its (Nat.le_refl _) (fun _ => true) kf vf hz (fun x hm => by
    obtain ⟨ρ', e1, e2⟩ := hx x hm
    exact ⟨ρ', e1, fun h' pr => ⟨.now rfl, fun _ => e2 h' pr⟩⟩) I.tot 0 [] (h1 ++ [.dT []]) (Nat.zero_add _) (Nat.le_refl _) (pre_app _ _) (by simp)
  obtain ⟨h', r1, r2, r3⟩ := this
  refine ⟨h', r1, r2, ?_⟩
  rw [r3, List.drop_zero, List.filter_eq_self.mpr (fun _ _ => rfl)]

theorem dcK_loop {I : Wk} {p : TP} {t : ST} {k e : SE} {G : Orc} {ρ : Env} {D : Nat} {h1 : MH} {α : Type} {g : α → Dt} {xs : List α} (its : Its I h1 (xs.map g)) (hD : h1.length ≤ D) (b : α → Bool) (kf : α → Key) (vf : α → Dt) (hz : xs.length ≤ sizeLine)
    (hx : ∀ x ∈ xs, ∃ ρ', assignP p (g x) ρ = some ρ' ∧ ∀ h', h1 <+: h' → PvT t G ρ' h' (b x) ∧ (b x = true → ∃ kd, Pv k G ρ' h' kd ∧ toKey kd = some (kf x) ∧ ∀ h', h1 <+: h' → Pv e G ρ' h' (vf x))) :
    ∀ (m i : Nat) (acc : List (Key × Dt)) (h : MH), i + m = I.tot → acc.length ≤ i → h1 <+: h → h[D]? = some (.dK acc) →
      ∃ h', dcLoop false I p t k e G ρ D m h = .ok (.loc D) h' ∧ h1 <+: h' ∧ h'[D]? = some (.dK (((xs.drop i).filter b).foldl (fun acc x => setK acc (kf x) (vf x)) acc))
  | 0, i, acc, h, hm, hl, pr, e1 => by
    refine ⟨h, ?_, pr, ?_⟩
    · unfold dcLoop; rw [if_pos (its.fin h pr)]
    · have : xs.length ≤ i := by have := its.tot; rw [List.length_map] at this; omega
      rw [List.drop_eq_nil_of_le this]; exact e1
  | m + 1, i, acc, h, hm, hl, pr, e1 => by
    have hi : i < xs.length := by have := its.tot; rw [List.length_map] at this; omega
    have ei : I.tot - (m + 1) = i := by omega
    obtain ⟨ρ', a1, a2⟩ := hx xs[i] (List.getElem_mem hi)
    obtain ⟨⟨h2, k1, k2⟩, k3⟩ := a2 h pr
    have hdrop : xs.drop i = xs[i] :: xs.drop (i + 1) := (List.drop_eq_getElem_cons hi)
    have hg : I.get i h = some (g xs[i]) := by rw [its.get h pr i (by simpa using hi), List.getElem?_map, List.getElem?_eq_getElem hi]; rfl
    cases hb : b xs[i] with
    | true =>
      obtain ⟨kd, ⟨h3, q1, q2⟩, q3, q4⟩ := (a2 h2 (pr.trans k2)).2 hb
      obtain ⟨h4, r1, r2⟩ := q4 h3 (pr.trans (k2.trans q2))
      have e4 := pre_get r2 (pre_get q2 (pre_get k2 e1))
      have hlen : acc.length < sizeLine := by omega
      have hs : (setK acc (kf xs[i]) (vf xs[i])).length ≤ acc.length + 1 := by
        unfold setK
        split <;> simp
      obtain ⟨h', s1, s2, s3⟩ := dcK_loop its hD b kf vf hz hx m (i + 1) (setK acc (kf xs[i]) (vf xs[i])) (h4.set D (.dK (setK acc (kf xs[i]) (vf xs[i])))) (by omega) (by omega) (pre_set (pr.trans (k2.trans (q2.trans r2))) hD) (set_get e4)
      refine ⟨h', ?_, s2, ?_⟩
      · unfold dcLoop
        rw [ei, hg]
        simp only [a1, k1, hb, noEx, bnd_ok, if_true, q1, r1, e4, q3, hlen, and_self, s1]
      · rw [hdrop, List.filter_cons, hb, if_pos rfl]; exact s3
    | false =>
      rw [hb] at k1
      obtain ⟨h', s1, s2, s3⟩ := dcK_loop its hD b kf vf hz hx m (i + 1) acc h2 (by omega) (by omega) (pr.trans k2) (pre_get k2 e1)
      refine ⟨h', ?_, s2, ?_⟩
      · unfold dcLoop
        rw [ei, hg]
        simp only [a1, k1, noEx, bnd_ok, Bool.false_eq_true, if_false, s1]
      · rw [hdrop, List.filter_cons, hb, if_neg (by simp)]; exact s3
theorem dcK_run {i : SI} {p : TP} {k e : SE} {vs : List Nat} {G : Orc} {ρ : Env} {h h1 : MH} {I : Wk} {α : Type} {g : α → Dt} {xs : List α} (hi : i G ρ h = .ok I h1) (its : Its I h1 (xs.map g)) (kf : α → Key) (vf : α → Dt) (hz : xs.length ≤ sizeLine)
    (hx : ∀ x ∈ xs, ∃ ρ', assignP p (g x) (wipeE ρ vs) = some ρ' ∧ ∀ h', h1 <+: h' → ∃ kd, Pv k G ρ' h' kd ∧ toKey kd = some (kf x) ∧ ∀ h', h1 <+: h' → Pv e G ρ' h' (vf x)) :
    ∃ h', eDc false i p EP.tYes k e vs G ρ h = .ok (.loc h1.length) h' ∧ h1 <+: h' ∧ h'[h1.length]? = some (.dK (xs.foldl (fun acc x => setK acc (kf x) (vf x)) [])) := by
  rw [eDc_s, hi, bnd_ok]
  have := dcK_loop (t := EP.tYes) (k := k) (e := e) (G := G) (p := p) (ρ := wipeE ρ vs) (D := h1.length) its (Nat.le_refl _) (fun _ => true) kf vf hz (fun x hm => by
    obtain ⟨ρ', e1, e2⟩ := hx x hm
    exact ⟨ρ', e1, fun h' pr => ⟨.now rfl, fun _ => e2 h' pr⟩⟩) I.tot 0 [] (h1 ++ [.dK []]) (Nat.zero_add _) (Nat.le_refl _) (pre_app _ _) (by simp)
  obtain ⟨h', r1, r2, r3⟩ := this
  refine ⟨h', r1, r2, ?_⟩
  rw [r3, List.drop_zero, List.filter_eq_self.mpr (fun _ _ => rfl)]

/-- keys that differ are laid one behind another -/
theorem foldl_setK {κ α : Type} [DecidableEq κ] (kf : α → κ) (vf : α → Dt) : ∀ (xs : List α) (acc : List (κ × Dt)), (xs.map kf).Nodup → (∀ x ∈ xs, kf x ∉ acc.map (·.1)) → xs.foldl (fun acc x => setK acc (kf x) (vf x)) acc = acc ++ xs.map fun x => (kf x, vf x)
  | [], acc, _, _ => by simp
  | x :: r, acc, hn, ha => by
    have h1 : (acc.any fun kv => decide (kv.1 = kf x)) = false := by
      rw [List.any_eq_false]
      intro kv hkv
      simp
      intro e
      exact ha x (by simp) (e ▸ List.mem_map.mpr ⟨kv, hkv, rfl⟩)
    rw [List.foldl_cons, setK, h1, if_neg (by simp)]
    rw [List.map_cons, List.nodup_cons] at hn
    rw [foldl_setK kf vf r (acc ++ [(kf x, vf x)]) hn.2 (fun y hy hm => by
      rw [List.map_append, List.mem_append] at hm
      rcases hm with hm | hm
      · exact ha y (by simp [hy]) hm
      · simp at hm
        exact hn.1 (hm ▸ List.mem_map.mpr ⟨y, hy, rfl⟩))]
    simp
end EP
end
section
/-! Data: words, rows, plans, limits as data. -/
namespace EP
open PySem L2
section
variable {h : MH}
/-! ### data -/
abbrev Word := List Int
abbrev Row := List (Word × Int)
abbrev Plan := Int × List Row
abbrev Lim := Int × Row
abbrev wD (ws : Word) : Dt := .tup (ws.map .int)
abbrev eD (e : Word × Int) : Dt := .tup [wD e.1, .int e.2]
abbrev sD (s : Row) : Dt := .tup (s.map eD)
abbrev pD (p : Plan) : Dt := .tup [.int p.1, .tup (p.2.map sD)]
abbrev lD (l : Lim) : Dt := .tup [.int l.1, sD l.2]
abbrev qD (q : Int × Int) : Dt := .tup [.int q.1, .int q.2]
theorem zz : (2 : Nat) ≤ sizeLine ∧ (1 : Nat) ≤ sizeLine ∧ (0 : Nat) ≤ sizeLine ∧ (3 : Nat) ≤ sizeLine ∧ (4 : Nat) ≤ sizeLine ∧ (5 : Nat) ≤ sizeLine := by rw [sizeLine_eq]; omega
@[simp] theorem newT_le {xs : List Dt} (l : xs.length ≤ sizeLine) : newT xs h = .ok (.tup xs) h := if_pos l
@[simp] theorem newL_le {xs : List Dt} (l : xs.length ≤ sizeLine) : newL xs h = .ok (.loc h.length) (h ++ [.lst xs]) := if_pos l
@[simp] theorem newT1 {a : Dt} : newT [a] h = .ok (.tup [a]) h := newT_le (by rw [sizeLine_eq]; simp)
@[simp] theorem newT2 {a b : Dt} : newT [a, b] h = .ok (.tup [a, b]) h := newT_le (by rw [sizeLine_eq]; simp)
@[simp] theorem newT3 {a b c : Dt} : newT [a, b, c] h = .ok (.tup [a, b, c]) h := newT_le (by rw [sizeLine_eq]; simp)
@[simp] theorem newT4 {a b c d : Dt} : newT [a, b, c, d] h = .ok (.tup [a, b, c, d]) h := newT_le (by rw [sizeLine_eq]; simp)
@[simp] theorem newT5 {a b c d e : Dt} : newT [a, b, c, d, e] h = .ok (.tup [a, b, c, d, e]) h := newT_le (by rw [sizeLine_eq]; simp)
@[simp] theorem newT0 : newT [] h = .ok (.tup []) h := newT_le (by simp)
@[simp] theorem newL0 : newL [] h = .ok (.loc h.length) (h ++ [.lst []]) := newL_le (by simp)
@[simp] theorem newL1 {a : Dt} : newL [a] h = .ok (.loc h.length) (h ++ [.lst [a]]) := newL_le (by rw [sizeLine_eq]; simp)
@[simp] theorem newL2 {a b : Dt} : newL [a, b] h = .ok (.loc h.length) (h ++ [.lst [a, b]]) := newL_le (by rw [sizeLine_eq]; simp)
@[simp] theorem get0 {a : Dt} {r : List Dt} : oGet (.tup (a :: r)) (.int 0) h = .ok a h := by simp [oGet, atI, ixN]
@[simp] theorem get1 {a b : Dt} {r : List Dt} : oGet (.tup (a :: b :: r)) (.int 1) h = .ok b h := by
  have : (1 : Int) < ((a :: b :: r).length : Int) := by simp only [List.length_cons]; omega
  simp only [oGet, atI, ixN, if_pos this]
  rfl
theorem get_nat {ds : List Dt} {i : Nat} {d : Dt} (e : ds[i]? = some d) : oGet (.tup ds) (.int (i : Nat)) h = .ok d h := by
  obtain ⟨hl, rfl⟩ := List.getElem?_eq_some_iff.mp e
  simp [oGet, atI, ixN, hl]
theorem get_int {ds : List Dt} {i : Int} {d : Dt} (h0 : 0 ≤ i) (e : ds[i.toNat]? = some d) : oGet (.tup ds) (.int i) h = .ok d h := by
  have := get_nat (h := h) e
  rwa [Int.toNat_of_nonneg h0] at this
theorem get_lst {n : Nat} {ds : List Dt} {i : Int} {d : Dt} (e0 : h[n]? = some (.lst ds)) (h0 : 0 ≤ i) (e : ds[i.toNat]? = some d) : oGet (.loc n) (.int i) h = .ok d h := by
  obtain ⟨hl, rfl⟩ := List.getElem?_eq_some_iff.mp e
  have h1 : i < ds.length := by omega
  simp [oGet, e0, getL, atI, ixN, h0, h1]
@[simp] theorem sRaise_s {C : Str} {n : Nat} {names : List Str} {a : SA} {G : Orc} {ρ : Env} : sRaise C n names a G ρ h = bndS ρ (a G ρ h) fun xs h1 => match G n xs h1 with
  | .ok (.tup ds) h2 => if ds.length = names.length then .ex C (names.zip ds).reverse ρ h2 else .bad
  | _ => .bad := (rfl)
@[simp] theorem isi_int_list {i : Int} : bIsi "list" [.int i] h = .ok (.bl false) h := (rfl)
@[simp] theorem isi_int_tuple {i : Int} : bIsi "tuple" [.int i] h = .ok (.bl false) h := (rfl)
@[simp] theorem isi_str_list {i : Str} : bIsi "list" [.str i] h = .ok (.bl false) h := (rfl)
@[simp] theorem isi_str_tuple {i : Str} : bIsi "tuple" [.str i] h = .ok (.bl false) h := (rfl)

theorem nowL {n : Nat} {xs : List Dt} (e : h[n]? = some (.lst xs)) : getL h n = some xs := by simp [getL, e]
end
/-! ### plans -/
def Asc (ws : Word) : Prop := ws.Pairwise (· < ·)
structure Wf (p : Plan) : Prop where
  n1 : 1 ≤ p.1
  n64 : p.1 ≤ 64
  c1 : p.2 ≠ []
  c12 : p.2.length ≤ 12
  row : ∀ r ∈ p.2, r ≠ [] ∧ r.length ≤ 64 ∧ ∀ e ∈ r, 0 ≤ e.2 ∧ e.2 < p.2.length ∧ Asc e.1 ∧ (∀ w ∈ e.1, 0 ≤ w ∧ w < p.1) ∧ e.1.length ≤ 64
def rowAt (p : Plan) (i : Int) : Row := p.2.getD i.toNat []
theorem rowAt_get {p : Plan} {i : Int} (h0 : 0 ≤ i) (h1 : i < p.2.length) : p.2[i.toNat]? = some (rowAt p i) := by
  unfold rowAt
  rw [List.getD_eq_getElem?_getD]
  have : i.toNat < p.2.length := by omega
  rw [List.getElem?_eq_getElem this]; rfl
theorem rowAt_mem {p : Plan} {i : Int} (h0 : 0 ≤ i) (h1 : i < p.2.length) : rowAt p i ∈ p.2 := List.mem_of_getElem? (rowAt_get h0 h1)
/-- where two words lead -/
def cand (p q : Plan) (x : Int × Int) : List (Int × Int) := (rowAt p x.1).flatMap fun l => (rowAt q x.2).map fun r => (l.2, r.2)
def VP (p q : Plan) (x : Int × Int) : Prop := 0 ≤ x.1 ∧ x.1 < p.2.length ∧ 0 ≤ x.2 ∧ x.2 < q.2.length
def met (p q : Plan) : List (Int × Int) := bfs (cand p q) 145 0 [(0, 0)]
theorem cand_ok {p q : Plan} (wp : Wf p) (wq : Wf q) (x : Int × Int) (v : VP p q x) : ∀ y ∈ cand p q x, VP p q y := by
  intro y hy
  obtain ⟨l, hl, hy⟩ := List.mem_flatMap.mp hy
  obtain ⟨r, hr, rfl⟩ := List.mem_map.mp hy
  have h1 := (wp.row _ (rowAt_mem v.1 v.2.1)).2.2 l hl
  have h2 := (wq.row _ (rowAt_mem v.2.2.1 v.2.2.2)).2.2 r hr
  exact ⟨h1.1, h1.2.1, h2.1, h2.2.1⟩
theorem vp_le {p q : Plan} (wp : Wf p) (wq : Wf q) (P : List (Int × Int)) (hn : P.Nodup) (hv : ∀ x ∈ P, VP p q x) : P.length ≤ 144 := pairs_le wq.c12 wp.c12 hn hv
theorem vp0 {p q : Plan} (wp : Wf p) (wq : Wf q) : VP p q (0, 0) := by
  have h1 := wp.c1
  have h2 := wq.c1
  have h1 := List.length_pos_iff.mpr h1
  have h2 := List.length_pos_iff.mpr h2
  exact ⟨by simp, by show (0 : Int) < _; omega, by simp, by show (0 : Int) < _; omega⟩
theorem met_spec {p q : Plan} (wp : Wf p) (wq : Wf q) : (met p q).Nodup ∧ (∀ x ∈ met p q, VP p q x) ∧ (∀ x ∈ met p q, ∀ y ∈ cand p q x, y ∈ met p q) ∧ [(0, 0)] <+: met p q :=
  bfs_spec (VP p q) 144 (vp_le wp wq) (cand_ok wp wq) 145 0 [(0, 0)] (by simp) (by simpa using vp0 wp wq) (by simp) (by omega) (fun j x hj => absurd hj (Nat.not_lt_zero _))
/-! ### what is made of two -/
def idx (R : List (Int × Int)) (c : Int × Int) : Int := (R.idxOf c : Nat)
def numD (R : List (Int × Int)) : List (List Key × Dt) := R.zipIdx.map fun q => ([.inl q.1.1, .inl q.1.2], .int (q.2 : Nat))
def joinW (n : Int) (a b : Word) : Word := a ++ b.map (· + n)
def sideRow (p q : Plan) (R : List (Int × Int)) (x : Int × Int) : Row := (rowAt p x.1).flatMap fun l => (rowAt q x.2).map fun r => (joinW p.1 l.1 r.1, idx R (l.2, r.2))
def sideP (p q : Plan) : Plan := (p.1 + q.1, (met p q).map (sideRow p q (met p q)))
def limP (a b : Lim) : Lim := (a.1 + b.1, a.2 ++ b.2.map fun c => (joinW a.1 [] c.1, c.2))
def wordsIn (p q : Plan) : Int := ((met p q).map fun x => ((rowAt p x.1).length : Int) * ((rowAt q x.2).length : Int)).sum
theorem num_get {R : List (Int × Int)} {c : Int × Int} (hm : c ∈ R) : getK (numD R) [Sum.inl c.1, Sum.inl c.2] = some (.int (idx R c)) := by
  unfold getK numD idx
  have key : ∀ (R : List (Int × Int)) (n : Nat), c ∈ R → (((R.zipIdx n).map fun q => (([Sum.inl q.1.1, Sum.inl q.1.2] : List Key), Dt.int (q.2 : Nat))).find? fun kv => decide (kv.1 = [Sum.inl c.1, Sum.inl c.2])).map (·.2) = some (.int ((R.idxOf c + n : Nat) : Int)) := by
    intro R
    induction R with
    | nil => intro n h; cases h
    | cons a r ih =>
      intro n h
      rw [List.zipIdx_cons, List.map_cons, List.find?_cons]
      by_cases e : a = c
      · subst e
        simp
      · have e2 : ([Sum.inl a.1, Sum.inl a.2] : List Key) ≠ [Sum.inl c.1, Sum.inl c.2] := fun z => by
          simp at z
          exact e (Prod.ext z.1 z.2)
        have hm' : c ∈ r := by
          rcases List.mem_cons.mp h with z | z
          · exact absurd z.symm e
          · exact z
        simp only [decide_eq_false e2]
        rw [ih (n + 1) hm', List.idxOf_cons]
        have e3 : (a == c) = false := by simpa using e
        rw [e3]
        simp only [cond_false]
        congr 2
        omega
  have := key R 0 hm
  simpa using this
/-! ### differences -/
def tabK (w : Word) : List (Key × Dt) := w.map fun x => (Sum.inl x, .bl true)
def less (a b : Word) : Word := a.filter fun x => !decide (x ∈ b)
def wpairs (ws : List Word) : List (Nat × Nat × Word) := ws.zipIdx.flatMap fun l => (ws.zipIdx.filter fun t => !decide (l.2 = t.2)).map fun t => (l.2, t.2, less l.1 t.1)
def ppairs (p : Plan) : List (Nat × Nat × Nat × Word) := p.2.zipIdx.flatMap fun r => (wpairs (r.1.map (·.1))).map fun t => (r.2, t.1, t.2.1, t.2.2)
abbrev tD (t : Nat × Nat × Word) : Dt := .tup [.int (t.1 : Nat), .int (t.2.1 : Nat), wD t.2.2]
abbrev t4D (t : Nat × Nat × Nat × Word) : Dt := .tup [.int (t.1 : Nat), .int (t.2.1 : Nat), .int (t.2.2.1 : Nat), wD t.2.2.2]
/-- what is asked of a plan whose differences are taken -/
structure Pw (p : Plan) : Prop where
  len : p.2.length ≤ 12
  row : ∀ r ∈ p.2, r.length ≤ 64 ∧ ∀ e ∈ r, e.1.Nodup ∧ e.1.length ≤ 200
theorem tab_any {w : Word} {x : Int} : ((tabK w).any fun kv => decide (kv.1 = Sum.inl x)) = decide (x ∈ w) := by
  unfold tabK
  rw [List.any_map, Bool.eq_iff_iff, List.any_eq_true, decide_eq_true_eq]
  constructor
  · rintro ⟨q, hq, e⟩
    simp at e
    exact e ▸ hq
  · intro hm
    exact ⟨x, hm, by simp⟩
theorem in_tab {h : MH} {ng : Bool} {w : Word} {x : Int} {n : Nat} (e : h[n]? = some (.dK (tabK w))) : oIn ng (.int x) (.loc n) h = .ok (.bl (if ng then !decide (x ∈ w) else decide (x ∈ w))) h := by
  simp only [oIn, e, toKey, tab_any]
theorem tab_make {w : Word} (hn : w.Nodup) : w.foldl (fun acc x => setK acc (Sum.inl x : Key) (.bl true)) [] = tabK w := by
  rw [foldl_setK (fun x => (Sum.inl x : Key)) (fun _ => .bl true) w [] (by
    rw [List.nodup_iff_pairwise_ne, List.pairwise_map]
    exact List.Pairwise.imp (fun ne z => ne (by simpa using z)) hn) (fun _ _ => by simp)]
  simp [tabK]
structure WfL (n : Int) (l : Lim) : Prop where
  eq : l.1 = n
  len : l.2.length ≤ 64
  row : ∀ c ∈ l.2, Asc c.1 ∧ (∀ w ∈ c.1, 0 ≤ w ∧ w < n) ∧ c.1.length ≤ 64 ∧ 0 ≤ c.2
def bookRow (p : Plan) : Row := p.2.headD []
def pairP (p q : Plan) : Plan := (p.1 + q.1, [((bookRow p).zip (bookRow q)).map fun z => (joinW p.1 z.1.1 z.2.1, 0)])
theorem met_len {p q : Plan} (wp : Wf p) (wq : Wf q) : (met p q).length ≤ 144 := vp_le wp wq _ (met_spec wp wq).1 (met_spec wp wq).2.1
end EP
end
section
set_option maxRecDepth 100000
set_option maxHeartbeats 0
namespace K75
open PySem PySem.Spec PyProof.Rows L2 EP
def top (i : Nat) : Stmt := PySem.Challenge.pw_earlypulses_k75_side_by_side.main.body.getD i (.Pass ⟨0, 0, 0, 0⟩)
def tab : Tab where
  fns := [((Str.ofString "same_parts"), 0, 1),
  ((Str.ofString "whole_within"), 8, 3),
  ((Str.ofString "moved"), 9, 2),
  ((Str.ofString "is_whole"), 10, 1),
  ((Str.ofString "is_index"), 11, 2),
  ((Str.ofString "copied"), 12, 1),
  ((Str.ofString "check_state"), 13, 2),
  ((Str.ofString "is_book"), 14, 1),
  ((Str.ofString "words_of"), 15, 2),
  ((Str.ofString "book_words"), 16, 1),
  ((Str.ofString "check_book"), 17, 1),
  ((Str.ofString "check_total"), 18, 1),
  ((Str.ofString "book_made"), 19, 2),
  ((Str.ofString "pairs_found"), 20, 2),
  ((Str.ofString "side_state"), 21, 4),
  ((Str.ofString "side"), 22, 2),
  ((Str.ofString "side_limit"), 23, 2),
  ((Str.ofString "paired"), 24, 2),
  ((Str.ofString "check_fit"), 25, 2),
  ((Str.ofString "wire_table"), 26, 1),
  ((Str.ofString "count_in"), 27, 2),
  ((Str.ofString "clause_tables"), 28, 1),
  ((Str.ofString "first_beyond"), 29, 2),
  ((Str.ofString "word_pairs"), 30, 1),
  ((Str.ofString "plan_pairs"), 31, 1),
  ((Str.ofString "least_gap"), 32, 1),
  ((Str.ofString "first_bar"), 33, 2),
  ((Str.ofString "is_right"), 34, 2),
  ((Str.ofString "greatest_even"), 35, 1),
  ((Str.ofString "_law_mixed"), 36, 2),
  ((Str.ofString "_law_store"), 37, 1),
  ((Str.ofString "_law_take"), 38, 2),
  ((Str.ofString "_law_number"), 39, 3),
  ((Str.ofString "_law_size"), 40, 4),
  ((Str.ofString "_law_order"), 41, 2),
  ((Str.ofString "_law_power"), 42, 2),
  ((Str.ofString "_law_kind"), 43, 1),
  ((Str.ofString "_law_same"), 44, 2),
  ((Str.ofString "_law_mask_word"), 45, 2),
  ((Str.ofString "_law_masks"), 46, 3),
  ((Str.ofString "_law_words"), 47, 3),
  ((Str.ofString "_law_pruned"), 48, 1),
  ((Str.ofString "_law_book"), 49, 2),
  ((Str.ofString "_law_plan"), 50, 5),
  ((Str.ofString "_law_less"), 51, 2),
  ((Str.ofString "_law_clauses"), 52, 2),
  ((Str.ofString "_law_within"), 53, 2),
  ((Str.ofString "_law_pairs"), 54, 1),
  ((Str.ofString "_law_bars"), 55, 2),
  ((Str.ofString "_law_greatest_even"), 56, 1),
  ((Str.ofString "_law_joined"), 57, 3),
  ((Str.ofString "_law_met"), 58, 2),
  ((Str.ofString "_law_due_side"), 59, 2),
  ((Str.ofString "_law_due_limit"), 60, 2),
  ((Str.ofString "_law_due_paired"), 61, 2),
  ((Str.ofString "_law_ask"), 62, 3),
  ((Str.ofString "_law_any_limit"), 63, 2),
  ((Str.ofString "_law_many_clauses"), 64, 3),
  ((Str.ofString "_law_two_plans"), 65, 1),
  ((Str.ofString "_law_two_books"), 66, 1),
  ((Str.ofString "_law_sides_hold"), 67, 4),
  ((Str.ofString "_law_pairs_hold"), 68, 2),
  ((Str.ofString "law"), 69, 1)]
  nums := [((Str.ofString "MOST_WIRES"), 40),
  ((Str.ofString "MOST_STATES"), 12),
  ((Str.ofString "MOST_WORDS"), 64),
  ((Str.ofString "MOST_CLAUSES"), 12)]
  excs := [((Str.ofString "BadSize"), 1, [(Str.ofString "size")]),
  ((Str.ofString "NoWire"), 2, [(Str.ofString "wire")]),
  ((Str.ofString "NotBook"), 3, [(Str.ofString "states")]),
  ((Str.ofString "BadState"), 4, [(Str.ofString "value")]),
  ((Str.ofString "BadNumber"), 5, [(Str.ofString "place")]),
  ((Str.ofString "BadFit"), 6, [(Str.ofString "left"), (Str.ofString "right")]),
  ((Str.ofString "TooMany"), 7, [(Str.ofString "what"), (Str.ofString "most")])]
  free := [(Str.ofString "len"),
  (Str.ofString "tuple"),
  (Str.ofString "list"),
  (Str.ofString "int"),
  (Str.ofString "abs"),
  (Str.ofString "sum"),
  (Str.ofString "min"),
  (Str.ofString "max"),
  (Str.ofString "range"),
  (Str.ofString "enumerate"),
  (Str.ofString "zip"),
  (Str.ofString "isinstance"),
  (Str.ofString "bool"),
  (Str.ofString "str")]
  subs := [(((Str.ofString "BadSize"), (Str.ofString "NotBook")), false),
  (((Str.ofString "BadSize"), (Str.ofString "BadSize")), true),
  (((Str.ofString "BadSize"), (Str.ofString "BadNumber")), false),
  (((Str.ofString "BadSize"), (Str.ofString "TooMany")), false),
  (((Str.ofString "BadSize"), (Str.ofString "PulseError")), true),
  (((Str.ofString "BadState"), (Str.ofString "NotBook")), false),
  (((Str.ofString "BadState"), (Str.ofString "BadSize")), false),
  (((Str.ofString "BadState"), (Str.ofString "BadNumber")), false),
  (((Str.ofString "BadState"), (Str.ofString "TooMany")), false),
  (((Str.ofString "BadState"), (Str.ofString "PulseError")), true),
  (((Str.ofString "NotBook"), (Str.ofString "NotBook")), true),
  (((Str.ofString "NotBook"), (Str.ofString "BadSize")), false),
  (((Str.ofString "NotBook"), (Str.ofString "BadNumber")), false),
  (((Str.ofString "NotBook"), (Str.ofString "TooMany")), false),
  (((Str.ofString "NotBook"), (Str.ofString "PulseError")), true),
  (((Str.ofString "TooMany"), (Str.ofString "NotBook")), false),
  (((Str.ofString "TooMany"), (Str.ofString "BadSize")), false),
  (((Str.ofString "TooMany"), (Str.ofString "BadNumber")), false),
  (((Str.ofString "TooMany"), (Str.ofString "TooMany")), true),
  (((Str.ofString "TooMany"), (Str.ofString "PulseError")), true),
  (((Str.ofString "BadNumber"), (Str.ofString "NotBook")), false),
  (((Str.ofString "BadNumber"), (Str.ofString "BadSize")), false),
  (((Str.ofString "BadNumber"), (Str.ofString "BadNumber")), true),
  (((Str.ofString "BadNumber"), (Str.ofString "TooMany")), false),
  (((Str.ofString "BadNumber"), (Str.ofString "PulseError")), true),
  (((Str.ofString "BadFit"), (Str.ofString "NotBook")), false),
  (((Str.ofString "BadFit"), (Str.ofString "BadSize")), false),
  (((Str.ofString "BadFit"), (Str.ofString "BadNumber")), false),
  (((Str.ofString "BadFit"), (Str.ofString "TooMany")), false),
  (((Str.ofString "BadFit"), (Str.ofString "PulseError")), true),
  (((Str.ofString "NoWire"), (Str.ofString "NotBook")), false),
  (((Str.ofString "NoWire"), (Str.ofString "BadSize")), false),
  (((Str.ofString "NoWire"), (Str.ofString "BadNumber")), false),
  (((Str.ofString "NoWire"), (Str.ofString "TooMany")), false),
  (((Str.ofString "NoWire"), (Str.ofString "PulseError")), true)]
  flds := [((Str.ofString "BadSize"), [(Str.ofString "size")]),
  ((Str.ofString "BadState"), [(Str.ofString "value")]),
  ((Str.ofString "NotBook"), [(Str.ofString "states")]),
  ((Str.ofString "TooMany"), [(Str.ofString "what"), (Str.ofString "most")]),
  ((Str.ofString "BadNumber"), [(Str.ofString "place")]),
  ((Str.ofString "BadFit"), [(Str.ofString "left"), (Str.ofString "right")]),
  ((Str.ofString "NoWire"), [(Str.ofString "wire")])]
abbrev i_same_parts : Nat := 0
abbrev i_BadSize : Nat := 1
abbrev i_NoWire : Nat := 2
abbrev i_NotBook : Nat := 3
abbrev i_BadState : Nat := 4
abbrev i_BadNumber : Nat := 5
abbrev i_BadFit : Nat := 6
abbrev i_TooMany : Nat := 7
abbrev i_whole_within : Nat := 8
abbrev i_moved : Nat := 9
abbrev i_is_whole : Nat := 10
abbrev i_is_index : Nat := 11
abbrev i_copied : Nat := 12
abbrev i_check_state : Nat := 13
abbrev i_is_book : Nat := 14
abbrev i_words_of : Nat := 15
abbrev i_book_words : Nat := 16
abbrev i_check_book : Nat := 17
abbrev i_check_total : Nat := 18
abbrev i_book_made : Nat := 19
abbrev i_pairs_found : Nat := 20
abbrev i_side_state : Nat := 21
abbrev i_side : Nat := 22
abbrev i_side_limit : Nat := 23
abbrev i_paired : Nat := 24
abbrev i_check_fit : Nat := 25
abbrev i_wire_table : Nat := 26
abbrev i_count_in : Nat := 27
abbrev i_clause_tables : Nat := 28
abbrev i_first_beyond : Nat := 29
abbrev i_word_pairs : Nat := 30
abbrev i_plan_pairs : Nat := 31
abbrev i_least_gap : Nat := 32
abbrev i_first_bar : Nat := 33
abbrev i_is_right : Nat := 34
abbrev i_greatest_even : Nat := 35
abbrev i_law_mixed : Nat := 36
abbrev i_law_store : Nat := 37
abbrev i_law_take : Nat := 38
abbrev i_law_number : Nat := 39
abbrev i_law_size : Nat := 40
abbrev i_law_order : Nat := 41
abbrev i_law_power : Nat := 42
abbrev i_law_kind : Nat := 43
abbrev i_law_same : Nat := 44
abbrev i_law_mask_word : Nat := 45
abbrev i_law_masks : Nat := 46
abbrev i_law_words : Nat := 47
abbrev i_law_pruned : Nat := 48
abbrev i_law_book : Nat := 49
abbrev i_law_plan : Nat := 50
abbrev i_law_less : Nat := 51
abbrev i_law_clauses : Nat := 52
abbrev i_law_within : Nat := 53
abbrev i_law_pairs : Nat := 54
abbrev i_law_bars : Nat := 55
abbrev i_law_greatest_even : Nat := 56
abbrev i_law_joined : Nat := 57
abbrev i_law_met : Nat := 58
abbrev i_law_due_side : Nat := 59
abbrev i_law_due_limit : Nat := 60
abbrev i_law_due_paired : Nat := 61
abbrev i_law_ask : Nat := 62
abbrev i_law_any_limit : Nat := 63
abbrev i_law_many_clauses : Nat := 64
abbrev i_law_two_plans : Nat := 65
abbrev i_law_two_books : Nat := 66
abbrev i_law_sides_hold : Nat := 67
abbrev i_law_pairs_hold : Nat := 68
abbrev i_law : Nat := 69
/-- same_parts(value); 0=value 1=part -/
def m_same_parts : SS := (sSeq (sIf (tVal (eBf (bIsi "list") (aCons (eVar 0) aNil))) (sRet (eLc (iSeq (eVar 0)) (.nm 1) tYes (eCall i_same_parts (aCons (eVar 1) aNil)) [1])) sSkip)
  (sSeq (sIf (tVal (eBf (bIsi "tuple") (aCons (eVar 0) aNil))) (sRet (eBf bTuple (aCons (eLc (iSeq (eVar 0)) (.nm 1) tYes (eCall i_same_parts (aCons (eVar 1) aNil)) [1]) aNil))) sSkip)
  (sRet (eVar 0))))
abbrev D_same_parts : MDef := ⟨1, 2, m_same_parts⟩
abbrev D_BadSize : MDef := ⟨1, 1, sInit 0⟩
abbrev D_NoWire : MDef := ⟨1, 1, sInit 0⟩
abbrev D_NotBook : MDef := ⟨1, 1, sInit 0⟩
abbrev D_BadState : MDef := ⟨1, 1, sInit 0⟩
abbrev D_BadNumber : MDef := ⟨1, 1, sInit 0⟩
abbrev D_BadFit : MDef := ⟨2, 2, sInit 0⟩
abbrev D_TooMany : MDef := ⟨2, 2, sInit 0⟩
/-- whole_within(value, least, most); 0=value 1=least 2=most -/
def m_whole_within : SS := (sSeq (sIf (tOr (tVal (eBf (bIsi "bool") (aCons (eVar 0) aNil))) (tNot (tVal (eBf (bIsi "int") (aCons (eVar 0) aNil))))) (sRet (eC (.bl false))) sSkip)
  (sRet (eChain oLe oLe (eVar 1) (eVar 0) (eVar 2))))
abbrev D_whole_within : MDef := ⟨3, 3, m_whole_within⟩
/-- moved(wires, by); 0=wires 1=by 2=wire -/
def m_moved : SS := (sSeq (sIf (tNot (tVal (eCall i_whole_within (aCons (eVar 1) (aCons (eC (.int 0)) (aCons (eC (.int 39)) aNil)))))) (sRaise "BadSize" i_BadSize ["size"] (aCons (eVar 1) aNil)) sSkip)
  (sSeq (sFor (iSeq (eVar 0)) (.nm 2) (sIf (tBl (eOp oGt (eOp oAdd (eVar 2) (eVar 1)) (eC (.int 39)))) (sRaise "NoWire" i_NoWire ["wire"] (aCons (eOp oAdd (eVar 2) (eVar 1)) aNil)) sSkip))
  (sRet (eBf bTuple (aCons (eLc (iSeq (eVar 0)) (.nm 2) tYes (eOp oAdd (eVar 2) (eVar 1)) [2]) aNil)))))
abbrev D_moved : MDef := ⟨2, 3, m_moved⟩
/-- is_whole(value); 0=value -/
def m_is_whole : SS := (sRet (eAnd (eBf (bIsi "int") (aCons (eVar 0) aNil)) (eNot (eBf (bIsi "bool") (aCons (eVar 0) aNil)))))
abbrev D_is_whole : MDef := ⟨1, 1, m_is_whole⟩
/-- is_index(value, many); 0=value 1=many -/
def m_is_index : SS := (sRet (eAnd (eCall i_is_whole (aCons (eVar 0) aNil)) (eChain oLe oLt (eC (.int 0)) (eVar 0) (eVar 1))))
abbrev D_is_index : MDef := ⟨2, 2, m_is_index⟩
/-- copied(value); 0=value 1=part -/
def m_copied : SS := (sSeq (sIf (tVal (eBf (bIsi "list") (aCons (eVar 0) aNil))) (sRet (eLc (iSeq (eVar 0)) (.nm 1) tYes (eCall i_copied (aCons (eVar 1) aNil)) [1])) sSkip)
  (sSeq (sIf (tVal (eBf (bIsi "tuple") (aCons (eVar 0) aNil))) (sRet (eBf bTuple (aCons (eLc (iSeq (eVar 0)) (.nm 1) tYes (eCall i_copied (aCons (eVar 1) aNil)) [1]) aNil))) sSkip)
  (sRet (eVar 0))))
abbrev D_copied : MDef := ⟨1, 2, m_copied⟩
/-- check_state(plan, state); 0=plan 1=state -/
def m_check_state : SS := (sIf (tNot (tVal (eCall i_is_index (aCons (eVar 1) (aCons (eBf bLen (aCons (eOp oGet (eVar 0) (eC (.int 1))) aNil)) aNil))))) (sRaise "BadState" i_BadState ["value"] (aCons (eCall i_copied (aCons (eVar 1) aNil)) aNil)) sSkip)
abbrev D_check_state : MDef := ⟨2, 2, m_check_state⟩
/-- is_book(plan); 0=plan -/
def m_is_book : SS := (sRet (eOp (oEq false) (eBf bLen (aCons (eOp oGet (eVar 0) (eC (.int 1))) aNil)) (eC (.int 1))))
abbrev D_is_book : MDef := ⟨1, 1, m_is_book⟩
/-- words_of(plan, state); 0=plan 1=state 2=word 3=spare -/
def m_words_of : SS := (sSeq (sExpr (eCall i_check_state (aCons (eVar 0) (aCons (eVar 1) aNil))))
  (sRet (eBf bTuple (aCons (eLc (iSeq (eOp oGet (eOp oGet (eVar 0) (eC (.int 1))) (eVar 1))) (.tp [(.nm 2), (.nm 3)]) tYes (eVar 2) [2, 3]) aNil))))
abbrev D_words_of : MDef := ⟨2, 4, m_words_of⟩
/-- book_words(book); 0=book -/
def m_book_words : SS := (sSeq (sIf (tBl (eOp (oEq true) (eBf bLen (aCons (eOp oGet (eVar 0) (eC (.int 1))) aNil)) (eC (.int 1)))) (sRaise "NotBook" i_NotBook ["states"] (aCons (eBf bLen (aCons (eOp oGet (eVar 0) (eC (.int 1))) aNil)) aNil)) sSkip)
  (sRet (eCall i_words_of (aCons (eVar 0) (aCons (eC (.int 0)) aNil)))))
abbrev D_book_words : MDef := ⟨1, 1, m_book_words⟩
/-- check_book(book); 0=book -/
def m_check_book : SS := (sIf (tNot (tVal (eCall i_is_book (aCons (eVar 0) aNil)))) (sRaise "NotBook" i_NotBook ["states"] (aCons (eBf bLen (aCons (eOp oGet (eVar 0) (eC (.int 1))) aNil)) aNil)) sSkip)
abbrev D_check_book : MDef := ⟨1, 1, m_check_book⟩
/-- check_total(many); 0=many -/
def m_check_total : SS := (sIf (tBl (eOp oGt (eVar 0) (eC (.int 40)))) (sRaise "BadSize" i_BadSize ["size"] (aCons (eVar 0) aNil)) sSkip)
abbrev D_check_total : MDef := ⟨1, 1, m_check_total⟩
/-- book_made(n, words); 0=n 1=words 2=word -/
def m_book_made : SS := (sRet (eTup (aCons (eVar 0) (aCons (eTup (aCons (eBf bTuple (aCons (eLc (iSeq (eVar 1)) (.nm 2) tYes (eTup (aCons (eVar 2) (aCons (eC (.int 0)) aNil))) [2]) aNil)) aNil)) aNil))))
abbrev D_book_made : MDef := ⟨2, 3, m_book_made⟩
/-- pairs_found(first, second); 0=first 1=second 2=pairs 3=seen 4=at 5=one 6=other 7=left 8=right 9=pair -/
def m_pairs_found : SS := (sSeq (sSet (.nm 2) (eLst (aCons (eTup (aCons (eC (.int 0)) (aCons (eC (.int 0)) aNil))) aNil)))
  (sSeq (sSet (.nm 3) (eDict1 (eTup (aCons (eC (.int 0)) (aCons (eC (.int 0)) aNil))) (eC (.bl true))))
  (sSeq (sSet (.nm 4) (eC (.int 0)))
  (sSeq (sWhile (tBl (eOp oLt (eVar 4) (eBf bLen (aCons (eVar 2) aNil)))) (sSeq (sSet (.tp [(.nm 5), (.nm 6)]) (eOp oGet (eVar 2) (eVar 4)))
  (sSeq (sFor (iSeq (eOp oGet (eOp oGet (eVar 0) (eC (.int 1))) (eVar 5))) (.nm 7) (sFor (iSeq (eOp oGet (eOp oGet (eVar 1) (eC (.int 1))) (eVar 6))) (.nm 8) (sSeq (sSet (.nm 9) (eTup (aCons (eOp oGet (eVar 7) (eC (.int 1))) (aCons (eOp oGet (eVar 8) (eC (.int 1))) aNil))))
  (sIf (tBl (eOp (oIn true) (eVar 9) (eVar 3))) (sSeq (sSetI (eVar 3) (eVar 9) (eC (.bl true)))
  (sExpr (eMf mAppend (eVar 2) (aCons (eVar 9) aNil)))) sSkip))))
  (sAug 4 oAddI (eC (.int 1))))))
  (sRet (eVar 2))))))
abbrev D_pairs_found : MDef := ⟨2, 10, m_pairs_found⟩
/-- side_state(first, second, pair, numbers); 0=first 1=second 2=pair 3=numbers 4=state 5=word 6=after 7=other 8=other_after -/
def m_side_state : SS := (sSeq (sSet (.nm 4) (eLst aNil))
  (sSeq (sFor (iSeq (eOp oGet (eOp oGet (eVar 0) (eC (.int 1))) (eOp oGet (eVar 2) (eC (.int 0))))) (.tp [(.nm 5), (.nm 6)]) (sFor (iSeq (eOp oGet (eOp oGet (eVar 1) (eC (.int 1))) (eOp oGet (eVar 2) (eC (.int 1))))) (.tp [(.nm 7), (.nm 8)]) (sExpr (eMf mAppend (eVar 4) (aCons (eTup (aCons (eOp oAdd (eVar 5) (eCall i_moved (aCons (eVar 7) (aCons (eOp oGet (eVar 0) (eC (.int 0))) aNil)))) (aCons (eOp oGet (eVar 3) (eTup (aCons (eVar 6) (aCons (eVar 8) aNil)))) aNil))) aNil)))))
  (sRet (eBf bTuple (aCons (eVar 4) aNil)))))
abbrev D_side_state : MDef := ⟨4, 9, m_side_state⟩
/-- side(first, second); 0=first 1=second 2=pairs 3=many 4=one 5=other 6=numbers 7=number 8=pair -/
def m_side : SS := (sSeq (sExpr (eCall i_check_total (aCons (eOp oAdd (eOp oGet (eVar 0) (eC (.int 0))) (eOp oGet (eVar 1) (eC (.int 0)))) aNil)))
  (sSeq (sSet (.nm 2) (eCall i_pairs_found (aCons (eVar 0) (aCons (eVar 1) aNil))))
  (sSeq (sIf (tBl (eOp oGt (eBf bLen (aCons (eVar 2) aNil)) (eC (.int 12)))) (sRaise "TooMany" i_TooMany ["what", "most"] (aCons (eC (.str "states")) (aCons (eC (.int 12)) aNil))) sSkip)
  (sSeq (sSet (.nm 3) (eBf bSum (aCons (eLc (iSeq (eVar 2)) (.tp [(.nm 4), (.nm 5)]) tYes (eOp oMul (eBf bLen (aCons (eOp oGet (eOp oGet (eVar 0) (eC (.int 1))) (eVar 4)) aNil)) (eBf bLen (aCons (eOp oGet (eOp oGet (eVar 1) (eC (.int 1))) (eVar 5)) aNil))) [4, 5]) aNil)))
  (sSeq (sIf (tBl (eOp oGt (eVar 3) (eC (.int 64)))) (sRaise "TooMany" i_TooMany ["what", "most"] (aCons (eC (.str "words")) (aCons (eC (.int 64)) aNil))) sSkip)
  (sSeq (sSet (.nm 6) (eDc true (iEnum (eVar 2)) (.tp [(.nm 7), (.nm 8)]) tYes (eVar 8) (eVar 7) [7, 8]))
  (sRet (eTup (aCons (eOp oAdd (eOp oGet (eVar 0) (eC (.int 0))) (eOp oGet (eVar 1) (eC (.int 0)))) (aCons (eBf bTuple (aCons (eLc (iSeq (eVar 2)) (.nm 8) tYes (eCall i_side_state (aCons (eVar 0) (aCons (eVar 1) (aCons (eVar 8) (aCons (eVar 6) aNil))))) [8]) aNil)) aNil))))))))))
abbrev D_side : MDef := ⟨2, 9, m_side⟩
/-- side_limit(first, second); 0=first 1=second 2=clauses 3=wires 4=bound -/
def m_side_limit : SS := (sSeq (sExpr (eCall i_check_total (aCons (eOp oAdd (eOp oGet (eVar 0) (eC (.int 0))) (eOp oGet (eVar 1) (eC (.int 0)))) aNil)))
  (sSeq (sIf (tBl (eOp oGt (eOp oAdd (eBf bLen (aCons (eOp oGet (eVar 0) (eC (.int 1))) aNil)) (eBf bLen (aCons (eOp oGet (eVar 1) (eC (.int 1))) aNil))) (eC (.int 12)))) (sRaise "TooMany" i_TooMany ["what", "most"] (aCons (eC (.str "clauses")) (aCons (eC (.int 12)) aNil))) sSkip)
  (sSeq (sSet (.nm 2) (eBf bList (aCons (eOp oGet (eVar 0) (eC (.int 1))) aNil)))
  (sSeq (sFor (iSeq (eOp oGet (eVar 1) (eC (.int 1)))) (.tp [(.nm 3), (.nm 4)]) (sExpr (eMf mAppend (eVar 2) (aCons (eTup (aCons (eCall i_moved (aCons (eVar 3) (aCons (eOp oGet (eVar 0) (eC (.int 0))) aNil))) (aCons (eVar 4) aNil))) aNil))))
  (sRet (eTup (aCons (eOp oAdd (eOp oGet (eVar 0) (eC (.int 0))) (eOp oGet (eVar 1) (eC (.int 0)))) (aCons (eBf bTuple (aCons (eVar 2) aNil)) aNil))))))))
abbrev D_side_limit : MDef := ⟨2, 5, m_side_limit⟩
/-- paired(first, second); 0=first 1=second 2=left 3=right 4=words 5=word 6=other -/
def m_paired : SS := (sSeq (sExpr (eCall i_check_book (aCons (eVar 0) aNil)))
  (sSeq (sExpr (eCall i_check_book (aCons (eVar 1) aNil)))
  (sSeq (sExpr (eCall i_check_total (aCons (eOp oAdd (eOp oGet (eVar 0) (eC (.int 0))) (eOp oGet (eVar 1) (eC (.int 0)))) aNil)))
  (sSeq (sSet (.nm 2) (eCall i_book_words (aCons (eVar 0) aNil)))
  (sSeq (sSet (.nm 3) (eCall i_book_words (aCons (eVar 1) aNil)))
  (sSeq (sIf (tBl (eOp (oEq true) (eBf bLen (aCons (eVar 2) aNil)) (eBf bLen (aCons (eVar 3) aNil)))) (sRaise "BadNumber" i_BadNumber ["place"] (aCons (eBf bLen (aCons (eVar 3) aNil)) aNil)) sSkip)
  (sSeq (sSet (.nm 4) (eLc (iZip (eVar 2) (eVar 3)) (.tp [(.nm 5), (.nm 6)]) tYes (eOp oAdd (eVar 5) (eCall i_moved (aCons (eVar 6) (aCons (eOp oGet (eVar 0) (eC (.int 0))) aNil)))) [5, 6]))
  (sRet (eCall i_book_made (aCons (eOp oAdd (eOp oGet (eVar 0) (eC (.int 0))) (eOp oGet (eVar 1) (eC (.int 0)))) (aCons (eVar 4) aNil)))))))))))
abbrev D_paired : MDef := ⟨2, 7, m_paired⟩
/-- check_fit(left, right); 0=left 1=right -/
def m_check_fit : SS := (sIf (tBl (eOp (oEq true) (eVar 0) (eVar 1))) (sRaise "BadFit" i_BadFit ["left", "right"] (aCons (eVar 0) (aCons (eVar 1) aNil))) sSkip)
abbrev D_check_fit : MDef := ⟨2, 2, m_check_fit⟩
/-- wire_table(wires); 0=wires 1=wire -/
def m_wire_table : SS := (sRet (eDc false (iSeq (eVar 0)) (.nm 1) tYes (eVar 1) (eC (.bl true)) [1]))
abbrev D_wire_table : MDef := ⟨1, 2, m_wire_table⟩
/-- count_in(table, wires); 0=table 1=wires 2=wire -/
def m_count_in : SS := (sRet (eBf bLen (aCons (eLc (iSeq (eVar 1)) (.nm 2) (tBl (eOp (oIn false) (eVar 2) (eVar 0))) (eVar 2) [2]) aNil)))
abbrev D_count_in : MDef := ⟨2, 3, m_count_in⟩
/-- clause_tables(limit); 0=limit 1=wires 2=bound -/
def m_clause_tables : SS := (sRet (eLc (iSeq (eOp oGet (eVar 0) (eC (.int 1)))) (.tp [(.nm 1), (.nm 2)]) tYes (eTup (aCons (eCall i_wire_table (aCons (eVar 1) aNil)) (aCons (eVar 2) aNil))) [1, 2]))
abbrev D_clause_tables : MDef := ⟨1, 3, m_clause_tables⟩
/-- first_beyond(tables, wires); 0=tables 1=wires 2=place 3=table 4=bound -/
def m_first_beyond : SS := (sSeq (sFor (iEnum (eVar 0)) (.tp [(.nm 2), (.tp [(.nm 3), (.nm 4)])]) (sIf (tBl (eOp oGt (eCall i_count_in (aCons (eVar 3) (aCons (eVar 1) aNil))) (eVar 4))) (sRet (eVar 2)) sSkip))
  (sRet (eC .non)))
abbrev D_first_beyond : MDef := ⟨2, 5, m_first_beyond⟩
/-- word_pairs(words); 0=words 1=tables 2=word 3=found 4=i 5=left 6=j 7=table 8=wire -/
def m_word_pairs : SS := (sSeq (sSet (.nm 1) (eLc (iSeq (eVar 0)) (.nm 2) tYes (eCall i_wire_table (aCons (eVar 2) aNil)) [2]))
  (sSeq (sSet (.nm 3) (eLst aNil))
  (sSeq (sFor (iEnum (eVar 0)) (.tp [(.nm 4), (.nm 5)]) (sFor (iEnum (eVar 1)) (.tp [(.nm 6), (.nm 7)]) (sIf (tBl (eOp (oEq true) (eVar 4) (eVar 6))) (sExpr (eMf mAppend (eVar 3) (aCons (eTup (aCons (eVar 4) (aCons (eVar 6) (aCons (eBf bTuple (aCons (eLc (iSeq (eVar 5)) (.nm 8) (tBl (eOp (oIn true) (eVar 8) (eVar 7))) (eVar 8) [8]) aNil)) aNil)))) aNil))) sSkip)))
  (sRet (eVar 3)))))
abbrev D_word_pairs : MDef := ⟨1, 9, m_word_pairs⟩
/-- plan_pairs(plan); 0=plan 1=found 2=state 3=entries 4=i 5=j 6=wires 7=entry -/
def m_plan_pairs : SS := (sSeq (sSet (.nm 1) (eLst aNil))
  (sSeq (sFor (iEnum (eOp oGet (eVar 0) (eC (.int 1)))) (.tp [(.nm 2), (.nm 3)]) (sFor (iSeq (eCall i_word_pairs (aCons (eLc (iSeq (eVar 3)) (.nm 7) tYes (eOp oGet (eVar 7) (eC (.int 0))) [7]) aNil))) (.tp [(.nm 4), (.nm 5), (.nm 6)]) (sExpr (eMf mAppend (eVar 1) (aCons (eTup (aCons (eVar 2) (aCons (eVar 4) (aCons (eVar 5) (aCons (eVar 6) aNil))))) aNil)))))
  (sRet (eVar 1))))
abbrev D_plan_pairs : MDef := ⟨1, 8, m_plan_pairs⟩
/-- least_gap(pairs); 0=pairs 1=sizes 2=pair -/
def m_least_gap : SS := (sSeq (sSet (.nm 1) (eLc (iSeq (eVar 0)) (.nm 2) tYes (eBf bLen (aCons (eOp oGet (eVar 2) (eNeg (eC (.int 1)))) aNil)) [2]))
  (sSeq (sIf (tNot (tVal (eVar 1))) (sRet (eC .non)) sSkip)
  (sRet (eOp oSub (eBf bMin (aCons (eVar 1) aNil)) (eC (.int 1))))))
abbrev D_least_gap : MDef := ⟨1, 3, m_least_gap⟩
/-- first_bar(plan, limit); 0=plan 1=limit 2=tables 3=pair -/
def m_first_bar : SS := (sSeq (sExpr (eCall i_check_fit (aCons (eOp oGet (eVar 0) (eC (.int 0))) (aCons (eOp oGet (eVar 1) (eC (.int 0))) aNil))))
  (sSeq (sSet (.nm 2) (eCall i_clause_tables (aCons (eVar 1) aNil)))
  (sSeq (sFor (iSeq (eCall i_plan_pairs (aCons (eVar 0) aNil))) (.nm 3) (sIf (tBl (eOp (oIs false) (eCall i_first_beyond (aCons (eVar 2) (aCons (eOp oGet (eVar 3) (eC (.int 3))) aNil))) (eC .non))) (sRet (eCut (eVar 3) oNo (oSome (eC (.int 3))))) sSkip))
  (sRet (eC .non)))))
abbrev D_first_bar : MDef := ⟨2, 4, m_first_bar⟩
/-- is_right(plan, limit); 0=plan 1=limit -/
def m_is_right : SS := (sRet (eOp (oIs false) (eCall i_first_bar (aCons (eVar 0) (aCons (eVar 1) aNil))) (eC .non)))
abbrev D_is_right : MDef := ⟨2, 2, m_is_right⟩
/-- greatest_even(plan); 0=plan -/
def m_greatest_even : SS := (sRet (eCall i_least_gap (aCons (eCall i_plan_pairs (aCons (eVar 0) aNil)) aNil)))
abbrev D_greatest_even : MDef := ⟨1, 1, m_greatest_even⟩
/-- _law_mixed(number, step); 0=number 1=step 2=one 3=two 4=three -/
def m_law_mixed : SS := (sSeq (sSet (.nm 2) (eOp oMod (eBf bInt (aCons (eOp oAdd (eOp oAdd (eOp oMul (eVar 0) (eC (.int 48271))) (eOp oMul (eVar 1) (eC (.int 69621)))) (eC (.int 12345))) aNil)) (eC (.int 2147483647))))
  (sSeq (sSet (.nm 3) (eOp oMod (eBf bInt (aCons (eOp oAdd (eOp oAdd (eOp oAdd (eOp oMul (eVar 2) (eVar 2)) (eOp oMul (eVar 1) (eC (.int 16807)))) (eOp oFdiv (eVar 2) (eC (.int 65536)))) (eC (.int 7))) aNil)) (eC (.int 2147483629))))
  (sSeq (sSet (.nm 4) (eOp oMod (eBf bInt (aCons (eOp oAdd (eOp oAdd (eOp oAdd (eOp oMul (eVar 3) (eVar 3)) (eOp oFdiv (eVar 3) (eC (.int 8192)))) (eVar 2)) (eVar 1)) aNil)) (eC (.int 2147483399))))
  (sRet (eOp oAdd (eOp oMul (eVar 4) (eC (.int 2147483629))) (eVar 3))))))
abbrev D_law_mixed : MDef := ⟨2, 5, m_law_mixed⟩
/-- _law_store(script); 0=script 1=cells 2=seed 3=cell -/
def m_law_store : SS := (sSeq (sSet (.nm 1) (eLst aNil))
  (sSeq (sSet (.nm 2) (eC (.int 77)))
  (sSeq (sFor (iSeq (eCut (eVar 0) oNo (oSome (eC (.int 63))))) (.nm 3) (sSeq (sIf (tBl (eChain oLt oLt (eNeg (eOp oPow (eC (.int 10)) (eC (.int 18)))) (eVar 3) (eOp oPow (eC (.int 10)) (eC (.int 18))))) (sExpr (eMf mAppend (eVar 1) (aCons (eLst (aCons (eC (.int 0)) (aCons (eOp oMod (eBf bInt (aCons (eVar 3) aNil)) (eC (.int 2147483647))) aNil))) aNil))) (sExpr (eMf mAppend (eVar 1) (aCons (eLst (aCons (eC (.int 1)) (aCons (eOp oMod (eBf bInt (aCons (eBf bAbs (aCons (eVar 3) aNil)) aNil)) (eOp oPow (eC (.int 10)) (eC (.int 60)))) aNil))) aNil))))
  (sSet (.nm 2) (eOp oMod (eBf bInt (aCons (eOp oAdd (eOp oAdd (eOp oMul (eVar 2) (eC (.int 48271))) (eOp oGet (eOp oGet (eVar 1) (eNeg (eC (.int 1)))) (eC (.int 1)))) (eC (.int 13))) aNil)) (eC (.int 2147483647))))))
  (sRet (eLst (aCons (eVar 1) (aCons (eC (.int 0)) (aCons (eC (.int 0)) (aCons (eVar 2) (aCons (eC (.int 0)) aNil))))))))))
abbrev D_law_store : MDef := ⟨1, 4, m_law_store⟩
/-- _law_take(store, count); 0=store 1=count 2=cells 3=at 4=cell 5=found -/
def m_law_take : SS := (sSeq (sSet (.nm 2) (eOp oGet (eVar 0) (eC (.int 0))))
  (sSeq (sSetI (eVar 0) (eC (.int 4)) (eOp oAdd (eOp oGet (eVar 0) (eC (.int 4))) (eC (.int 1))))
  (sSeq (sIf (tBl (eOp oLt (eVar 1) (eC (.int 2)))) (sRet (eC (.int 0))) sSkip)
  (sSeq (sFor (iRg (rg2 (eOp oGet (eVar 0) (eC (.int 1))) (eBf bLen (aCons (eVar 2) aNil)))) (.nm 3) (sSeq (sSet (.nm 4) (eOp oGet (eVar 2) (eVar 3)))
  (sSeq (sSetI (eVar 0) (eC (.int 1)) (eVar 3))
  (sSeq (sIf (tAnd (tBl (eOp (oEq false) (eOp oGet (eVar 4) (eC (.int 0))) (eC (.int 1)))) (tBl (eOp oGt (eOp oGet (eVar 4) (eC (.int 1))) (eC (.int 0))))) (sSeq (sSet (.nm 5) (eOp oMod (eBf bInt (aCons (eOp oGet (eVar 4) (eC (.int 1))) aNil)) (eVar 1)))
  (sSeq (sSetI (eVar 4) (eC (.int 1)) (eOp oFdiv (eOp oGet (eVar 4) (eC (.int 1))) (eVar 1)))
  (sRet (eVar 5)))) sSkip)
  (sSeq (sIf (tAnd (tBl (eOp (oEq false) (eOp oGet (eVar 4) (eC (.int 0))) (eC (.int 0)))) (tBl (eOp oLt (eOp oGet (eVar 0) (eC (.int 2))) (eC (.int 4))))) (sSeq (sSetI (eVar 0) (eC (.int 2)) (eOp oAdd (eOp oGet (eVar 0) (eC (.int 2))) (eC (.int 1))))
  (sRet (eOp oMod (eBf bInt (aCons (eCall i_law_mixed (aCons (eOp oAdd (eOp oGet (eVar 4) (eC (.int 1))) (eOp oMul (eVar 3) (eC (.int 7919)))) (aCons (eOp oGet (eVar 0) (eC (.int 2))) aNil))) aNil)) (eVar 1)))) sSkip)
  (sSetI (eVar 0) (eC (.int 2)) (eC (.int 0))))))))
  (sSeq (sSetI (eVar 0) (eC (.int 1)) (eBf bLen (aCons (eVar 2) aNil)))
  (sRet (eOp oMod (eBf bInt (aCons (eCall i_law_mixed (aCons (eOp oGet (eVar 0) (eC (.int 3))) (aCons (eOp oGet (eVar 0) (eC (.int 4))) aNil))) aNil)) (eVar 1))))))))
abbrev D_law_take : MDef := ⟨2, 6, m_law_take⟩
/-- _law_number(store, least, high); 0=store 1=least 2=high 3=share -/
def m_law_number : SS := (sSeq (sIf (tBl (eOp oLe (eVar 2) (eVar 1))) (sRet (eVar 1)) sSkip)
  (sSeq (sSet (.nm 3) (eCall i_law_take (aCons (eVar 0) (aCons (eC (.int 6)) aNil))))
  (sSeq (sIf (tBl (eOp (oEq false) (eVar 3) (eC (.int 0)))) (sRet (eVar 1)) sSkip)
  (sSeq (sIf (tBl (eOp (oEq false) (eVar 3) (eC (.int 1)))) (sRet (eVar 2)) sSkip)
  (sRet (eOp oAdd (eVar 1) (eCall i_law_take (aCons (eVar 0) (aCons (eOp oAdd (eOp oSub (eVar 2) (eVar 1)) (eC (.int 1))) aNil)))))))))
abbrev D_law_number : MDef := ⟨3, 4, m_law_number⟩
/-- _law_size(store, least, usual, high); 0=store 1=least 2=usual 3=high 4=share -/
def m_law_size : SS := (sSeq (sSet (.nm 4) (eCall i_law_take (aCons (eVar 0) (aCons (eC (.int 24)) aNil))))
  (sSeq (sIf (tBl (eOp oLt (eVar 4) (eC (.int 4)))) (sRet (eVar 1)) sSkip)
  (sSeq (sIf (tBl (eOp oLt (eVar 4) (eC (.int 6)))) (sRet (eVar 2)) sSkip)
  (sSeq (sIf (tBl (eOp (oEq false) (eVar 4) (eC (.int 6)))) (sRet (eVar 3)) sSkip)
  (sSeq (sIf (tBl (eOp (oEq false) (eVar 4) (eC (.int 7)))) (sRet (eOp oAdd (eVar 1) (eCall i_law_take (aCons (eVar 0) (aCons (eOp oAdd (eOp oSub (eVar 3) (eVar 1)) (eC (.int 1))) aNil))))) sSkip)
  (sRet (eOp oAdd (eVar 1) (eCall i_law_take (aCons (eVar 0) (aCons (eOp oAdd (eOp oSub (eVar 2) (eVar 1)) (eC (.int 1))) aNil))))))))))
abbrev D_law_size : MDef := ⟨4, 5, m_law_size⟩
/-- _law_order(store, count); 0=store 1=count 2=pool 3=share 4=found 5=step 6=at -/
def m_law_order : SS := (sSeq (sSet (.nm 2) (eLRg (rg1 (eVar 1))))
  (sSeq (sSet (.nm 3) (eCall i_law_take (aCons (eVar 0) (aCons (eC (.int 6)) aNil))))
  (sSeq (sIf (tBl (eOp (oEq false) (eVar 3) (eC (.int 0)))) (sRet (eVar 2)) sSkip)
  (sSeq (sSet (.nm 4) (eLst aNil))
  (sSeq (sFor (iRg (rg1 (eVar 1))) (.nm 5) (sSeq (sSet (.nm 6) (eOp oSub (eBf bLen (aCons (eVar 2) aNil)) (eC (.int 1))))
  (sSeq (sIf (tBl (eOp oGt (eVar 3) (eC (.int 1)))) (sSet (.nm 6) (eCall i_law_take (aCons (eVar 0) (aCons (eBf bLen (aCons (eVar 2) aNil)) aNil)))) sSkip)
  (sExpr (eMf mAppend (eVar 4) (aCons (eMf mPop (eVar 2) (aCons (eVar 6) aNil)) aNil))))))
  (sRet (eVar 4)))))))
abbrev D_law_order : MDef := ⟨2, 7, m_law_order⟩
/-- _law_power(base, count); 0=base 1=count 2=number 3=step -/
def m_law_power : SS := (sSeq (sSet (.nm 2) (eC (.int 1)))
  (sSeq (sFor (iRg (rg1 (eVar 1))) (.nm 3) (sSet (.nm 2) (eOp oMul (eVar 2) (eVar 0))))
  (sRet (eVar 2))))
abbrev D_law_power : MDef := ⟨2, 4, m_law_power⟩
/-- _law_kind(value); 0=value -/
def m_law_kind : SS := (sSeq (sIf (tBl (eOp (oIs false) (eVar 0) (eC .non))) (sRet (eC (.int 0))) sSkip)
  (sSeq (sIf (tVal (eBf (bIsi "bool") (aCons (eVar 0) aNil))) (sRet (eC (.int 1))) sSkip)
  (sSeq (sIf (tVal (eBf (bIsi "int") (aCons (eVar 0) aNil))) (sRet (eC (.int 2))) sSkip)
  (sSeq (sIf (tVal (eBf (bIsi "str") (aCons (eVar 0) aNil))) (sRet (eC (.int 3))) sSkip)
  (sSeq (sIf (tVal (eBf (bIsi "tuple") (aCons (eVar 0) aNil))) (sRet (eC (.int 4))) sSkip)
  (sSeq (sIf (tVal (eBf (bIsi "list") (aCons (eVar 0) aNil))) (sRet (eC (.int 5))) sSkip)
  (sRet (eC (.int 6)))))))))
abbrev D_law_kind : MDef := ⟨1, 1, m_law_kind⟩
/-- _law_same(left, right); 0=left 1=right 2=pairs 3=one 4=two 5=kind 6=at -/
def m_law_same : SS := (sSeq (sSet (.nm 2) (eLst (aCons (eTup (aCons (eVar 0) (aCons (eVar 1) aNil))) aNil)))
  (sSeq (sWhile (tBl (eOp oGt (eBf bLen (aCons (eVar 2) aNil)) (eC (.int 0)))) (sSeq (sSet (.tp [(.nm 3), (.nm 4)]) (eMf mPop (eVar 2) aNil))
  (sSeq (sSet (.nm 5) (eCall i_law_kind (aCons (eVar 3) aNil)))
  (sSeq (sIf (tOr (tBl (eOp (oEq false) (eVar 5) (eC (.int 6)))) (tBl (eOp (oEq true) (eVar 5) (eCall i_law_kind (aCons (eVar 4) aNil))))) (sRet (eC (.bl false))) sSkip)
  (sIf (tBl (eOp oLt (eVar 5) (eC (.int 4)))) (sIf (tBl (eOp (oEq true) (eVar 3) (eVar 4))) (sRet (eC (.bl false))) sSkip) (sIf (tBl (eOp (oEq true) (eBf bLen (aCons (eVar 3) aNil)) (eBf bLen (aCons (eVar 4) aNil)))) (sRet (eC (.bl false))) (sFor (iRg (rg1 (eBf bLen (aCons (eVar 3) aNil)))) (.nm 6) (sExpr (eMf mAppend (eVar 2) (aCons (eTup (aCons (eOp oGet (eVar 3) (eVar 6)) (aCons (eOp oGet (eVar 4) (eVar 6)) aNil))) aNil))))))))))
  (sRet (eC (.bl true)))))
abbrev D_law_same : MDef := ⟨2, 7, m_law_same⟩
/-- _law_mask_word(mask, n); 0=mask 1=n 2=wires 3=rest 4=wire -/
def m_law_mask_word : SS := (sSeq (sSet (.nm 2) (eLst aNil))
  (sSeq (sSet (.nm 3) (eVar 0))
  (sSeq (sFor (iRg (rg1 (eVar 1))) (.nm 4) (sSeq (sIf (tBl (eOp (oEq false) (eOp oMod (eBf bInt (aCons (eVar 3) aNil)) (eC (.int 2))) (eC (.int 1)))) (sExpr (eMf mAppend (eVar 2) (aCons (eVar 4) aNil))) sSkip)
  (sSet (.nm 3) (eOp oFdiv (eVar 3) (eC (.int 2))))))
  (sRet (eBf bTuple (aCons (eVar 2) aNil))))))
abbrev D_law_mask_word : MDef := ⟨2, 5, m_law_mask_word⟩
/-- _law_masks(store, n, count); 0=store 1=n 2=count 3=high 4=thin 5=found 6=step 7=one 8=two 9=mask 10=move -/
def m_law_masks : SS := (sSeq (sSet (.nm 3) (eOp oSub (eCall i_law_power (aCons (eC (.int 2)) (aCons (eVar 1) aNil))) (eC (.int 1))))
  (sSeq (sSet (.nm 4) (eAnd (eOp (oEq false) (eCall i_law_take (aCons (eVar 0) (aCons (eC (.int 3)) aNil))) (eC (.int 0))) (eOp oGt (eVar 1) (eC (.int 3)))))
  (sSeq (sSet (.nm 5) (eLst aNil))
  (sSeq (sFor (iRg (rg1 (eBf bMin (aCons (eVar 2) (aCons (eVar 3) aNil))))) (.nm 6) (sSeq (sIf (tVal (eVar 4)) (sSeq (sSet (.nm 7) (eCall i_law_power (aCons (eC (.int 2)) (aCons (eCall i_law_take (aCons (eVar 0) (aCons (eVar 1) aNil))) aNil))))
  (sSeq (sSet (.nm 8) (eCall i_law_power (aCons (eC (.int 2)) (aCons (eCall i_law_take (aCons (eVar 0) (aCons (eVar 1) aNil))) aNil))))
  (sSeq (sSet (.nm 9) (eBf bMax (aCons (eVar 7) (aCons (eVar 8) aNil))))
  (sIf (tBl (eOp (oEq true) (eVar 7) (eVar 8))) (sSet (.nm 9) (eOp oAdd (eVar 7) (eVar 8))) sSkip)))) (sSet (.nm 9) (eOp oAdd (eC (.int 1)) (eCall i_law_take (aCons (eVar 0) (aCons (eVar 3) aNil))))))
  (sSeq (sFor (iRg (rg1 (eBf bLen (aCons (eVar 5) aNil)))) (.nm 10) (sSeq (sIf (tBl (eOp (oIn true) (eVar 9) (eVar 5))) sBreak sSkip)
  (sSet (.nm 9) (eOp oAdd (eOp oMod (eBf bInt (aCons (eVar 9) aNil)) (eVar 3)) (eC (.int 1))))))
  (sExpr (eMf mAppend (eVar 5) (aCons (eVar 9) aNil))))))
  (sRet (eVar 5))))))
abbrev D_law_masks : MDef := ⟨3, 11, m_law_masks⟩
/-- _law_words(store, n, count); 0=store 1=n 2=count 3=mask -/
def m_law_words : SS := (sRet (eLc (iSeq (eCall i_law_masks (aCons (eVar 0) (aCons (eVar 1) (aCons (eVar 2) aNil))))) (.nm 3) tYes (eCall i_law_mask_word (aCons (eVar 3) (aCons (eVar 1) aNil))) [3]))
abbrev D_law_words : MDef := ⟨3, 4, m_law_words⟩
/-- _law_pruned(words); 0=words 1=kept 2=word 3=fine 4=other -/
def m_law_pruned : SS := (sSeq (sSet (.nm 1) (eLst aNil))
  (sSeq (sFor (iSeq (eVar 0)) (.nm 2) (sSeq (sSet (.nm 3) (eC (.bl true)))
  (sSeq (sFor (iSeq (eVar 1)) (.nm 4) (sIf (tOr (tBl (eOp (oEq false) (eBf bLen (aCons (eCall i_law_less (aCons (eVar 2) (aCons (eVar 4) aNil))) aNil)) (eC (.int 0)))) (tBl (eOp (oEq false) (eBf bLen (aCons (eCall i_law_less (aCons (eVar 4) (aCons (eVar 2) aNil))) aNil)) (eC (.int 0))))) (sSet (.nm 3) (eC (.bl false))) sSkip))
  (sIf (tVal (eVar 3)) (sExpr (eMf mAppend (eVar 1) (aCons (eVar 2) aNil))) sSkip))))
  (sRet (eVar 1))))
abbrev D_law_pruned : MDef := ⟨1, 5, m_law_pruned⟩
/-- _law_book(n, words); 0=n 1=words 2=word -/
def m_law_book : SS := (sRet (eTup (aCons (eVar 0) (aCons (eTup (aCons (eBf bTuple (aCons (eLc (iSeq (eVar 1)) (.nm 2) tYes (eTup (aCons (eVar 2) (aCons (eC (.int 0)) aNil))) [2]) aNil)) aNil)) aNil))))
abbrev D_law_book : MDef := ⟨2, 3, m_law_book⟩
/-- _law_plan(store, n, right, count, cap); 0=store 1=n 2=right 3=count 4=cap 5=ring 6=place 7=follow 8=at 9=states 10=state 11=words 12=earlier 13=pair 14=row 15=word -/
def m_law_plan : SS := (sSeq (sSet (.nm 5) (eOp oAdd (eLst (aCons (eC (.int 0)) aNil)) (eLc (iSeq (eCall i_law_order (aCons (eVar 0) (aCons (eOp oSub (eVar 3) (eC (.int 1))) aNil)))) (.nm 6) tYes (eOp oAdd (eC (.int 1)) (eVar 6)) [6])))
  (sSeq (sSet (.nm 7) (eOp oMul (eLst (aCons (eC (.int 0)) aNil)) (eVar 3)))
  (sSeq (sFor (iRg (rg1 (eVar 3))) (.nm 8) (sSetI (eVar 7) (eOp oGet (eVar 5) (eVar 8)) (eOp oGet (eVar 5) (eOp oMod (eBf bInt (aCons (eOp oAdd (eVar 8) (eC (.int 1))) aNil)) (eVar 3)))))
  (sSeq (sSet (.nm 9) (eLst aNil))
  (sSeq (sFor (iRg (rg1 (eVar 3))) (.nm 10) (sSeq (sSet (.nm 11) (eCall i_law_words (aCons (eVar 0) (aCons (eVar 1) (aCons (eOp oAdd (eC (.int 1)) (eCall i_law_take (aCons (eVar 0) (aCons (eVar 4) aNil)))) aNil)))))
  (sSeq (sIf (tVal (eVar 2)) (sSet (.nm 11) (eCall i_law_pruned (aCons (eVar 11) aNil))) sSkip)
  (sSeq (sIf (tAnd (tBl (eOp oGt (eVar 10) (eC (.int 0)))) (tBl (eOp (oEq false) (eCall i_law_take (aCons (eVar 0) (aCons (eC (.int 6)) aNil))) (eC (.int 0))))) (sSeq (sSet (.nm 12) (eOp oGet (eVar 9) (eCall i_law_take (aCons (eVar 0) (aCons (eVar 10) aNil)))))
  (sSet (.nm 11) (eLc (iSeq (eVar 12)) (.nm 13) tYes (eOp oGet (eVar 13) (eC (.int 0))) [13]))) sSkip)
  (sSeq (sSet (.nm 14) (eLc (iSeq (eVar 11)) (.nm 15) tYes (eTup (aCons (eVar 15) (aCons (eCall i_law_take (aCons (eVar 0) (aCons (eVar 3) aNil))) aNil))) [15]))
  (sSeq (sSet (.nm 8) (eCall i_law_take (aCons (eVar 0) (aCons (eBf bLen (aCons (eVar 14) aNil)) aNil))))
  (sSeq (sSetI (eVar 14) (eVar 8) (eTup (aCons (eOp oGet (eOp oGet (eVar 14) (eVar 8)) (eC (.int 0))) (aCons (eOp oGet (eVar 7) (eVar 10)) aNil))))
  (sExpr (eMf mAppend (eVar 9) (aCons (eBf bTuple (aCons (eVar 14) aNil)) aNil))))))))))
  (sRet (eTup (aCons (eVar 1) (aCons (eBf bTuple (aCons (eVar 9) aNil)) aNil)))))))))
abbrev D_law_plan : MDef := ⟨5, 16, m_law_plan⟩
/-- _law_less(left, right); 0=left 1=right 2=wire -/
def m_law_less : SS := (sRet (eBf bTuple (aCons (eLc (iSeq (eVar 0)) (.nm 2) (tBl (eOp (oIn true) (eVar 2) (eVar 1))) (eVar 2) [2]) aNil)))
abbrev D_law_less : MDef := ⟨2, 3, m_law_less⟩
/-- _law_clauses(store, n); 0=store 1=n 2=rows 3=step 4=share 5=bound -/
def m_law_clauses : SS := (sSeq (sSet (.nm 2) (eLst aNil))
  (sSeq (sFor (iRg (rg1 (eCall i_law_size (aCons (eVar 0) (aCons (eC (.int 0)) (aCons (eC (.int 3)) (aCons (eC (.int 12)) aNil))))))) (.nm 3) (sSeq (sSet (.nm 4) (eCall i_law_take (aCons (eVar 0) (aCons (eC (.int 8)) aNil))))
  (sSeq (sSet (.nm 5) (eCall i_law_size (aCons (eVar 0) (aCons (eC (.int 0)) (aCons (eC (.int 3)) (aCons (eC (.int 60)) aNil))))))
  (sIf (tAnd (tBl (eOp (oEq false) (eVar 4) (eC (.int 0)))) (tBl (eOp oGt (eBf bLen (aCons (eVar 2) aNil)) (eC (.int 0))))) (sExpr (eMf mAppend (eVar 2) (aCons (eOp oGet (eVar 2) (eCall i_law_take (aCons (eVar 0) (aCons (eBf bLen (aCons (eVar 2) aNil)) aNil)))) aNil))) (sIf (tBl (eOp (oEq false) (eVar 4) (eC (.int 1)))) (sExpr (eMf mAppend (eVar 2) (aCons (eTup (aCons (eTup aNil) (aCons (eVar 5) aNil))) aNil))) (sIf (tBl (eOp oLt (eVar 4) (eC (.int 4)))) (sExpr (eMf mAppend (eVar 2) (aCons (eTup (aCons (eTRg (rg1 (eVar 1))) (aCons (eVar 5) aNil))) aNil))) (sExpr (eMf mAppend (eVar 2) (aCons (eTup (aCons (eCall i_law_mask_word (aCons (eCall i_law_take (aCons (eVar 0) (aCons (eCall i_law_power (aCons (eC (.int 2)) (aCons (eVar 1) aNil))) aNil))) (aCons (eVar 1) aNil))) (aCons (eVar 5) aNil))) aNil)))))))))
  (sRet (eVar 2))))
abbrev D_law_clauses : MDef := ⟨2, 6, m_law_clauses⟩
/-- _law_within(limit, lot); 0=limit 1=lot 2=clause 3=wire -/
def m_law_within : SS := (sSeq (sFor (iSeq (eOp oGet (eVar 0) (eC (.int 1)))) (.nm 2) (sIf (tBl (eOp oGt (eBf bSum (aCons (eLc (iSeq (eOp oGet (eVar 2) (eC (.int 0)))) (.nm 3) tYes (eOp oGet (eVar 1) (eVar 3)) [3]) aNil)) (eOp oGet (eVar 2) (eC (.int 1))))) (sRet (eC (.bl false))) sSkip))
  (sRet (eC (.bl true))))
abbrev D_law_within : MDef := ⟨2, 4, m_law_within⟩
/-- _law_pairs(plan); 0=plan 1=found 2=state 3=row 4=i 5=j -/
def m_law_pairs : SS := (sSeq (sSet (.nm 1) (eLst aNil))
  (sSeq (sFor (iRg (rg1 (eBf bLen (aCons (eOp oGet (eVar 0) (eC (.int 1))) aNil)))) (.nm 2) (sSeq (sSet (.nm 3) (eOp oGet (eOp oGet (eVar 0) (eC (.int 1))) (eVar 2)))
  (sFor (iRg (rg1 (eBf bLen (aCons (eVar 3) aNil)))) (.nm 4) (sFor (iRg (rg1 (eBf bLen (aCons (eVar 3) aNil)))) (.nm 5) (sIf (tBl (eOp (oEq true) (eVar 4) (eVar 5))) (sExpr (eMf mAppend (eVar 1) (aCons (eTup (aCons (eVar 2) (aCons (eVar 4) (aCons (eVar 5) (aCons (eCall i_law_less (aCons (eOp oGet (eOp oGet (eVar 3) (eVar 4)) (eC (.int 0))) (aCons (eOp oGet (eOp oGet (eVar 3) (eVar 5)) (eC (.int 0))) aNil))) aNil))))) aNil))) sSkip)))))
  (sRet (eVar 1))))
abbrev D_law_pairs : MDef := ⟨1, 6, m_law_pairs⟩
/-- _law_bars(plan, limit); 0=plan 1=limit 2=found 3=state 4=i 5=j 6=core 7=lot 8=wire -/
def m_law_bars : SS := (sSeq (sSet (.nm 2) (eLst aNil))
  (sSeq (sFor (iSeq (eCall i_law_pairs (aCons (eVar 0) aNil))) (.tp [(.nm 3), (.nm 4), (.nm 5), (.nm 6)]) (sSeq (sSet (.nm 7) (eLc (iRg (rg1 (eOp oGet (eVar 0) (eC (.int 0))))) (.nm 8) tYes (eBf bInt (aCons (eOp (oIn false) (eVar 8) (eVar 6)) aNil)) [8]))
  (sIf (tVal (eCall i_law_within (aCons (eVar 1) (aCons (eVar 7) aNil)))) (sExpr (eMf mAppend (eVar 2) (aCons (eTup (aCons (eVar 3) (aCons (eVar 4) (aCons (eVar 5) aNil)))) aNil))) sSkip)))
  (sRet (eBf bTuple (aCons (eVar 2) aNil)))))
abbrev D_law_bars : MDef := ⟨2, 9, m_law_bars⟩
/-- _law_greatest_even(plan); 0=plan 1=sizes 2=pair -/
def m_law_greatest_even : SS := (sSeq (sSet (.nm 1) (eLc (iSeq (eCall i_law_pairs (aCons (eVar 0) aNil))) (.nm 2) tYes (eBf bLen (aCons (eOp oGet (eVar 2) (eC (.int 3))) aNil)) [2]))
  (sSeq (sIf (tBl (eOp (oEq false) (eBf bLen (aCons (eVar 1) aNil)) (eC (.int 0)))) (sRet (eC .non)) sSkip)
  (sRet (eOp oSub (eBf bMin (aCons (eVar 1) aNil)) (eC (.int 1))))))
abbrev D_law_greatest_even : MDef := ⟨1, 3, m_law_greatest_even⟩
/-- _law_joined(low, left, right); 0=low 1=left 2=right 3=wire -/
def m_law_joined : SS := (sRet (eOp oAdd (eVar 1) (eBf bTuple (aCons (eLc (iSeq (eVar 2)) (.nm 3) tYes (eOp oAdd (eVar 3) (eVar 0)) [3]) aNil))))
abbrev D_law_joined : MDef := ⟨3, 4, m_law_joined⟩
/-- _law_met(first, second); 0=first 1=second 2=met 3=at 4=one 5=two -/
def m_law_met : SS := (sSeq (sSet (.nm 2) (eLst (aCons (eTup (aCons (eC (.int 0)) (aCons (eC (.int 0)) aNil))) aNil)))
  (sSeq (sFor (iRg (rg1 (eC (.int 144)))) (.nm 3) (sIf (tBl (eOp oLt (eVar 3) (eBf bLen (aCons (eVar 2) aNil)))) (sFor (iSeq (eOp oGet (eOp oGet (eVar 0) (eC (.int 1))) (eOp oGet (eOp oGet (eVar 2) (eVar 3)) (eC (.int 0))))) (.nm 4) (sFor (iSeq (eOp oGet (eOp oGet (eVar 1) (eC (.int 1))) (eOp oGet (eOp oGet (eVar 2) (eVar 3)) (eC (.int 1))))) (.nm 5) (sIf (tBl (eOp (oIn true) (eTup (aCons (eOp oGet (eVar 4) (eC (.int 1))) (aCons (eOp oGet (eVar 5) (eC (.int 1))) aNil))) (eVar 2))) (sExpr (eMf mAppend (eVar 2) (aCons (eTup (aCons (eOp oGet (eVar 4) (eC (.int 1))) (aCons (eOp oGet (eVar 5) (eC (.int 1))) aNil))) aNil))) sSkip))) sSkip))
  (sRet (eVar 2))))
abbrev D_law_met : MDef := ⟨2, 6, m_law_met⟩
/-- _law_due_side(first, second); 0=first 1=second 2=met 3=pair 4=states 5=row 6=one 7=two -/
def m_law_due_side : SS := (sSeq (sIf (tBl (eOp oGt (eOp oAdd (eOp oGet (eVar 0) (eC (.int 0))) (eOp oGet (eVar 1) (eC (.int 0)))) (eC (.int 40)))) (sRet (eTup (aCons (eC (.str "refused")) (aCons (eC (.str "BadSize")) (aCons (eOp oAdd (eOp oGet (eVar 0) (eC (.int 0))) (eOp oGet (eVar 1) (eC (.int 0)))) (aCons (eC (.bl true)) (aCons (eC (.bl false)) aNil))))))) sSkip)
  (sSeq (sSet (.nm 2) (eCall i_law_met (aCons (eVar 0) (aCons (eVar 1) aNil))))
  (sSeq (sIf (tBl (eOp oGt (eBf bLen (aCons (eVar 2) aNil)) (eC (.int 12)))) (sRet (eTup (aCons (eC (.str "refused")) (aCons (eC (.str "TooMany")) (aCons (eTup (aCons (eC (.str "states")) (aCons (eC (.int 12)) aNil))) (aCons (eC (.bl true)) (aCons (eC (.bl false)) aNil))))))) sSkip)
  (sSeq (sIf (tBl (eOp oGt (eBf bSum (aCons (eLc (iSeq (eVar 2)) (.nm 3) tYes (eOp oMul (eBf bLen (aCons (eOp oGet (eOp oGet (eVar 0) (eC (.int 1))) (eOp oGet (eVar 3) (eC (.int 0)))) aNil)) (eBf bLen (aCons (eOp oGet (eOp oGet (eVar 1) (eC (.int 1))) (eOp oGet (eVar 3) (eC (.int 1)))) aNil))) [3]) aNil)) (eC (.int 64)))) (sRet (eTup (aCons (eC (.str "refused")) (aCons (eC (.str "TooMany")) (aCons (eTup (aCons (eC (.str "words")) (aCons (eC (.int 64)) aNil))) (aCons (eC (.bl true)) (aCons (eC (.bl false)) aNil))))))) sSkip)
  (sSeq (sSet (.nm 4) (eLst aNil))
  (sSeq (sFor (iSeq (eVar 2)) (.nm 3) (sSeq (sSet (.nm 5) (eLst aNil))
  (sSeq (sFor (iSeq (eOp oGet (eOp oGet (eVar 0) (eC (.int 1))) (eOp oGet (eVar 3) (eC (.int 0))))) (.nm 6) (sFor (iSeq (eOp oGet (eOp oGet (eVar 1) (eC (.int 1))) (eOp oGet (eVar 3) (eC (.int 1))))) (.nm 7) (sExpr (eMf mAppend (eVar 5) (aCons (eTup (aCons (eCall i_law_joined (aCons (eOp oGet (eVar 0) (eC (.int 0))) (aCons (eOp oGet (eVar 6) (eC (.int 0))) (aCons (eOp oGet (eVar 7) (eC (.int 0))) aNil)))) (aCons (eMf mIndex (eVar 2) (aCons (eTup (aCons (eOp oGet (eVar 6) (eC (.int 1))) (aCons (eOp oGet (eVar 7) (eC (.int 1))) aNil))) aNil)) aNil))) aNil)))))
  (sExpr (eMf mAppend (eVar 4) (aCons (eBf bTuple (aCons (eVar 5) aNil)) aNil))))))
  (sRet (eTup (aCons (eC (.str "given")) (aCons (eTup (aCons (eOp oAdd (eOp oGet (eVar 0) (eC (.int 0))) (eOp oGet (eVar 1) (eC (.int 0)))) (aCons (eBf bTuple (aCons (eVar 4) aNil)) aNil))) aNil))))))))))
abbrev D_law_due_side : MDef := ⟨2, 8, m_law_due_side⟩
/-- _law_due_limit(one, two); 0=one 1=two 2=rows 3=clause -/
def m_law_due_limit : SS := (sSeq (sIf (tBl (eOp oGt (eOp oAdd (eOp oGet (eVar 0) (eC (.int 0))) (eOp oGet (eVar 1) (eC (.int 0)))) (eC (.int 40)))) (sRet (eTup (aCons (eC (.str "refused")) (aCons (eC (.str "BadSize")) (aCons (eOp oAdd (eOp oGet (eVar 0) (eC (.int 0))) (eOp oGet (eVar 1) (eC (.int 0)))) (aCons (eC (.bl true)) (aCons (eC (.bl false)) aNil))))))) sSkip)
  (sSeq (sIf (tBl (eOp oGt (eOp oAdd (eBf bLen (aCons (eOp oGet (eVar 0) (eC (.int 1))) aNil)) (eBf bLen (aCons (eOp oGet (eVar 1) (eC (.int 1))) aNil))) (eC (.int 12)))) (sRet (eTup (aCons (eC (.str "refused")) (aCons (eC (.str "TooMany")) (aCons (eTup (aCons (eC (.str "clauses")) (aCons (eC (.int 12)) aNil))) (aCons (eC (.bl true)) (aCons (eC (.bl false)) aNil))))))) sSkip)
  (sSeq (sSet (.nm 2) (eLc (iSeq (eOp oGet (eVar 1) (eC (.int 1)))) (.nm 3) tYes (eTup (aCons (eCall i_law_joined (aCons (eOp oGet (eVar 0) (eC (.int 0))) (aCons (eTup aNil) (aCons (eOp oGet (eVar 3) (eC (.int 0))) aNil)))) (aCons (eOp oGet (eVar 3) (eC (.int 1))) aNil))) [3]))
  (sRet (eTup (aCons (eC (.str "given")) (aCons (eTup (aCons (eOp oAdd (eOp oGet (eVar 0) (eC (.int 0))) (eOp oGet (eVar 1) (eC (.int 0)))) (aCons (eOp oAdd (eOp oGet (eVar 0) (eC (.int 1))) (eBf bTuple (aCons (eVar 2) aNil))) aNil))) aNil)))))))
abbrev D_law_due_limit : MDef := ⟨2, 4, m_law_due_limit⟩
/-- _law_due_paired(first, second); 0=first 1=second 2=plan 3=one 4=two 5=words 6=at -/
def m_law_due_paired : SS := (sSeq (sFor (iSeq (eLst (aCons (eVar 0) (aCons (eVar 1) aNil)))) (.nm 2) (sIf (tBl (eOp oGt (eBf bLen (aCons (eOp oGet (eVar 2) (eC (.int 1))) aNil)) (eC (.int 1)))) (sRet (eTup (aCons (eC (.str "refused")) (aCons (eC (.str "NotBook")) (aCons (eBf bLen (aCons (eOp oGet (eVar 2) (eC (.int 1))) aNil)) (aCons (eC (.bl true)) (aCons (eC (.bl false)) aNil))))))) sSkip))
  (sSeq (sIf (tBl (eOp oGt (eOp oAdd (eOp oGet (eVar 0) (eC (.int 0))) (eOp oGet (eVar 1) (eC (.int 0)))) (eC (.int 40)))) (sRet (eTup (aCons (eC (.str "refused")) (aCons (eC (.str "BadSize")) (aCons (eOp oAdd (eOp oGet (eVar 0) (eC (.int 0))) (eOp oGet (eVar 1) (eC (.int 0)))) (aCons (eC (.bl true)) (aCons (eC (.bl false)) aNil))))))) sSkip)
  (sSeq (sSet (.tp [(.nm 3), (.nm 4)]) (eTup (aCons (eOp oGet (eOp oGet (eVar 0) (eC (.int 1))) (eC (.int 0))) (aCons (eOp oGet (eOp oGet (eVar 1) (eC (.int 1))) (eC (.int 0))) aNil))))
  (sSeq (sIf (tBl (eOp (oEq true) (eBf bLen (aCons (eVar 3) aNil)) (eBf bLen (aCons (eVar 4) aNil)))) (sRet (eTup (aCons (eC (.str "refused")) (aCons (eC (.str "BadNumber")) (aCons (eBf bLen (aCons (eVar 4) aNil)) (aCons (eC (.bl true)) (aCons (eC (.bl false)) aNil))))))) sSkip)
  (sSeq (sSet (.nm 5) (eLc (iRg (rg1 (eBf bLen (aCons (eVar 3) aNil)))) (.nm 6) tYes (eCall i_law_joined (aCons (eOp oGet (eVar 0) (eC (.int 0))) (aCons (eOp oGet (eOp oGet (eVar 3) (eVar 6)) (eC (.int 0))) (aCons (eOp oGet (eOp oGet (eVar 4) (eVar 6)) (eC (.int 0))) aNil)))) [6]))
  (sRet (eTup (aCons (eC (.str "given")) (aCons (eCall i_law_book (aCons (eOp oAdd (eOp oGet (eVar 0) (eC (.int 0))) (eOp oGet (eVar 1) (eC (.int 0)))) (aCons (eVar 5) aNil))) aNil)))))))))
abbrev D_law_due_paired : MDef := ⟨2, 7, m_law_due_paired⟩
/-- _law_ask(deed, left, right); 0=deed 1=left 2=right 3=e 4=mixed -/
def m_law_ask : SS := (sTry tab.sub (sSeq (sIf (tBl (eOp (oEq false) (eVar 0) (eC (.str "side")))) (sRet (eTup (aCons (eC (.str "given")) (aCons (eCall i_side (aCons (eVar 1) (aCons (eVar 2) aNil))) aNil)))) sSkip)
  (sSeq (sIf (tBl (eOp (oEq false) (eVar 0) (eC (.str "limit")))) (sRet (eTup (aCons (eC (.str "given")) (aCons (eCall i_side_limit (aCons (eVar 1) (aCons (eVar 2) aNil))) aNil)))) sSkip)
  (sRet (eTup (aCons (eC (.str "given")) (aCons (eCall i_paired (aCons (eVar 1) (aCons (eVar 2) aNil))) aNil)))))) [("NotBook", 3, fun C fs => (sSeq (sSet (.nm 4) (eOr (xIs tab.sub "BadSize" C fs) (eOr (xIs tab.sub "BadNumber" C fs) (xIs tab.sub "TooMany" C fs)))) (sRet (eTup (aCons (eC (.str "refused")) (aCons (eC (.str "NotBook")) (aCons (xF tab.flds "states" C fs) (aCons (xIs tab.sub "PulseError" C fs) (aCons (eVar 4) aNil))))))))),
  ("BadSize", 3, fun C fs => (sSeq (sSet (.nm 4) (eOr (xIs tab.sub "BadNumber" C fs) (xIs tab.sub "TooMany" C fs))) (sRet (eTup (aCons (eC (.str "refused")) (aCons (eC (.str "BadSize")) (aCons (xF tab.flds "size" C fs) (aCons (xIs tab.sub "PulseError" C fs) (aCons (eVar 4) aNil))))))))),
  ("BadNumber", 3, fun C fs => (sRet (eTup (aCons (eC (.str "refused")) (aCons (eC (.str "BadNumber")) (aCons (xF tab.flds "place" C fs) (aCons (xIs tab.sub "PulseError" C fs) (aCons (xIs tab.sub "TooMany" C fs) aNil)))))))),
  ("TooMany", 3, fun C fs => (sRet (eTup (aCons (eC (.str "refused")) (aCons (eC (.str "TooMany")) (aCons (eTup (aCons (xF tab.flds "what" C fs) (aCons (xF tab.flds "most" C fs) aNil))) (aCons (xIs tab.sub "PulseError" C fs) (aCons (eC (.bl false)) aNil))))))))])
abbrev D_law_ask : MDef := ⟨3, 5, m_law_ask⟩
/-- _law_any_limit(store, plan); 0=store 1=plan 2=rows 3=least -/
def m_law_any_limit : SS := (sSeq (sSet (.nm 2) (eCut (eCall i_law_clauses (aCons (eVar 0) (aCons (eOp oGet (eVar 1) (eC (.int 0))) aNil))) oNo (oSome (eC (.int 4)))))
  (sSeq (sSet (.nm 3) (eCall i_law_greatest_even (aCons (eVar 1) aNil)))
  (sSeq (sIf (tAnd (tBl (eOp (oIs true) (eVar 3) (eC .non))) (tBl (eOp oGt (eCall i_law_take (aCons (eVar 0) (aCons (eC (.int 3)) aNil))) (eC (.int 0))))) (sExpr (eMf mAppend (eVar 2) (aCons (eTup (aCons (eTRg (rg1 (eOp oGet (eVar 1) (eC (.int 0))))) (aCons (eBf bMax (aCons (eC (.int 0)) (aCons (eOp oAdd (eVar 3) (eCall i_law_take (aCons (eVar 0) (aCons (eC (.int 2)) aNil)))) aNil))) aNil))) aNil))) sSkip)
  (sRet (eTup (aCons (eOp oGet (eVar 1) (eC (.int 0))) (aCons (eBf bTuple (aCons (eVar 2) aNil)) aNil)))))))
abbrev D_law_any_limit : MDef := ⟨2, 4, m_law_any_limit⟩
/-- _law_many_clauses(store, n, count); 0=store 1=n 2=count 3=rows 4=step -/
def m_law_many_clauses : SS := (sSeq (sSet (.nm 3) (eLst aNil))
  (sSeq (sFor (iRg (rg1 (eVar 2))) (.nm 4) (sExpr (eMf mAppend (eVar 3) (aCons (eTup (aCons (eCall i_law_mask_word (aCons (eCall i_law_take (aCons (eVar 0) (aCons (eCall i_law_power (aCons (eC (.int 2)) (aCons (eVar 1) aNil))) aNil))) (aCons (eVar 1) aNil))) (aCons (eCall i_law_number (aCons (eVar 0) (aCons (eC (.int 0)) (aCons (eC (.int 60)) aNil)))) aNil))) aNil))))
  (sRet (eTup (aCons (eVar 1) (aCons (eBf bTuple (aCons (eVar 3) aNil)) aNil))))))
abbrev D_law_many_clauses : MDef := ⟨3, 5, m_law_many_clauses⟩
/-- _law_two_plans(store); 0=store 1=share 2=n 3=rest 4=count 5=behind 6=one 7=menu 8=two 9=left -/
def m_law_two_plans : SS := (sSeq (sSet (.nm 1) (eCall i_law_take (aCons (eVar 0) (aCons (eC (.int 24)) aNil))))
  (sSeq (sIf (tBl (eOp (oEq false) (eVar 1) (eC (.int 0)))) (sSeq (sSet (.nm 2) (eOp oAdd (eC (.int 20)) (eCall i_law_take (aCons (eVar 0) (aCons (eC (.int 19)) aNil)))))
  (sSeq (sSet (.nm 3) (eOp oAdd (eOp oSub (eC (.int 39)) (eVar 2)) (eCall i_law_take (aCons (eVar 0) (aCons (eC (.int 3)) aNil)))))
  (sRet (eTup (aCons (eCall i_law_plan (aCons (eVar 0) (aCons (eVar 2) (aCons (eC (.bl true)) (aCons (eC (.int 1)) (aCons (eC (.int 3)) aNil)))))) (aCons (eCall i_law_plan (aCons (eVar 0) (aCons (eVar 3) (aCons (eOp (oEq false) (eCall i_law_take (aCons (eVar 0) (aCons (eC (.int 2)) aNil))) (eC (.int 0))) (aCons (eC (.int 1)) (aCons (eC (.int 3)) aNil)))))) aNil)))))) sSkip)
  (sSeq (sIf (tBl (eOp (oEq false) (eVar 1) (eC (.int 1)))) (sSeq (sSet (.nm 4) (eOp oAdd (eC (.int 1)) (eCall i_law_take (aCons (eVar 0) (aCons (eC (.int 4)) aNil)))))
  (sSeq (sSet (.nm 5) (eBf bMin (aCons (eC (.int 12)) (aCons (eOp oAdd (eOp oFdiv (eC (.int 12)) (eVar 4)) (eCall i_law_take (aCons (eVar 0) (aCons (eC (.int 2)) aNil)))) aNil))))
  (sSeq (sSet (.nm 6) (eCall i_law_plan (aCons (eVar 0) (aCons (eC (.int 2)) (aCons (eOp (oEq false) (eCall i_law_take (aCons (eVar 0) (aCons (eC (.int 2)) aNil))) (eC (.int 0))) (aCons (eVar 4) (aCons (eC (.int 2)) aNil)))))))
  (sRet (eTup (aCons (eVar 6) (aCons (eCall i_law_plan (aCons (eVar 0) (aCons (eC (.int 3)) (aCons (eOp (oEq false) (eCall i_law_take (aCons (eVar 0) (aCons (eC (.int 2)) aNil))) (eC (.int 0))) (aCons (eVar 5) (aCons (eC (.int 2)) aNil)))))) aNil))))))) sSkip)
  (sSeq (sIf (tBl (eOp (oEq false) (eVar 1) (eC (.int 2)))) (sSeq (sSet (.nm 7) (eLst (aCons (eTup (aCons (eC (.int 8)) (aCons (eC (.int 8)) aNil))) (aCons (eTup (aCons (eC (.int 13)) (aCons (eC (.int 5)) aNil))) (aCons (eTup (aCons (eC (.int 16)) (aCons (eC (.int 4)) aNil))) (aCons (eTup (aCons (eC (.int 9)) (aCons (eC (.int 7)) aNil))) (aCons (eTup (aCons (eC (.int 31)) (aCons (eC (.int 2)) aNil))) (aCons (eTup (aCons (eC (.int 64)) (aCons (eC (.int 1)) aNil))) (aCons (eTup (aCons (eC (.int 5)) (aCons (eC (.int 13)) aNil))) (aCons (eTup (aCons (eC (.int 11)) (aCons (eC (.int 6)) aNil))) (aCons (eTup (aCons (eC (.int 1)) (aCons (eC (.int 64)) aNil))) (aCons (eTup (aCons (eC (.int 32)) (aCons (eC (.int 2)) aNil))) (aCons (eTup (aCons (eC (.int 1)) (aCons (eC (.int 63)) aNil))) aNil)))))))))))))
  (sSeq (sSet (.tp [(.nm 6), (.nm 8)]) (eOp oGet (eVar 7) (eCall i_law_take (aCons (eVar 0) (aCons (eBf bLen (aCons (eVar 7) aNil)) aNil)))))
  (sSeq (sSet (.nm 9) (eCall i_law_book (aCons (eC (.int 7)) (aCons (eCall i_law_words (aCons (eVar 0) (aCons (eC (.int 7)) (aCons (eVar 6) aNil)))) aNil))))
  (sRet (eTup (aCons (eVar 9) (aCons (eCall i_law_book (aCons (eC (.int 7)) (aCons (eCall i_law_words (aCons (eVar 0) (aCons (eC (.int 7)) (aCons (eVar 8) aNil)))) aNil))) aNil))))))) sSkip)
  (sSeq (sSet (.nm 6) (eCall i_law_plan (aCons (eVar 0) (aCons (eOp oAdd (eC (.int 1)) (eCall i_law_take (aCons (eVar 0) (aCons (eC (.int 4)) aNil)))) (aCons (eOp (oEq false) (eCall i_law_take (aCons (eVar 0) (aCons (eC (.int 2)) aNil))) (eC (.int 0))) (aCons (eCall i_law_size (aCons (eVar 0) (aCons (eC (.int 1)) (aCons (eC (.int 2)) (aCons (eC (.int 4)) aNil))))) (aCons (eC (.int 3)) aNil)))))))
  (sSeq (sSet (.nm 8) (eCall i_law_plan (aCons (eVar 0) (aCons (eOp oAdd (eC (.int 1)) (eCall i_law_take (aCons (eVar 0) (aCons (eC (.int 4)) aNil)))) (aCons (eOp (oEq false) (eCall i_law_take (aCons (eVar 0) (aCons (eC (.int 2)) aNil))) (eC (.int 0))) (aCons (eCall i_law_size (aCons (eVar 0) (aCons (eC (.int 1)) (aCons (eC (.int 2)) (aCons (eC (.int 4)) aNil))))) (aCons (eC (.int 3)) aNil)))))))
  (sRet (eTup (aCons (eVar 6) (aCons (eVar 8) aNil))))))))))
abbrev D_law_two_plans : MDef := ⟨1, 10, m_law_two_plans⟩
/-- _law_two_books(store); 0=store 1=count 2=n 3=left 4=words -/
def m_law_two_books : SS := (sSeq (sSet (.nm 1) (eCall i_law_size (aCons (eVar 0) (aCons (eC (.int 1)) (aCons (eC (.int 4)) (aCons (eC (.int 16)) aNil))))))
  (sSeq (sSet (.nm 2) (eOp oAdd (eC (.int 1)) (eCall i_law_take (aCons (eVar 0) (aCons (eC (.int 5)) aNil)))))
  (sSeq (sIf (tBl (eOp oGt (eVar 1) (eC (.int 4)))) (sSet (.nm 2) (eC (.int 5))) sSkip)
  (sSeq (sIf (tBl (eOp (oEq false) (eCall i_law_take (aCons (eVar 0) (aCons (eC (.int 24)) aNil))) (eC (.int 0)))) (sSeq (sSet (.nm 1) (eC (.int 64)))
  (sSet (.nm 2) (eC (.int 7)))) sSkip)
  (sSeq (sSet (.nm 3) (eCall i_law_words (aCons (eVar 0) (aCons (eVar 2) (aCons (eVar 1) aNil)))))
  (sSeq (sSet (.nm 4) (eCall i_law_words (aCons (eVar 0) (aCons (eC (.int 7)) (aCons (eOp oAdd (eBf bLen (aCons (eVar 3) aNil)) (eBf bInt (aCons (eAnd (eOp (oEq false) (eCall i_law_take (aCons (eVar 0) (aCons (eC (.int 4)) aNil))) (eC (.int 0))) (eOp oLt (eBf bLen (aCons (eVar 3) aNil)) (eC (.int 64)))) aNil))) aNil)))))
  (sRet (eTup (aCons (eCall i_law_book (aCons (eVar 2) (aCons (eVar 3) aNil))) (aCons (eCall i_law_book (aCons (eC (.int 7)) (aCons (eVar 4) aNil))) aNil))))))))))
abbrev D_law_two_books : MDef := ⟨1, 5, m_law_two_books⟩
/-- _law_sides_hold(first, second, one, two); 0=first 1=second 2=one 3=two 4=plan 5=limit 6=right 7=sizes 8=size -/
def m_law_sides_hold : SS := (sSeq (sSet (.nm 4) (eCall i_law_ask (aCons (eC (.str "side")) (aCons (eVar 0) (aCons (eVar 1) aNil)))))
  (sSeq (sSet (.nm 5) (eCall i_law_ask (aCons (eC (.str "limit")) (aCons (eVar 2) (aCons (eVar 3) aNil)))))
  (sSeq (sIf (tOr (tNot (tVal (eCall i_law_same (aCons (eVar 4) (aCons (eCall i_law_due_side (aCons (eVar 0) (aCons (eVar 1) aNil))) aNil))))) (tNot (tVal (eCall i_law_same (aCons (eVar 5) (aCons (eCall i_law_due_limit (aCons (eVar 2) (aCons (eVar 3) aNil))) aNil)))))) (sRet (eC (.bl false))) sSkip)
  (sSeq (sIf (tAnd (tBl (eOp (oEq false) (eOp oGet (eVar 4) (eC (.int 0))) (eC (.str "given")))) (tBl (eOp (oEq false) (eOp oGet (eVar 5) (eC (.int 0))) (eC (.str "given"))))) (sSeq (sSet (.nm 6) (eAnd (eOp (oEq false) (eBf bLen (aCons (eCall i_law_bars (aCons (eVar 0) (aCons (eVar 2) aNil))) aNil)) (eC (.int 0))) (eOp (oEq false) (eBf bLen (aCons (eCall i_law_bars (aCons (eVar 1) (aCons (eVar 3) aNil))) aNil)) (eC (.int 0)))))
  (sIf (tNot (tVal (eCall i_law_same (aCons (eCall i_is_right (aCons (eOp oGet (eVar 4) (eC (.int 1))) (aCons (eOp oGet (eVar 5) (eC (.int 1))) aNil))) (aCons (eVar 6) aNil))))) (sRet (eC (.bl false))) sSkip)) sSkip)
  (sSeq (sIf (tBl (eOp (oEq false) (eOp oGet (eVar 4) (eC (.int 0))) (eC (.str "given")))) (sSeq (sSet (.nm 7) (eLc (iSeq (eLst (aCons (eCall i_law_greatest_even (aCons (eVar 0) aNil)) (aCons (eCall i_law_greatest_even (aCons (eVar 1) aNil)) aNil)))) (.nm 8) (tBl (eOp (oIs true) (eVar 8) (eC .non))) (eVar 8) [8]))
  (sSeq (sIf (tBl (eOp (oEq false) (eBf bLen (aCons (eVar 7) aNil)) (eC (.int 0)))) (sRet (eOp (oIs false) (eCall i_greatest_even (aCons (eOp oGet (eVar 4) (eC (.int 1))) aNil)) (eC .non))) sSkip)
  (sRet (eCall i_law_same (aCons (eCall i_greatest_even (aCons (eOp oGet (eVar 4) (eC (.int 1))) aNil)) (aCons (eBf bMin (aCons (eVar 7) aNil)) aNil)))))) sSkip)
  (sRet (eC (.bl true))))))))
abbrev D_law_sides_hold : MDef := ⟨4, 9, m_law_sides_hold⟩
/-- _law_pairs_hold(first, second); 0=first 1=second 2=found 3=one 4=two 5=least 6=at -/
def m_law_pairs_hold : SS := (sSeq (sSet (.nm 2) (eCall i_law_ask (aCons (eC (.str "paired")) (aCons (eVar 0) (aCons (eVar 1) aNil)))))
  (sSeq (sIf (tNot (tVal (eCall i_law_same (aCons (eVar 2) (aCons (eCall i_law_due_paired (aCons (eVar 0) (aCons (eVar 1) aNil))) aNil))))) (sRet (eC (.bl false))) sSkip)
  (sSeq (sIf (tBl (eOp (oEq false) (eOp oGet (eVar 2) (eC (.int 0))) (eC (.str "given")))) (sSeq (sSet (.nm 3) (eCall i_law_pairs (aCons (eVar 0) aNil)))
  (sSeq (sSet (.nm 4) (eCall i_law_pairs (aCons (eVar 1) aNil)))
  (sSeq (sSet (.nm 5) (eC .non))
  (sSeq (sIf (tBl (eOp oGt (eBf bLen (aCons (eVar 3) aNil)) (eC (.int 0)))) (sSet (.nm 5) (eOp oSub (eBf bMin (aCons (eLc (iRg (rg1 (eBf bLen (aCons (eVar 3) aNil)))) (.nm 6) tYes (eOp oAdd (eBf bLen (aCons (eOp oGet (eOp oGet (eVar 3) (eVar 6)) (eC (.int 3))) aNil)) (eBf bLen (aCons (eOp oGet (eOp oGet (eVar 4) (eVar 6)) (eC (.int 3))) aNil))) [6]) aNil)) (eC (.int 1)))) sSkip)
  (sRet (eCall i_law_same (aCons (eCall i_greatest_even (aCons (eOp oGet (eVar 2) (eC (.int 1))) aNil)) (aCons (eVar 5) aNil)))))))) sSkip)
  (sRet (eC (.bl true))))))
abbrev D_law_pairs_hold : MDef := ⟨2, 7, m_law_pairs_hold⟩
/-- law(script); 0=script 1=store 2=first 3=second 4=one 5=two 6=count 7=left 8=right 9=small 10=state -/
def m_law : SS := (sSeq (sSet (.nm 1) (eCall i_law_store (aCons (eVar 0) aNil)))
  (sSeq (sSet (.tp [(.nm 2), (.nm 3)]) (eCall i_law_two_plans (aCons (eVar 1) aNil)))
  (sSeq (sSet (.nm 4) (eCall i_law_any_limit (aCons (eVar 1) (aCons (eVar 2) aNil))))
  (sSeq (sSet (.nm 5) (eCall i_law_any_limit (aCons (eVar 1) (aCons (eVar 3) aNil))))
  (sSeq (sIf (tBl (eOp (oEq false) (eCall i_law_take (aCons (eVar 1) (aCons (eC (.int 12)) aNil))) (eC (.int 0)))) (sSeq (sSet (.nm 6) (eCall i_law_take (aCons (eVar 1) (aCons (eC (.int 13)) aNil))))
  (sSeq (sSet (.nm 4) (eCall i_law_many_clauses (aCons (eVar 1) (aCons (eOp oGet (eVar 2) (eC (.int 0))) (aCons (eVar 6) aNil)))))
  (sSet (.nm 5) (eCall i_law_many_clauses (aCons (eVar 1) (aCons (eOp oGet (eVar 3) (eC (.int 0))) (aCons (eBf bMin (aCons (eC (.int 12)) (aCons (eOp oAdd (eOp oSub (eC (.int 12)) (eVar 6)) (eCall i_law_take (aCons (eVar 1) (aCons (eC (.int 2)) aNil)))) aNil))) aNil))))))) sSkip)
  (sSeq (sIf (tNot (tVal (eCall i_law_sides_hold (aCons (eVar 2) (aCons (eVar 3) (aCons (eVar 4) (aCons (eVar 5) aNil))))))) (sRet (eC (.bl false))) sSkip)
  (sSeq (sSet (.tp [(.nm 7), (.nm 8)]) (eCall i_law_two_books (aCons (eVar 1) aNil)))
  (sSeq (sIf (tOr (tNot (tVal (eCall i_law_pairs_hold (aCons (eVar 7) (aCons (eVar 8) aNil))))) (tNot (tVal (eCall i_law_pairs_hold (aCons (eVar 2) (aCons (eVar 3) aNil)))))) (sRet (eC (.bl false))) sSkip)
  (sSeq (sSet (.nm 9) (eOp oLt (eOp oMul (eBf bSum (aCons (eLc (iSeq (eOp oGet (eVar 2) (eC (.int 1)))) (.nm 10) tYes (eBf bLen (aCons (eVar 10) aNil)) [10]) aNil)) (eBf bSum (aCons (eLc (iSeq (eOp oGet (eVar 3) (eC (.int 1)))) (.nm 10) tYes (eBf bLen (aCons (eVar 10) aNil)) [10]) aNil))) (eC (.int 40))))
  (sSeq (sIf (tAnd (tVal (eVar 9)) (tNot (tVal (eCall i_law_sides_hold (aCons (eVar 3) (aCons (eVar 2) (aCons (eVar 5) (aCons (eVar 4) aNil)))))))) (sRet (eC (.bl false))) sSkip)
  (sRet (eCall i_law_same (aCons (eCall i_law_ask (aCons (eC (.str "side")) (aCons (eVar 2) (aCons (eVar 3) aNil)))) (aCons (eCall i_law_due_side (aCons (eVar 2) (aCons (eVar 3) aNil))) aNil))))))))))))))
abbrev D_law : MDef := ⟨1, 11, m_law⟩
def Dl0 : List MDef := [D_same_parts, D_BadSize, D_NoWire, D_NotBook, D_BadState, D_BadNumber, D_BadFit, D_TooMany, D_whole_within, D_moved, D_is_whole, D_is_index, D_copied, D_check_state, D_is_book, D_words_of, D_book_words, D_check_book, D_check_total, D_book_made, D_pairs_found, D_side_state, D_side, D_side_limit, D_paired, D_check_fit, D_wire_table, D_count_in, D_clause_tables, D_first_beyond]
def Dl1 : List MDef := [D_word_pairs, D_plan_pairs, D_least_gap, D_first_bar, D_is_right, D_greatest_even, D_law_mixed, D_law_store, D_law_take, D_law_number, D_law_size, D_law_order, D_law_power, D_law_kind, D_law_same, D_law_mask_word, D_law_masks, D_law_words, D_law_pruned, D_law_book, D_law_plan, D_law_less, D_law_clauses, D_law_within, D_law_pairs, D_law_bars, D_law_greatest_even, D_law_joined, D_law_met, D_law_due_side]
def Dl2 : List MDef := [D_law_due_limit, D_law_due_paired, D_law_ask, D_law_any_limit, D_law_many_clauses, D_law_two_plans, D_law_two_books, D_law_sides_hold, D_law_pairs_hold, D_law]
def D : List MDef := Dl0 ++ Dl1 ++ Dl2
end K75
end
section
set_option maxRecDepth 100000
set_option maxHeartbeats 0
namespace K75
open PySem PySem.Spec PyProof.Rows L2 EP
theorem c0 : comp (mkΓ ["value", "part"] (defScope (top 1)) tab false) (defBody (top 1)) = some m_same_parts := by kernel_rfl
theorem c1 : iniC (mkΓ ("self" :: ["size"]) (defScope (inClass (top 3) 0)) tab false) "same_parts" ["size"] 1 (defBody (inClass (top 3) 0)) = true := by kernel_rfl
theorem c2 : iniC (mkΓ ("self" :: ["wire"]) (defScope (inClass (top 4) 0)) tab false) "same_parts" ["wire"] 1 (defBody (inClass (top 4) 0)) = true := by kernel_rfl
theorem c3 : iniC (mkΓ ("self" :: ["states"]) (defScope (inClass (top 5) 0)) tab false) "same_parts" ["states"] 1 (defBody (inClass (top 5) 0)) = true := by kernel_rfl
theorem c4 : iniC (mkΓ ("self" :: ["value"]) (defScope (inClass (top 6) 0)) tab false) "same_parts" ["value"] 1 (defBody (inClass (top 6) 0)) = true := by kernel_rfl
theorem c5 : iniC (mkΓ ("self" :: ["place"]) (defScope (inClass (top 7) 0)) tab false) "same_parts" ["place"] 1 (defBody (inClass (top 7) 0)) = true := by kernel_rfl
theorem c6 : iniC (mkΓ ("self" :: ["left", "right"]) (defScope (inClass (top 8) 0)) tab false) "same_parts" ["left", "right"] 1 (defBody (inClass (top 8) 0)) = true := by kernel_rfl
theorem c7 : iniC (mkΓ ("self" :: ["what", "most"]) (defScope (inClass (top 9) 0)) tab false) "same_parts" ["what", "most"] 1 (defBody (inClass (top 9) 0)) = true := by kernel_rfl
theorem c8 : comp (mkΓ ["value", "least", "most"] (defScope (top 11)) tab false) (defBody (top 11)) = some m_whole_within := by kernel_rfl
theorem c9 : comp (mkΓ ["wires", "by", "wire"] (defScope (top 12)) tab false) (defBody (top 12)) = some m_moved := by kernel_rfl
theorem c10 : comp (mkΓ ["value"] (defScope (top 14)) tab false) (defBody (top 14)) = some m_is_whole := by kernel_rfl
theorem c11 : comp (mkΓ ["value", "many"] (defScope (top 15)) tab false) (defBody (top 15)) = some m_is_index := by kernel_rfl
theorem c12 : comp (mkΓ ["value", "part"] (defScope (top 16)) tab false) (defBody (top 16)) = some m_copied := by kernel_rfl
theorem c13 : comp (mkΓ ["plan", "state"] (defScope (top 17)) tab false) (defBody (top 17)) = some m_check_state := by kernel_rfl
theorem c14 : comp (mkΓ ["plan"] (defScope (top 18)) tab false) (defBody (top 18)) = some m_is_book := by kernel_rfl
theorem c15 : comp (mkΓ ["plan", "state", "word", "spare"] (defScope (top 19)) tab false) (defBody (top 19)) = some m_words_of := by kernel_rfl
theorem c16 : comp (mkΓ ["book"] (defScope (top 20)) tab false) (defBody (top 20)) = some m_book_words := by kernel_rfl
theorem c17 : comp (mkΓ ["book"] (defScope (top 22)) tab false) (defBody (top 22)) = some m_check_book := by kernel_rfl
theorem c18 : comp (mkΓ ["many"] (defScope (top 28)) tab false) (defBody (top 28)) = some m_check_total := by kernel_rfl
theorem c19 : comp (mkΓ ["n", "words", "word"] (defScope (top 29)) tab false) (defBody (top 29)) = some m_book_made := by kernel_rfl
theorem c20 : comp (mkΓ ["first", "second", "pairs", "seen", "at", "one", "other", "left", "right", "pair"] (defScope (top 30)) tab true) (defBody (top 30)) = some m_pairs_found := by kernel_rfl
theorem c21 : comp (mkΓ ["first", "second", "pair", "numbers", "state", "word", "after", "other", "other_after"] (defScope (top 31)) tab true) (defBody (top 31)) = some m_side_state := by kernel_rfl
theorem c22 : comp (mkΓ ["first", "second", "pairs", "many", "one", "other", "numbers", "number", "pair"] (defScope (top 32)) tab true) (defBody (top 32)) = some m_side := by kernel_rfl
theorem c23 : comp (mkΓ ["first", "second", "clauses", "wires", "bound"] (defScope (top 33)) tab false) (defBody (top 33)) = some m_side_limit := by kernel_rfl
theorem c24 : comp (mkΓ ["first", "second", "left", "right", "words", "word", "other"] (defScope (top 34)) tab false) (defBody (top 34)) = some m_paired := by kernel_rfl
theorem c25 : comp (mkΓ ["left", "right"] (defScope (top 36)) tab false) (defBody (top 36)) = some m_check_fit := by kernel_rfl
theorem c26 : comp (mkΓ ["wires", "wire"] (defScope (top 38)) tab false) (defBody (top 38)) = some m_wire_table := by kernel_rfl
theorem c27 : comp (mkΓ ["table", "wires", "wire"] (defScope (top 39)) tab false) (defBody (top 39)) = some m_count_in := by kernel_rfl
theorem c28 : comp (mkΓ ["limit", "wires", "bound"] (defScope (top 40)) tab false) (defBody (top 40)) = some m_clause_tables := by kernel_rfl
theorem c29 : comp (mkΓ ["tables", "wires", "place", "table", "bound"] (defScope (top 41)) tab false) (defBody (top 41)) = some m_first_beyond := by kernel_rfl
theorem c30 : comp (mkΓ ["words", "tables", "word", "found", "i", "left", "j", "table", "wire"] (defScope (top 42)) tab false) (defBody (top 42)) = some m_word_pairs := by kernel_rfl
theorem c31 : comp (mkΓ ["plan", "found", "state", "entries", "i", "j", "wires", "entry"] (defScope (top 43)) tab false) (defBody (top 43)) = some m_plan_pairs := by kernel_rfl
theorem c32 : comp (mkΓ ["pairs", "sizes", "pair"] (defScope (top 44)) tab false) (defBody (top 44)) = some m_least_gap := by kernel_rfl
theorem c33 : comp (mkΓ ["plan", "limit", "tables", "pair"] (defScope (top 45)) tab false) (defBody (top 45)) = some m_first_bar := by kernel_rfl
theorem c34 : comp (mkΓ ["plan", "limit"] (defScope (top 46)) tab false) (defBody (top 46)) = some m_is_right := by kernel_rfl
theorem c35 : comp (mkΓ ["plan"] (defScope (top 47)) tab false) (defBody (top 47)) = some m_greatest_even := by kernel_rfl
theorem c36 : comp (mkΓ ["number", "step", "one", "two", "three"] (defScope (top 49)) tab false) (defBody (top 49)) = some m_law_mixed := by kernel_rfl
theorem c37 : comp (mkΓ ["script", "cells", "seed", "cell"] (defScope (top 50)) tab false) (defBody (top 50)) = some m_law_store := by kernel_rfl
theorem c38 : comp (mkΓ ["store", "count", "cells", "at", "cell", "found"] (defScope (top 51)) tab false) (defBody (top 51)) = some m_law_take := by kernel_rfl
theorem c39 : comp (mkΓ ["store", "least", "high", "share"] (defScope (top 52)) tab false) (defBody (top 52)) = some m_law_number := by kernel_rfl
theorem c40 : comp (mkΓ ["store", "least", "usual", "high", "share"] (defScope (top 53)) tab false) (defBody (top 53)) = some m_law_size := by kernel_rfl
theorem c41 : comp (mkΓ ["store", "count", "pool", "share", "found", "step", "at"] (defScope (top 54)) tab false) (defBody (top 54)) = some m_law_order := by kernel_rfl
theorem c42 : comp (mkΓ ["base", "count", "number", "step"] (defScope (top 55)) tab false) (defBody (top 55)) = some m_law_power := by kernel_rfl
theorem c43 : comp (mkΓ ["value"] (defScope (top 56)) tab false) (defBody (top 56)) = some m_law_kind := by kernel_rfl
theorem c44 : comp (mkΓ ["left", "right", "pairs", "one", "two", "kind", "at"] (defScope (top 57)) tab false) (defBody (top 57)) = some m_law_same := by kernel_rfl
theorem c45 : comp (mkΓ ["mask", "n", "wires", "rest", "wire"] (defScope (top 58)) tab false) (defBody (top 58)) = some m_law_mask_word := by kernel_rfl
theorem c46 : comp (mkΓ ["store", "n", "count", "high", "thin", "found", "step", "one", "two", "mask", "move"] (defScope (top 59)) tab false) (defBody (top 59)) = some m_law_masks := by kernel_rfl
theorem c47 : comp (mkΓ ["store", "n", "count", "mask"] (defScope (top 60)) tab false) (defBody (top 60)) = some m_law_words := by kernel_rfl
theorem c48 : comp (mkΓ ["words", "kept", "word", "fine", "other"] (defScope (top 61)) tab false) (defBody (top 61)) = some m_law_pruned := by kernel_rfl
theorem c49 : comp (mkΓ ["n", "words", "word"] (defScope (top 62)) tab false) (defBody (top 62)) = some m_law_book := by kernel_rfl
theorem c50 : comp (mkΓ ["store", "n", "right", "count", "cap", "ring", "place", "follow", "at", "states", "state", "words", "earlier", "pair", "row", "word"] (defScope (top 63)) tab false) (defBody (top 63)) = some m_law_plan := by kernel_rfl
theorem c51 : comp (mkΓ ["left", "right", "wire"] (defScope (top 64)) tab false) (defBody (top 64)) = some m_law_less := by kernel_rfl
theorem c52 : comp (mkΓ ["store", "n", "rows", "step", "share", "bound"] (defScope (top 65)) tab false) (defBody (top 65)) = some m_law_clauses := by kernel_rfl
theorem c53 : comp (mkΓ ["limit", "lot", "clause", "wire"] (defScope (top 66)) tab false) (defBody (top 66)) = some m_law_within := by kernel_rfl
theorem c54 : comp (mkΓ ["plan", "found", "state", "row", "i", "j"] (defScope (top 67)) tab false) (defBody (top 67)) = some m_law_pairs := by kernel_rfl
theorem c55 : comp (mkΓ ["plan", "limit", "found", "state", "i", "j", "core", "lot", "wire"] (defScope (top 68)) tab false) (defBody (top 68)) = some m_law_bars := by kernel_rfl
theorem c56 : comp (mkΓ ["plan", "sizes", "pair"] (defScope (top 69)) tab false) (defBody (top 69)) = some m_law_greatest_even := by kernel_rfl
theorem c57 : comp (mkΓ ["low", "left", "right", "wire"] (defScope (top 70)) tab false) (defBody (top 70)) = some m_law_joined := by kernel_rfl
theorem c58 : comp (mkΓ ["first", "second", "met", "at", "one", "two"] (defScope (top 71)) tab false) (defBody (top 71)) = some m_law_met := by kernel_rfl
theorem c59 : comp (mkΓ ["first", "second", "met", "pair", "states", "row", "one", "two"] (defScope (top 72)) tab false) (defBody (top 72)) = some m_law_due_side := by kernel_rfl
theorem c60 : comp (mkΓ ["one", "two", "rows", "clause"] (defScope (top 73)) tab false) (defBody (top 73)) = some m_law_due_limit := by kernel_rfl
theorem c61 : comp (mkΓ ["first", "second", "plan", "one", "two", "words", "at"] (defScope (top 74)) tab false) (defBody (top 74)) = some m_law_due_paired := by kernel_rfl
theorem c62 : comp (mkΓ ["deed", "left", "right", "e", "mixed"] (defScope (top 75)) tab false) (defBody (top 75)) = some m_law_ask := by kernel_rfl
theorem c63 : comp (mkΓ ["store", "plan", "rows", "least"] (defScope (top 76)) tab false) (defBody (top 76)) = some m_law_any_limit := by kernel_rfl
theorem c64 : comp (mkΓ ["store", "n", "count", "rows", "step"] (defScope (top 77)) tab false) (defBody (top 77)) = some m_law_many_clauses := by kernel_rfl
theorem c65 : comp (mkΓ ["store", "share", "n", "rest", "count", "behind", "one", "menu", "two", "left"] (defScope (top 78)) tab false) (defBody (top 78)) = some m_law_two_plans := by kernel_rfl
theorem c66 : comp (mkΓ ["store", "count", "n", "left", "words"] (defScope (top 79)) tab false) (defBody (top 79)) = some m_law_two_books := by kernel_rfl
theorem c67 : comp (mkΓ ["first", "second", "one", "two", "plan", "limit", "right", "sizes", "size"] (defScope (top 80)) tab false) (defBody (top 80)) = some m_law_sides_hold := by kernel_rfl
theorem c68 : comp (mkΓ ["first", "second", "found", "one", "two", "least", "at"] (defScope (top 81)) tab false) (defBody (top 81)) = some m_law_pairs_hold := by kernel_rfl
theorem c69 : comp (mkΓ ["script", "store", "first", "second", "one", "two", "count", "left", "right", "small", "state"] (defScope (top 82)) tab false) (defBody (top 82)) = some m_law := by kernel_rfl
end K75
end
section
set_option maxRecDepth 100000
set_option maxHeartbeats 0
namespace K75
open PySem PySem.Spec PyProof.Rows L2 EP
def d0 : He.DefD := ⟨("same_parts", none), "same_parts", "same_parts", defArgs (top 1), defBody (top 1), defScope (top 1), [], []⟩
def d1 : He.DefD := ⟨("BadSize", some "__init__"), "__init__", "BadSize.__init__", defArgs (inClass (top 3) 0), defBody (inClass (top 3) 0), defScope (inClass (top 3) 0), [], []⟩
def d2 : He.DefD := ⟨("NoWire", some "__init__"), "__init__", "NoWire.__init__", defArgs (inClass (top 4) 0), defBody (inClass (top 4) 0), defScope (inClass (top 4) 0), [], []⟩
def d3 : He.DefD := ⟨("NotBook", some "__init__"), "__init__", "NotBook.__init__", defArgs (inClass (top 5) 0), defBody (inClass (top 5) 0), defScope (inClass (top 5) 0), [], []⟩
def d4 : He.DefD := ⟨("BadState", some "__init__"), "__init__", "BadState.__init__", defArgs (inClass (top 6) 0), defBody (inClass (top 6) 0), defScope (inClass (top 6) 0), [], []⟩
def d5 : He.DefD := ⟨("BadNumber", some "__init__"), "__init__", "BadNumber.__init__", defArgs (inClass (top 7) 0), defBody (inClass (top 7) 0), defScope (inClass (top 7) 0), [], []⟩
def d6 : He.DefD := ⟨("BadFit", some "__init__"), "__init__", "BadFit.__init__", defArgs (inClass (top 8) 0), defBody (inClass (top 8) 0), defScope (inClass (top 8) 0), [], []⟩
def d7 : He.DefD := ⟨("TooMany", some "__init__"), "__init__", "TooMany.__init__", defArgs (inClass (top 9) 0), defBody (inClass (top 9) 0), defScope (inClass (top 9) 0), [], []⟩
def d8 : He.DefD := ⟨("whole_within", none), "whole_within", "whole_within", defArgs (top 11), defBody (top 11), defScope (top 11), [], []⟩
def d9 : He.DefD := ⟨("moved", none), "moved", "moved", defArgs (top 12), defBody (top 12), defScope (top 12), [], []⟩
def d10 : He.DefD := ⟨("is_whole", none), "is_whole", "is_whole", defArgs (top 14), defBody (top 14), defScope (top 14), [], []⟩
def d11 : He.DefD := ⟨("is_index", none), "is_index", "is_index", defArgs (top 15), defBody (top 15), defScope (top 15), [], []⟩
def d12 : He.DefD := ⟨("copied", none), "copied", "copied", defArgs (top 16), defBody (top 16), defScope (top 16), [], []⟩
def d13 : He.DefD := ⟨("check_state", none), "check_state", "check_state", defArgs (top 17), defBody (top 17), defScope (top 17), [], []⟩
def d14 : He.DefD := ⟨("is_book", none), "is_book", "is_book", defArgs (top 18), defBody (top 18), defScope (top 18), [], []⟩
def d15 : He.DefD := ⟨("words_of", none), "words_of", "words_of", defArgs (top 19), defBody (top 19), defScope (top 19), [], []⟩
def d16 : He.DefD := ⟨("book_words", none), "book_words", "book_words", defArgs (top 20), defBody (top 20), defScope (top 20), [], []⟩
def d17 : He.DefD := ⟨("check_book", none), "check_book", "check_book", defArgs (top 22), defBody (top 22), defScope (top 22), [], []⟩
def d18 : He.DefD := ⟨("check_total", none), "check_total", "check_total", defArgs (top 28), defBody (top 28), defScope (top 28), [], []⟩
def d19 : He.DefD := ⟨("book_made", none), "book_made", "book_made", defArgs (top 29), defBody (top 29), defScope (top 29), [], []⟩
def d20 : He.DefD := ⟨("pairs_found", none), "pairs_found", "pairs_found", defArgs (top 30), defBody (top 30), defScope (top 30), [], []⟩
def d21 : He.DefD := ⟨("side_state", none), "side_state", "side_state", defArgs (top 31), defBody (top 31), defScope (top 31), [], []⟩
def d22 : He.DefD := ⟨("side", none), "side", "side", defArgs (top 32), defBody (top 32), defScope (top 32), [], []⟩
def d23 : He.DefD := ⟨("side_limit", none), "side_limit", "side_limit", defArgs (top 33), defBody (top 33), defScope (top 33), [], []⟩
def d24 : He.DefD := ⟨("paired", none), "paired", "paired", defArgs (top 34), defBody (top 34), defScope (top 34), [], []⟩
def d25 : He.DefD := ⟨("check_fit", none), "check_fit", "check_fit", defArgs (top 36), defBody (top 36), defScope (top 36), [], []⟩
def d26 : He.DefD := ⟨("wire_table", none), "wire_table", "wire_table", defArgs (top 38), defBody (top 38), defScope (top 38), [], []⟩
def d27 : He.DefD := ⟨("count_in", none), "count_in", "count_in", defArgs (top 39), defBody (top 39), defScope (top 39), [], []⟩
def d28 : He.DefD := ⟨("clause_tables", none), "clause_tables", "clause_tables", defArgs (top 40), defBody (top 40), defScope (top 40), [], []⟩
def d29 : He.DefD := ⟨("first_beyond", none), "first_beyond", "first_beyond", defArgs (top 41), defBody (top 41), defScope (top 41), [], []⟩
def d30 : He.DefD := ⟨("word_pairs", none), "word_pairs", "word_pairs", defArgs (top 42), defBody (top 42), defScope (top 42), [], []⟩
def d31 : He.DefD := ⟨("plan_pairs", none), "plan_pairs", "plan_pairs", defArgs (top 43), defBody (top 43), defScope (top 43), [], []⟩
def d32 : He.DefD := ⟨("least_gap", none), "least_gap", "least_gap", defArgs (top 44), defBody (top 44), defScope (top 44), [], []⟩
def d33 : He.DefD := ⟨("first_bar", none), "first_bar", "first_bar", defArgs (top 45), defBody (top 45), defScope (top 45), [], []⟩
def d34 : He.DefD := ⟨("is_right", none), "is_right", "is_right", defArgs (top 46), defBody (top 46), defScope (top 46), [], []⟩
def d35 : He.DefD := ⟨("greatest_even", none), "greatest_even", "greatest_even", defArgs (top 47), defBody (top 47), defScope (top 47), [], []⟩
def d36 : He.DefD := ⟨("_law_mixed", none), "_law_mixed", "_law_mixed", defArgs (top 49), defBody (top 49), defScope (top 49), [], []⟩
def d37 : He.DefD := ⟨("_law_store", none), "_law_store", "_law_store", defArgs (top 50), defBody (top 50), defScope (top 50), [], []⟩
def d38 : He.DefD := ⟨("_law_take", none), "_law_take", "_law_take", defArgs (top 51), defBody (top 51), defScope (top 51), [], []⟩
def d39 : He.DefD := ⟨("_law_number", none), "_law_number", "_law_number", defArgs (top 52), defBody (top 52), defScope (top 52), [], []⟩
def d40 : He.DefD := ⟨("_law_size", none), "_law_size", "_law_size", defArgs (top 53), defBody (top 53), defScope (top 53), [], []⟩
def d41 : He.DefD := ⟨("_law_order", none), "_law_order", "_law_order", defArgs (top 54), defBody (top 54), defScope (top 54), [], []⟩
def d42 : He.DefD := ⟨("_law_power", none), "_law_power", "_law_power", defArgs (top 55), defBody (top 55), defScope (top 55), [], []⟩
def d43 : He.DefD := ⟨("_law_kind", none), "_law_kind", "_law_kind", defArgs (top 56), defBody (top 56), defScope (top 56), [], []⟩
def d44 : He.DefD := ⟨("_law_same", none), "_law_same", "_law_same", defArgs (top 57), defBody (top 57), defScope (top 57), [], []⟩
def d45 : He.DefD := ⟨("_law_mask_word", none), "_law_mask_word", "_law_mask_word", defArgs (top 58), defBody (top 58), defScope (top 58), [], []⟩
def d46 : He.DefD := ⟨("_law_masks", none), "_law_masks", "_law_masks", defArgs (top 59), defBody (top 59), defScope (top 59), [], []⟩
def d47 : He.DefD := ⟨("_law_words", none), "_law_words", "_law_words", defArgs (top 60), defBody (top 60), defScope (top 60), [], []⟩
def d48 : He.DefD := ⟨("_law_pruned", none), "_law_pruned", "_law_pruned", defArgs (top 61), defBody (top 61), defScope (top 61), [], []⟩
def d49 : He.DefD := ⟨("_law_book", none), "_law_book", "_law_book", defArgs (top 62), defBody (top 62), defScope (top 62), [], []⟩
def d50 : He.DefD := ⟨("_law_plan", none), "_law_plan", "_law_plan", defArgs (top 63), defBody (top 63), defScope (top 63), [], []⟩
def d51 : He.DefD := ⟨("_law_less", none), "_law_less", "_law_less", defArgs (top 64), defBody (top 64), defScope (top 64), [], []⟩
def d52 : He.DefD := ⟨("_law_clauses", none), "_law_clauses", "_law_clauses", defArgs (top 65), defBody (top 65), defScope (top 65), [], []⟩
def d53 : He.DefD := ⟨("_law_within", none), "_law_within", "_law_within", defArgs (top 66), defBody (top 66), defScope (top 66), [], []⟩
def d54 : He.DefD := ⟨("_law_pairs", none), "_law_pairs", "_law_pairs", defArgs (top 67), defBody (top 67), defScope (top 67), [], []⟩
def d55 : He.DefD := ⟨("_law_bars", none), "_law_bars", "_law_bars", defArgs (top 68), defBody (top 68), defScope (top 68), [], []⟩
def d56 : He.DefD := ⟨("_law_greatest_even", none), "_law_greatest_even", "_law_greatest_even", defArgs (top 69), defBody (top 69), defScope (top 69), [], []⟩
def d57 : He.DefD := ⟨("_law_joined", none), "_law_joined", "_law_joined", defArgs (top 70), defBody (top 70), defScope (top 70), [], []⟩
def d58 : He.DefD := ⟨("_law_met", none), "_law_met", "_law_met", defArgs (top 71), defBody (top 71), defScope (top 71), [], []⟩
def d59 : He.DefD := ⟨("_law_due_side", none), "_law_due_side", "_law_due_side", defArgs (top 72), defBody (top 72), defScope (top 72), [], []⟩
def d60 : He.DefD := ⟨("_law_due_limit", none), "_law_due_limit", "_law_due_limit", defArgs (top 73), defBody (top 73), defScope (top 73), [], []⟩
def d61 : He.DefD := ⟨("_law_due_paired", none), "_law_due_paired", "_law_due_paired", defArgs (top 74), defBody (top 74), defScope (top 74), [], []⟩
def d62 : He.DefD := ⟨("_law_ask", none), "_law_ask", "_law_ask", defArgs (top 75), defBody (top 75), defScope (top 75), [], []⟩
def d63 : He.DefD := ⟨("_law_any_limit", none), "_law_any_limit", "_law_any_limit", defArgs (top 76), defBody (top 76), defScope (top 76), [], []⟩
def d64 : He.DefD := ⟨("_law_many_clauses", none), "_law_many_clauses", "_law_many_clauses", defArgs (top 77), defBody (top 77), defScope (top 77), [], []⟩
def d65 : He.DefD := ⟨("_law_two_plans", none), "_law_two_plans", "_law_two_plans", defArgs (top 78), defBody (top 78), defScope (top 78), [], []⟩
def d66 : He.DefD := ⟨("_law_two_books", none), "_law_two_books", "_law_two_books", defArgs (top 79), defBody (top 79), defScope (top 79), [], []⟩
def d67 : He.DefD := ⟨("_law_sides_hold", none), "_law_sides_hold", "_law_sides_hold", defArgs (top 80), defBody (top 80), defScope (top 80), [], []⟩
def d68 : He.DefD := ⟨("_law_pairs_hold", none), "_law_pairs_hold", "_law_pairs_hold", defArgs (top 81), defBody (top 81), defScope (top 81), [], []⟩
def d69 : He.DefD := ⟨("law", none), "law", "law", defArgs (top 82), defBody (top 82), defScope (top 82), [], []⟩
def fn_0 : List He.DefD := [d0, d1, d2, d3, d4, d5, d6, d7, d8, d9, d10, d11, d12, d13, d14, d15, d16, d17, d18, d19, d20, d21, d22, d23, d24, d25, d26, d27, d28, d29]
def fn_1 : List He.DefD := [d30, d31, d32, d33, d34, d35, d36, d37, d38, d39, d40, d41, d42, d43, d44, d45, d46, d47, d48, d49, d50, d51, d52, d53, d54, d55, d56, d57, d58, d59]
def fn_2 : List He.DefD := [d60, d61, d62, d63, d64, d65, d66, d67, d68, d69]
def fn : List He.DefD := fn_0 ++ fn_1 ++ fn_2
def fa_0 : List He.Fa := [.glo "same_parts", .glo "whole_within", .glo "moved", .glo "is_whole", .glo "is_index", .glo "copied", .glo "check_state", .glo "is_book", .glo "words_of", .glo "book_words", .glo "check_book", .glo "check_total", .glo "book_made", .glo "pairs_found", .glo "side_state", .glo "side", .glo "side_limit", .glo "paired", .glo "check_fit", .glo "wire_table", .glo "count_in", .glo "clause_tables", .glo "first_beyond", .glo "word_pairs", .glo "plan_pairs", .glo "least_gap", .glo "first_bar", .glo "is_right", .glo "greatest_even", .glo "_law_mixed"]
def fa_1 : List He.Fa := [.glo "_law_store", .glo "_law_take", .glo "_law_number", .glo "_law_size", .glo "_law_order", .glo "_law_power", .glo "_law_kind", .glo "_law_same", .glo "_law_mask_word", .glo "_law_masks", .glo "_law_words", .glo "_law_pruned", .glo "_law_book", .glo "_law_plan", .glo "_law_less", .glo "_law_clauses", .glo "_law_within", .glo "_law_pairs", .glo "_law_bars", .glo "_law_greatest_even", .glo "_law_joined", .glo "_law_met", .glo "_law_due_side", .glo "_law_due_limit", .glo "_law_due_paired", .glo "_law_ask", .glo "_law_any_limit", .glo "_law_many_clauses", .glo "_law_two_plans", .glo "_law_two_books"]
def fa_2 : List He.Fa := [.glo "_law_sides_hold", .glo "_law_pairs_hold", .glo "law"]
def fa : List He.Fa := fa_0 ++ fa_1 ++ fa_2
def loose_0 : List PySem.Str := ["same_parts", "PulseError", "BadSize", "NoWire", "NotBook", "BadState", "BadNumber", "BadFit", "TooMany", "whole_within", "moved", "is_whole", "is_index", "copied", "check_state", "is_book", "words_of", "book_words", "check_book", "MOST_WIRES", "MOST_STATES", "MOST_WORDS", "MOST_CLAUSES", "check_total", "book_made", "pairs_found", "side_state", "side", "side_limit", "paired"]
def loose_1 : List PySem.Str := ["check_fit", "wire_table", "count_in", "clause_tables", "first_beyond", "word_pairs", "plan_pairs", "least_gap", "first_bar", "is_right", "greatest_even", "_law_mixed", "_law_store", "_law_take", "_law_number", "_law_size", "_law_order", "_law_power", "_law_kind", "_law_same", "_law_mask_word", "_law_masks", "_law_words", "_law_pruned", "_law_book", "_law_plan", "_law_less", "_law_clauses", "_law_within", "_law_pairs"]
def loose_2 : List PySem.Str := ["_law_bars", "_law_greatest_even", "_law_joined", "_law_met", "_law_due_side", "_law_due_limit", "_law_due_paired", "_law_ask", "_law_any_limit", "_law_many_clauses", "_law_two_plans", "_law_two_books", "_law_sides_hold", "_law_pairs_hold"]
def loose : List PySem.Str := loose_0 ++ loose_1 ++ loose_2
abbrev R : PySem.W.OpenRow := PySem.W.OpenLaw.row PySem.Challenge.rw_earlypulses_k75_side_by_side
abbrev hk : PySem.W.Hook := hookP 4 fa fn (exB tab)
def ob (s : PySem.W.SharedT) : He.AlD := obsPG 4 fa fn (exB tab) (HandSHeadRun.getT s)
theorem ob_eq (s : PySem.W.SharedT) : ob s = hk.obs s.abs := obsPG_eq (HandSHeadRun.getT_eq s)
theorem run (w : World) : HandSHeadRun.RunEq R (PySem.W.view R.prog [82]) hk ob 20000 loose w := by
  intro os
  kernel_rfl
end K75
end
section
set_option maxRecDepth 100000
set_option maxHeartbeats 0
namespace K75
open PySem PySem.Spec PyProof.Rows L2 EP
section
variable {P : Program} {w : World} {K : PySem.W.Frag} {h base : Heap} {mg : Str → Option Value}
theorem b0 : BindOk d0 ["value"] := fun _ _ _ _ _ _ us hl => match us, hl with | [_], _ => by kernel_rfl
theorem f0 (c : SaysP fa fn (exB tab) K) (X : K.In h) (Gn : h.Ns mainGlobals mg) : FP P w K mg base tab D ((Str.ofString "same_parts"), 0, 1) := fp_of (N := ["value", "part"]) (ps := ["value"]) (tk := false) c.1 X Gn ⟨0, by rfl⟩ (d := d0) (by rfl) (by rfl) (by rfl) (by rfl) b0 (by kernel_rfl) c0 (by rfl)
theorem b1 : BindOk d1 ("self" :: ["size"]) := fun _ _ _ _ _ _ us hl => match us, hl with | [_, _], _ => by kernel_rfl
theorem x1 (c : SaysP fa fn (exB tab) K) (X : K.In h) (Gn : h.Ns mainGlobals mg) (F0 : ClsF K mg "BadSize" ["size"]) : XP P w K mg base tab D ((Str.ofString "BadSize"), 1, ["size"]) := xp_of (sp := 0) c.1 F0 (d := d1) (by rfl) (by rfl) (by rfl) (by rfl) b1 (by kernel_rfl) (by kernel_rfl) c1 (by rfl)
theorem b2 : BindOk d2 ("self" :: ["wire"]) := fun _ _ _ _ _ _ us hl => match us, hl with | [_, _], _ => by kernel_rfl
theorem x2 (c : SaysP fa fn (exB tab) K) (X : K.In h) (Gn : h.Ns mainGlobals mg) (F0 : ClsF K mg "NoWire" ["wire"]) : XP P w K mg base tab D ((Str.ofString "NoWire"), 2, ["wire"]) := xp_of (sp := 0) c.1 F0 (d := d2) (by rfl) (by rfl) (by rfl) (by rfl) b2 (by kernel_rfl) (by kernel_rfl) c2 (by rfl)
theorem b3 : BindOk d3 ("self" :: ["states"]) := fun _ _ _ _ _ _ us hl => match us, hl with | [_, _], _ => by kernel_rfl
theorem x3 (c : SaysP fa fn (exB tab) K) (X : K.In h) (Gn : h.Ns mainGlobals mg) (F0 : ClsF K mg "NotBook" ["states"]) : XP P w K mg base tab D ((Str.ofString "NotBook"), 3, ["states"]) := xp_of (sp := 0) c.1 F0 (d := d3) (by rfl) (by rfl) (by rfl) (by rfl) b3 (by kernel_rfl) (by kernel_rfl) c3 (by rfl)
theorem b4 : BindOk d4 ("self" :: ["value"]) := fun _ _ _ _ _ _ us hl => match us, hl with | [_, _], _ => by kernel_rfl
theorem x4 (c : SaysP fa fn (exB tab) K) (X : K.In h) (Gn : h.Ns mainGlobals mg) (F0 : ClsF K mg "BadState" ["value"]) : XP P w K mg base tab D ((Str.ofString "BadState"), 4, ["value"]) := xp_of (sp := 0) c.1 F0 (d := d4) (by rfl) (by rfl) (by rfl) (by rfl) b4 (by kernel_rfl) (by kernel_rfl) c4 (by rfl)
theorem b5 : BindOk d5 ("self" :: ["place"]) := fun _ _ _ _ _ _ us hl => match us, hl with | [_, _], _ => by kernel_rfl
theorem x5 (c : SaysP fa fn (exB tab) K) (X : K.In h) (Gn : h.Ns mainGlobals mg) (F0 : ClsF K mg "BadNumber" ["place"]) : XP P w K mg base tab D ((Str.ofString "BadNumber"), 5, ["place"]) := xp_of (sp := 0) c.1 F0 (d := d5) (by rfl) (by rfl) (by rfl) (by rfl) b5 (by kernel_rfl) (by kernel_rfl) c5 (by rfl)
theorem b6 : BindOk d6 ("self" :: ["left", "right"]) := fun _ _ _ _ _ _ us hl => match us, hl with | [_, _, _], _ => by kernel_rfl
theorem x6 (c : SaysP fa fn (exB tab) K) (X : K.In h) (Gn : h.Ns mainGlobals mg) (F0 : ClsF K mg "BadFit" ["left", "right"]) : XP P w K mg base tab D ((Str.ofString "BadFit"), 6, ["left", "right"]) := xp_of (sp := 0) c.1 F0 (d := d6) (by rfl) (by rfl) (by rfl) (by rfl) b6 (by kernel_rfl) (by kernel_rfl) c6 (by rfl)
theorem b7 : BindOk d7 ("self" :: ["what", "most"]) := fun _ _ _ _ _ _ us hl => match us, hl with | [_, _, _], _ => by kernel_rfl
theorem x7 (c : SaysP fa fn (exB tab) K) (X : K.In h) (Gn : h.Ns mainGlobals mg) (F0 : ClsF K mg "TooMany" ["what", "most"]) : XP P w K mg base tab D ((Str.ofString "TooMany"), 7, ["what", "most"]) := xp_of (sp := 0) c.1 F0 (d := d7) (by rfl) (by rfl) (by rfl) (by rfl) b7 (by kernel_rfl) (by kernel_rfl) c7 (by rfl)
theorem b8 : BindOk d8 ["value", "least", "most"] := fun _ _ _ _ _ _ us hl => match us, hl with | [_, _, _], _ => by kernel_rfl
theorem f8 (c : SaysP fa fn (exB tab) K) (X : K.In h) (Gn : h.Ns mainGlobals mg) : FP P w K mg base tab D ((Str.ofString "whole_within"), 8, 3) := fp_of (N := ["value", "least", "most"]) (ps := ["value", "least", "most"]) (tk := false) c.1 X Gn ⟨1, by rfl⟩ (d := d8) (by rfl) (by rfl) (by rfl) (by rfl) b8 (by kernel_rfl) c8 (by rfl)
theorem b9 : BindOk d9 ["wires", "by"] := fun _ _ _ _ _ _ us hl => match us, hl with | [_, _], _ => by kernel_rfl
theorem f9 (c : SaysP fa fn (exB tab) K) (X : K.In h) (Gn : h.Ns mainGlobals mg) : FP P w K mg base tab D ((Str.ofString "moved"), 9, 2) := fp_of (N := ["wires", "by", "wire"]) (ps := ["wires", "by"]) (tk := false) c.1 X Gn ⟨2, by rfl⟩ (d := d9) (by rfl) (by rfl) (by rfl) (by rfl) b9 (by kernel_rfl) c9 (by rfl)
theorem b10 : BindOk d10 ["value"] := fun _ _ _ _ _ _ us hl => match us, hl with | [_], _ => by kernel_rfl
theorem f10 (c : SaysP fa fn (exB tab) K) (X : K.In h) (Gn : h.Ns mainGlobals mg) : FP P w K mg base tab D ((Str.ofString "is_whole"), 10, 1) := fp_of (N := ["value"]) (ps := ["value"]) (tk := false) c.1 X Gn ⟨3, by rfl⟩ (d := d10) (by rfl) (by rfl) (by rfl) (by rfl) b10 (by kernel_rfl) c10 (by rfl)
theorem b11 : BindOk d11 ["value", "many"] := fun _ _ _ _ _ _ us hl => match us, hl with | [_, _], _ => by kernel_rfl
theorem f11 (c : SaysP fa fn (exB tab) K) (X : K.In h) (Gn : h.Ns mainGlobals mg) : FP P w K mg base tab D ((Str.ofString "is_index"), 11, 2) := fp_of (N := ["value", "many"]) (ps := ["value", "many"]) (tk := false) c.1 X Gn ⟨4, by rfl⟩ (d := d11) (by rfl) (by rfl) (by rfl) (by rfl) b11 (by kernel_rfl) c11 (by rfl)
theorem b12 : BindOk d12 ["value"] := fun _ _ _ _ _ _ us hl => match us, hl with | [_], _ => by kernel_rfl
theorem f12 (c : SaysP fa fn (exB tab) K) (X : K.In h) (Gn : h.Ns mainGlobals mg) : FP P w K mg base tab D ((Str.ofString "copied"), 12, 1) := fp_of (N := ["value", "part"]) (ps := ["value"]) (tk := false) c.1 X Gn ⟨5, by rfl⟩ (d := d12) (by rfl) (by rfl) (by rfl) (by rfl) b12 (by kernel_rfl) c12 (by rfl)
theorem b13 : BindOk d13 ["plan", "state"] := fun _ _ _ _ _ _ us hl => match us, hl with | [_, _], _ => by kernel_rfl
theorem f13 (c : SaysP fa fn (exB tab) K) (X : K.In h) (Gn : h.Ns mainGlobals mg) : FP P w K mg base tab D ((Str.ofString "check_state"), 13, 2) := fp_of (N := ["plan", "state"]) (ps := ["plan", "state"]) (tk := false) c.1 X Gn ⟨6, by rfl⟩ (d := d13) (by rfl) (by rfl) (by rfl) (by rfl) b13 (by kernel_rfl) c13 (by rfl)
theorem b14 : BindOk d14 ["plan"] := fun _ _ _ _ _ _ us hl => match us, hl with | [_], _ => by kernel_rfl
theorem f14 (c : SaysP fa fn (exB tab) K) (X : K.In h) (Gn : h.Ns mainGlobals mg) : FP P w K mg base tab D ((Str.ofString "is_book"), 14, 1) := fp_of (N := ["plan"]) (ps := ["plan"]) (tk := false) c.1 X Gn ⟨7, by rfl⟩ (d := d14) (by rfl) (by rfl) (by rfl) (by rfl) b14 (by kernel_rfl) c14 (by rfl)
theorem b15 : BindOk d15 ["plan", "state"] := fun _ _ _ _ _ _ us hl => match us, hl with | [_, _], _ => by kernel_rfl
theorem f15 (c : SaysP fa fn (exB tab) K) (X : K.In h) (Gn : h.Ns mainGlobals mg) : FP P w K mg base tab D ((Str.ofString "words_of"), 15, 2) := fp_of (N := ["plan", "state", "word", "spare"]) (ps := ["plan", "state"]) (tk := false) c.1 X Gn ⟨8, by rfl⟩ (d := d15) (by rfl) (by rfl) (by rfl) (by rfl) b15 (by kernel_rfl) c15 (by rfl)
theorem b16 : BindOk d16 ["book"] := fun _ _ _ _ _ _ us hl => match us, hl with | [_], _ => by kernel_rfl
theorem f16 (c : SaysP fa fn (exB tab) K) (X : K.In h) (Gn : h.Ns mainGlobals mg) : FP P w K mg base tab D ((Str.ofString "book_words"), 16, 1) := fp_of (N := ["book"]) (ps := ["book"]) (tk := false) c.1 X Gn ⟨9, by rfl⟩ (d := d16) (by rfl) (by rfl) (by rfl) (by rfl) b16 (by kernel_rfl) c16 (by rfl)
theorem b17 : BindOk d17 ["book"] := fun _ _ _ _ _ _ us hl => match us, hl with | [_], _ => by kernel_rfl
theorem f17 (c : SaysP fa fn (exB tab) K) (X : K.In h) (Gn : h.Ns mainGlobals mg) : FP P w K mg base tab D ((Str.ofString "check_book"), 17, 1) := fp_of (N := ["book"]) (ps := ["book"]) (tk := false) c.1 X Gn ⟨10, by rfl⟩ (d := d17) (by rfl) (by rfl) (by rfl) (by rfl) b17 (by kernel_rfl) c17 (by rfl)
theorem b18 : BindOk d18 ["many"] := fun _ _ _ _ _ _ us hl => match us, hl with | [_], _ => by kernel_rfl
theorem f18 (c : SaysP fa fn (exB tab) K) (X : K.In h) (Gn : h.Ns mainGlobals mg) : FP P w K mg base tab D ((Str.ofString "check_total"), 18, 1) := fp_of (N := ["many"]) (ps := ["many"]) (tk := false) c.1 X Gn ⟨11, by rfl⟩ (d := d18) (by rfl) (by rfl) (by rfl) (by rfl) b18 (by kernel_rfl) c18 (by rfl)
theorem b19 : BindOk d19 ["n", "words"] := fun _ _ _ _ _ _ us hl => match us, hl with | [_, _], _ => by kernel_rfl
theorem f19 (c : SaysP fa fn (exB tab) K) (X : K.In h) (Gn : h.Ns mainGlobals mg) : FP P w K mg base tab D ((Str.ofString "book_made"), 19, 2) := fp_of (N := ["n", "words", "word"]) (ps := ["n", "words"]) (tk := false) c.1 X Gn ⟨12, by rfl⟩ (d := d19) (by rfl) (by rfl) (by rfl) (by rfl) b19 (by kernel_rfl) c19 (by rfl)
theorem b20 : BindOk d20 ["first", "second"] := fun _ _ _ _ _ _ us hl => match us, hl with | [_, _], _ => by kernel_rfl
theorem f20 (c : SaysP fa fn (exB tab) K) (X : K.In h) (Gn : h.Ns mainGlobals mg) : FP P w K mg base tab D ((Str.ofString "pairs_found"), 20, 2) := fp_of (N := ["first", "second", "pairs", "seen", "at", "one", "other", "left", "right", "pair"]) (ps := ["first", "second"]) (tk := true) c.1 X Gn ⟨13, by rfl⟩ (d := d20) (by rfl) (by rfl) (by rfl) (by rfl) b20 (by kernel_rfl) c20 (by rfl)
theorem b21 : BindOk d21 ["first", "second", "pair", "numbers"] := fun _ _ _ _ _ _ us hl => match us, hl with | [_, _, _, _], _ => by kernel_rfl
theorem f21 (c : SaysP fa fn (exB tab) K) (X : K.In h) (Gn : h.Ns mainGlobals mg) : FP P w K mg base tab D ((Str.ofString "side_state"), 21, 4) := fp_of (N := ["first", "second", "pair", "numbers", "state", "word", "after", "other", "other_after"]) (ps := ["first", "second", "pair", "numbers"]) (tk := true) c.1 X Gn ⟨14, by rfl⟩ (d := d21) (by rfl) (by rfl) (by rfl) (by rfl) b21 (by kernel_rfl) c21 (by rfl)
theorem b22 : BindOk d22 ["first", "second"] := fun _ _ _ _ _ _ us hl => match us, hl with | [_, _], _ => by kernel_rfl
theorem f22 (c : SaysP fa fn (exB tab) K) (X : K.In h) (Gn : h.Ns mainGlobals mg) : FP P w K mg base tab D ((Str.ofString "side"), 22, 2) := fp_of (N := ["first", "second", "pairs", "many", "one", "other", "numbers", "number", "pair"]) (ps := ["first", "second"]) (tk := true) c.1 X Gn ⟨15, by rfl⟩ (d := d22) (by rfl) (by rfl) (by rfl) (by rfl) b22 (by kernel_rfl) c22 (by rfl)
theorem b23 : BindOk d23 ["first", "second"] := fun _ _ _ _ _ _ us hl => match us, hl with | [_, _], _ => by kernel_rfl
theorem f23 (c : SaysP fa fn (exB tab) K) (X : K.In h) (Gn : h.Ns mainGlobals mg) : FP P w K mg base tab D ((Str.ofString "side_limit"), 23, 2) := fp_of (N := ["first", "second", "clauses", "wires", "bound"]) (ps := ["first", "second"]) (tk := false) c.1 X Gn ⟨16, by rfl⟩ (d := d23) (by rfl) (by rfl) (by rfl) (by rfl) b23 (by kernel_rfl) c23 (by rfl)
theorem b24 : BindOk d24 ["first", "second"] := fun _ _ _ _ _ _ us hl => match us, hl with | [_, _], _ => by kernel_rfl
theorem f24 (c : SaysP fa fn (exB tab) K) (X : K.In h) (Gn : h.Ns mainGlobals mg) : FP P w K mg base tab D ((Str.ofString "paired"), 24, 2) := fp_of (N := ["first", "second", "left", "right", "words", "word", "other"]) (ps := ["first", "second"]) (tk := false) c.1 X Gn ⟨17, by rfl⟩ (d := d24) (by rfl) (by rfl) (by rfl) (by rfl) b24 (by kernel_rfl) c24 (by rfl)
theorem b25 : BindOk d25 ["left", "right"] := fun _ _ _ _ _ _ us hl => match us, hl with | [_, _], _ => by kernel_rfl
theorem f25 (c : SaysP fa fn (exB tab) K) (X : K.In h) (Gn : h.Ns mainGlobals mg) : FP P w K mg base tab D ((Str.ofString "check_fit"), 25, 2) := fp_of (N := ["left", "right"]) (ps := ["left", "right"]) (tk := false) c.1 X Gn ⟨18, by rfl⟩ (d := d25) (by rfl) (by rfl) (by rfl) (by rfl) b25 (by kernel_rfl) c25 (by rfl)
theorem b26 : BindOk d26 ["wires"] := fun _ _ _ _ _ _ us hl => match us, hl with | [_], _ => by kernel_rfl
theorem f26 (c : SaysP fa fn (exB tab) K) (X : K.In h) (Gn : h.Ns mainGlobals mg) : FP P w K mg base tab D ((Str.ofString "wire_table"), 26, 1) := fp_of (N := ["wires", "wire"]) (ps := ["wires"]) (tk := false) c.1 X Gn ⟨19, by rfl⟩ (d := d26) (by rfl) (by rfl) (by rfl) (by rfl) b26 (by kernel_rfl) c26 (by rfl)
theorem b27 : BindOk d27 ["table", "wires"] := fun _ _ _ _ _ _ us hl => match us, hl with | [_, _], _ => by kernel_rfl
theorem f27 (c : SaysP fa fn (exB tab) K) (X : K.In h) (Gn : h.Ns mainGlobals mg) : FP P w K mg base tab D ((Str.ofString "count_in"), 27, 2) := fp_of (N := ["table", "wires", "wire"]) (ps := ["table", "wires"]) (tk := false) c.1 X Gn ⟨20, by rfl⟩ (d := d27) (by rfl) (by rfl) (by rfl) (by rfl) b27 (by kernel_rfl) c27 (by rfl)
theorem b28 : BindOk d28 ["limit"] := fun _ _ _ _ _ _ us hl => match us, hl with | [_], _ => by kernel_rfl
theorem f28 (c : SaysP fa fn (exB tab) K) (X : K.In h) (Gn : h.Ns mainGlobals mg) : FP P w K mg base tab D ((Str.ofString "clause_tables"), 28, 1) := fp_of (N := ["limit", "wires", "bound"]) (ps := ["limit"]) (tk := false) c.1 X Gn ⟨21, by rfl⟩ (d := d28) (by rfl) (by rfl) (by rfl) (by rfl) b28 (by kernel_rfl) c28 (by rfl)
theorem b29 : BindOk d29 ["tables", "wires"] := fun _ _ _ _ _ _ us hl => match us, hl with | [_, _], _ => by kernel_rfl
theorem f29 (c : SaysP fa fn (exB tab) K) (X : K.In h) (Gn : h.Ns mainGlobals mg) : FP P w K mg base tab D ((Str.ofString "first_beyond"), 29, 2) := fp_of (N := ["tables", "wires", "place", "table", "bound"]) (ps := ["tables", "wires"]) (tk := false) c.1 X Gn ⟨22, by rfl⟩ (d := d29) (by rfl) (by rfl) (by rfl) (by rfl) b29 (by kernel_rfl) c29 (by rfl)
theorem b30 : BindOk d30 ["words"] := fun _ _ _ _ _ _ us hl => match us, hl with | [_], _ => by kernel_rfl
theorem f30 (c : SaysP fa fn (exB tab) K) (X : K.In h) (Gn : h.Ns mainGlobals mg) : FP P w K mg base tab D ((Str.ofString "word_pairs"), 30, 1) := fp_of (N := ["words", "tables", "word", "found", "i", "left", "j", "table", "wire"]) (ps := ["words"]) (tk := false) c.1 X Gn ⟨23, by rfl⟩ (d := d30) (by rfl) (by rfl) (by rfl) (by rfl) b30 (by kernel_rfl) c30 (by rfl)
theorem b31 : BindOk d31 ["plan"] := fun _ _ _ _ _ _ us hl => match us, hl with | [_], _ => by kernel_rfl
theorem f31 (c : SaysP fa fn (exB tab) K) (X : K.In h) (Gn : h.Ns mainGlobals mg) : FP P w K mg base tab D ((Str.ofString "plan_pairs"), 31, 1) := fp_of (N := ["plan", "found", "state", "entries", "i", "j", "wires", "entry"]) (ps := ["plan"]) (tk := false) c.1 X Gn ⟨24, by rfl⟩ (d := d31) (by rfl) (by rfl) (by rfl) (by rfl) b31 (by kernel_rfl) c31 (by rfl)
theorem b32 : BindOk d32 ["pairs"] := fun _ _ _ _ _ _ us hl => match us, hl with | [_], _ => by kernel_rfl
theorem f32 (c : SaysP fa fn (exB tab) K) (X : K.In h) (Gn : h.Ns mainGlobals mg) : FP P w K mg base tab D ((Str.ofString "least_gap"), 32, 1) := fp_of (N := ["pairs", "sizes", "pair"]) (ps := ["pairs"]) (tk := false) c.1 X Gn ⟨25, by rfl⟩ (d := d32) (by rfl) (by rfl) (by rfl) (by rfl) b32 (by kernel_rfl) c32 (by rfl)
theorem b33 : BindOk d33 ["plan", "limit"] := fun _ _ _ _ _ _ us hl => match us, hl with | [_, _], _ => by kernel_rfl
theorem f33 (c : SaysP fa fn (exB tab) K) (X : K.In h) (Gn : h.Ns mainGlobals mg) : FP P w K mg base tab D ((Str.ofString "first_bar"), 33, 2) := fp_of (N := ["plan", "limit", "tables", "pair"]) (ps := ["plan", "limit"]) (tk := false) c.1 X Gn ⟨26, by rfl⟩ (d := d33) (by rfl) (by rfl) (by rfl) (by rfl) b33 (by kernel_rfl) c33 (by rfl)
theorem b34 : BindOk d34 ["plan", "limit"] := fun _ _ _ _ _ _ us hl => match us, hl with | [_, _], _ => by kernel_rfl
theorem f34 (c : SaysP fa fn (exB tab) K) (X : K.In h) (Gn : h.Ns mainGlobals mg) : FP P w K mg base tab D ((Str.ofString "is_right"), 34, 2) := fp_of (N := ["plan", "limit"]) (ps := ["plan", "limit"]) (tk := false) c.1 X Gn ⟨27, by rfl⟩ (d := d34) (by rfl) (by rfl) (by rfl) (by rfl) b34 (by kernel_rfl) c34 (by rfl)
theorem b35 : BindOk d35 ["plan"] := fun _ _ _ _ _ _ us hl => match us, hl with | [_], _ => by kernel_rfl
theorem f35 (c : SaysP fa fn (exB tab) K) (X : K.In h) (Gn : h.Ns mainGlobals mg) : FP P w K mg base tab D ((Str.ofString "greatest_even"), 35, 1) := fp_of (N := ["plan"]) (ps := ["plan"]) (tk := false) c.1 X Gn ⟨28, by rfl⟩ (d := d35) (by rfl) (by rfl) (by rfl) (by rfl) b35 (by kernel_rfl) c35 (by rfl)
theorem b36 : BindOk d36 ["number", "step"] := fun _ _ _ _ _ _ us hl => match us, hl with | [_, _], _ => by kernel_rfl
theorem f36 (c : SaysP fa fn (exB tab) K) (X : K.In h) (Gn : h.Ns mainGlobals mg) : FP P w K mg base tab D ((Str.ofString "_law_mixed"), 36, 2) := fp_of (N := ["number", "step", "one", "two", "three"]) (ps := ["number", "step"]) (tk := false) c.1 X Gn ⟨29, by rfl⟩ (d := d36) (by rfl) (by rfl) (by rfl) (by rfl) b36 (by kernel_rfl) c36 (by rfl)
theorem b37 : BindOk d37 ["script"] := fun _ _ _ _ _ _ us hl => match us, hl with | [_], _ => by kernel_rfl
theorem f37 (c : SaysP fa fn (exB tab) K) (X : K.In h) (Gn : h.Ns mainGlobals mg) : FP P w K mg base tab D ((Str.ofString "_law_store"), 37, 1) := fp_of (N := ["script", "cells", "seed", "cell"]) (ps := ["script"]) (tk := false) c.1 X Gn ⟨30, by rfl⟩ (d := d37) (by rfl) (by rfl) (by rfl) (by rfl) b37 (by kernel_rfl) c37 (by rfl)
theorem b38 : BindOk d38 ["store", "count"] := fun _ _ _ _ _ _ us hl => match us, hl with | [_, _], _ => by kernel_rfl
theorem f38 (c : SaysP fa fn (exB tab) K) (X : K.In h) (Gn : h.Ns mainGlobals mg) : FP P w K mg base tab D ((Str.ofString "_law_take"), 38, 2) := fp_of (N := ["store", "count", "cells", "at", "cell", "found"]) (ps := ["store", "count"]) (tk := false) c.1 X Gn ⟨31, by rfl⟩ (d := d38) (by rfl) (by rfl) (by rfl) (by rfl) b38 (by kernel_rfl) c38 (by rfl)
theorem b39 : BindOk d39 ["store", "least", "high"] := fun _ _ _ _ _ _ us hl => match us, hl with | [_, _, _], _ => by kernel_rfl
theorem f39 (c : SaysP fa fn (exB tab) K) (X : K.In h) (Gn : h.Ns mainGlobals mg) : FP P w K mg base tab D ((Str.ofString "_law_number"), 39, 3) := fp_of (N := ["store", "least", "high", "share"]) (ps := ["store", "least", "high"]) (tk := false) c.1 X Gn ⟨32, by rfl⟩ (d := d39) (by rfl) (by rfl) (by rfl) (by rfl) b39 (by kernel_rfl) c39 (by rfl)
theorem b40 : BindOk d40 ["store", "least", "usual", "high"] := fun _ _ _ _ _ _ us hl => match us, hl with | [_, _, _, _], _ => by kernel_rfl
theorem f40 (c : SaysP fa fn (exB tab) K) (X : K.In h) (Gn : h.Ns mainGlobals mg) : FP P w K mg base tab D ((Str.ofString "_law_size"), 40, 4) := fp_of (N := ["store", "least", "usual", "high", "share"]) (ps := ["store", "least", "usual", "high"]) (tk := false) c.1 X Gn ⟨33, by rfl⟩ (d := d40) (by rfl) (by rfl) (by rfl) (by rfl) b40 (by kernel_rfl) c40 (by rfl)
theorem b41 : BindOk d41 ["store", "count"] := fun _ _ _ _ _ _ us hl => match us, hl with | [_, _], _ => by kernel_rfl
theorem f41 (c : SaysP fa fn (exB tab) K) (X : K.In h) (Gn : h.Ns mainGlobals mg) : FP P w K mg base tab D ((Str.ofString "_law_order"), 41, 2) := fp_of (N := ["store", "count", "pool", "share", "found", "step", "at"]) (ps := ["store", "count"]) (tk := false) c.1 X Gn ⟨34, by rfl⟩ (d := d41) (by rfl) (by rfl) (by rfl) (by rfl) b41 (by kernel_rfl) c41 (by rfl)
theorem b42 : BindOk d42 ["base", "count"] := fun _ _ _ _ _ _ us hl => match us, hl with | [_, _], _ => by kernel_rfl
theorem f42 (c : SaysP fa fn (exB tab) K) (X : K.In h) (Gn : h.Ns mainGlobals mg) : FP P w K mg base tab D ((Str.ofString "_law_power"), 42, 2) := fp_of (N := ["base", "count", "number", "step"]) (ps := ["base", "count"]) (tk := false) c.1 X Gn ⟨35, by rfl⟩ (d := d42) (by rfl) (by rfl) (by rfl) (by rfl) b42 (by kernel_rfl) c42 (by rfl)
theorem b43 : BindOk d43 ["value"] := fun _ _ _ _ _ _ us hl => match us, hl with | [_], _ => by kernel_rfl
theorem f43 (c : SaysP fa fn (exB tab) K) (X : K.In h) (Gn : h.Ns mainGlobals mg) : FP P w K mg base tab D ((Str.ofString "_law_kind"), 43, 1) := fp_of (N := ["value"]) (ps := ["value"]) (tk := false) c.1 X Gn ⟨36, by rfl⟩ (d := d43) (by rfl) (by rfl) (by rfl) (by rfl) b43 (by kernel_rfl) c43 (by rfl)
theorem b44 : BindOk d44 ["left", "right"] := fun _ _ _ _ _ _ us hl => match us, hl with | [_, _], _ => by kernel_rfl
theorem f44 (c : SaysP fa fn (exB tab) K) (X : K.In h) (Gn : h.Ns mainGlobals mg) : FP P w K mg base tab D ((Str.ofString "_law_same"), 44, 2) := fp_of (N := ["left", "right", "pairs", "one", "two", "kind", "at"]) (ps := ["left", "right"]) (tk := false) c.1 X Gn ⟨37, by rfl⟩ (d := d44) (by rfl) (by rfl) (by rfl) (by rfl) b44 (by kernel_rfl) c44 (by rfl)
theorem b45 : BindOk d45 ["mask", "n"] := fun _ _ _ _ _ _ us hl => match us, hl with | [_, _], _ => by kernel_rfl
theorem f45 (c : SaysP fa fn (exB tab) K) (X : K.In h) (Gn : h.Ns mainGlobals mg) : FP P w K mg base tab D ((Str.ofString "_law_mask_word"), 45, 2) := fp_of (N := ["mask", "n", "wires", "rest", "wire"]) (ps := ["mask", "n"]) (tk := false) c.1 X Gn ⟨38, by rfl⟩ (d := d45) (by rfl) (by rfl) (by rfl) (by rfl) b45 (by kernel_rfl) c45 (by rfl)
theorem b46 : BindOk d46 ["store", "n", "count"] := fun _ _ _ _ _ _ us hl => match us, hl with | [_, _, _], _ => by kernel_rfl
theorem f46 (c : SaysP fa fn (exB tab) K) (X : K.In h) (Gn : h.Ns mainGlobals mg) : FP P w K mg base tab D ((Str.ofString "_law_masks"), 46, 3) := fp_of (N := ["store", "n", "count", "high", "thin", "found", "step", "one", "two", "mask", "move"]) (ps := ["store", "n", "count"]) (tk := false) c.1 X Gn ⟨39, by rfl⟩ (d := d46) (by rfl) (by rfl) (by rfl) (by rfl) b46 (by kernel_rfl) c46 (by rfl)
theorem b47 : BindOk d47 ["store", "n", "count"] := fun _ _ _ _ _ _ us hl => match us, hl with | [_, _, _], _ => by kernel_rfl
theorem f47 (c : SaysP fa fn (exB tab) K) (X : K.In h) (Gn : h.Ns mainGlobals mg) : FP P w K mg base tab D ((Str.ofString "_law_words"), 47, 3) := fp_of (N := ["store", "n", "count", "mask"]) (ps := ["store", "n", "count"]) (tk := false) c.1 X Gn ⟨40, by rfl⟩ (d := d47) (by rfl) (by rfl) (by rfl) (by rfl) b47 (by kernel_rfl) c47 (by rfl)
theorem b48 : BindOk d48 ["words"] := fun _ _ _ _ _ _ us hl => match us, hl with | [_], _ => by kernel_rfl
theorem f48 (c : SaysP fa fn (exB tab) K) (X : K.In h) (Gn : h.Ns mainGlobals mg) : FP P w K mg base tab D ((Str.ofString "_law_pruned"), 48, 1) := fp_of (N := ["words", "kept", "word", "fine", "other"]) (ps := ["words"]) (tk := false) c.1 X Gn ⟨41, by rfl⟩ (d := d48) (by rfl) (by rfl) (by rfl) (by rfl) b48 (by kernel_rfl) c48 (by rfl)
theorem b49 : BindOk d49 ["n", "words"] := fun _ _ _ _ _ _ us hl => match us, hl with | [_, _], _ => by kernel_rfl
theorem f49 (c : SaysP fa fn (exB tab) K) (X : K.In h) (Gn : h.Ns mainGlobals mg) : FP P w K mg base tab D ((Str.ofString "_law_book"), 49, 2) := fp_of (N := ["n", "words", "word"]) (ps := ["n", "words"]) (tk := false) c.1 X Gn ⟨42, by rfl⟩ (d := d49) (by rfl) (by rfl) (by rfl) (by rfl) b49 (by kernel_rfl) c49 (by rfl)
theorem b50 : BindOk d50 ["store", "n", "right", "count", "cap"] := fun _ _ _ _ _ _ us hl => match us, hl with | [_, _, _, _, _], _ => by kernel_rfl
theorem f50 (c : SaysP fa fn (exB tab) K) (X : K.In h) (Gn : h.Ns mainGlobals mg) : FP P w K mg base tab D ((Str.ofString "_law_plan"), 50, 5) := fp_of (N := ["store", "n", "right", "count", "cap", "ring", "place", "follow", "at", "states", "state", "words", "earlier", "pair", "row", "word"]) (ps := ["store", "n", "right", "count", "cap"]) (tk := false) c.1 X Gn ⟨43, by rfl⟩ (d := d50) (by rfl) (by rfl) (by rfl) (by rfl) b50 (by kernel_rfl) c50 (by rfl)
theorem b51 : BindOk d51 ["left", "right"] := fun _ _ _ _ _ _ us hl => match us, hl with | [_, _], _ => by kernel_rfl
theorem f51 (c : SaysP fa fn (exB tab) K) (X : K.In h) (Gn : h.Ns mainGlobals mg) : FP P w K mg base tab D ((Str.ofString "_law_less"), 51, 2) := fp_of (N := ["left", "right", "wire"]) (ps := ["left", "right"]) (tk := false) c.1 X Gn ⟨44, by rfl⟩ (d := d51) (by rfl) (by rfl) (by rfl) (by rfl) b51 (by kernel_rfl) c51 (by rfl)
theorem b52 : BindOk d52 ["store", "n"] := fun _ _ _ _ _ _ us hl => match us, hl with | [_, _], _ => by kernel_rfl
theorem f52 (c : SaysP fa fn (exB tab) K) (X : K.In h) (Gn : h.Ns mainGlobals mg) : FP P w K mg base tab D ((Str.ofString "_law_clauses"), 52, 2) := fp_of (N := ["store", "n", "rows", "step", "share", "bound"]) (ps := ["store", "n"]) (tk := false) c.1 X Gn ⟨45, by rfl⟩ (d := d52) (by rfl) (by rfl) (by rfl) (by rfl) b52 (by kernel_rfl) c52 (by rfl)
theorem b53 : BindOk d53 ["limit", "lot"] := fun _ _ _ _ _ _ us hl => match us, hl with | [_, _], _ => by kernel_rfl
theorem f53 (c : SaysP fa fn (exB tab) K) (X : K.In h) (Gn : h.Ns mainGlobals mg) : FP P w K mg base tab D ((Str.ofString "_law_within"), 53, 2) := fp_of (N := ["limit", "lot", "clause", "wire"]) (ps := ["limit", "lot"]) (tk := false) c.1 X Gn ⟨46, by rfl⟩ (d := d53) (by rfl) (by rfl) (by rfl) (by rfl) b53 (by kernel_rfl) c53 (by rfl)
theorem b54 : BindOk d54 ["plan"] := fun _ _ _ _ _ _ us hl => match us, hl with | [_], _ => by kernel_rfl
theorem f54 (c : SaysP fa fn (exB tab) K) (X : K.In h) (Gn : h.Ns mainGlobals mg) : FP P w K mg base tab D ((Str.ofString "_law_pairs"), 54, 1) := fp_of (N := ["plan", "found", "state", "row", "i", "j"]) (ps := ["plan"]) (tk := false) c.1 X Gn ⟨47, by rfl⟩ (d := d54) (by rfl) (by rfl) (by rfl) (by rfl) b54 (by kernel_rfl) c54 (by rfl)
theorem b55 : BindOk d55 ["plan", "limit"] := fun _ _ _ _ _ _ us hl => match us, hl with | [_, _], _ => by kernel_rfl
theorem f55 (c : SaysP fa fn (exB tab) K) (X : K.In h) (Gn : h.Ns mainGlobals mg) : FP P w K mg base tab D ((Str.ofString "_law_bars"), 55, 2) := fp_of (N := ["plan", "limit", "found", "state", "i", "j", "core", "lot", "wire"]) (ps := ["plan", "limit"]) (tk := false) c.1 X Gn ⟨48, by rfl⟩ (d := d55) (by rfl) (by rfl) (by rfl) (by rfl) b55 (by kernel_rfl) c55 (by rfl)
theorem b56 : BindOk d56 ["plan"] := fun _ _ _ _ _ _ us hl => match us, hl with | [_], _ => by kernel_rfl
theorem f56 (c : SaysP fa fn (exB tab) K) (X : K.In h) (Gn : h.Ns mainGlobals mg) : FP P w K mg base tab D ((Str.ofString "_law_greatest_even"), 56, 1) := fp_of (N := ["plan", "sizes", "pair"]) (ps := ["plan"]) (tk := false) c.1 X Gn ⟨49, by rfl⟩ (d := d56) (by rfl) (by rfl) (by rfl) (by rfl) b56 (by kernel_rfl) c56 (by rfl)
theorem b57 : BindOk d57 ["low", "left", "right"] := fun _ _ _ _ _ _ us hl => match us, hl with | [_, _, _], _ => by kernel_rfl
theorem f57 (c : SaysP fa fn (exB tab) K) (X : K.In h) (Gn : h.Ns mainGlobals mg) : FP P w K mg base tab D ((Str.ofString "_law_joined"), 57, 3) := fp_of (N := ["low", "left", "right", "wire"]) (ps := ["low", "left", "right"]) (tk := false) c.1 X Gn ⟨50, by rfl⟩ (d := d57) (by rfl) (by rfl) (by rfl) (by rfl) b57 (by kernel_rfl) c57 (by rfl)
theorem b58 : BindOk d58 ["first", "second"] := fun _ _ _ _ _ _ us hl => match us, hl with | [_, _], _ => by kernel_rfl
theorem f58 (c : SaysP fa fn (exB tab) K) (X : K.In h) (Gn : h.Ns mainGlobals mg) : FP P w K mg base tab D ((Str.ofString "_law_met"), 58, 2) := fp_of (N := ["first", "second", "met", "at", "one", "two"]) (ps := ["first", "second"]) (tk := false) c.1 X Gn ⟨51, by rfl⟩ (d := d58) (by rfl) (by rfl) (by rfl) (by rfl) b58 (by kernel_rfl) c58 (by rfl)
theorem b59 : BindOk d59 ["first", "second"] := fun _ _ _ _ _ _ us hl => match us, hl with | [_, _], _ => by kernel_rfl
theorem f59 (c : SaysP fa fn (exB tab) K) (X : K.In h) (Gn : h.Ns mainGlobals mg) : FP P w K mg base tab D ((Str.ofString "_law_due_side"), 59, 2) := fp_of (N := ["first", "second", "met", "pair", "states", "row", "one", "two"]) (ps := ["first", "second"]) (tk := false) c.1 X Gn ⟨52, by rfl⟩ (d := d59) (by rfl) (by rfl) (by rfl) (by rfl) b59 (by kernel_rfl) c59 (by rfl)
theorem b60 : BindOk d60 ["one", "two"] := fun _ _ _ _ _ _ us hl => match us, hl with | [_, _], _ => by kernel_rfl
theorem f60 (c : SaysP fa fn (exB tab) K) (X : K.In h) (Gn : h.Ns mainGlobals mg) : FP P w K mg base tab D ((Str.ofString "_law_due_limit"), 60, 2) := fp_of (N := ["one", "two", "rows", "clause"]) (ps := ["one", "two"]) (tk := false) c.1 X Gn ⟨53, by rfl⟩ (d := d60) (by rfl) (by rfl) (by rfl) (by rfl) b60 (by kernel_rfl) c60 (by rfl)
theorem b61 : BindOk d61 ["first", "second"] := fun _ _ _ _ _ _ us hl => match us, hl with | [_, _], _ => by kernel_rfl
theorem f61 (c : SaysP fa fn (exB tab) K) (X : K.In h) (Gn : h.Ns mainGlobals mg) : FP P w K mg base tab D ((Str.ofString "_law_due_paired"), 61, 2) := fp_of (N := ["first", "second", "plan", "one", "two", "words", "at"]) (ps := ["first", "second"]) (tk := false) c.1 X Gn ⟨54, by rfl⟩ (d := d61) (by rfl) (by rfl) (by rfl) (by rfl) b61 (by kernel_rfl) c61 (by rfl)
theorem b62 : BindOk d62 ["deed", "left", "right"] := fun _ _ _ _ _ _ us hl => match us, hl with | [_, _, _], _ => by kernel_rfl
theorem f62 (c : SaysP fa fn (exB tab) K) (X : K.In h) (Gn : h.Ns mainGlobals mg) : FP P w K mg base tab D ((Str.ofString "_law_ask"), 62, 3) := fp_of (N := ["deed", "left", "right", "e", "mixed"]) (ps := ["deed", "left", "right"]) (tk := false) c.1 X Gn ⟨55, by rfl⟩ (d := d62) (by rfl) (by rfl) (by rfl) (by rfl) b62 (by kernel_rfl) c62 (by rfl)
theorem b63 : BindOk d63 ["store", "plan"] := fun _ _ _ _ _ _ us hl => match us, hl with | [_, _], _ => by kernel_rfl
theorem f63 (c : SaysP fa fn (exB tab) K) (X : K.In h) (Gn : h.Ns mainGlobals mg) : FP P w K mg base tab D ((Str.ofString "_law_any_limit"), 63, 2) := fp_of (N := ["store", "plan", "rows", "least"]) (ps := ["store", "plan"]) (tk := false) c.1 X Gn ⟨56, by rfl⟩ (d := d63) (by rfl) (by rfl) (by rfl) (by rfl) b63 (by kernel_rfl) c63 (by rfl)
theorem b64 : BindOk d64 ["store", "n", "count"] := fun _ _ _ _ _ _ us hl => match us, hl with | [_, _, _], _ => by kernel_rfl
theorem f64 (c : SaysP fa fn (exB tab) K) (X : K.In h) (Gn : h.Ns mainGlobals mg) : FP P w K mg base tab D ((Str.ofString "_law_many_clauses"), 64, 3) := fp_of (N := ["store", "n", "count", "rows", "step"]) (ps := ["store", "n", "count"]) (tk := false) c.1 X Gn ⟨57, by rfl⟩ (d := d64) (by rfl) (by rfl) (by rfl) (by rfl) b64 (by kernel_rfl) c64 (by rfl)
theorem b65 : BindOk d65 ["store"] := fun _ _ _ _ _ _ us hl => match us, hl with | [_], _ => by kernel_rfl
theorem f65 (c : SaysP fa fn (exB tab) K) (X : K.In h) (Gn : h.Ns mainGlobals mg) : FP P w K mg base tab D ((Str.ofString "_law_two_plans"), 65, 1) := fp_of (N := ["store", "share", "n", "rest", "count", "behind", "one", "menu", "two", "left"]) (ps := ["store"]) (tk := false) c.1 X Gn ⟨58, by rfl⟩ (d := d65) (by rfl) (by rfl) (by rfl) (by rfl) b65 (by kernel_rfl) c65 (by rfl)
theorem b66 : BindOk d66 ["store"] := fun _ _ _ _ _ _ us hl => match us, hl with | [_], _ => by kernel_rfl
theorem f66 (c : SaysP fa fn (exB tab) K) (X : K.In h) (Gn : h.Ns mainGlobals mg) : FP P w K mg base tab D ((Str.ofString "_law_two_books"), 66, 1) := fp_of (N := ["store", "count", "n", "left", "words"]) (ps := ["store"]) (tk := false) c.1 X Gn ⟨59, by rfl⟩ (d := d66) (by rfl) (by rfl) (by rfl) (by rfl) b66 (by kernel_rfl) c66 (by rfl)
theorem b67 : BindOk d67 ["first", "second", "one", "two"] := fun _ _ _ _ _ _ us hl => match us, hl with | [_, _, _, _], _ => by kernel_rfl
theorem f67 (c : SaysP fa fn (exB tab) K) (X : K.In h) (Gn : h.Ns mainGlobals mg) : FP P w K mg base tab D ((Str.ofString "_law_sides_hold"), 67, 4) := fp_of (N := ["first", "second", "one", "two", "plan", "limit", "right", "sizes", "size"]) (ps := ["first", "second", "one", "two"]) (tk := false) c.1 X Gn ⟨60, by rfl⟩ (d := d67) (by rfl) (by rfl) (by rfl) (by rfl) b67 (by kernel_rfl) c67 (by rfl)
theorem b68 : BindOk d68 ["first", "second"] := fun _ _ _ _ _ _ us hl => match us, hl with | [_, _], _ => by kernel_rfl
theorem f68 (c : SaysP fa fn (exB tab) K) (X : K.In h) (Gn : h.Ns mainGlobals mg) : FP P w K mg base tab D ((Str.ofString "_law_pairs_hold"), 68, 2) := fp_of (N := ["first", "second", "found", "one", "two", "least", "at"]) (ps := ["first", "second"]) (tk := false) c.1 X Gn ⟨61, by rfl⟩ (d := d68) (by rfl) (by rfl) (by rfl) (by rfl) b68 (by kernel_rfl) c68 (by rfl)
theorem b69 : BindOk d69 ["script"] := fun _ _ _ _ _ _ us hl => match us, hl with | [_], _ => by kernel_rfl
theorem f69 (c : SaysP fa fn (exB tab) K) (X : K.In h) (Gn : h.Ns mainGlobals mg) : FP P w K mg base tab D ((Str.ofString "law"), 69, 1) := fp_of (N := ["script", "store", "first", "second", "one", "two", "count", "left", "right", "small", "state"]) (ps := ["script"]) (tk := false) c.1 X Gn ⟨62, by rfl⟩ (d := d69) (by rfl) (by rfl) (by rfl) (by rfl) b69 (by kernel_rfl) c69 (by rfl)
theorem allF (c : SaysP fa fn (exB tab) K) (X : K.In h) (Gn : h.Ns mainGlobals mg) : ∀ q ∈ tab.fns, FP P w K mg base tab D q := by
  unfold tab
  simp only [List.forall_mem_cons]
  exact ⟨f0 c X Gn, f8 c X Gn, f9 c X Gn, f10 c X Gn, f11 c X Gn, f12 c X Gn, f13 c X Gn, f14 c X Gn, f15 c X Gn, f16 c X Gn, f17 c X Gn, f18 c X Gn, f19 c X Gn, f20 c X Gn, f21 c X Gn, f22 c X Gn, f23 c X Gn, f24 c X Gn, f25 c X Gn, f26 c X Gn, f27 c X Gn, f28 c X Gn, f29 c X Gn, f30 c X Gn, f31 c X Gn, f32 c X Gn, f33 c X Gn, f34 c X Gn, f35 c X Gn, f36 c X Gn, f37 c X Gn, f38 c X Gn, f39 c X Gn, f40 c X Gn, f41 c X Gn, f42 c X Gn, f43 c X Gn, f44 c X Gn, f45 c X Gn, f46 c X Gn, f47 c X Gn, f48 c X Gn, f49 c X Gn, f50 c X Gn, f51 c X Gn, f52 c X Gn, f53 c X Gn, f54 c X Gn, f55 c X Gn, f56 c X Gn, f57 c X Gn, f58 c X Gn, f59 c X Gn, f60 c X Gn, f61 c X Gn, f62 c X Gn, f63 c X Gn, f64 c X Gn, f65 c X Gn, f66 c X Gn, f67 c X Gn, f68 c X Gn, f69 c X Gn, fun _ h => nomatch h⟩
theorem allX (c : SaysP fa fn (exB tab) K) (X : K.In h) (Gn : h.Ns mainGlobals mg) : ∀ q ∈ tab.excs, XP P w K mg base tab D q := by
  have c2 := c.2
  unfold exB at c2
  have c3 := List.all_eq_true.mp (Bool.and_eq_true_iff.mp c2).1
  unfold tab
  simp only [List.forall_mem_cons]
  exact ⟨x1 c X Gn (clsB_ok X Gn (c3 ((Str.ofString "BadSize"), [(Str.ofString "size")]) (by unfold tab; simp))), x2 c X Gn (clsB_ok X Gn (c3 ((Str.ofString "NoWire"), [(Str.ofString "wire")]) (by unfold tab; simp))), x3 c X Gn (clsB_ok X Gn (c3 ((Str.ofString "NotBook"), [(Str.ofString "states")]) (by unfold tab; simp))), x4 c X Gn (clsB_ok X Gn (c3 ((Str.ofString "BadState"), [(Str.ofString "value")]) (by unfold tab; simp))), x5 c X Gn (clsB_ok X Gn (c3 ((Str.ofString "BadNumber"), [(Str.ofString "place")]) (by unfold tab; simp))), x6 c X Gn (clsB_ok X Gn (c3 ((Str.ofString "BadFit"), [(Str.ofString "left"), (Str.ofString "right")]) (by unfold tab; simp))), x7 c X Gn (clsB_ok X Gn (c3 ((Str.ofString "TooMany"), [(Str.ofString "what"), (Str.ofString "most")]) (by unfold tab; simp))), fun _ h => nomatch h⟩
theorem facts (hT : ∀ ns : List Int, ns.length ≤ 63 → ∃ h', callK D 61 69 [.loc 0] [.fro (ns.map Dt.int)] = .ok (.bl true) h') {fl : Addr} (X : K.In h) (Gn : h.Ns mainGlobals mg) (hfa : mg ("law" : Str) = some (.ref fl)) (c : SaysP fa fn (exB tab) K) :
    ∃ fd : FuncData, (∀ (s : Shared) (v : Value), BindsTo s fd ⟨[v], []⟩ [("script", v)]) ∧ ∀ base : Heap, K.In base → base.Ns mainGlobals mg → FnOk P w K mg base (L2.CX P w) 122 fl fd ["script"] (spLaw K 63) := by
  obtain ⟨fd, F⟩ := c.1.def_ 69 (d := d69) (by rfl)
  have b := FunD.bindsA (ps := ["script"]) F b69
  have e := hfa.symm.trans (He.glo_ok X Gn (c.1.fact 62 (f := .glo "law") (by rfl)))
  cases e
  refine ⟨fd, fun s v => b s [v] rfl, fun base _ _ => ?_⟩
  have t := tabOk_of (P := P) (w := w) (base := base) rfl c X Gn (allF c X Gn) (allX c X Gn) 60
  have eg : callK D 61 69 = gOf D_law (callK D 60) := by
    funext args hh
    rfl
  refine law_ok (Ds := D) (k := 61) (n := 69) (by decide) ?_ hT
  rw [eg]
  exact fn_ok (ps := ["script"]) (N := ["script", "store", "first", "second", "one", "two", "count", "left", "right", "small", "state"]) false F (fnSc_ok (by kernel_rfl)) t c69
end
end K75
open PySem PySem.W PySem.Calls PyProof.Rows
theorem K75.holds (hT : ∀ ns : List Int, ns.length ≤ 63 → ∃ h', EP.callK K75.D 61 69 [.loc 0] [.fro (ns.map EP.Dt.int)] = .ok (.bl true) h') : PySem.Challenge.rw_earlypulses_k75_side_by_side.Holds := by
  w_on; o_law
  refine HandSHeadRun.head_any (r := OpenLaw.row PySem.Challenge.rw_earlypulses_k75_side_by_side) (q := view (OpenLaw.row PySem.Challenge.rw_earlypulses_k75_side_by_side).prog [82]) (H := K75.hk) (ob := K75.ob) (M := 20000) (loose := K75.loose) (d := HandSHeadRun.topDef (OpenLaw.row PySem.Challenge.rw_earlypulses_k75_side_by_side).prog 82) (kwd := []) K75.ob_eq
    (by kernel_rfl) (fun s => by kernel_rfl) K75.run (by kernel_rfl) (by kernel_rfl) (by kernel_rfl) (by rfl) (by first | assumption | decide +kernel) (by decide +kernel) ⟨rfl, rfl, rfl, rfl, rfl, by decide +kernel⟩ ?hw ?hc
  case hw => w_witness2
  case hc =>
    refine EP.walk_ofP (l := PySem.Challenge.rw_earlypulses_k75_side_by_side) (n := 63) (k := 122) (x := "script") rfl (by decide) (by kernel_rfl) ⟨rfl, by decide, by decide⟩ ?F
    intro w mg fa h Y G hmg0
    obtain ⟨K, KX, c⟩ := Y
    have hmg : mg ("law" : PySem.Str) = some (.ref fa) := by
      have e : (HandSHeadRun.topDef (OpenLaw.row PySem.Challenge.rw_earlypulses_k75_side_by_side).prog 82).name = ("law" : PySem.Str) := by kernel_rfl
      rw [← e]
      exact hmg0
    obtain ⟨fd, hb, hF⟩ := K75.facts (P := (PySem.Challenge.rw_earlypulses_k75_side_by_side).prog) (w := w) hT KX G hmg c
    exact ⟨K, fd, EP.spLaw K 63, KX, hb, fun H a ns hl ho hS => ⟨a, ns, rfl, hl, EP.froL_of ho hS, fun _ => rfl⟩, hF⟩
end
section
namespace K75
open PySem L2 EP
variable {k : Nat} {h : MH}
/-! ### the program's small defs -/
@[simp] theorem same_int (i : Int) : callK D (k + 1) i_same_parts [.int i] h = .ok (.int i) h := by
  rw [call_eq (md := D_same_parts) rfl rfl, run_s]
  simp [m_same_parts, sSeq_s]
@[simp] theorem same_str (i : Str) : callK D (k + 1) i_same_parts [.str i] h = .ok (.str i) h := by
  rw [call_eq (md := D_same_parts) rfl rfl, run_s]
  simp [m_same_parts, sSeq_s]
theorem ini1 {n : Nat} (e : D[n]? = some ⟨1, 1, sInit 0⟩) (i : Int) : callK D (k + 2) n [.int i] h = .ok (.tup [.int i]) h := by
  rw [call_eq (md := ⟨1, 1, sInit 0⟩) e rfl, run_s]
  have e2 := same_int (k := k) (h := h) i
  unfold i_same_parts at e2
  simp [sInit, getSome, initLoop, e2]
@[simp] theorem BadSize (i : Int) : callK D (k + 2) i_BadSize [.int i] h = .ok (.tup [.int i]) h := ini1 rfl i
@[simp] theorem NotBook (i : Int) : callK D (k + 2) i_NotBook [.int i] h = .ok (.tup [.int i]) h := ini1 rfl i
@[simp] theorem BadNumber (i : Int) : callK D (k + 2) i_BadNumber [.int i] h = .ok (.tup [.int i]) h := ini1 rfl i
@[simp] theorem TooMany (s : Str) (i : Int) : callK D (k + 2) i_TooMany [.str s, .int i] h = .ok (.tup [.str s, .int i]) h := by
  rw [call_eq (md := D_TooMany) rfl rfl, run_s]
  have e1 := same_str (k := k) (h := h) s
  have e2 := same_int (k := k) (h := h) i
  unfold i_same_parts at e1 e2
  simp [sInit, getSome, initLoop, e1, e2]
theorem whole_within (v a b : Int) : callK D (k + 1) i_whole_within [.int v, .int a, .int b] h = .ok (.bl (decide (a ≤ v) && decide (v ≤ b))) h := by
  rw [call_eq (md := D_whole_within) rfl rfl, run_s]
  simp [m_whole_within, sSeq_s]
  by_cases h1 : a ≤ v <;> simp [h1]
theorem moved {ws : Word} {b : Int} (h0 : 0 ≤ b) (h1 : b ≤ 39) (hw : ∀ w ∈ ws, w + b ≤ 39) (hl : ws.length ≤ 1000) : ∃ h', callK D (k + 2) i_moved [wD ws, .int b] h = .ok (wD (ws.map (· + b))) h' ∧ h <+: h' := by
  refine Ans.val (call_run (md := D_moved) rfl rfl fun O oN oQ oX => ?_)
  simp [m_moved, whole_within, h0, h1]
  refine run_forH (f := Dt.int) (xs := ws) hf_tup (by rfl) (fun i ρ h' => h' = h ∧ ∃ x, ρ = [some (wD ws), some (.int b), x]) ⟨rfl, _, rfl⟩ ?_ ?_
  · rintro i w ρ h' hx ⟨rfl, y, rfl⟩
    have := hw w (List.mem_of_getElem? hx)
    have h2 : ¬ 39 < w + b := by omega
    refine ⟨_, rfl, fun O' t => ?_⟩
    simp [h2]
    exact t.N _ _ ⟨rfl, _, rfl⟩
  · rintro ρ h' ⟨rfl, y, rfl⟩
    obtain ⟨h2, e, p, q⟩ := lc_map (i := iSeq (eVar 0)) (p := .nm 2) (e := eOp oAdd (eVar 2) (eVar 1)) (vs := [2]) (G := callK D (k + 1)) (ρ := [some (wD ws), some (.int b), y]) (h := h') rfl its_tup (fun d => match d with | .int w => .int (w + b) | d => d) (by rw [sizeLine_eq]; simp; omega) (by
      rintro x hx
      obtain ⟨w, hw1, rfl⟩ := List.mem_map.mp hx
      exact ⟨_, rfl, fun h' _ => .now (by simp)⟩)
    simp [e, tuple_lst q, Function.comp_def]
    exact oQ _ _ ⟨by simp, p⟩
theorem is_whole (v : Int) : callK D (k + 1) i_is_whole [.int v] h = .ok (.bl true) h := by
  rw [call_eq (md := D_is_whole) rfl rfl, run_s]
  simp [m_is_whole, sSeq_s]
theorem is_index (v m : Int) : callK D (k + 2) i_is_index [.int v, .int m] h = .ok (.bl (decide (0 ≤ v) && decide (v < m))) h := by
  rw [call_eq (md := D_is_index) rfl rfl, run_s]
  simp [m_is_index, sSeq_s, is_whole]
  by_cases h1 : 0 ≤ v <;> simp [h1]
theorem check_state (p : Plan) (v : Int) (h0 : 0 ≤ v) (h1 : v < p.2.length) : callK D (k + 3) i_check_state [pD p, .int v] h = .ok .non h := by
  rw [call_eq (md := D_check_state) rfl rfl, run_s]
  simp [m_check_state, sSeq_s, is_index, h0, h1]
theorem is_book (p : Plan) : callK D (k + 1) i_is_book [pD p] h = .ok (.bl (decide (p.2.length = 1))) h := by
  rw [call_eq (md := D_is_book) rfl rfl, run_s]
  simp [m_is_book, sSeq_s]
  omega
theorem check_book (p : Plan) (e : p.2.length = 1) : callK D (k + 2) i_check_book [pD p] h = .ok .non h := by
  rw [call_eq (md := D_check_book) rfl rfl, run_s]
  simp [m_check_book, sSeq_s, is_book, e]
theorem check_book_no (p : Plan) (e : p.2.length ≠ 1) : callK D (k + 3) i_check_book [pD p] h = .ex "NotBook" [("states", .int p.2.length)] h := by
  rw [call_eq (md := D_check_book) rfl rfl, run_s]
  simp [m_check_book, sSeq_s, is_book, e]
theorem check_total (m : Int) (e : m ≤ 40) : callK D (k + 1) i_check_total [.int m] h = .ok .non h := by
  rw [call_eq (md := D_check_total) rfl rfl, run_s]
  have : ¬ 40 < m := by omega
  simp [m_check_total, sSeq_s, this]
theorem check_total_no (m : Int) (e : 40 < m) : callK D (k + 3) i_check_total [.int m] h = .ex "BadSize" [("size", .int m)] h := by
  rw [call_eq (md := D_check_total) rfl rfl, run_s]
  simp [m_check_total, sSeq_s, e]
theorem check_fit (n : Int) : callK D (k + 1) i_check_fit [.int n, .int n] h = .ok .non h := by
  rw [call_eq (md := D_check_fit) rfl rfl, run_s]
  simp [m_check_fit, sSeq_s]
/-- the words of a row -/
theorem words_of (p : Plan) (v : Int) (r : Row) (h0 : 0 ≤ v) (e : p.2[v.toNat]? = some r) (hr : r.length ≤ 1000) : ∃ h', callK D (k + 4) i_words_of [pD p, .int v] h = .ok (.tup (r.map fun e => wD e.1)) h' ∧ h <+: h' := by
  have h1 : v < p.2.length := by have := (List.getElem?_eq_some_iff.mp e).1; omega
  refine Ans.val (call_run (md := D_words_of) rfl rfl fun O oN oQ oX => ?_)
  have hg : ∀ {h : MH}, oGet (.tup (p.2.map sD)) (.int v) h = .ok (sD r) h := get_int h0 (by rw [List.getElem?_map, e]; rfl)
  simp [m_words_of, check_state, h0, h1]
  obtain ⟨h2, e2, p2, q2⟩ := lc_map (i := iSeq (eOp oGet (eOp oGet (eVar 0) (eC (.int 1))) (eVar 1))) (p := .tp [.nm 2, .nm 3]) (e := eVar 2) (vs := [2, 3]) (G := callK D (k + 3)) (ρ := [some (pD p), some (.int v), none, none]) (h := h) (h1 := h) (I := itT (r.map eD)) (by simp [hg]) its_tup (fun d => match d with | .tup [w, s] => w | d => d) (by rw [sizeLine_eq]; simp; omega) (by
    rintro x hx
    obtain ⟨w, hw1, rfl⟩ := List.mem_map.mp hx
    refine ⟨[some (pD p), some (.int v), some (wD w.1), some (.int w.2)], by simp, fun h' _ => .now (by simp)⟩)
  simp [e2, tuple_lst q2, Function.comp_def]
  exact oQ _ _ ⟨by simp, p2⟩
theorem book_words (p : Plan) (r : Row) (e : p.2 = [r]) (hr : r.length ≤ 1000) : ∃ h', callK D (k + 5) i_book_words [pD p] h = .ok (.tup (r.map fun e => wD e.1)) h' ∧ h <+: h' := by
  refine Ans.val (call_run (md := D_book_words) rfl rfl fun O oN oQ oX => ?_)
  obtain ⟨h2, e2, p2⟩ := words_of (k := k) (h := h) p 0 r (by omega) (by rw [e]; rfl) hr
  have e0 : p.2.length = 1 := by rw [e]; rfl
  simp [m_book_words, e0, e2]
  exact oQ _ _ ⟨rfl, p2⟩
theorem book_made (n : Int) {a : Nat} {ws : List Word} (ea : h[a]? = some (.lst (ws.map wD))) (hr : ws.length ≤ 1000) : ∃ h', callK D (k + 1) i_book_made [.int n, .loc a] h = .ok (pD (n, [ws.map fun w => (w, 0)])) h' ∧ h <+: h' := by
  refine Ans.val (call_run (md := D_book_made) rfl rfl fun O oN oQ oX => ?_)
  obtain ⟨h2, e2, p2, q2⟩ := lc_map (i := iSeq (eVar 1)) (p := .nm 2) (e := eTup (aCons (eVar 2) (aCons (eC (.int 0)) aNil))) (vs := [2]) (G := callK D k) (ρ := [some (.int n), some (.loc a), none]) (h := h) (h1 := h) (I := itL a ws.length) (by simp [itOf_lst ea]) (by have := its_lst ea; simpa using this) (fun d => .tup [d, .int 0]) (by rw [sizeLine_eq]; simp; omega) (by
    rintro x hx
    exact ⟨[some (.int n), some (.loc a), some x], by simp, fun h' _ => .now (by simp)⟩)
  simp [m_book_made, e2, tuple_lst q2, Function.comp_def]
  exact oQ _ _ ⟨by simp, p2⟩
end K75
end
section
namespace K75
open PySem L2 EP
variable {k : Nat} {h : MH}
/-- the dict of what was seen -/
abbrev seenD (P : List (Int × Int)) : List (List Key × Dt) := P.map fun q => ([.inl q.1, .inl q.2], .bl true)
theorem seen_any {P : List (Int × Int)} {a b : Int} : ((seenD P).any fun kv => decide (kv.1 = [Sum.inl a, Sum.inl b])) = decide ((a, b) ∈ P) := by
  rw [List.any_map, Bool.eq_iff_iff, List.any_eq_true, decide_eq_true_eq]
  constructor
  · rintro ⟨q, hq, e⟩
    simp at e
    have : q = (a, b) := Prod.ext e.1 e.2
    exact this ▸ hq
  · intro hm
    exact ⟨(a, b), hm, by simp⟩
theorem in_seen {P : List (Int × Int)} {a b : Int} {n : Nat} (e : h[n]? = some (.dT (seenD P))) : oIn true (.tup [.int a, .int b]) (.loc n) h = .ok (.bl (!decide ((a, b) ∈ P))) h := by
  rw [in_dT e, seen_any]; rfl
theorem seen_set {P : List (Int × Int)} {a b : Int} (hn : (a, b) ∉ P) : setK (seenD P) [Sum.inl a, Sum.inl b] (.bl true) = seenD (P ++ [(a, b)]) := by
  unfold setK
  rw [seen_any, if_neg (by simpa using hn)]
  simp
theorem pairs_found {p q : Plan} (wp : Wf p) (wq : Wf q) : ∃ d h', callK D (k + 1) i_pairs_found [pD p, pD q] h = .ok d h' ∧ h <+: h' ∧ ∃ a, d = .loc a ∧ h'[a]? = some (.lst ((met p q).map qD)) := by
  refine Ans.ok (Q := fun d h' => h <+: h' ∧ ∃ a, d = .loc a ∧ h'[a]? = some (.lst ((met p q).map qD))) (call_run (md := D_pairs_found) rfl rfl fun O oN oQ oX => ?_)
  simp [m_pairs_found, toKeys, toKeyL, toKey]
  refine run_while (fun m ρ h' => ∃ (i : Nat) (P : List (Int × Int)) (x5 x6 x7 x8 x9 : Option Dt), m = 145 - i ∧ i ≤ P.length ∧ P.Nodup ∧ (∀ x ∈ P, VP p q x) ∧ bfs (cand p q) (145 - i) i P = met p q ∧
    ρ = [some (pD p), some (pD q), some (.loc h.length), some (.loc (h.length + 1)), some (.int (i : Nat)), x5, x6, x7, x8, x9] ∧ h <+: h' ∧ h'[h.length]? = some (.lst (P.map qD)) ∧ h'[h.length + 1]? = some (.dT (seenD P))) (m := 145) (by unfold whileFuel; omega)
    ⟨0, [(0, 0)], none, none, none, none, none, rfl, by simp, by simp, by simpa using vp0 wp wq, rfl, rfl, by simp, by simp, by simp⟩ ?_
  rintro m ρ h1 ⟨i, P, x5, x6, x7, x8, x9, rfl, hi, hn, hv, hb, rfl, pr, e1, e2⟩
  have hle := vp_le wp wq P hn hv
  refine ⟨decide (i < P.length), h1, by simp [len_lst e1], fun hc => ?_, fun hc O' t => ?_⟩
  · have hc' : P.length ≤ i := by simpa using hc
    rw [bfs_done hc'] at hb
    simp
    exact oQ _ _ ⟨pr, _, rfl, by rw [e1, hb]⟩
  · have hlt : i < P.length := by simpa using hc
    have hq : P[i]? = some P[i] := List.getElem?_eq_getElem hlt
    have hvi := hv P[i] (List.getElem_mem hlt)
    generalize hx : P[i] = x at hq hvi
    obtain ⟨a, b⟩ := x
    obtain ⟨v1, v2, v3, v4⟩ := hvi
    have g1 : oGet (.loc h.length) (.int (i : Nat)) h1 = .ok (qD (a, b)) h1 := get_lst e1 (by omega) (by simp [hq])
    have g2 : ∀ {h}, oGet (.tup (p.2.map sD)) (.int a) h = .ok (sD (rowAt p a)) h := get_int v1 (by rw [List.getElem?_map, rowAt_get v1 v2]; rfl)
    have g3 : ∀ {h}, oGet (.tup (q.2.map sD)) (.int b) h = .ok (sD (rowAt q b)) h := get_int v3 (by rw [List.getElem?_map, rowAt_get v3 v4]; rfl)
    simp [g1]
    -- the words of the first
    refine run_forH (f := eD) (xs := rowAt p a) hf_tup (by simp [g2]) (fun j ρ h' => ∃ (P' : List (Int × Int)) (x7 x8 x9 : Option Dt), P' = addAll P (((rowAt p a).take j).flatMap fun l => (rowAt q b).map fun r => (l.2, r.2)) ∧
      ρ = [some (pD p), some (pD q), some (.loc h.length), some (.loc (h.length + 1)), some (.int (i : Nat)), some (.int a), some (.int b), x7, x8, x9] ∧ h <+: h' ∧ h'[h.length]? = some (.lst (P'.map qD)) ∧ h'[h.length + 1]? = some (.dT (seenD P')))
      ⟨P, x7, x8, x9, by simp [addAll_nil], rfl, pr, e1, e2⟩ ?_ ?_
    · rintro j l ρ h2 hl ⟨P', x7, x8, x9, hP', rfl, pr2, e3, e4⟩
      refine ⟨_, rfl, fun O2 t2 => ?_⟩
      simp
      refine run_forH (f := eD) (xs := rowAt q b) hf_tup (by simp [g3]) (fun j2 ρ h' => ∃ (P2 : List (Int × Int)) (x8 x9 : Option Dt), P2 = addAll P' (((rowAt q b).take j2).map fun r => (l.2, r.2)) ∧
        ρ = [some (pD p), some (pD q), some (.loc h.length), some (.loc (h.length + 1)), some (.int (i : Nat)), some (.int a), some (.int b), some (eD l), x8, x9] ∧ h <+: h' ∧ h'[h.length]? = some (.lst (P2.map qD)) ∧ h'[h.length + 1]? = some (.dT (seenD P2)))
        ⟨P', x8, x9, by simp [addAll_nil], rfl, pr2, e3, e4⟩ ?_ ?_
      · rintro j2 r ρ h3 hr ⟨P2, x8, x9, hP2, rfl, pr3, e5, e6⟩
        refine ⟨_, rfl, fun O3 t3 => ?_⟩
        have hPn : addAll P' (((rowAt q b).take (j2 + 1)).map fun r => (l.2, r.2)) = addAll P2 [(l.2, r.2)] := by
          rw [List.take_succ, hr, List.map_append, addAll_app, ← hP2]; rfl
        simp [in_seen e6]
        by_cases hm : (l.2, r.2) ∈ P2
        · simp [hm]
          refine t3.N _ _ ⟨P2, _, _, by rw [hPn, addAll_one, if_pos hm], rfl, pr3, e5, e6⟩
        · have hlen : P2.length < sizeLine := by
            have hn2 : P2.Nodup := by rw [hP2, hP']; exact nodup_addAll (nodup_addAll hn)
            have hc2 := cand_ok wp wq (a, b) ⟨v1, v2, v3, v4⟩
            have hv2 : ∀ x ∈ P2, VP p q x := by
              intro x hx
              rw [hP2] at hx
              rcases mem_addAll.mp hx with hx | hx
              · rw [hP'] at hx
                rcases mem_addAll.mp hx with hx | hx
                · exact hv x hx
                · obtain ⟨l', hl', hx⟩ := List.mem_flatMap.mp hx
                  exact hc2 x (List.mem_flatMap.mpr ⟨l', List.mem_of_mem_take hl', hx⟩)
              · obtain ⟨r', hr', rfl⟩ := List.mem_map.mp hx
                exact hc2 _ (List.mem_flatMap.mpr ⟨l, List.mem_of_getElem? hl, List.mem_map.mpr ⟨r', List.mem_of_mem_take hr', rfl⟩⟩)
            have := vp_le wp wq P2 hn2 hv2
            rw [sizeLine_eq]; omega
          obtain ⟨h4, e7, u4⟩ := setT_ex (a := l.2) (b := r.2) (v := .bl true) e6 (by simpa using hlen)
          rw [seen_set hm] at u4
          have e8 := u4.get (by omega) e5
          obtain ⟨h5, e9, u5⟩ := app_ex (v := qD (l.2, r.2)) e8 (by simpa using hlen)
          simp [hm, e7, isLst_lst e8, e9]
          refine t3.N _ _ ⟨P2 ++ [(l.2, r.2)], _, _, by rw [hPn, addAll_one, if_neg hm], rfl, u5.pre (u4.pre pr3 (Nat.le_succ _)) (Nat.le_refl _), ?_, ?_⟩
          · rw [u5.at_]; simp
          · exact u5.get (by omega) u4.at_
      · rintro ρ h3 ⟨P2, x8, x9, hP2, rfl, pr3, e5, e6⟩
        rw [run_nx0]
        refine t2.N _ _ ⟨P2, _, _, _, ?_, rfl, pr3, e5, e6⟩
        rw [List.take_succ, hl, List.flatMap_append, addAll_app, ← hP', hP2, List.take_length]
        simp
    · rintro ρ h2 ⟨P', x7, x8, x9, hP', rfl, pr2, e3, e4⟩
      simp
      rw [List.take_length] at hP'
      have hPc : P' = addAll P (cand p q (a, b)) := hP'
      have hc2 := cand_ok wp wq (a, b) ⟨v1, v2, v3, v4⟩
      refine t.N _ _ ⟨145 - (i + 1), by omega, i + 1, P', _, _, _, _, _, rfl, ?_, ?_, ?_, ?_, rfl, pr2, e3, e4⟩
      · rw [hPc]
        have := (pre_addAll (P := P) (cs := cand p q (a, b))).length_le
        omega
      · rw [hPc]; exact nodup_addAll hn
      · rw [hPc]
        intro x hx
        rcases mem_addAll.mp hx with hx | hx
        · exact hv x hx
        · exact hc2 x hx
      · have e145 : 145 - i = (145 - (i + 1)) + 1 := by omega
        rw [e145, bfs_step hq] at hb
        rw [hPc]; exact hb
end K75
end
section
namespace K75
open PySem L2 EP
variable {k : Nat} {h : MH}
theorem joined_ok {p q : Plan} (wp : Wf p) (wq : Wf q) (ht : p.1 + q.1 ≤ 40) {r : Row} (hr : r ∈ q.2) {e : Word × Int} (he : e ∈ r) : ∀ {h : MH}, ∃ h', callK D (k + 2) i_moved [wD e.1, .int p.1] h = .ok (wD (e.1.map (· + p.1))) h' ∧ h <+: h' := by
  intro h
  have h1 := wp.n1
  have h2 := wq.n1
  obtain ⟨_, _, h3⟩ := wq.row r hr
  obtain ⟨_, _, _, h4, h5⟩ := h3 e he
  exact moved (by omega) (by omega) (fun w hw => by have := h4 w hw; omega) (by omega)
theorem side_state {p q : Plan} (wp : Wf p) (wq : Wf q) (ht : p.1 + q.1 ≤ 40) {x : Int × Int} (hx : x ∈ met p q) {n : Nat} (en : h[n]? = some (.dT (numD (met p q)))) :
    ∃ h', callK D (k + 3) i_side_state [pD p, pD q, qD x, .loc n] h = .ok (sD (sideRow p q (met p q) x)) h' ∧ h <+: h' := by
  obtain ⟨_, mv, mc, _⟩ := met_spec wp wq
  obtain ⟨v1, v2, v3, v4⟩ := mv x hx
  obtain ⟨a, b⟩ := x
  have g2 : ∀ {h}, oGet (.tup (p.2.map sD)) (.int a) h = .ok (sD (rowAt p a)) h := get_int v1 (by rw [List.getElem?_map, rowAt_get v1 v2]; rfl)
  have g3 : ∀ {h}, oGet (.tup (q.2.map sD)) (.int b) h = .ok (sD (rowAt q b)) h := get_int v3 (by rw [List.getElem?_map, rowAt_get v3 v4]; rfl)
  obtain ⟨_, lp, wpr⟩ := wp.row (rowAt p a) (rowAt_mem (i := a) v1 v2)
  obtain ⟨_, lq, wqr⟩ := wq.row (rowAt q b) (rowAt_mem (i := b) v3 v4)
  refine Ans.val (call_run (md := D_side_state) rfl rfl fun O oN oQ oX => ?_)
  simp [m_side_state]
  have h1 : ∀ {h}, oGet (qD (a, b)) (.int 1) h = .ok (.int b) h := get1
  refine run_forH (f := eD) (xs := rowAt p a) (h1 := h ++ [.lst []]) hf_tup (by simp [g2]) (fun j ρ h' => ∃ (x5 x6 x7 x8 : Option Dt), ρ = [some (pD p), some (pD q), some (qD (a, b)), some (.loc n), some (.loc h.length), x5, x6, x7, x8] ∧ h <+: h' ∧
    h'[h.length]? = some (.lst ((((rowAt p a).take j).flatMap fun l => (rowAt q b).map fun r => (joinW p.1 l.1 r.1, idx (met p q) (l.2, r.2))).map eD)))
    ⟨none, none, none, none, rfl, pre_app _ _, by simp⟩ ?_ ?_
  · rintro j l ρ h2 hl ⟨x5, x6, x7, x8, rfl, pr, e1⟩
    refine ⟨[some (pD p), some (pD q), some (qD (a, b)), some (.loc n), some (.loc h.length), some (wD l.1), some (.int l.2), x7, x8], by simp, fun O2 t2 => ?_⟩
    generalize hA : (((rowAt p a).take j).flatMap fun l => (rowAt q b).map fun r => (joinW p.1 l.1 r.1, idx (met p q) (l.2, r.2))) = A at e1
    have hAl : A.length ≤ 64 * 64 := by
      rw [← hA]
      have : ∀ (l : Row), l.length ≤ 64 → (l.flatMap fun l => (rowAt q b).map fun r => (joinW p.1 l.1 r.1, idx (met p q) (l.2, r.2))).length ≤ l.length * 64 := by
        intro l
        induction l with
        | nil => intro _; simp
        | cons z zs ih =>
          intro hz
          simp only [List.flatMap_cons, List.length_append, List.length_map, List.length_cons] at hz ⊢
          have := ih (by omega)
          omega
      have h3 := this ((rowAt p a).take j) (by rw [List.length_take]; omega)
      have h4 : ((rowAt p a).take j).length ≤ 64 := by rw [List.length_take]; omega
      omega
    refine run_forH (f := eD) (xs := rowAt q b) (h1 := h2) hf_tup (by simp [g3]) (fun j2 ρ h' => ∃ (x7 x8 : Option Dt), ρ = [some (pD p), some (pD q), some (qD (a, b)), some (.loc n), some (.loc h.length), some (wD l.1), some (.int l.2), x7, x8] ∧ h <+: h' ∧
      h'[h.length]? = some (.lst ((A ++ ((rowAt q b).take j2).map fun r => (joinW p.1 l.1 r.1, idx (met p q) (l.2, r.2))).map eD)))
      ⟨x7, x8, rfl, pr, by simpa using e1⟩ ?_ ?_
    · rintro j2 r ρ h3 hr ⟨x7, x8, rfl, pr3, e3⟩
      refine ⟨[some (pD p), some (pD q), some (qD (a, b)), some (.loc n), some (.loc h.length), some (wD l.1), some (.int l.2), some (wD r.1), some (.int r.2)], by simp, fun O3 t3 => ?_⟩
      have hrm := List.mem_of_getElem? hr
      have hlm := List.mem_of_getElem? hl
      obtain ⟨h4, f1, f2⟩ := joined_ok (k := k) wp wq ht (rowAt_mem v3 v4) hrm (h := h3)
      have e4 := pre_get f2 e3
      have hc := mc (a, b) hx (l.2, r.2) (List.mem_flatMap.mpr ⟨l, hlm, List.mem_map.mpr ⟨r, hrm, rfl⟩⟩)
      have g4 : oGet (.loc n) (.tup [.int l.2, .int r.2]) h4 = .ok (.int (idx (met p q) (l.2, r.2))) h4 := by
        have := num_get hc
        simp [oGet, pre_get (pr3.trans f2) en, toKeys, toKeyL, toKey, this]
      have hj : (l.1.map Dt.int ++ (r.1.map (· + p.1)).map Dt.int).length ≤ sizeLine := by
        have := (wpr l hlm).2.2.2.2
        have := (wqr r hrm).2.2.2.2
        rw [sizeLine_eq]; simp; omega
      have hlen : ((A ++ ((rowAt q b).take j2).map fun r => (joinW p.1 l.1 r.1, idx (met p q) (l.2, r.2))).map eD).length < sizeLine := by
        rw [sizeLine_eq]; simp; omega
      obtain ⟨h5, f3, u5⟩ := app_ex (v := eD (joinW p.1 l.1 r.1, idx (met p q) (l.2, r.2))) e4 hlen
      have ew : Dt.tup (l.1.map Dt.int ++ (r.1.map (· + p.1)).map Dt.int) = wD (joinW p.1 l.1 r.1) := by simp [joinW]
      simp [isLst_lst e3]
      simp only [List.map_map] at f1 hj ew
      simp [f1, newT_le hj, g4, ew, f3]
      refine t3.N _ _ ⟨_, _, rfl, u5.pre (pr3.trans f2) (Nat.le_refl _), ?_⟩
      rw [u5.at_, List.take_succ, hr]
      simp
    · rintro ρ h3 ⟨x7, x8, rfl, pr3, e3⟩
      rw [run_nx0]
      refine t2.N _ _ ⟨_, _, _, _, rfl, pr3, ?_⟩
      rw [e3, List.take_succ, hl, List.flatMap_append, hA, List.take_length]
      simp
  · rintro ρ h2 ⟨x5, x6, x7, x8, rfl, pr, e1⟩
    simp [tuple_lst e1]
    exact oQ _ _ ⟨rfl, pr⟩
end K75
end
section
namespace K75
open PySem L2 EP
variable {k : Nat} {h : MH}
theorem mul_small {i j : Int} (h0 : 0 ≤ i) (h1 : i ≤ 1000) : oMul (.int i) (.int j) h = .ok (.int (i * j)) h := by
  have a : (1000 : Int) < lim64 := by decide
  generalize hl : lim64 = l at a
  have : (-lim64 < i ∧ i < lim64) := by rw [hl]; omega
  show (if (-lim64 < i ∧ i < lim64) ∨ (-lim64 < j ∧ j < lim64) then RE.ok (Dt.int (i * j)) h else .bad) = _
  exact if_pos (.inl this)
theorem rows_get {p : Plan} {i : Int} (v1 : 0 ≤ i) (v2 : i < p.2.length) : ∀ {h}, oGet (.tup (p.2.map sD)) (.int i) h = .ok (sD (rowAt p i)) h := get_int v1 (by rw [List.getElem?_map, rowAt_get v1 v2]; rfl)
/-- how many words the two make -/
theorem side_many {p q : Plan} (wp : Wf p) (wq : Wf q) {a : Nat} {x3 x4 x5 x6 x7 x8 : Option Dt} (ea : h[a]? = some (.lst ((met p q).map qD))) :
    ∃ h', eLc (iSeq (eVar 2)) (.tp [(.nm 4), (.nm 5)]) EP.tYes (eOp oMul (eBf bLen (aCons (eOp oGet (eOp oGet (eVar 0) (eC (.int 1))) (eVar 4)) aNil)) (eBf bLen (aCons (eOp oGet (eOp oGet (eVar 1) (eC (.int 1))) (eVar 5)) aNil))) [4, 5] (callK D k) [some (pD p), some (pD q), some (.loc a), x3, x4, x5, x6, x7, x8] h = .ok (.loc h.length) h' ∧ h <+: h' ∧
      h'[h.length]? = some (.lst (((met p q).map fun x => ((rowAt p x.1).length : Int) * ((rowAt q x.2).length : Int)).map Dt.int)) := by
  obtain ⟨h', e1, e2, e3⟩ := lc_mapA (g := qD) (xs := met p q) (i := iSeq (eVar 2)) (p := .tp [(.nm 4), (.nm 5)]) (e := eOp oMul (eBf bLen (aCons (eOp oGet (eOp oGet (eVar 0) (eC (.int 1))) (eVar 4)) aNil)) (eBf bLen (aCons (eOp oGet (eOp oGet (eVar 1) (eC (.int 1))) (eVar 5)) aNil))) (vs := [4, 5]) (G := callK D k)
    (ρ := [some (pD p), some (pD q), some (.loc a), x3, x4, x5, x6, x7, x8]) (h := h) (h1 := h) (by simp [itOf_lst ea]) (its_lstA ea) (fun x => .int (((rowAt p x.1).length : Int) * ((rowAt q x.2).length : Int))) (by have := met_len wp wq; rw [sizeLine_eq]; omega) (by
    rintro x hx
    obtain ⟨v1, v2, v3, v4⟩ := (met_spec wp wq).2.1 x hx
    refine ⟨[some (pD p), some (pD q), some (.loc a), x3, some (.int x.1), some (.int x.2), x6, x7, x8], by simp, fun h' _ => .now ?_⟩
    have := (wp.row _ (rowAt_mem v1 v2)).2.1
    have hm : ∀ {h : MH} {j : Int}, oMul (.int ((rowAt p x.1).length : Int)) (.int j) h = .ok (.int (((rowAt p x.1).length : Int) * j)) h := mul_small (by omega) (by omega)
    simp [rows_get v1 v2, rows_get v3 v4, hm])
  exact ⟨h', e1, e2, by rw [e3, List.map_map]; rfl⟩
theorem numD_nodup {R : List (Int × Int)} (hn : R.Nodup) : ((R.zipIdx).map fun q => ([Sum.inl q.1.1, Sum.inl q.1.2] : List Key)).Nodup := by
  have e : ((R.zipIdx).map fun q => ([Sum.inl q.1.1, Sum.inl q.1.2] : List Key)) = R.map fun q => ([Sum.inl q.1, Sum.inl q.2] : List Key) := by
    have h1 : R = R.zipIdx.map (·.1) := by simp
    conv => rhs; rw [h1, List.map_map]
    rfl
  rw [e, List.nodup_iff_pairwise_ne, List.pairwise_map]
  refine List.Pairwise.imp ?_ hn
  rintro a b ne z
  simp at z
  exact ne (Prod.ext z.1 z.2)
theorem side_nums {p q : Plan} (wp : Wf p) (wq : Wf q) {a : Nat} {x3 x4 x5 x6 x7 x8 : Option Dt} (ea : h[a]? = some (.lst ((met p q).map qD))) :
    ∃ h', eDc true (iEnum (eVar 2)) (.tp [(.nm 7), (.nm 8)]) EP.tYes (eVar 8) (eVar 7) [7, 8] (callK D k) [some (pD p), some (pD q), some (.loc a), x3, x4, x5, x6, x7, x8] h = .ok (.loc h.length) h' ∧ h <+: h' ∧ h'[h.length]? = some (.dT (numD (met p q))) := by
  obtain ⟨h', e1, e2, e3⟩ := dcT_run (g := fun q : (Int × Int) × Nat => Dt.tup [.int (q.2 : Nat), qD q.1]) (xs := (met p q).zipIdx) (i := iEnum (eVar 2)) (p := .tp [(.nm 7), (.nm 8)]) (k := eVar 8) (e := eVar 7) (vs := [7, 8]) (G := callK D k)
    (ρ := [some (pD p), some (pD q), some (.loc a), x3, x4, x5, x6, x7, x8]) (h := h) (h1 := h) (by simp [itOf_lst ea]) (its_enumA (its_lstA ea)) (fun q => [Sum.inl q.1.1, Sum.inl q.1.2]) (fun q => .int (q.2 : Nat)) (by have := met_len wp wq; rw [sizeLine_eq]; simp; omega) (by
    rintro x hx
    refine ⟨[some (pD p), some (pD q), some (.loc a), x3, x4, x5, x6, some (.int (x.2 : Nat)), some (qD x.1)], by simp, fun h' _ => ⟨qD x.1, .now (by simp), by simp [toKeys, toKeyL, toKey], fun h' _ => .now (by simp)⟩⟩)
  refine ⟨h', e1, e2, ?_⟩
  rw [e3, foldl_setK _ _ _ _ (numD_nodup (met_spec wp wq).1) (fun _ _ => by simp)]
  simp [numD]
theorem side {p q : Plan} (wp : Wf p) (wq : Wf q) : Ans (fun d h' => (p.1 + q.1 ≤ 40 ∧ (met p q).length ≤ 12 ∧ wordsIn p q ≤ 64) ∧ d = pD (sideP p q) ∧ h <+: h')
    (fun C fs h' => h <+: h' ∧ ((40 < p.1 + q.1 ∧ C = "BadSize" ∧ fs = [(("size" : Str), Dt.int (p.1 + q.1))]) ∨ (p.1 + q.1 ≤ 40 ∧ 12 < (met p q).length ∧ C = "TooMany" ∧ fs = [(("most" : Str), Dt.int 12), (("what" : Str), Dt.str "states")]) ∨
      (p.1 + q.1 ≤ 40 ∧ (met p q).length ≤ 12 ∧ 64 < wordsIn p q ∧ C = "TooMany" ∧ fs = [(("most" : Str), Dt.int 64), (("what" : Str), Dt.str "words")]))) (callK D (k + 4) i_side [pD p, pD q] h) := by
  refine call_run (md := D_side) rfl rfl fun O oN oQ oX => ?_
  by_cases ht : p.1 + q.1 ≤ 40
  · obtain ⟨d, h1, e1, pr1, a, rfl, ea⟩ := pairs_found (k := k + 2) (h := h) wp wq
    have hct := check_total (k := k + 2) (h := h) (p.1 + q.1) ht
    simp [m_side, hct, e1, len_lst ea]
    by_cases h12 : (12 : Int) < (met p q).length
    · simp [h12]
      exact oX _ _ _ _ ⟨pr1, .inr (.inl ⟨ht, by omega, rfl, rfl⟩)⟩
    · obtain ⟨h2, e2, pr2, e2'⟩ := side_many (k := k + 3) (x3 := none) (x4 := none) (x5 := none) (x6 := none) (x7 := none) (x8 := none) wp wq ea
      simp [h12, e2, sum_lst e2']
      by_cases h64 : (64 : Int) < wordsIn p q
      · have h64' : (64 : Int) < ((met p q).map fun x => ((rowAt p x.1).length : Int) * ((rowAt q x.2).length : Int)).sum := h64
        simp [h64']
        exact oX _ _ _ _ ⟨pr1.trans pr2, .inr (.inr ⟨ht, by omega, h64, rfl, rfl⟩)⟩
      · have h64' : ¬ (64 : Int) < ((met p q).map fun x => ((rowAt p x.1).length : Int) * ((rowAt q x.2).length : Int)).sum := h64
        have ea2 := pre_get pr2 ea
        obtain ⟨h3, e3, pr3, e3'⟩ := side_nums (k := k + 3) (x3 := some (.int (wordsIn p q))) (x4 := none) (x5 := none) (x6 := none) (x7 := none) (x8 := none) wp wq ea2
        have ea3 := pre_get pr3 ea2
        obtain ⟨h4, e4, pr4, e4'⟩ := lc_mapA (g := qD) (xs := met p q) (i := iSeq (eVar 2)) (p := .nm 8) (e := eCall i_side_state (aCons (eVar 0) (aCons (eVar 1) (aCons (eVar 8) (aCons (eVar 6) aNil))))) (vs := [8]) (G := callK D (k + 3))
          (ρ := [some (pD p), some (pD q), some (.loc a), some (.int (wordsIn p q)), none, none, some (.loc h2.length), none, none]) (h := h3) (h1 := h3) (by simp [itOf_lst ea3]) (its_lstA ea3) (fun x => sD (sideRow p q (met p q) x)) (by have := met_len wp wq; rw [sizeLine_eq]; omega) (by
          rintro x hx
          refine ⟨[some (pD p), some (pD q), some (.loc a), some (.int (wordsIn p q)), none, none, some (.loc h2.length), none, some (qD x)], by simp, fun h' pr => ?_⟩
          obtain ⟨h5, f1, f2⟩ := side_state (k := k) (h := h') wp wq ht hx (pre_get pr e3')
          exact ⟨h5, by simp [f1], f2⟩)
        unfold wordsIn at e3 e4
        simp [h64', e3, e4, tuple_lst e4']
        refine oQ _ _ ⟨⟨ht, by omega, by omega⟩, ?_, pr1.trans (pr2.trans (pr3.trans pr4))⟩
        simp [sideP]
  · have hct := check_total_no (k := k) (h := h) (p.1 + q.1) (by omega)
    simp [m_side, hct]
    exact oX _ _ _ _ ⟨pre_refl h, .inl ⟨by omega, rfl, rfl⟩⟩
end K75
end
section
namespace K75
open PySem L2 EP
variable {k : Nat} {h : MH}
@[simp] theorem list_tup {xs : List Dt} : bList [.tup xs] h = .ok (.loc h.length) (h ++ [.lst xs]) := rfl
theorem side_limit {n m : Int} {a b : Lim} (wa : WfL n a) (wb : WfL m b) (hn : 1 ≤ n) (hm : 1 ≤ m) : Ans (fun d h' => (n + m ≤ 40 ∧ a.2.length + b.2.length ≤ 12) ∧ d = lD (limP a b) ∧ h <+: h')
    (fun C fs h' => h <+: h' ∧ ((40 < n + m ∧ C = "BadSize" ∧ fs = [(("size" : Str), Dt.int (n + m))]) ∨ (n + m ≤ 40 ∧ 12 < a.2.length + b.2.length ∧ C = "TooMany" ∧ fs = [(("most" : Str), Dt.int 12), (("what" : Str), Dt.str "clauses")]))) (callK D (k + 4) i_side_limit [lD a, lD b] h) := by
  refine call_run (md := D_side_limit) rfl rfl fun O oN oQ oX => ?_
  have ea := wa.eq
  have eb := wb.eq
  by_cases ht : n + m ≤ 40
  · have hct := check_total (k := k + 2) (h := h) (n + m) ht
    simp [m_side_limit, ea, eb, hct]
    by_cases h12 : (12 : Int) < (a.2.length : Int) + (b.2.length : Int)
    · simp [h12]
      exact oX _ _ _ _ ⟨pre_refl h, .inr ⟨ht, by omega, rfl, rfl⟩⟩
    · simp [h12]
      refine run_forH (f := eD) (xs := b.2) (h1 := h ++ [.lst (a.2.map eD)]) hf_tup (by simp) (fun j ρ h' => ∃ (x3 x4 : Option Dt), ρ = [some (lD a), some (lD b), some (.loc h.length), x3, x4] ∧ h <+: h' ∧
        h'[h.length]? = some (.lst ((a.2 ++ (b.2.take j).map fun c => (joinW n [] c.1, c.2)).map eD))) ⟨none, none, by simp [ea, eb], pre_app _ _, by simp⟩ ?_ ?_
      · rintro j c ρ h2 hc ⟨x3, x4, rfl, pr, e1⟩
        refine ⟨[some (lD a), some (lD b), some (.loc h.length), some (wD c.1), some (.int c.2)], by simp, fun O2 t2 => ?_⟩
        have hcm := List.mem_of_getElem? hc
        obtain ⟨_, w2, w3, _⟩ := wb.row c hcm
        obtain ⟨h3, f1, f2⟩ := moved (k := k + 1) (h := h2) (ws := c.1) (b := n) (by omega) (by omega) (fun w hw => by have := w2 w hw; omega) (by omega)
        have e2 := pre_get f2 e1
        have hl : ((a.2 ++ (b.2.take j).map fun c => (joinW n [] c.1, c.2)).map eD).length < sizeLine := by
          have := wa.len
          have := wb.len
          rw [sizeLine_eq]; simp; omega
        obtain ⟨h4, f3, u⟩ := app_ex (v := eD (joinW n [] c.1, c.2)) e2 hl
        have ew : wD (c.1.map (· + n)) = wD (joinW n [] c.1) := by simp [joinW]
        rw [ew] at f1
        simp [isLst_lst e1, ea, f1, f3]
        refine t2.N _ _ ⟨_, _, rfl, u.pre (pr.trans f2) (Nat.le_refl _), ?_⟩
        rw [u.at_, List.take_succ, hc]
        simp
      · rintro ρ h2 ⟨x3, x4, rfl, pr, e1⟩
        simp [tuple_lst e1, ea, eb]
        refine oQ _ _ ⟨⟨ht, by omega⟩, ?_, pr⟩
        simp [limP, ea, eb]
  · have hct := check_total_no (k := k) (h := h) (n + m) (by omega)
    simp [m_side_limit, ea, eb, hct]
    exact oX _ _ _ _ ⟨pre_refl h, .inl ⟨by omega, rfl, rfl⟩⟩
theorem paired {p q : Plan} (wp : Wf p) (wq : Wf q) : Ans (fun d h' => (p.2.length = 1 ∧ q.2.length = 1 ∧ p.1 + q.1 ≤ 40 ∧ (bookRow p).length = (bookRow q).length) ∧ d = pD (pairP p q) ∧ h <+: h')
    (fun C fs h' => h <+: h' ∧ ((p.2.length ≠ 1 ∧ C = "NotBook" ∧ fs = [(("states" : Str), Dt.int p.2.length)]) ∨ (p.2.length = 1 ∧ q.2.length ≠ 1 ∧ C = "NotBook" ∧ fs = [(("states" : Str), Dt.int q.2.length)]) ∨
      (p.2.length = 1 ∧ q.2.length = 1 ∧ 40 < p.1 + q.1 ∧ C = "BadSize" ∧ fs = [(("size" : Str), Dt.int (p.1 + q.1))]) ∨
      (p.2.length = 1 ∧ q.2.length = 1 ∧ p.1 + q.1 ≤ 40 ∧ (bookRow p).length ≠ (bookRow q).length ∧ C = "BadNumber" ∧ fs = [(("place" : Str), Dt.int (bookRow q).length)]))) (callK D (k + 6) i_paired [pD p, pD q] h) := by
  refine call_run (md := D_paired) rfl rfl fun O oN oQ oX => ?_
  by_cases h1 : p.2.length = 1
  · have c1 := check_book (k := k + 3) (h := h) p h1
    by_cases h2 : q.2.length = 1
    · have c2 := check_book (k := k + 3) (h := h) q h2
      by_cases ht : p.1 + q.1 ≤ 40
      · have hct := check_total (k := k + 4) (h := h) (p.1 + q.1) ht
        obtain ⟨r, er⟩ := List.length_eq_one_iff.mp h1
        obtain ⟨s, es⟩ := List.length_eq_one_iff.mp h2
        have hrm : r ∈ p.2 := by rw [er]; simp
        have hsm : s ∈ q.2 := by rw [es]; simp
        obtain ⟨_, lr, wr⟩ := wp.row r hrm
        obtain ⟨_, ls, ws⟩ := wq.row s hsm
        have br : bookRow p = r := by unfold bookRow; rw [er]; rfl
        have bs : bookRow q = s := by unfold bookRow; rw [es]; rfl
        obtain ⟨h3, e3, p3⟩ := book_words (k := k) (h := h) p r er (by omega)
        obtain ⟨h4, e4, p4⟩ := book_words (k := k) (h := h3) q s es (by omega)
        simp [m_paired, c1, c2, hct, e3, e4]
        by_cases hl : r.length = s.length
        · obtain ⟨h5, e5, p5, q5⟩ := lc_mapA (g := fun z : (Word × Int) × (Word × Int) => Dt.tup [wD z.1.1, wD z.2.1]) (xs := r.zip s) (i := iZip (eVar 2) (eVar 3)) (p := .tp [(.nm 5), (.nm 6)]) (e := eOp oAdd (eVar 5) (eCall i_moved (aCons (eVar 6) (aCons (eOp oGet (eVar 0) (eC (.int 0))) aNil)))) (vs := [5, 6]) (G := callK D (k + 5))
            (ρ := [some (pD p), some (pD q), some (.tup (r.map fun e => wD e.1)), some (.tup (s.map fun e => wD e.1)), none, none, none]) (h := h4) (h1 := h4) (I := itZ (itT (r.map fun e => wD e.1)) (itT (s.map fun e => wD e.1)) (min r.length s.length))
            (by simp [sameKind, itT]) (by
              have := its_zip (h := h4) (its_tup (xs := r.map fun e => wD e.1)) (its_tup (xs := s.map fun e => wD e.1))
              simpa [itT, List.zip_map', List.zip_map, Function.comp_def] using this) (fun z => wD (joinW p.1 z.1.1 z.2.1)) (by rw [sizeLine_eq]; simp; omega) (by
            rintro z hz
            obtain ⟨z1, z2⟩ := List.of_mem_zip hz
            refine ⟨[some (pD p), some (pD q), some (.tup (r.map fun e => wD e.1)), some (.tup (s.map fun e => wD e.1)), none, some (wD z.1.1), some (wD z.2.1)], by simp, fun h' pr => ?_⟩
            obtain ⟨h6, f1, f2⟩ := joined_ok (k := k + 3) wp wq ht hsm z2 (h := h')
            have hj : (z.1.1.map Dt.int ++ (z.2.1.map (· + p.1)).map Dt.int).length ≤ sizeLine := by
              have := (wr _ z1).2.2.2.2
              have := (ws _ z2).2.2.2.2
              rw [sizeLine_eq]; simp; omega
            have ew : Dt.tup (z.1.1.map Dt.int ++ (z.2.1.map (· + p.1)).map Dt.int) = wD (joinW p.1 z.1.1 z.2.1) := by simp [joinW]
            simp only [List.map_map] at f1 hj ew
            refine ⟨h6, ?_, f2⟩
            simp [f1, newT_le hj, ew])
          have q5' : h5[h4.length]? = some (.lst (((r.zip s).map fun z => joinW p.1 z.1.1 z.2.1).map wD)) := by rw [q5, List.map_map]; rfl
          obtain ⟨h6, e6, p6⟩ := book_made (k := k + 4) (p.1 + q.1) q5' (by simp; omega)
          simp [hl, e5, e6]
          refine oQ _ _ ⟨⟨h1, h2, ht, by rw [br, bs]; exact hl⟩, ?_, p3.trans (p4.trans (p5.trans p6))⟩
          simp [pairP, br, bs]
        · have hl' : ¬ (r.length : Int) = (s.length : Int) := by omega
          simp [hl, hl']
          exact oX _ _ _ _ ⟨p3.trans p4, .inr (.inr (.inr ⟨h1, h2, ht, by rw [br, bs]; exact hl, rfl, by rw [bs]⟩))⟩
      · have hct := check_total_no (k := k + 2) (h := h) (p.1 + q.1) (by omega)
        simp [m_paired, c1, c2, hct]
        exact oX _ _ _ _ ⟨pre_refl h, .inr (.inr (.inl ⟨h1, h2, by omega, rfl, rfl⟩))⟩
    · have c2 := check_book_no (k := k + 2) (h := h) q h2
      simp [m_paired, c1, c2]
      exact oX _ _ _ _ ⟨pre_refl h, .inr (.inl ⟨h1, h2, rfl, rfl⟩)⟩
  · have c1 := check_book_no (k := k + 2) (h := h) p h1
    simp [m_paired, c1]
    exact oX _ _ _ _ ⟨pre_refl h, .inl ⟨h1, rfl, rfl⟩⟩
end K75
end
section
namespace K75
open PySem L2 EP
variable {k : Nat} {h : MH}
theorem wire_table {w : Word} (hn : w.Nodup) (hl : w.length ≤ 200) : ∃ d h', callK D (k + 1) i_wire_table [wD w] h = .ok d h' ∧ h <+: h' ∧ ∃ n, d = .loc n ∧ h.length ≤ n ∧ h'[n]? = some (.dK (tabK w)) := by
  refine Ans.ok (Q := fun d h' => h <+: h' ∧ ∃ n, d = .loc n ∧ h.length ≤ n ∧ h'[n]? = some (.dK (tabK w))) (call_run (md := D_wire_table) rfl rfl fun O oN oQ oX => ?_)
  obtain ⟨h2, e1, p1, q1⟩ := dcK_run (g := Dt.int) (xs := w) (i := iSeq (eVar 0)) (p := .nm 1) (k := eVar 1) (e := eC (.bl true)) (vs := [1]) (G := callK D k) (ρ := [some (wD w), none]) (h := h) (h1 := h) (by simp) its_tup (fun x => Sum.inl x) (fun _ => .bl true) (by rw [sizeLine_eq]; omega) (by
    rintro x hx
    exact ⟨[some (wD w), some (.int x)], by simp, fun h' _ => ⟨.int x, .now (by simp), rfl, fun h' _ => .now (by simp)⟩⟩)
  simp [m_wire_table, e1]
  exact oQ _ _ ⟨p1, _, rfl, Nat.le_refl _, by rw [q1, tab_make hn]⟩
theorem count_in {w v : Word} {n : Nat} (e : h[n]? = some (.dK (tabK w))) (hl : v.length ≤ 200) : ∃ h', callK D (k + 1) i_count_in [.loc n, wD v] h = .ok (.int (v.filter fun x => decide (x ∈ w)).length) h' ∧ h <+: h' := by
  refine Ans.val (call_run (md := D_count_in) rfl rfl fun O oN oQ oX => ?_)
  obtain ⟨h2, e1, p1, q1⟩ := lc_pureA (g := Dt.int) (xs := v) (i := iSeq (eVar 1)) (p := .nm 2) (t := tBl (eOp (oIn false) (eVar 2) (eVar 0))) (e := eVar 2) (vs := [2]) (G := callK D k) (ρ := [some (.loc n), some (wD v), none]) (h := h) (h1 := h) (by simp) its_tup (fun x => decide (x ∈ w)) Dt.int (by rw [sizeLine_eq]; omega) (by
    rintro x hx
    refine ⟨[some (.loc n), some (wD v), some (.int x)], by simp, fun h' pr => ⟨.now ?_, fun _ => .now (by simp)⟩⟩
    simp [in_tab (pre_get pr e)])
  simp [m_count_in, e1, len_lst q1]
  exact oQ _ _ ⟨by simp, p1⟩
/-- the tables of the words -/
def TabsAt {α : Type} (h : MH) (f : α → Word) (g : Nat → α → Dt) (ds : List Dt) (ws : List α) : Prop := ds.length = ws.length ∧ ∀ (j : Nat) (w : α), ws[j]? = some w → ∃ n, ds[j]? = some (g n w) ∧ h[n]? = some (.dK (tabK (f w)))
theorem TabsAt.mono {α : Type} {h h' : MH} {f : α → Word} {g : Nat → α → Dt} {ds : List Dt} {ws : List α} (t : TabsAt h f g ds ws) (p : h <+: h') : TabsAt h' f g ds ws := ⟨t.1, fun j w e => let ⟨n, a, b⟩ := t.2 j w e; ⟨n, a, pre_get p b⟩⟩
/-- [.. wire_table(..) .. for x in xs] -/
theorem tabs_made {α : Type} {f : α → Word} {g : Nat → α → Dt} {gx : α → Dt} {xs : List α} {i : SI} {p : TP} {e : SE} {vs : List Nat} {G : Orc} {ρ : EP.Env} {I : Wk} (hi : i G ρ h = .ok I h) (hf : Its I h (xs.map gx)) (hz : xs.length ≤ 1000)
    (hx : ∀ x ∈ xs, ∃ ρ', assignP p (gx x) (wipeE ρ vs) = some ρ' ∧ ∀ h', ∃ n h2, e G ρ' h' = .ok (g n x) h2 ∧ h' <+: h2 ∧ h'.length ≤ n ∧ h2[n]? = some (.dK (tabK (f x)))) :
    ∃ h' ds, eLc i p EP.tYes e vs G ρ h = .ok (.loc h.length) h' ∧ h <+: h' ∧ h'[h.length]? = some (.lst ds) ∧ TabsAt h' f g ds xs := by
  rw [eLc_s, hi, bnd_ok]
  have htot : I.tot = xs.length := by rw [hf.tot, List.length_map]
  obtain ⟨acc, h', r1, r2, r3⟩ := lc_inv (I := I) (p := p) (t := EP.tYes) (e := e) (G := G) (ρ := wipeE ρ vs) (D := h.length)
    (fun i acc h' => h <+: h' ∧ TabsAt h' f g acc (xs.take i) ∧ i ≤ xs.length) (by
    rintro i acc h1 hlt ⟨pr, ta, hle⟩ hD
    have hl : i < xs.length := by rw [← htot]; exact hlt
    obtain ⟨ρ', a1, a2⟩ := hx xs[i] (List.getElem_mem hl)
    obtain ⟨n, h2, b1, b2, b3, b4⟩ := a2 h1
    have hD2 := pre_get b2 hD
    have hDn : h.length ≠ n := by have := lt_of_get hD; omega
    refine ⟨gx xs[i], ρ', by rw [hf.get h1 pr i (by simpa using hl), List.getElem?_map, List.getElem?_eq_getElem hl]; rfl, a1, true, h1, rfl, fun _ => ⟨g n xs[i], h2, b1, hD2, ?_, ?_⟩, fun z => by cases z⟩
    · rw [ta.1, List.length_take, sizeLine_eq]; omega
    · have u := Up.of (o' := MO.lst (acc ++ [g n xs[i]])) hD2
      have hacc : acc.length = i := by rw [ta.1, List.length_take]; omega
      refine ⟨u.pre (pr.trans b2) (Nat.le_refl _), ⟨?_, fun j w e => ?_⟩, hl⟩
      · simp [hacc]
        omega
      · rw [List.take_succ, List.getElem?_eq_getElem hl] at e
        by_cases hj : j < i
        · rw [List.getElem?_append_left (by simp; omega)] at e
          obtain ⟨m, c1, c2⟩ := ta.2 j w e
          have hm : m ≠ h.length := fun z => by subst z; rw [hD] at c2; cases c2
          exact ⟨m, by rw [List.getElem?_append_left (by omega)]; exact c1, u.get hm (pre_get b2 c2)⟩
        · have hji : j = i := by
            have := (List.getElem?_eq_some_iff.mp e).1
            simp at this
            omega
          subst hji
          have ew : w = xs[j] := by
            rw [List.getElem?_append_right (by simp; omega)] at e
            simp at e
            have : min j xs.length = j := by omega
            simp [this] at e
            exact e.symm
          subst ew
          refine ⟨n, ?_, u.get (Ne.symm hDn) b4⟩
          rw [List.getElem?_append_right (by omega), hacc]
          simp) (fun acc h' q => hf.fin h' q.1) I.tot 0 [] (h ++ [.lst []]) (Nat.zero_add _) (by simp) ⟨pre_app _ _, ⟨by simp, fun j w e => by simp at e⟩, Nat.zero_le _⟩
  refine ⟨h', acc, r1, r3.1, r2, ?_⟩
  have := r3.2.1
  rw [htot, List.take_length] at this
  exact this
end K75
end
section
namespace K75
open PySem L2 EP
variable {k : Nat} {h : MH}
abbrev fW (c : Word × Int) : Word := c.1
abbrev tbD (n : Nat) (c : Word × Int) : Dt := .tup [.loc n, .int c.2]
theorem clause_tables {l : Lim} (h64 : l.2.length ≤ 64) (hw : ∀ c ∈ l.2, c.1.Nodup ∧ c.1.length ≤ 200) : ∃ d h', callK D (k + 2) i_clause_tables [lD l] h = .ok d h' ∧ h <+: h' ∧ ∃ a ds, d = .loc a ∧ h'[a]? = some (.lst ds) ∧ TabsAt h' fW tbD ds l.2 := by
  refine Ans.ok (Q := fun d h' => h <+: h' ∧ ∃ a ds, d = .loc a ∧ h'[a]? = some (.lst ds) ∧ TabsAt h' fW tbD ds l.2) (call_run (md := D_clause_tables) rfl rfl fun O oN oQ oX => ?_)
  obtain ⟨h2, ds, e1, p1, q1, t1⟩ := tabs_made (f := fW) (g := tbD) (gx := eD) (xs := l.2) (h := h) (i := iSeq (eOp oGet (eVar 0) (eC (.int 1)))) (p := .tp [(.nm 1), (.nm 2)]) (e := eTup (aCons (eCall i_wire_table (aCons (eVar 1) aNil)) (aCons (eVar 2) aNil))) (vs := [1, 2]) (G := callK D (k + 1)) (ρ := [some (lD l), none, none]) (I := itT (l.2.map eD)) (by simp) its_tup (by omega) (by
    rintro c hc
    refine ⟨[some (lD l), some (wD c.1), some (.int c.2)], by simp, fun h' => ?_⟩
    obtain ⟨d, h3, f1, f2, n, rfl, f3, f4⟩ := wire_table (k := k) (h := h') (hw c hc).1 (hw c hc).2
    exact ⟨n, h3, by simp [f1], f2, f3, f4⟩)
  simp [m_clause_tables, e1]
  exact oQ _ _ ⟨p1, _, ds, rfl, q1, t1⟩
/-- do the wires keep all clauses -/
def fits (l : Row) (v : Word) : Bool := l.all fun c => decide (((v.filter fun x => decide (x ∈ c.1)).length : Int) ≤ c.2)
theorem first_beyond {l : Row} {v : Word} {a : Nat} {ds : List Dt} (ea : h[a]? = some (.lst ds)) (t : TabsAt h fW tbD ds l) (hv : v.length ≤ 200) : ∃ d h', callK D (k + 2) i_first_beyond [.loc a, wD v] h = .ok d h' ∧ h <+: h' ∧ ((fits l v = true ∧ d = .non) ∨ (fits l v = false ∧ ∃ i : Int, d = .int i)) := by
  refine Ans.ok (Q := fun d h' => h <+: h' ∧ ((fits l v = true ∧ d = .non) ∨ (fits l v = false ∧ ∃ i : Int, d = .int i))) (call_run (md := D_first_beyond) rfl rfl fun O oN oQ oX => ?_)
  simp [m_first_beyond]
  refine run_forE (f := fun d : Dt => d) (xs := ds) (n := a) (h1 := h) (by simp [itOf_lst ea]) (fun i ρ h' => h <+: h' ∧ (∃ (x2 x3 x4 : Option Dt), ρ = [some (.loc a), some (wD v), x2, x3, x4]) ∧ ∀ c ∈ l.take i, ((v.filter fun x => decide (x ∈ c.1)).length : Int) ≤ c.2)
    ⟨pre_refl h, ⟨none, none, none, rfl⟩, by simp⟩ (fun i ρ h' q => by simpa using pre_get q.1 ea) ?_ ?_
  · rintro i x ρ h' hx ⟨pr, ⟨x2, x3, x4, rfl⟩, hc⟩
    have hi : i < l.length := by rw [← t.1]; exact (List.getElem?_eq_some_iff.mp hx).1
    obtain ⟨n, b1, b2⟩ := t.2 i l[i] (List.getElem?_eq_getElem hi)
    rw [hx] at b1
    cases b1
    refine ⟨[some (.loc a), some (wD v), some (.int (i : Nat)), some (.loc n), some (.int l[i].2)], by simp, fun O2 t2 => ?_⟩
    obtain ⟨h3, f1, f2⟩ := count_in (k := k) (v := v) (pre_get pr b2) hv
    simp [f1]
    by_cases hb : l[i].2 < ((v.filter fun x => decide (x ∈ l[i].1)).length : Int)
    · simp [hb]
      refine t2.Q _ _ (oQ _ _ ⟨pr.trans f2, .inr ⟨?_, _, rfl⟩⟩)
      unfold fits
      rw [List.all_eq_false]
      exact ⟨l[i], List.getElem_mem hi, by simpa using hb⟩
    · simp [hb]
      refine t2.N _ _ ⟨pr.trans f2, ⟨_, _, _, rfl⟩, fun c hcm => ?_⟩
      rw [List.take_succ, List.getElem?_eq_getElem hi] at hcm
      rcases List.mem_append.mp hcm with z | z
      · exact hc c z
      · simp at z
        subst z
        omega
  · rintro ρ h' ⟨pr, ⟨x2, x3, x4, rfl⟩, hc⟩
    simp
    refine oQ _ _ ⟨pr, .inl ⟨?_, rfl⟩⟩
    unfold fits
    rw [List.all_eq_true]
    intro c hcm
    have := hc c (by rw [t.1, List.take_length]; exact hcm)
    simpa using this
/-- the differences of the words of a row -/
theorem word_pairs {ws : List Word} {b : Nat} (eb : h[b]? = some (.lst (ws.map wD))) (h64 : ws.length ≤ 64) (hw : ∀ w ∈ ws, w.Nodup ∧ w.length ≤ 200) : ∃ d h', callK D (k + 2) i_word_pairs [.loc b] h = .ok d h' ∧ h <+: h' ∧ ∃ a, d = .loc a ∧ h.length ≤ a ∧ h'[a]? = some (.lst ((wpairs ws).map tD)) := by
  refine Ans.ok (Q := fun d h' => h <+: h' ∧ ∃ a, d = .loc a ∧ h.length ≤ a ∧ h'[a]? = some (.lst ((wpairs ws).map tD))) (call_run (md := D_word_pairs) rfl rfl fun O oN oQ oX => ?_)
  have hz : ws.length ≤ 1000 := by omega
  obtain ⟨h1, ds, e1, p1, q1, t1⟩ := tabs_made (f := fun w : Word => w) (g := fun n _ => .loc n) (gx := wD) (xs := ws) (h := h) (i := iSeq (eVar 0)) (p := .nm 2) (e := eCall i_wire_table (aCons (eVar 2) aNil)) (vs := [2]) (G := callK D (k + 1)) (ρ := [some (.loc b), none, none, none, none, none, none, none, none]) (I := itL b (ws.map wD).length) (by simp [itOf_lst eb]) (its_lst eb) hz (by
    rintro w hwm
    refine ⟨[some (.loc b), none, some (wD w), none, none, none, none, none, none], by simp, fun h' => ?_⟩
    obtain ⟨d, h3, f1, f2, n, rfl, f3, f4⟩ := wire_table (k := k) (h := h') (hw w hwm).1 (hw w hwm).2
    exact ⟨n, h3, by simp [f1], f2, f3, f4⟩)
  have eb1 := pre_get p1 eb
  simp [m_word_pairs, e1]
  have hzl : ws.zipIdx.length = ws.length := by simp
  have cut : ∀ (i : Nat) (w : Word), ws[i]? = some w → ws.zipIdx.take (i + 1) = ws.zipIdx.take i ++ [(w, i)] := by
    intro i w e
    rw [List.take_succ, List.getElem?_zipIdx, e]
    simp
  refine run_forE (f := wD) (xs := ws) (n := b) (h1 := h1 ++ [.lst []]) (by simp [itOf_lst (pre_get (pre_app h1 [.lst []]) eb1)])
    (fun i ρ h' => h1 <+: h' ∧ i ≤ ws.length ∧ (∃ (x4 x5 x6 x7 x8 : Option Dt), ρ = [some (.loc b), some (.loc h.length), none, some (.loc h1.length), x4, x5, x6, x7, x8]) ∧
      h'[h1.length]? = some (.lst (((ws.zipIdx.take i).flatMap fun l => (ws.zipIdx.filter fun t => !decide (l.2 = t.2)).map fun t => (l.2, t.2, less l.1 t.1)).map tD)))
    ⟨pre_app _ _, Nat.zero_le _, ⟨none, none, none, none, none, rfl⟩, by simp⟩ (fun i ρ h' q => pre_get q.1 eb1) ?_ ?_
  · rintro i w ρ h2 hi ⟨pr, hile, ⟨x4, x5, x6, x7, x8, rfl⟩, e2⟩
    refine ⟨[some (.loc b), some (.loc h.length), none, some (.loc h1.length), some (.int (i : Nat)), some (wD w), x6, x7, x8], by simp, fun O2 t2 => ?_⟩
    generalize hA : ((ws.zipIdx.take i).flatMap fun l => (ws.zipIdx.filter fun t => !decide (l.2 = t.2)).map fun t => (l.2, t.2, less l.1 t.1)) = A at e2
    have hil : i < ws.length := (List.getElem?_eq_some_iff.mp hi).1
    have hAl : A.length ≤ 64 * 64 := by
      rw [← hA]
      have key : ∀ (l : List (Word × Nat)), (l.flatMap fun l => (ws.zipIdx.filter fun t => !decide (l.2 = t.2)).map fun t => (l.2, t.2, less l.1 t.1)).length ≤ l.length * 64 := by
        intro l
        induction l with
        | nil => simp
        | cons z zs ih =>
          have := List.length_filter_le (fun t : Word × Nat => !decide (z.2 = t.2)) ws.zipIdx
          simp only [List.flatMap_cons, List.length_append, List.length_map, List.length_cons]
          omega
      have := key (ws.zipIdx.take i)
      have h3 : (ws.zipIdx.take i).length ≤ 64 := by rw [List.length_take]; omega
      omega
    have eds : h2[h.length]? = some (.lst ds) := pre_get pr q1
    refine run_forE (f := fun d : Dt => d) (xs := ds) (n := h.length) (h1 := h2) (by simp [itOf_lst eds])
      (fun j ρ h' => h1 <+: h' ∧ j ≤ ws.length ∧ (∃ (x6 x7 x8 : Option Dt), ρ = [some (.loc b), some (.loc h.length), none, some (.loc h1.length), some (.int (i : Nat)), some (wD w), x6, x7, x8]) ∧
        h'[h1.length]? = some (.lst ((A ++ ((ws.zipIdx.take j).filter fun t => !decide (i = t.2)).map fun t => (i, t.2, less w t.1)).map tD)))
      ⟨pr, Nat.zero_le _, ⟨x6, x7, x8, rfl⟩, by simpa using e2⟩ (fun j ρ h' q => by simpa using pre_get q.1 q1) ?_ ?_
    · rintro j d ρ h3 hj ⟨pr3, hjle, ⟨x6, x7, x8, rfl⟩, e3⟩
      have hjl : j < ws.length := by rw [← t1.1]; exact (List.getElem?_eq_some_iff.mp hj).1
      obtain ⟨n, b1, b2⟩ := t1.2 j ws[j] (List.getElem?_eq_getElem hjl)
      rw [hj] at b1
      cases b1
      have b3 := pre_get pr3 b2
      refine ⟨[some (.loc b), some (.loc h.length), none, some (.loc h1.length), some (.int (i : Nat)), some (wD w), some (.int (j : Nat)), some (.loc n), x8], by simp, fun O3 t3 => ?_⟩
      have hcut := cut j ws[j] (List.getElem?_eq_getElem hjl)
      by_cases hij : i = j
      · simp [hij]
        refine t3.N _ _ ⟨pr3, hjl, ⟨_, _, _, by rw [hij]⟩, ?_⟩
        rw [e3, hcut, List.filter_append]
        simp [hij]
      · have hij' : ¬ ((i : Nat) : Int) = ((j : Nat) : Int) := by omega
        have hwm := List.mem_of_getElem? hi
        obtain ⟨h4, f1, f2, f3⟩ := lc_pureA (g := Dt.int) (xs := w) (i := iSeq (eVar 5)) (p := .nm 8) (t := tBl (eOp (oIn true) (eVar 8) (eVar 7))) (e := eVar 8) (vs := [8]) (G := callK D (k + 1))
          (ρ := [some (.loc b), some (.loc h.length), none, some (.loc h1.length), some (.int (i : Nat)), some (wD w), some (.int (j : Nat)), some (.loc n), x8]) (h := h3) (h1 := h3) (by simp) its_tup (fun x => !decide (x ∈ ws[j])) Dt.int (by have := (hw w hwm).2; rw [sizeLine_eq]; omega) (by
          rintro x hx
          refine ⟨[some (.loc b), some (.loc h.length), none, some (.loc h1.length), some (.int (i : Nat)), some (wD w), some (.int (j : Nat)), some (.loc n), some (.int x)], by simp, fun h' pr => ⟨.now ?_, fun _ => .now (by simp)⟩⟩
          simp [in_tab (pre_get pr b3)])
        have e4 := pre_get f2 e3
        have hlen : ((A ++ ((ws.zipIdx.take j).filter fun t => !decide (i = t.2)).map fun t => (i, t.2, less w t.1)).map tD).length < sizeLine := by
          have := List.length_filter_le (fun t : Word × Nat => !decide (i = t.2)) (ws.zipIdx.take j)
          have h5 : (ws.zipIdx.take j).length ≤ 64 := by rw [List.length_take]; omega
          rw [sizeLine_eq]
          simp only [List.length_map, List.length_append]
          omega
        obtain ⟨h5, f4, u⟩ := app_ex (v := tD (i, j, less w ws[j])) e4 hlen
        have f5 : tD (i, j, less w ws[j]) = .tup [.int (i : Nat), .int (j : Nat), .tup ((w.filter fun x => !decide (x ∈ ws[j])).map Dt.int)] := rfl
        rw [f5] at f4
        simp only [sIf_s, tBl_s, eOp_s, eVar_s]
        simp [hij, hij', isLst_lst e3, f1, tuple_lst f3]
        simp [f4]
        refine t3.N _ _ ⟨u.pre (pr3.trans f2) (Nat.le_refl _), hjl, ⟨_, _, _, rfl⟩, ?_⟩
        rw [u.at_, hcut, List.filter_append]
        simp [hij]
    · rintro ρ h3 ⟨pr3, hjle, ⟨x6, x7, x8, rfl⟩, e3⟩
      rw [run_nx0]
      refine t2.N _ _ ⟨pr3, hil, ⟨_, _, _, _, _, rfl⟩, ?_⟩
      rw [e3, cut i w hi, List.flatMap_append, hA, t1.1, ← hzl, List.take_length]
      simp
  · rintro ρ h2 ⟨pr, hile, ⟨x4, x5, x6, x7, x8, rfl⟩, e2⟩
    simp
    refine oQ _ _ ⟨p1.trans pr, _, rfl, pre_len p1, ?_⟩
    rw [e2, ← hzl, List.take_length]
    rfl
end K75
end
section
namespace K75
open PySem L2 EP
variable {k : Nat} {h : MH}
theorem wpairs_len {ws : List Word} (h64 : ws.length ≤ 64) : (wpairs ws).length ≤ 64 * 64 := by
  unfold wpairs
  have key : ∀ (l : List (Word × Nat)), (l.flatMap fun l => (ws.zipIdx.filter fun t => !decide (l.2 = t.2)).map fun t => (l.2, t.2, less l.1 t.1)).length ≤ l.length * 64 := by
    intro l
    induction l with
    | nil => simp
    | cons z zs ih =>
      have := List.length_filter_le (fun t : Word × Nat => !decide (z.2 = t.2)) ws.zipIdx
      have : ws.zipIdx.length ≤ 64 := by simpa using h64
      simp only [List.flatMap_cons, List.length_append, List.length_map, List.length_cons]
      omega
  have := key ws.zipIdx
  have h3 : ws.zipIdx.length ≤ 64 := by simpa using h64
  omega
theorem less_len {a b : Word} : (less a b).length ≤ a.length := List.length_filter_le _ _
theorem wpairs_word {ws : List Word} {t : Nat × Nat × Word} (ht : t ∈ wpairs ws) : ∃ w ∈ ws, ∃ v ∈ ws, t.2.2 = less w v := by
  obtain ⟨l, hl, ht⟩ := List.mem_flatMap.mp ht
  obtain ⟨u, hu, rfl⟩ := List.mem_map.mp ht
  have h1 := (List.mem_filter.mp hu).1
  obtain ⟨w, i⟩ := l
  obtain ⟨v, j⟩ := u
  exact ⟨w, (List.mem_zipIdx' hl).2 ▸ List.getElem_mem _, v, (List.mem_zipIdx' h1).2 ▸ List.getElem_mem _, rfl⟩
theorem plan_pairs {p : Plan} (wp : Pw p) : ∃ d h', callK D (k + 3) i_plan_pairs [pD p] h = .ok d h' ∧ h <+: h' ∧ ∃ a, d = .loc a ∧ h'[a]? = some (.lst ((ppairs p).map t4D)) := by
  refine Ans.ok (Q := fun d h' => h <+: h' ∧ ∃ a, d = .loc a ∧ h'[a]? = some (.lst ((ppairs p).map t4D))) (call_run (md := D_plan_pairs) rfl rfl fun O oN oQ oX => ?_)
  simp [m_plan_pairs]
  have cut : ∀ (i : Nat) (r : Row), p.2[i]? = some r → p.2.zipIdx.take (i + 1) = p.2.zipIdx.take i ++ [(r, i)] := by
    intro i w e
    rw [List.take_succ, List.getElem?_zipIdx, e]
    simp
  have hzl : p.2.zipIdx.length = p.2.length := by simp
  refine run_forET (f := sD) (xs := p.2) (h1 := h ++ [.lst []]) (by simp) (fun i ρ h' => h <+: h' ∧ i ≤ p.2.length ∧ (∃ (x2 x3 x4 x5 x6 : Option Dt), ρ = [some (pD p), some (.loc h.length), x2, x3, x4, x5, x6, none]) ∧
    h'[h.length]? = some (.lst (((p.2.zipIdx.take i).flatMap fun r => (wpairs (r.1.map (·.1))).map fun t => (r.2, t.1, t.2.1, t.2.2)).map t4D)))
    ⟨pre_app _ _, Nat.zero_le _, ⟨none, none, none, none, none, rfl⟩, by simp⟩ ?_ ?_
  · rintro i r ρ h2 hi ⟨pr, hile, ⟨x2, x3, x4, x5, x6, rfl⟩, e2⟩
    have hil : i < p.2.length := (List.getElem?_eq_some_iff.mp hi).1
    obtain ⟨r64, rw'⟩ := wp.row r (List.mem_of_getElem? hi)
    refine ⟨[some (pD p), some (.loc h.length), some (.int (i : Nat)), some (sD r), x4, x5, x6, none], by simp, fun O2 t2 => ?_⟩
    generalize hA : ((p.2.zipIdx.take i).flatMap fun r => (wpairs (r.1.map (·.1))).map fun t => (r.2, t.1, t.2.1, t.2.2)) = A at e2
    have hAl : A.length ≤ 12 * 4096 := by
      rw [← hA]
      have key : ∀ (l : List (Row × Nat)), (∀ r ∈ l, r.1.length ≤ 64) → (l.flatMap fun r => (wpairs (r.1.map (·.1))).map fun t => (r.2, t.1, t.2.1, t.2.2)).length ≤ l.length * 4096 := by
        intro l
        induction l with
        | nil => intro _; simp
        | cons z zs ih =>
          intro hz
          have h1 := ih fun r hr => hz r (by simp [hr])
          have h2 : (wpairs (z.1.map (·.1))).length ≤ 4096 := wpairs_len (ws := z.1.map (·.1)) (by simpa using hz z (by simp))
          simp only [List.flatMap_cons, List.length_append, List.length_map, List.length_cons]
          rw [Nat.add_mul, Nat.one_mul, Nat.add_comm]
          exact Nat.add_le_add h1 h2
      have h1 := key (p.2.zipIdx.take i) fun r hr => by
        have := List.mem_of_mem_take hr
        obtain ⟨r0, j⟩ := r
        have hm : r0 ∈ p.2 := (List.mem_zipIdx' this).2 ▸ List.getElem_mem _
        exact (wp.row r0 hm).1
      have h3 : (p.2.zipIdx.take i).length ≤ 12 := by have := wp.len; rw [List.length_take]; omega
      exact Nat.le_trans h1 (Nat.mul_le_mul_right _ h3)
    obtain ⟨h3, f1, f2, f3⟩ := lc_mapA (g := eD) (xs := r) (i := iSeq (eVar 3)) (p := .nm 7) (e := eOp oGet (eVar 7) (eC (.int 0))) (vs := [7]) (G := callK D (k + 2)) (ρ := [some (pD p), some (.loc h.length), some (.int (i : Nat)), some (sD r), x4, x5, x6, none]) (h := h2) (h1 := h2) (by simp) its_tup (fun e => wD e.1) (by rw [sizeLine_eq]; omega) (by
      rintro x hx
      exact ⟨[some (pD p), some (.loc h.length), some (.int (i : Nat)), some (sD r), x4, x5, x6, some (eD x)], by simp, fun h' _ => .now (by simp)⟩)
    have f3' : h3[h2.length]? = some (.lst ((r.map (·.1)).map wD)) := by rw [f3, List.map_map]; rfl
    obtain ⟨d, h4, g1, g2, a, rfl, ga, g3⟩ := word_pairs (k := k) f3' (by simpa using r64) (fun w hw => by
      obtain ⟨e, he, rfl⟩ := List.mem_map.mp hw
      exact rw' e he)
    have e4 := pre_get g2 (pre_get f2 e2)
    have hne : a ≠ h.length := by
      have := lt_of_get (pre_get f2 e2)
      omega
    refine run_forL (f := tD) (xs := wpairs (r.map (·.1))) (n := a) (h1 := h4) (by simp [f1, g1, itOf_lst g3])
      (fun j ρ h' => h <+: h' ∧ (∃ (x4 x5 x6 : Option Dt), ρ = [some (pD p), some (.loc h.length), some (.int (i : Nat)), some (sD r), x4, x5, x6, none]) ∧ h'[a]? = some (.lst ((wpairs (r.map (·.1))).map tD)) ∧
        h'[h.length]? = some (.lst ((A ++ ((wpairs (r.map (·.1))).take j).map fun t => (i, t.1, t.2.1, t.2.2)).map t4D)))
      ⟨pr.trans (f2.trans g2), ⟨x4, x5, x6, rfl⟩, g3, by simpa using e4⟩ (fun j ρ h' q => q.2.2.1) ?_ ?_
    · rintro j t ρ h5 hj ⟨pr5, ⟨x4, x5, x6, rfl⟩, e5, e6⟩
      refine ⟨[some (pD p), some (.loc h.length), some (.int (i : Nat)), some (sD r), some (.int (t.1 : Nat)), some (.int (t.2.1 : Nat)), some (wD t.2.2), none], by simp, fun O3 t3 => ?_⟩
      have hlen : ((A ++ ((wpairs (r.map (·.1))).take j).map fun t => (i, t.1, t.2.1, t.2.2)).map t4D).length < sizeLine := by
        have h7 : (wpairs (r.map (·.1))).length ≤ 4096 := wpairs_len (ws := r.map (·.1)) (by simpa using r64)
        rw [sizeLine_eq]
        simp only [List.length_map, List.length_append, List.length_take]
        omega
      obtain ⟨h6, f4, u⟩ := app_ex (v := t4D (i, t.1, t.2.1, t.2.2)) e6 hlen
      simp [isLst_lst e6, f4]
      refine t3.N _ _ ⟨u.pre pr5 (Nat.le_refl _), ⟨_, _, _, rfl⟩, u.get hne e5, ?_⟩
      rw [u.at_, List.take_succ, hj]
      simp
    · rintro ρ h5 ⟨pr5, ⟨x4, x5, x6, rfl⟩, e5, e6⟩
      rw [run_nx0]
      refine t2.N _ _ ⟨pr5, hil, ⟨_, _, _, _, _, rfl⟩, ?_⟩
      rw [e6, cut i r hi, List.flatMap_append, hA, List.take_length]
      simp
  · rintro ρ h2 ⟨pr, hile, ⟨x2, x3, x4, x5, x6, rfl⟩, e2⟩
    simp
    refine oQ _ _ ⟨pr, _, rfl, ?_⟩
    rw [e2, ← hzl, List.take_length]
    rfl
end K75
end
section
namespace K75
open PySem L2 EP
variable {k : Nat} {h : MH}
/-- the least of the sizes, less one; none of none -/
def gapD (ns : List Nat) : Dt := if ns = [] then .non else .int (minL (ns.map fun (n : Nat) => (n : Int)) - 1)
theorem get_m1 {a b c d : Dt} : oGet (.tup [a, b, c, d]) (.int (-1)) h = .ok d h := rfl
theorem get3 {a b c d : Dt} : oGet (.tup [a, b, c, d]) (.int 3) h = .ok d h := rfl
theorem min_lst {n : Nat} {ns : List Int} (e : h[n]? = some (.lst (ns.map Dt.int))) (ne : ns ≠ []) : bMin [.loc n] h = .ok (.int (minL ns)) h := by
  simp [bMin, getL, e, intsOf_map, ne]
theorem ppairs_len {p : Plan} (wp : Pw p) : (ppairs p).length ≤ 12 * 4096 := by
  unfold ppairs
  have key : ∀ (l : List (Row × Nat)), (∀ r ∈ l, r.1.length ≤ 64) → (l.flatMap fun r => (wpairs (r.1.map (·.1))).map fun t => (r.2, t.1, t.2.1, t.2.2)).length ≤ l.length * 4096 := by
    intro l
    induction l with
    | nil => intro _; simp
    | cons z zs ih =>
      intro hz
      have h1 := ih fun r hr => hz r (by simp [hr])
      have h2 : (wpairs (z.1.map (·.1))).length ≤ 4096 := wpairs_len (ws := z.1.map (·.1)) (by simpa using hz z (by simp))
      simp only [List.flatMap_cons, List.length_append, List.length_map, List.length_cons]
      rw [Nat.add_mul, Nat.one_mul, Nat.add_comm]
      exact Nat.add_le_add h1 h2
  have h1 := key p.2.zipIdx fun r hr => by
    obtain ⟨r0, j⟩ := r
    have hm : r0 ∈ p.2 := (List.mem_zipIdx' hr).2 ▸ List.getElem_mem _
    exact (wp.row r0 hm).1
  have h3 : p.2.zipIdx.length ≤ 12 := by simpa using wp.len
  exact Nat.le_trans h1 (Nat.mul_le_mul_right _ h3)
theorem least_gap {a : Nat} {ts : List (Nat × Nat × Nat × Word)} (ea : h[a]? = some (.lst (ts.map t4D))) (hl : ts.length ≤ 12 * 4096) : ∃ h', callK D (k + 1) i_least_gap [.loc a] h = .ok (gapD (ts.map fun t => t.2.2.2.length)) h' ∧ h <+: h' := by
  refine Ans.val (call_run (md := D_least_gap) rfl rfl fun O oN oQ oX => ?_)
  obtain ⟨h2, e1, p1, q1⟩ := lc_mapA (g := t4D) (xs := ts) (i := iSeq (eVar 0)) (p := .nm 2) (e := eBf bLen (aCons (eOp oGet (eVar 2) (eNeg (eC (.int 1)))) aNil)) (vs := [2]) (G := callK D k) (ρ := [some (.loc a), none, none]) (h := h) (h1 := h) (by simp [itOf_lst ea]) (its_lstA ea) (fun t => .int (t.2.2.2.length : Int)) (by rw [sizeLine_eq]; exact Nat.le_trans hl (by decide)) (by
    rintro t ht
    exact ⟨[some (.loc a), none, some (t4D t)], by simp, fun h' _ => .now (by simp [get_m1])⟩)
  simp [m_least_gap, e1, truth_lst q1]
  cases ts with
  | nil =>
    simp
    exact oQ _ _ ⟨by simp [gapD], p1⟩
  | cons t r =>
    simp
    have q2 : h2[h.length]? = some (.lst ((((t :: r).map fun t => t.2.2.2.length).map fun (n : Nat) => (n : Int)).map Dt.int)) := by rw [q1]; simp [Function.comp_def]
    rw [min_lst q2 (by simp)]
    simp
    exact oQ _ _ ⟨by simp [gapD], p1⟩
theorem greatest_even {p : Plan} (wp : Pw p) : ∃ h', callK D (k + 4) i_greatest_even [pD p] h = .ok (gapD ((ppairs p).map fun t => t.2.2.2.length)) h' ∧ h <+: h' := by
  refine Ans.val (call_run (md := D_greatest_even) rfl rfl fun O oN oQ oX => ?_)
  obtain ⟨d, h1, e1, p1, a, rfl, ea⟩ := plan_pairs (k := k) (h := h) wp
  obtain ⟨h2, e2, p2⟩ := least_gap (k := k + 2) ea (ppairs_len wp)
  simp [m_greatest_even, e1, e2]
  exact oQ _ _ ⟨rfl, p1.trans p2⟩
theorem first_bar {p : Plan} {l : Lim} (wp : Pw p) (en : p.1 = l.1) (h64 : l.2.length ≤ 64) (hw : ∀ c ∈ l.2, c.1.Nodup ∧ c.1.length ≤ 200) :
    ∃ d h', callK D (k + 4) i_first_bar [pD p, lD l] h = .ok d h' ∧ h <+: h' ∧ (((ppairs p).all (fun t => !fits l.2 t.2.2.2) = true ∧ d = .non) ∨ ((ppairs p).all (fun t => !fits l.2 t.2.2.2) = false ∧ ∃ xs, d = .tup xs)) := by
  refine Ans.ok (Q := fun d h' => h <+: h' ∧ (((ppairs p).all (fun t => !fits l.2 t.2.2.2) = true ∧ d = .non) ∨ ((ppairs p).all (fun t => !fits l.2 t.2.2.2) = false ∧ ∃ xs, d = .tup xs))) (call_run (md := D_first_bar) rfl rfl fun O oN oQ oX => ?_)
  have hcf := check_fit (k := k + 2) (h := h) l.1
  obtain ⟨d1, h1, e1, p1, a, ds, rfl, ea, ta⟩ := clause_tables (k := k + 1) (h := h) h64 hw
  obtain ⟨d2, h2, e2, p2, b, rfl, eb⟩ := plan_pairs (k := k) (h := h1) wp
  have hwl : ∀ t ∈ ppairs p, t.2.2.2.length ≤ 200 := by
    intro t ht
    obtain ⟨r, hr, ht⟩ := List.mem_flatMap.mp ht
    obtain ⟨u, hu, rfl⟩ := List.mem_map.mp ht
    obtain ⟨w, hw1, v, hv, e⟩ := wpairs_word hu
    obtain ⟨x, hx, rfl⟩ := List.mem_map.mp hw1
    obtain ⟨r0, j⟩ := r
    have hm : r0 ∈ p.2 := (List.mem_zipIdx' hr).2 ▸ List.getElem_mem _
    have h5 := ((wp.row r0 hm).2 x hx).2
    have h6 := less_len (a := x.1) (b := v)
    show u.2.2.length ≤ 200
    rw [e]
    exact Nat.le_trans h6 h5
  simp [m_first_bar, en, hcf, e1]
  refine run_forL (f := t4D) (xs := ppairs p) (n := b) (h1 := h2) (by simp [e2, itOf_lst eb]) (fun i ρ h' => h2 <+: h' ∧ (∃ (x3 : Option Dt), ρ = [some (pD p), some (lD l), some (.loc a), x3]) ∧ ∀ t ∈ (ppairs p).take i, fits l.2 t.2.2.2 = false)
    ⟨pre_refl _, ⟨none, by simp [en]⟩, by simp⟩ (fun i ρ h' q => pre_get q.1 eb) ?_ ?_
  · rintro i t ρ h' ht ⟨pr, ⟨x3, rfl⟩, hc⟩
    have htm := List.mem_of_getElem? ht
    refine ⟨[some (pD p), some (lD l), some (.loc a), some (t4D t)], by simp, fun O2 t2 => ?_⟩
    obtain ⟨d, h3, f1, f2, f3⟩ := first_beyond (k := k + 1) (v := t.2.2.2) (pre_get (p2.trans pr) ea) (ta.mono (p2.trans pr)) (hwl t htm)
    rcases f3 with ⟨f3, rfl⟩ | ⟨f3, j, rfl⟩
    · simp [get3, f1]
      rw [show oCut (t4D t) none (some 3) h3 = .ok (.tup (cutD [.int (t.1 : Nat), .int (t.2.1 : Nat), .int (t.2.2.1 : Nat), wD t.2.2.2] none (some 3))) h3 from rfl, bndS_ok, run_rt]
      refine t2.Q _ _ (oQ _ _ ⟨p1.trans (p2.trans (pr.trans f2)), .inr ⟨?_, _, rfl⟩⟩)
      rw [List.all_eq_false]
      exact ⟨t, htm, by simp [f3]⟩
    · simp [get3, f1]
      refine t2.N _ _ ⟨pr.trans f2, ⟨_, rfl⟩, fun u hu => ?_⟩
      rw [List.take_succ, ht] at hu
      rcases List.mem_append.mp hu with z | z
      · exact hc u z
      · simp at z
        subst z
        exact f3
  · rintro ρ h' ⟨pr, ⟨x3, rfl⟩, hc⟩
    simp
    refine oQ _ _ ⟨p1.trans (p2.trans pr), .inl ⟨?_, rfl⟩⟩
    rw [List.all_eq_true]
    intro t ht
    rw [hc t (by rw [List.take_length]; exact ht)]
    rfl
theorem is_right {p : Plan} {l : Lim} (wp : Pw p) (en : p.1 = l.1) (h64 : l.2.length ≤ 64) (hw : ∀ c ∈ l.2, c.1.Nodup ∧ c.1.length ≤ 200) :
    ∃ h', callK D (k + 5) i_is_right [pD p, lD l] h = .ok (.bl ((ppairs p).all fun t => !fits l.2 t.2.2.2)) h' ∧ h <+: h' := by
  refine Ans.val (call_run (md := D_is_right) rfl rfl fun O oN oQ oX => ?_)
  obtain ⟨d, h1, e1, p1, f⟩ := first_bar (k := k) (h := h) wp en h64 hw
  rcases f with ⟨f, rfl⟩ | ⟨f, xs, rfl⟩
  · simp [m_is_right, e1]
    exact oQ _ _ ⟨by rw [f], p1⟩
  · simp [m_is_right, e1]
    exact oQ _ _ ⟨by rw [f], p1⟩
end K75
end
section
namespace K75
open PySem L2 EP
variable {k : Nat} {h : MH}
/-! ### the law's own small defs -/
theorem in_wD {ng : Bool} {w : Word} {x : Int} : oIn ng (.int x) (wD w) h = .ok (.bl (if ng then !decide (x ∈ w) else decide (x ∈ w))) h := by
  have h1 : (w.map Dt.int).all Dt.flat = true := by
    rw [List.all_map, List.all_eq_true]
    intro y _
    rfl
  have h2 : ((w.map Dt.int).any fun z => eqv z (.int x)) = decide (x ∈ w) := by
    rw [List.any_map, Bool.eq_iff_iff, List.any_eq_true, decide_eq_true_eq]
    constructor
    · rintro ⟨y, hy, e⟩
      simp at e
      exact e ▸ hy
    · intro hm
      exact ⟨x, hm, by simp⟩
  show (if (Dt.int x).flat = true ∧ (w.map Dt.int).all Dt.flat = true then RE.ok (Dt.bl (if ng then !((w.map Dt.int).any fun z => eqv z (.int x)) else (w.map Dt.int).any fun z => eqv z (.int x))) h else .bad) = _
  rw [if_pos ⟨rfl, h1⟩, h2]
theorem law_less {a b : Word} (hl : a.length ≤ 200) : ∃ h', callK D (k + 1) i_law_less [wD a, wD b] h = .ok (wD (less a b)) h' ∧ h <+: h' := by
  refine Ans.val (call_run (md := D_law_less) rfl rfl fun O oN oQ oX => ?_)
  obtain ⟨h2, e1, p1, q1⟩ := lc_pureA (g := Dt.int) (xs := a) (i := iSeq (eVar 0)) (p := .nm 2) (t := tBl (eOp (oIn true) (eVar 2) (eVar 1))) (e := eVar 2) (vs := [2]) (G := callK D k) (ρ := [some (wD a), some (wD b), none]) (h := h) (h1 := h) (by simp) its_tup (fun x => !decide (x ∈ b)) Dt.int (by rw [sizeLine_eq]; omega) (by
    rintro x hx
    refine ⟨[some (wD a), some (wD b), some (.int x)], by simp, fun h' pr => ⟨.now ?_, fun _ => .now (by simp)⟩⟩
    simp [in_wD])
  simp [m_law_less, e1, tuple_lst q1]
  exact oQ _ _ ⟨rfl, p1⟩
theorem law_joined {n : Int} {a b : Word} (ha : a.length ≤ 200) (hb : b.length ≤ 200) : ∃ h', callK D (k + 1) i_law_joined [.int n, wD a, wD b] h = .ok (wD (joinW n a b)) h' ∧ h <+: h' := by
  refine Ans.val (call_run (md := D_law_joined) rfl rfl fun O oN oQ oX => ?_)
  obtain ⟨h2, e1, p1, q1⟩ := lc_mapA (g := Dt.int) (xs := b) (i := iSeq (eVar 2)) (p := .nm 3) (e := eOp oAdd (eVar 3) (eVar 0)) (vs := [3]) (G := callK D k) (ρ := [some (.int n), some (wD a), some (wD b), none]) (h := h) (h1 := h) (by simp) its_tup (fun x => .int (x + n)) (by rw [sizeLine_eq]; omega) (by
    rintro x hx
    exact ⟨[some (.int n), some (wD a), some (wD b), some (.int x)], by simp, fun h' pr => .now (by simp)⟩)
  have hl : (a.map Dt.int ++ b.map fun x => Dt.int (x + n)).length ≤ sizeLine := by rw [sizeLine_eq]; simp; omega
  simp [m_law_joined, e1, tuple_lst q1, newT_le hl]
  exact oQ _ _ ⟨by simp [joinW, Function.comp_def], p1⟩
end K75
end
section
/-! MidP: what is wanted behind an expression; walks kept by an invariant of the heap. -/
namespace EP
open PySem L2
@[irreducible] def WE {α : Type} (m : RE α) (Q : α → MH → Prop) (X : Str → Fs → MH → Prop) : Prop := match m with
  | .ok a h => Q a h
  | .ex C fs h => X C fs h
  | .bad => False
section
variable {α β : Type} {Q : α → MH → Prop} {X : Str → Fs → MH → Prop} {h : MH} {G : Orc} {O : Out} {ks : List SS} {ρ : Env}
@[simp] theorem we_ok {a : α} : WE (.ok a h) Q X = Q a h := by unfold WE; rfl
@[simp] theorem we_ex {C : Str} {fs : Fs} : WE (α := α) (.ex C fs h) Q X = X C fs h := by unfold WE; rfl
@[simp] theorem we_bad : WE (α := α) .bad Q X = False := by unfold WE; rfl
@[simp] theorem we_bnd {m : RE β} {f : β → MH → RE α} : WE (bnd m f) Q X = WE m (fun b h => WE (f b h) Q X) X := by cases m <;> simp [bnd]
@[simp] theorem run_bndS {m : RE α} {f : α → MH → RS} : Run G O ks (bndS ρ m f) = WE m (fun a h => Run G O ks (f a h)) (fun C fs h => O.X C fs ρ h) := by
  cases m <;> simp [bndS]
theorem WE.mono {m : RE α} {Q' : α → MH → Prop} {X' : Str → Fs → MH → Prop} (w : WE m Q X) (q : ∀ a h, Q a h → Q' a h) (x : ∀ C fs h, X C fs h → X' C fs h) : WE m Q' X' := by
  cases m with
  | ok a h => rw [we_ok] at w ⊢; exact q _ _ w
  | ex C fs h => rw [we_ex] at w ⊢; exact x _ _ _ w
  | bad => rw [we_bad] at w ⊢; exact w
theorem WE.monoQ {m : RE α} {Q' : α → MH → Prop} (w : WE m Q X) (q : ∀ a h, Q a h → Q' a h) : WE m Q' X := w.mono q fun _ _ _ h => h
abbrev noX : Str → Fs → MH → Prop := fun _ _ _ => False
theorem WE.ofNo {m : RE α} (w : WE m Q noX) : WE m Q X := w.mono (fun _ _ h => h) fun _ _ _ h => h.elim
theorem WE.run {m : RE α} (w : WE m Q noX) : ∃ a h, m = .ok a h ∧ Q a h := by
  cases m with
  | ok a h => rw [we_ok] at w; exact ⟨a, h, rfl, w⟩
  | ex C fs h => rw [we_ex] at w; exact w.elim
  | bad => rw [we_bad] at w; exact w.elim
/-- from a run that is known -/
theorem wp_val {m : RE α} {v : α} {P : MH → Prop} (e : ∃ h', m = .ok v h' ∧ P h') (q : ∀ h', P h' → Q v h') : WE m Q X := by
  obtain ⟨h', rfl, p⟩ := e
  rw [we_ok]
  exact q h' p
theorem wp_ok {m : RE α} {P : α → MH → Prop} (e : ∃ v h', m = .ok v h' ∧ P v h') (q : ∀ v h', P v h' → Q v h') : WE m Q X := by
  obtain ⟨v, h', rfl, p⟩ := e
  rw [we_ok]
  exact q v h' p
theorem wp_eq {m : RE α} {v : α} (e : m = .ok v h) (q : Q v h) : WE m Q X := by rw [e, we_ok]; exact q
theorem wp_ex {m : RE α} {C : Str} {fs : Fs} (e : m = .ex C fs h) (q : X C fs h) : WE m Q X := by rw [e, we_ex]; exact q
end
/-- a def called -/
theorem call_wp {D : List MDef} {k n : Nat} {md : MDef} {args : List Dt} {h : MH} {Q : Dt → MH → Prop} {X : Str → Fs → MH → Prop} (e : D[n]? = some md) (l : args.length = md.ar)
    (r : ∀ O : Out, (∀ ρ h, Q .non h → O.N ρ h) → (∀ d h, Q d h → O.Q d h) → (∀ C fs ρ h, X C fs h → O.X C fs ρ h) → Run (callK D k) O [] (md.body (callK D k) (args.map some ++ List.replicate (md.sl - args.length) none) h)) : WE (callK D (k + 1) n args h) Q X := by
  have := call_run e l r
  revert this
  cases callK D (k + 1) n args h with
  | ok d h => rw [we_ok]; exact id
  | ex C fs h => rw [we_ex]; exact id
  | bad => rw [we_bad]; exact id
/-! ### walks under an invariant of the heap -/
structure HI (I : Wk) (H : MH → Prop) (xs : List Dt) : Prop where
  tot : I.tot = xs.length
  get : ∀ h, H h → ∀ i, i < xs.length → I.get i h = xs[i]?
  fin : ∀ h, H h → I.fin h = true
theorem HF.hi {I : Wk} {xs : List Dt} {H : MH → Prop} (t : HF I xs) : HI I H xs := ⟨t.tot, fun h _ => t.get h, fun h _ => t.fin h⟩
theorem hi_tup {xs : List Dt} {H : MH → Prop} : HI (itT xs) H xs := hf_tup.hi
theorem hi_lst {n : Nat} {xs : List Dt} {H : MH → Prop} (e : ∀ h, H h → h[n]? = some (.lst xs)) : HI (itL n xs.length) H xs :=
  ⟨rfl, fun h hh i _ => by simp [itL, getL, e h hh], fun h hh => by simp [itL, getL, e h hh]⟩
theorem hi_lstA {α : Type} {f : α → Dt} {n : Nat} {xs : List α} {H : MH → Prop} (e : ∀ h, H h → h[n]? = some (.lst (xs.map f))) : HI (itL n xs.length) H (xs.map f) := by
  have := hi_lst e
  simpa using this
theorem hi_enum {I : Wk} {xs : List Dt} {H : MH → Prop} (t : HI I H xs) : HI (itE I) H (xs.zipIdx.map fun q => .tup [.int (q.2 : Nat), q.1]) :=
  ⟨by simp [itE, t.tot], fun h hh i hi => by
    have hi' : i < xs.length := by simpa using hi
    simp [itE, t.get h hh i hi', hi'], fun h hh => t.fin h hh⟩
theorem hi_enumA {α : Type} {f : α → Dt} {I : Wk} {xs : List α} {H : MH → Prop} (t : HI I H (xs.map f)) : HI (itE I) H (xs.zipIdx.map fun q => .tup [.int (q.2 : Nat), f q.1]) := by
  have := hi_enum t
  have e : ((xs.map f).zipIdx.map fun q => Dt.tup [.int (q.2 : Nat), q.1]) = xs.zipIdx.map fun q => Dt.tup [.int (q.2 : Nat), f q.1] := by
    rw [List.zipIdx_map, List.map_map]
    rfl
  rwa [e] at this
theorem hi_zipA {α β : Type} {f : α → Dt} {g : β → Dt} {I J : Wk} {xs : List α} {ys : List β} {H : MH → Prop} (t : HI I H (xs.map f)) (u : HI J H (ys.map g)) : HI (itZ I J (min I.tot J.tot)) H ((xs.zip ys).map fun q => .tup [f q.1, g q.2]) :=
  ⟨by simp [itZ, t.tot, u.tot], fun h hh i hi => by
    have hi' : i < xs.length ∧ i < ys.length := by simpa [Nat.lt_min] using hi
    simp [itZ, t.get h hh i (by simpa using hi'.1), u.get h hh i (by simpa using hi'.2), hi'.1, hi'.2, List.getElem?_zip_eq_some, List.zip, List.getElem?_zipWith], fun h hh => by
    simp only [itZ, t.fin h hh, u.fin h hh, t.tot, u.tot, Bool.true_and, Bool.or_eq_true, decide_eq_true_eq]
    omega⟩
theorem hi_rng0 {n : Nat} {H : MH → Prop} : HI (itR 0 n) H ((List.range n).map fun i => Dt.int (i : Nat)) := by
  have := (hf_rng (lo := 0) (n := n)).hi (H := H)
  simpa using this
theorem hi_rng {lo : Int} {n : Nat} {H : MH → Prop} : HI (itR lo n) H ((List.range n).map fun i => Dt.int (lo + (i : Nat))) := hf_rng.hi
theorem HI.mono {I : Wk} {H H' : MH → Prop} {xs : List Dt} (t : HI I H xs) (k : ∀ h, H' h → H h) : HI I H' xs := ⟨t.tot, fun h hh => t.get h (k h hh), fun h hh => t.fin h (k h hh)⟩
theorem Its.hi {I : Wk} {h : MH} {xs : List Dt} (t : Its I h xs) : HI I (fun h' => h <+: h') xs := ⟨t.tot, t.get, t.fin⟩

def l62 : Int := 4611686018427387904
theorem lim62_big : (1000000 : Int) < lim62 ∧ (0 : Int) < lim62 := by decide
theorem rg1_ok {n : Int} (h0 : -1000000 ≤ n) (hn : n ≤ 1000000) : (-lim62 ≤ 0 ∧ 0 < lim62 ∧ -lim62 ≤ n ∧ n < lim62) := by
  obtain ⟨a, b⟩ := lim62_big
  generalize lim62 = l at a b
  omega
theorem rg2_ok {m n : Int} (m0 : -1000000 ≤ m) (hm : m ≤ 1000000) (h0 : -1000000 ≤ n) (hn : n ≤ 1000000) : (-lim62 ≤ m ∧ m < lim62 ∧ -lim62 ≤ n ∧ n < lim62) := by
  obtain ⟨a, b⟩ := lim62_big
  generalize lim62 = l at a b
  omega
/-- a small number -/
@[irreducible] def Sm (n : Int) : Prop := -1000000 ≤ n ∧ n ≤ 1000000
theorem sm_nat {n : Nat} (h : n ≤ 1000) : Sm (n : Int) := by unfold Sm; omega
theorem sm_int {n : Int} (h0 : -1000 ≤ n) (h : n ≤ 1000) : Sm n := by unfold Sm; omega
theorem rgOk_of {m n : Int} (m0 : -1000000 ≤ m) (hm : m ≤ 1000000) (h0 : -1000000 ≤ n) (hn : n ≤ 1000000) : rgOk m n = true := by
  obtain ⟨a, b⟩ := lim62_big
  unfold rgOk
  rw [decide_eq_true_eq]
  generalize lim62 = l at a b
  omega
section
variable {G : Orc} {O : Out} {ks : List SS} {ρ : Env} {h : MH}
/-- range(x): the walk that it makes -/
theorem iRg1_wp {x : SE} {Q : Wk → MH → Prop} {X : Str → Fs → MH → Prop} (w : WE (x G ρ h) (fun d h' => ∃ n : Int, d = .int n ∧ Sm n ∧ Q (itR 0 n.toNat) h') X) : WE (iRg (rg1 x) G ρ h) Q X := by
  rw [iRg_s, rg1_s]
  simp only [we_bnd]
  refine w.monoQ ?_
  rintro d h' ⟨n, rfl, sm, q⟩
  obtain ⟨a, b⟩ : -1000000 ≤ n ∧ n ≤ 1000000 := by unfold Sm at sm; exact sm
  simp only [we_ok]
  rw [if_pos (rg1_ok a b)]
  simpa using q
theorem iRg2_wp {x y : SE} {Q : Wk → MH → Prop} {X : Str → Fs → MH → Prop} (w : WE (x G ρ h) (fun d h' => WE (y G ρ h') (fun d2 h2 => ∃ m n : Int, d = .int m ∧ d2 = .int n ∧ Sm m ∧ Sm n ∧ Q (itR m (n - m).toNat) h2) X) X) : WE (iRg (rg2 x y) G ρ h) Q X := by
  rw [iRg_s, rg2_s]
  simp only [we_bnd]
  refine w.monoQ ?_
  intro d h' w2
  refine w2.monoQ ?_
  rintro d2 h2 ⟨m, n, rfl, rfl, sm, sn, q⟩
  obtain ⟨a, b⟩ : -1000000 ≤ m ∧ m ≤ 1000000 := by unfold Sm at sm; exact sm
  obtain ⟨c, e⟩ : -1000000 ≤ n ∧ n ≤ 1000000 := by unfold Sm at sn; exact sn
  simp only [we_ok]
  rw [if_pos (rg2_ok a b c e)]
  rw [we_ok]; exact q
/-- a for whose walk is made by what is known -/
theorem run_sFor {i : SI} {p : TP} {b : SS} (w : WE (i G ρ h) (fun I h1 => Run G O ks (sFor (fun _ _ h => .ok I h) p b G ρ h1)) (fun C fs h => O.X C fs ρ h)) : Run G O ks (sFor i p b G ρ h) := by
  rw [sFor_s]
  rw [run_bndS]
  exact w
theorem run_wk {α : Type} {f : α → Dt} {I : Wk} {p : TP} {b : SS} {xs : List α} {H : MH → Prop} (hI : HI I H (xs.map f)) (Inv : Nat → Env → MH → Prop) (hH : ∀ i ρ h, Inv i ρ h → H h) (h0 : Inv 0 ρ h)
    (step : ∀ i x ρ h, xs[i]? = some x → Inv i ρ h → ∃ ρ', assignP p (f x) ρ = some ρ' ∧ ∀ O', ToB O' O G ks (Inv (i + 1)) → Run G O' [] (b G ρ' h))
    (fin : ∀ ρ h, Inv xs.length ρ h → Run G O ks (.nx ρ h)) : Run G O ks (sFor (fun _ _ h => .ok I h) p b G ρ h) := by
  refine run_for (I := I) (h1 := h) rfl Inv h0 (fun i ρ h hlt inv => ?_) fun ρ h inv => ?_
  · have hl : i < xs.length := by rw [hI.tot, List.length_map] at hlt; exact hlt
    obtain ⟨ρ', e1, e2⟩ := step i xs[i] ρ h (List.getElem?_eq_getElem hl) inv
    exact ⟨f xs[i], ρ', by rw [hI.get h (hH _ _ _ inv) i (by simpa using hl), List.getElem?_map, List.getElem?_eq_getElem hl]; rfl, e1, e2⟩
  · rw [hI.tot, List.length_map] at inv
    exact ⟨hI.fin h (hH _ _ _ inv), fin ρ h inv⟩
/-- a loop that fills the list at a -/
theorem run_col {α : Type} {f : α → Dt} {I : Wk} {p : TP} {b : SS} {xs : List α} {H : MH → Prop} (hI : HI I H (xs.map f)) {a : Nat} (E : Env → Prop) (g : α → List Dt) {acc0 : List Dt} (hE : E ρ) (hH : H h) (e0 : h[a]? = some (.lst acc0)) (hN : acc0.length + (xs.flatMap g).length ≤ sizeLine)
    (step : ∀ (j : Nat) x ρ h acc, xs[j]? = some x → E ρ → H h → h[a]? = some (.lst acc) → acc.length + (g x).length ≤ sizeLine → ∃ ρ', assignP p (f x) ρ = some ρ' ∧ ∀ O', ToB O' O G ks (fun ρ h => E ρ ∧ H h ∧ h[a]? = some (.lst (acc ++ g x))) → Run G O' [] (b G ρ' h))
    (fin : ∀ ρ h, E ρ → H h → h[a]? = some (.lst (acc0 ++ xs.flatMap g)) → Run G O ks (.nx ρ h)) : Run G O ks (sFor (fun _ _ h => .ok I h) p b G ρ h) := by
  refine run_wk hI (fun i ρ h => E ρ ∧ H h ∧ h[a]? = some (.lst (acc0 ++ (xs.take i).flatMap g))) (fun _ _ _ q => q.2.1) ⟨hE, hH, by simpa using e0⟩ ?_ ?_
  · rintro i x ρ h hx ⟨e1, e2, e3⟩
    have e : acc0 ++ (xs.take (i + 1)).flatMap g = acc0 ++ (xs.take i).flatMap g ++ g x := by
      rw [List.take_succ, hx]
      simp
    have hl : (acc0 ++ (xs.take i).flatMap g).length + (g x).length ≤ sizeLine := by
      rw [← List.length_append, ← e]
      refine Nat.le_trans ?_ hN
      have e4 := List.take_append_drop (i + 1) xs
      conv => rhs; rw [← e4]
      rw [List.flatMap_append, List.length_append, List.length_append]
      omega
    obtain ⟨ρ', q1, q2⟩ := step i x ρ h _ hx e1 e2 e3 hl
    refine ⟨ρ', q1, fun O' t => q2 O' ?_⟩
    rw [← e]
    exact t
  · rintro ρ h ⟨e1, e2, e3⟩
    rw [List.take_length] at e3
    exact fin ρ h e1 e2 e3
/-- .. over range(n) -/
theorem run_colR {n : Nat} {v : Nat} {b : SS} {H : MH → Prop} {a : Nat} (E : Env → Prop) (g : Nat → List Dt) {acc0 : List Dt} (hE : E ρ) (hH : H h) (e0 : h[a]? = some (.lst acc0)) (hN : acc0.length + ((List.range n).flatMap g).length ≤ sizeLine)
    (step : ∀ (j : Nat) ρ h acc, j < n → E ρ → H h → h[a]? = some (.lst acc) → acc.length + (g j).length ≤ sizeLine → ∀ O', ToB O' O G ks (fun ρ h => E ρ ∧ H h ∧ h[a]? = some (.lst (acc ++ g j))) → Run G O' [] (b G (ρ.set v (some (.int (j : Nat)))) h))
    (fin : ∀ ρ h, E ρ → H h → h[a]? = some (.lst (acc0 ++ (List.range n).flatMap g)) → Run G O ks (.nx ρ h)) : Run G O ks (sFor (fun _ _ h => .ok (itR 0 n) h) (.nm v) b G ρ h) := by
  refine run_col hi_rng0 E g hE hH e0 hN ?_ fin
  intro j x ρ h acc hx e1 e2 e3 e4
  obtain ⟨a1, b1⟩ := List.getElem?_eq_some_iff.mp hx
  simp at a1 b1
  subst b1
  exact ⟨_, rfl, fun O' t => step _ ρ h acc a1 e1 e2 e3 e4 O' t⟩
/-- a loop over range(n) -/
theorem run_rng {n : Nat} {v : Nat} {b : SS} (Inv : Nat → Env → MH → Prop) (h0 : Inv 0 ρ h)
    (step : ∀ (j : Nat) ρ h, j < n → Inv j ρ h → ∀ O', ToB O' O G ks (Inv (j + 1)) → Run G O' [] (b G (ρ.set v (some (.int (j : Nat)))) h))
    (fin : ∀ ρ h, Inv n ρ h → Run G O ks (.nx ρ h)) : Run G O ks (sFor (fun _ _ h => .ok (itR 0 n) h) (.nm v) b G ρ h) := by
  refine run_wk (f := fun i : Nat => Dt.int (i : Nat)) (xs := List.range n) (H := fun _ => True) hi_rng0 Inv (fun _ _ _ _ => trivial) h0 ?_ (by simpa using fin)
  intro j x ρ h hx e1
  obtain ⟨a1, b1⟩ := List.getElem?_eq_some_iff.mp hx
  simp at a1 b1
  subst b1
  exact ⟨_, rfl, fun O' t => step _ ρ h a1 e1 O' t⟩
/-! ### comprehensions -/
theorem lc_it {i : SI} {p : TP} {t : ST} {e : SE} {vs : List Nat} {Q : Dt → MH → Prop} {X : Str → Fs → MH → Prop} (w : WE (i G ρ h) (fun I h1 => WE (eLc (fun _ _ h => .ok I h) p t e vs G ρ h1) Q X) X) : WE (eLc i p t e vs G ρ h) Q X := by
  rw [eLc_s, we_bnd]
  exact w
/-- [e for p in i if t]: pure -/
theorem lc_wp {α : Type} {f : α → Dt} {i : SI} {p : TP} {t : ST} {e : SE} {vs : List Nat} {h1 : MH} {I : Wk} {xs : List α} {Q : Dt → MH → Prop} {X : Str → Fs → MH → Prop} (hi : i G ρ h = .ok I h1) (its : HI I (fun h' => h1 <+: h') (xs.map f)) (b : α → Bool) (g : α → Dt) (hz : xs.length ≤ sizeLine)
    (hx : ∀ x ∈ xs, ∃ ρ', assignP p (f x) (wipeE ρ vs) = some ρ' ∧ ∀ h', h1 <+: h' → WE (t G ρ' h') (fun c h2 => c = b x ∧ h' <+: h2 ∧ (b x = true → WE (e G ρ' h2) (fun d h3 => d = g x ∧ h2 <+: h3) noX)) noX)
    (q : ∀ h', h1 <+: h' → h'[h1.length]? = some (.lst ((xs.filter b).map g)) → Q (.loc h1.length) h') : WE (eLc i p t e vs G ρ h) Q X := by
  rw [eLc_s, hi, bnd_ok]
  have htot : I.tot = xs.length := by rw [its.tot, List.length_map]
  have L := lc_inv (I := I) (p := p) (t := t) (e := e) (G := G) (ρ := wipeE ρ vs) (D := h1.length)
    (fun i acc h => h1 <+: h ∧ acc = ((xs.take i).filter b).map g) ?_ (fun acc h q => its.fin h q.1) I.tot 0 [] (h1 ++ [.lst []]) (Nat.zero_add _) (by simp) ⟨pre_app _ _, by simp⟩
  · obtain ⟨acc', h', r1, r2, r3, r4⟩ := L
    rw [r1, we_ok]
    refine q h' r3 ?_
    rw [r2, r4, htot, List.take_length]
  · rintro i acc h hlt ⟨pr, rfl⟩ hD
    have hl : i < xs.length := by rw [← htot]; exact hlt
    obtain ⟨ρ', e1, e2⟩ := hx xs[i] (List.getElem_mem hl)
    obtain ⟨c, h2, k1, rfl, k2, k3⟩ := (e2 h pr).run
    refine ⟨f xs[i], ρ', by rw [its.get h pr i (by simpa using hl), List.getElem?_map, List.getElem?_eq_getElem hl]; rfl, e1, b xs[i], h2, k1, fun hb => ?_, fun hb => ?_⟩
    · obtain ⟨d, h3, q1, rfl, q2⟩ := (k3 hb).run
      have hD3 := pre_get q2 (pre_get k2 hD)
      have hlen : (((xs.take i).filter b).map g).length < sizeLine := by
        rw [List.length_map]
        have := List.length_filter_le b (xs.take i)
        rw [List.length_take] at this
        omega
      refine ⟨g xs[i], h3, q1, hD3, hlen, pre_set (pr.trans (k2.trans q2)) (Nat.le_refl _), ?_⟩
      rw [List.take_succ, List.getElem?_eq_getElem hl, Option.toList_some, List.filter_append, List.map_append]
      simp [hb]
    · refine ⟨pre_get k2 hD, pr.trans k2, ?_⟩
      rw [List.take_succ, List.getElem?_eq_getElem hl, Option.toList_some, List.filter_append, List.map_append]
      simp [hb]
/-- [e for p in i]: pure -/
theorem lc_wpm {α : Type} {f : α → Dt} {i : SI} {p : TP} {e : SE} {vs : List Nat} {h1 : MH} {I : Wk} {xs : List α} {Q : Dt → MH → Prop} {X : Str → Fs → MH → Prop} (hi : i G ρ h = .ok I h1) (its : HI I (fun h' => h1 <+: h') (xs.map f)) (g : α → Dt) (hz : xs.length ≤ sizeLine)
    (hx : ∀ x ∈ xs, ∃ ρ', assignP p (f x) (wipeE ρ vs) = some ρ' ∧ ∀ h', h1 <+: h' → WE (e G ρ' h') (fun d h3 => d = g x ∧ h' <+: h3) noX)
    (q : ∀ h', h1 <+: h' → h'[h1.length]? = some (.lst (xs.map g)) → Q (.loc h1.length) h') : WE (eLc i p EP.tYes e vs G ρ h) Q X := by
  refine lc_wp (t := EP.tYes) (e := e) hi its (fun _ => true) g hz (fun x hm => ?_) ?_
  · obtain ⟨ρ', e1, e2⟩ := hx x hm
    exact ⟨ρ', e1, fun h' p => by simp; exact e2 h' p⟩
  · have e : xs.filter (fun _ => true) = xs := List.filter_eq_self.mpr (fun _ _ => rfl)
    rw [e]
    exact q
/-- [e for p in i if t], whatever the items come to be -/
theorem lc_gen {α : Type} {f : α → Dt} {i : SI} {p : TP} {t : ST} {e : SE} {vs : List Nat} {h1 : MH} {I : Wk} {xs : List α} {Q : Dt → MH → Prop} {X : Str → Fs → MH → Prop} (hi : i G ρ h = .ok I h1) (H : MH → Prop) (its : HI I H (xs.map f)) (hz : xs.length ≤ sizeLine)
    (hH0 : H (h1 ++ [.lst []])) (hset : ∀ h o, H h → H (h.set h1.length o)) (J : Nat → List Dt → Prop) (J0 : J 0 []) (JL : ∀ j acc, J j acc → acc.length ≤ j)
    (step : ∀ (j : Nat) x acc h, xs[j]? = some x → J j acc → H h → h[h1.length]? = some (.lst acc) → ∃ ρ', assignP p (f x) (wipeE ρ vs) = some ρ' ∧ WE (t G ρ' h) (fun b h2 => H h2 ∧ h2[h1.length]? = some (.lst acc) ∧
      (b = true → WE (e G ρ' h2) (fun y h3 => H h3 ∧ h3[h1.length]? = some (.lst acc) ∧ J (j + 1) (acc ++ [y])) noX) ∧ (b = false → J (j + 1) acc)) noX)
    (q : ∀ acc h', H h' → h'[h1.length]? = some (.lst acc) → J xs.length acc → Q (.loc h1.length) h') : WE (eLc i p t e vs G ρ h) Q X := by
  rw [eLc_s, hi, bnd_ok]
  have htot : I.tot = xs.length := by rw [its.tot, List.length_map]
  have L := lc_inv (I := I) (p := p) (t := t) (e := e) (G := G) (ρ := wipeE ρ vs) (D := h1.length)
    (fun i acc h => H h ∧ J i acc) ?_ (fun acc h q => its.fin h q.1) I.tot 0 [] (h1 ++ [.lst []]) (Nat.zero_add _) (by simp) ⟨hH0, J0⟩
  · obtain ⟨acc', h', r1, r2, r3, r4⟩ := L
    rw [r1, we_ok]
    rw [htot] at r4
    exact q acc' h' r3 r2 r4
  · rintro i acc h hlt ⟨pr, hj⟩ hD
    have hl : i < xs.length := by rw [← htot]; exact hlt
    obtain ⟨ρ', e1, e2⟩ := step i xs[i] acc h (List.getElem?_eq_getElem hl) hj pr hD
    obtain ⟨c, h2, k1, k2, k3, k4, k5⟩ := e2.run
    refine ⟨f xs[i], ρ', by rw [its.get h pr i (by simpa using hl), List.getElem?_map, List.getElem?_eq_getElem hl]; rfl, e1, c, h2, k1, fun hb => ?_, fun hb => ?_⟩
    · obtain ⟨d, h3, q1, q2, q3, q4⟩ := (k4 hb).run
      have hl2 := JL _ _ hj
      exact ⟨d, h3, q1, q3, by omega, hset _ _ q2, q4⟩
    · exact ⟨k3, k2, k5 hb⟩
end
theorem run_ite {G : Orc} {O : Out} {ks : List SS} {c : Prop} [Decidable c] {a b : RS} (h1 : c → Run G O ks a) (h2 : ¬ c → Run G O ks b) : Run G O ks (if c then a else b) := by
  split
  · exact h1 ‹_›
  · exact h2 ‹_›
/-- where ways meet -/
theorem run_join {G : Orc} {O : Out} {ks : List SS} {r : RS} (J : Env → MH → Prop) (w : ∀ O' : Out, (∀ ρ h, J ρ h → O'.N ρ h) → (∀ d h, O.Q d h → O'.Q d h) → (∀ ρ h, O.B ρ h → O'.B ρ h) → (∀ ρ h, O.C ρ h → O'.C ρ h) → (∀ c fs ρ h, O.X c fs ρ h → O'.X c fs ρ h) → Run G O' [] r) (k : ∀ ρ h, J ρ h → Run G O ks (.nx ρ h)) : Run G O ks r := by
  have w := w { N := J, Q := O.Q, B := O.B, C := O.C, X := O.X } (fun _ _ h => h) (fun _ _ h => h) (fun _ _ h => h) (fun _ _ h => h) (fun _ _ _ _ h => h)
  cases r with
  | nx ρ h => exact k ρ h (by simpa using w)
  | rt d h => simpa using w
  | bk ρ h => simpa using w
  | ct ρ h => simpa using w
  | ex C fs ρ h => simpa using w
  | bad => simp at w
theorem Q_eq {Q : Dt → MH → Prop} {a b : Dt} {h : MH} (q : Q a h) (e : b = a) : Q b h := e ▸ q
end EP
end
section
set_option maxRecDepth 20000
/-! GenA: the store of a law's draws, what stays. -/
namespace EP
open PySem L2
theorem lim64_big : (1000000000000 : Int) < lim64 := by decide
theorem lim200_big : (1000000000000 : Int) < lim200 := by decide
section
variable {h : MH}
theorem mul_r {i j : Int} (a : -1000000000000 ≤ j) (b : j ≤ 1000000000000) : oMul (.int i) (.int j) h = .ok (.int (i * j)) h := by
  have c := lim64_big
  show (if _ then _ else _) = _
  rw [if_pos (by right; generalize lim64 = l at *; omega)]
theorem mul_l {i j : Int} (a : -1000000000000 ≤ i) (b : i ≤ 1000000000000) : oMul (.int i) (.int j) h = .ok (.int (i * j)) h := by
  have c := lim64_big
  show (if _ then _ else _) = _
  rw [if_pos (by left; generalize lim64 = l at *; omega)]
theorem fdiv_k {i j : Int} (a : 0 < j) (b : j < lim200) : oFdiv (.int i) (.int j) h = .ok (.int (i / j)) h := by
  show (if _ then _ else _) = _
  rw [if_pos ⟨a, b⟩]
theorem fdiv_s {i j : Int} (a : 0 < j) (b : j ≤ 1000000000000) : oFdiv (.int i) (.int j) h = .ok (.int (i / j)) h := fdiv_k a (by
  have := lim200_big
  generalize lim200 = l at *; omega)
theorem mod_k {i j : Int} (a : 0 < j) : oMod (.int i) (.int j) h = .ok (.int (i % j)) h := by
  show (if _ then _ else _) = _
  rw [if_pos a]
theorem tAnd_ok {a b : ST} {G : Orc} {ρ : Env} {x y : Bool} (e1 : a G ρ h = .ok x h) (e2 : x = true → b G ρ h = .ok y h) : EP.tAnd a b G ρ h = .ok (x && y) h := by
  rw [tAnd_s, e1, bnd_ok]
  cases x with
  | false => rfl
  | true => rw [if_pos rfl, e2 rfl]; rfl
structure StE (m n c : Nat) (cs : List Nat) (h : MH) : Prop where
  nm : n < m
  cm : c < m
  cn : c ≠ n
  len : cs.length ≤ 63
  cel : ∀ x ∈ cs, x < m ∧ x ≠ n ∧ x ≠ c
  top : ∃ a b s e : Int, h[n]? = some (.lst [.loc c, .int a, .int b, .int s, .int e]) ∧ 0 ≤ a ∧ a ≤ 63
  cells : h[c]? = some (.lst (cs.map .loc))
  each : ∀ x ∈ cs, ∃ t v : Int, h[x]? = some (.lst [.int t, .int v])
theorem StE.upN {m n c : Nat} {cs : List Nat} {h h' : MH} {a b s e : Int} (t : StE m n c cs h) (u : Up n h h' (.lst [.loc c, .int a, .int b, .int s, .int e])) (h0 : 0 ≤ a) (h1 : a ≤ 63) : StE m n c cs h' :=
  ⟨t.nm, t.cm, t.cn, t.len, t.cel, ⟨a, b, s, e, u.at_, h0, h1⟩, u.get t.cn t.cells, fun x hx => by
    obtain ⟨p, v, e⟩ := t.each x hx
    exact ⟨p, v, u.get (t.cel x hx).2.1 e⟩⟩
theorem StE.upX {m n c : Nat} {cs : List Nat} {h h' : MH} {x : Nat} {p v : Int} (t : StE m n c cs h) (hx : x ∈ cs) (u : Up x h h' (.lst [.int p, .int v])) : StE m n c cs h' :=
  ⟨t.nm, t.cm, t.cn, t.len, t.cel, by
    obtain ⟨a, b, s, e, q, r⟩ := t.top
    exact ⟨a, b, s, e, u.get (Ne.symm (t.cel x hx).2.1) q, r⟩, u.get (Ne.symm (t.cel x hx).2.2) t.cells, fun y hy => by
    obtain ⟨p2, v2, e⟩ := t.each y hy
    by_cases hxy : y = x
    · subst hxy
      exact ⟨_, _, u.at_⟩
    · exact ⟨p2, v2, u.get hxy e⟩⟩
theorem StE.upO {m n c : Nat} {cs : List Nat} {h h' : MH} {x : Nat} {o : MO} (t : StE m n c cs h) (hx : m ≤ x) (u : Up x h h' o) : StE m n c cs h' :=
  ⟨t.nm, t.cm, t.cn, t.len, t.cel, by
    obtain ⟨a, b, s, e, q, r⟩ := t.top
    have := t.nm
    exact ⟨a, b, s, e, u.get (by omega) q, r⟩, u.get (by have := t.cm; omega) t.cells, fun y hy => by
    obtain ⟨p2, v2, e⟩ := t.each y hy
    have := (t.cel y hy).1
    exact ⟨p2, v2, u.get (by omega) e⟩⟩
theorem StE.pre {m n c : Nat} {cs : List Nat} {h h' : MH} (t : StE m n c cs h) (p : h <+: h') : StE m n c cs h' :=
  ⟨t.nm, t.cm, t.cn, t.len, t.cel, by
    obtain ⟨a, b, s, e, q, r⟩ := t.top
    exact ⟨a, b, s, e, pre_get p q, r⟩, pre_get p t.cells, fun y hy => by
    obtain ⟨p2, v2, e⟩ := t.each y hy
    exact ⟨p2, v2, pre_get p e⟩⟩
/-- the store at n, all of it below m -/
def St (m n : Nat) (h : MH) : Prop := ∃ c cs, StE m n c cs h
/-- from h to h' : the store stays one, what stands from m on stays -/
structure Kp (m n : Nat) (h h' : MH) : Prop where
  st : St m n h'
  len : h.length ≤ h'.length
  ge : ∀ i o, m ≤ i → h[i]? = some o → h'[i]? = some o
theorem Kp.refl {m n : Nat} {h : MH} (s : St m n h) : Kp m n h h := ⟨s, Nat.le_refl _, fun _ _ _ e => e⟩
theorem Kp.trans {m n : Nat} {h h' h2 : MH} (a : Kp m n h h') (b : Kp m n h' h2) : Kp m n h h2 := ⟨b.st, Nat.le_trans a.len b.len, fun i o l e => b.ge i o l (a.ge i o l e)⟩
theorem Kp.pre {m n : Nat} {h h' : MH} (s : St m n h) (p : h <+: h') : Kp m n h h' := ⟨by
  obtain ⟨c, cs, t⟩ := s
  exact ⟨c, cs, t.pre p⟩, p.length_le, fun i o _ e => pre_get p e⟩
theorem Kp.thenPre {m n : Nat} {h h' h2 : MH} (a : Kp m n h h') (p : h' <+: h2) : Kp m n h h2 := a.trans (.pre a.st p)
/-- a thing laid behind h is changed -/
theorem Kp.up {m n a : Nat} {h h' h2 : MH} {o : MO} (k : Kp m n h h') (u : Up a h' h2 o) (l : h.length ≤ a) (hm : m ≤ h.length) : Kp m n h h2 := ⟨by
  obtain ⟨c, cs, t⟩ := k.st
  exact ⟨c, cs, t.upO (by omega) u⟩, by rw [u.len]; exact k.len, fun i o' li e => u.get (by have := lt_of_get e; omega) (k.ge i o' li e)⟩
theorem Kp.set {m n a : Nat} {h h' : MH} {o : MO} (k : Kp m n h h') (l : h.length ≤ a) (hm : m ≤ h.length) : Kp m n h (h'.set a o) := by
  by_cases hl : a < h'.length
  · exact k.up (Up.of (List.getElem?_eq_getElem hl)) l hm
  · rw [List.set_eq_of_length_le (by omega)]; exact k
end
end EP
end
section
set_option maxRecDepth 20000
namespace EP
open PySem L2
theorem zipIdx_eq {α : Type} (xs : List α) (d : α) : xs.zipIdx = (List.range xs.length).map fun i => (xs.getD i d, i) := by
  apply List.ext_getElem
  · simp
  · intro i h1 h2
    simp at h1
    simp [h1]
theorem filter_range_flat {β : Type} (n : Nat) (c : Nat → Bool) (F : Nat → β) : ((List.range n).filter c).map F = (List.range n).flatMap fun j => if c j = true then [F j] else [] := by
  induction (List.range n) with
  | nil => rfl
  | cons a r ih =>
    rw [List.flatMap_cons, ← ih, List.filter_cons]
    split <;> simp_all
/-- the pairs by their places -/
theorem wpairs_eq (ws : List Word) : wpairs ws = (List.range ws.length).flatMap fun i => (List.range ws.length).flatMap fun j => if i ≠ j then [(i, j, less (ws.getD i []) (ws.getD j []))] else [] := by
  unfold wpairs
  rw [zipIdx_eq ws []]
  rw [List.flatMap_map]
  congr 1
  funext i
  rw [List.filter_map, List.map_map]
  rw [show (List.range ws.length).flatMap (fun j => if i ≠ j then [(i, j, less (ws.getD i []) (ws.getD j []))] else []) = ((List.range ws.length).filter fun j => decide (i ≠ j)).map fun j => (i, j, less (ws.getD i []) (ws.getD j [])) from by rw [filter_range_flat]; simp]
  simp [Function.comp_def]
theorem ppairs_eq (p : Plan) : ppairs p = (List.range p.2.length).flatMap fun s => (wpairs ((p.2.getD s []).map (·.1))).map fun t => (s, t.1, t.2.1, t.2.2) := by
  unfold ppairs
  rw [zipIdx_eq p.2 [], List.flatMap_map]
end EP
namespace K75
open PySem L2 EP
variable {k : Nat} {h : MH} {Q : Dt → MH → Prop} {X : Str → Fs → MH → Prop}
theorem law_less_wp {a b : Word} (hl : a.length ≤ 200) (q : ∀ h', h <+: h' → Q (wD (less a b)) h') : WE (callK D (k + 1) i_law_less [wD a, wD b] h) Q X := wp_val (law_less hl) q
theorem len_flatX {α β : Type} (xs : List α) (F : α → List β) (c : Nat) (hc : ∀ x ∈ xs, (F x).length ≤ c) : (xs.flatMap F).length ≤ xs.length * c := by
  induction xs with
  | nil => simp
  | cons a r ih =>
    have h1 := ih fun x hx => hc x (by simp [hx])
    have h2 := hc a (by simp)
    rw [List.flatMap_cons, List.length_append, List.length_cons, Nat.add_mul]
    omega
theorem getD_map {α β : Type} (f : α → β) (r : List α) (d : α) (i : Nat) : (r.map f).getD i (f d) = f (r.getD i d) := by
  simp only [List.getD_eq_getElem?_getD, List.getElem?_map]
  cases r[i]? <;> rfl
theorem pairs_flat (p : Plan) : (ppairs p).map t4D = (List.range p.2.length).flatMap fun s => (List.range (p.2.getD s []).length).flatMap fun i => (List.range (p.2.getD s []).length).flatMap fun j =>
    if i ≠ j then [t4D (s, i, j, less ((p.2.getD s []).getD i ([], 0)).1 ((p.2.getD s []).getD j ([], 0)).1)] else [] := by
  have hWl : ∀ (r : Row) i, (r.map (·.1)).getD i [] = (r.getD i ([], 0)).1 := fun r i => getD_map (fun e : Word × Int => e.1) r ([], 0) i
  rw [ppairs_eq, List.map_flatMap]
  congr 1
  funext s
  rw [wpairs_eq, List.map_flatMap, List.map_flatMap, List.length_map]
  congr 1
  funext i
  rw [List.map_flatMap, List.map_flatMap]
  congr 1
  funext j
  rw [hWl, hWl]
  split <;> rfl
theorem law_pairs {p : Plan} (wp : Pw p) (q : ∀ h' a, h <+: h' → h.length ≤ a → h'[a]? = some (.lst ((ppairs p).map t4D)) → Q (.loc a) h') : WE (callK D (k + 2) i_law_pairs [pD p] h) Q X := by
  refine call_wp (md := D_law_pairs) rfl rfl fun O oN oQ oX => ?_
  have hp := wp.len
  simp [m_law_pairs]
  refine run_sFor (iRg1_wp ?_)
  simp
  refine ⟨sm_nat (by omega), run_colR (H := fun h' => h <+: h') (a := h.length) (fun ρ => ∃ x2 x3 x4 x5, ρ = [some (pD p), some (.loc h.length), x2, x3, x4, x5])
    (fun s => (List.range (p.2.getD s []).length).flatMap fun i => (List.range (p.2.getD s []).length).flatMap fun j =>
      if i ≠ j then [t4D (s, i, j, less ((p.2.getD s []).getD i ([], 0)).1 ((p.2.getD s []).getD j ([], 0)).1)] else [])
    ⟨_, _, _, _, rfl⟩ (pre_app _ _) (new_get _ _) ?_ ?_ ?_⟩
  · rw [← pairs_flat]
    have := ppairs_len wp
    rw [sizeLine_eq]
    simp
    omega
  · rintro s ρ h1 acc hs ⟨x2, x3, x4, x5, rfl⟩ pr e1 el O2 t2
    have hi : p.2[s]? = some p.2[s] := List.getElem?_eq_getElem hs
    have hgd : p.2.getD s [] = p.2[s] := by simp [hs]
    rw [hgd] at t2 el
    generalize hr : p.2[s] = r at hi t2 el
    obtain ⟨r64, rw'⟩ := wp.row r (List.mem_of_getElem? hi)
    have gr : ∀ {h}, oGet (.tup (p.2.map sD)) (.int (s : Nat)) h = .ok (sD r) h := get_nat (by rw [List.getElem?_map, hi]; rfl)
    simp [gr]
    refine run_sFor (iRg1_wp ?_)
    simp
    refine ⟨sm_nat (by omega), run_colR (H := fun h' => h <+: h') (a := h.length) (fun ρ => ∃ x4 x5, ρ = [some (pD p), some (.loc h.length), some (.int (s : Nat)), some (sD r), x4, x5]) _ ⟨_, _, rfl⟩ pr e1 el ?_ ?_⟩
    · rintro i ρ h2 acc hil ⟨x4, x5, rfl⟩ pr2 e2 el O3 t3
      simp
      refine run_sFor (iRg1_wp ?_)
      simp
      refine ⟨sm_nat (by omega), run_colR (H := fun h' => h <+: h') (a := h.length) (fun ρ => ∃ x5, ρ = [some (pD p), some (.loc h.length), some (.int (s : Nat)), some (sD r), some (.int (i : Nat)), x5]) _ ⟨_, rfl⟩ pr2 e2 el ?_ ?_⟩
      · rintro j ρ h3 acc hjl ⟨x5, rfl⟩ pr3 e3 el O4 t4
        have g1 : ∀ {h}, oGet (.tup (r.map eD)) (.int (i : Nat)) h = .ok (eD r[i]) h := get_nat (by simp [hil])
        have g2 : ∀ {h}, oGet (.tup (r.map eD)) (.int (j : Nat)) h = .ok (eD r[j]) h := get_nat (by simp [hjl])
        by_cases hij : i = j
        · subst hij
          simp
          exact t4.N _ _ ⟨⟨_, rfl⟩, pr3, by simpa using e3⟩
        · have hij' : ¬ ((i : Int) = (j : Int)) := by omega
          rw [if_pos hij] at t4 el
          simp [hij', isLst_lst e3, g1, g2]
          refine law_less_wp ((rw' _ (List.getElem_mem hil)).2) fun h4 pr4 => ?_
          obtain ⟨h5, f5, u⟩ := app_ex (v := t4D (s, i, j, less r[i].1 r[j].1)) (pre_get pr4 e3) el
          simp [f5]
          refine t4.N _ _ ⟨⟨_, rfl⟩, u.pre (pr3.trans pr4) (Nat.le_refl _), ?_⟩
          rw [u.at_]
          simp [hil, hjl]
      · rintro ρ h3 ⟨x5, rfl⟩ pr3 e3
        rw [run_nx0]
        exact t3.N _ _ ⟨⟨_, _, rfl⟩, pr3, e3⟩
    · rintro ρ h2 ⟨x4, x5, rfl⟩ pr2 e2
      rw [run_nx0]
      exact t2.N _ _ ⟨⟨_, _, _, _, rfl⟩, pr2, e2⟩
  · rintro ρ h1 ⟨x2, x3, x4, x5, rfl⟩ pr e1
    simp
    refine oQ _ _ (q _ _ pr (Nat.le_refl _) ?_)
    rw [e1, pairs_flat]
    rfl
end K75
end
section
set_option maxRecDepth 20000
namespace EP
open PySem L2
theorem mem_take_succ {α : Type} {xs : List α} {i : Nat} {x y : α} (e : xs[i]? = some x) (hm : y ∈ xs.take (i + 1)) : y ∈ xs.take i ∨ y = x := by
  rw [List.take_succ, e] at hm
  rcases List.mem_append.mp hm with z | z
  · exact .inl z
  · simp at z
    exact .inr z
/-- the sums over the clauses are kept -/
def withinB (l : Row) (lot : List Int) : Bool := l.all fun c => decide ((c.1.map fun w => lot.getD w.toNat 0).sum ≤ c.2)
/-- the lot of a set of wires -/
def lotOf (n : Int) (v : Word) : List Int := (List.range n.toNat).map fun w => if ((w : Nat) : Int) ∈ v then 1 else 0
end EP
namespace K75
open PySem L2 EP
variable {k : Nat} {h : MH} {Q : Dt → MH → Prop} {X : Str → Fs → MH → Prop}
theorem law_within {l : Lim} {lot : List Int} {a : Nat} (ea : h[a]? = some (.lst (lot.map .int))) (hc : ∀ c ∈ l.2, c.1.length ≤ 1000 ∧ ∀ w ∈ c.1, 0 ≤ w ∧ w < lot.length) (q : ∀ h', h <+: h' → Q (.bl (withinB l.2 lot)) h') : WE (callK D (k + 1) i_law_within [lD l, .loc a] h) Q X := by
  refine call_wp (md := D_law_within) rfl rfl fun O oN oQ oX => ?_
  simp [m_law_within]
  refine run_sFor ?_
  simp
  refine run_wk (f := eD) (xs := l.2) (H := fun h' => h <+: h') hi_tup (fun i ρ h' => h <+: h' ∧ (∃ x2 x3, ρ = [some (lD l), some (.loc a), x2, x3]) ∧ ∀ c ∈ l.2.take i, (c.1.map fun w => lot.getD w.toNat 0).sum ≤ c.2) (fun _ _ _ t => t.1) ⟨pre_refl _, ⟨_, _, rfl⟩, by simp⟩ ?_ ?_
  · rintro i c ρ h1 hx ⟨pr, ⟨x2, x3, rfl⟩, hk⟩
    have hm := List.mem_of_getElem? hx
    refine ⟨_, rfl, fun O2 t2 => ?_⟩
    simp
    refine lc_wpm (f := Dt.int) (xs := c.1) (I := itT (c.1.map Dt.int)) (h1 := h1) (by simp) hi_tup (fun w => Dt.int (lot.getD w.toNat 0)) (by have := (hc c hm).1; rw [sizeLine_eq]; omega) ?_ ?_
    · intro w hw
      have hr := (hc c hm).2 w hw
      refine ⟨_, rfl, fun h2 p2 => ?_⟩
      have hg : oGet (.loc a) (.int w) h2 = .ok (.int (lot.getD w.toNat 0)) h2 := get_lst (pre_get (pr.trans p2) ea) hr.1 (by
        have : w.toNat < lot.length := by omega
        simp [this])
      simp [hg]
    · intro h2 p2 e2
      have e2' : h2[h1.length]? = some (.lst ((c.1.map fun w => lot.getD w.toNat 0).map Dt.int)) := by rw [e2, List.map_map]; rfl
      simp [-List.getD_eq_getElem?_getD, sum_lst e2']
      refine run_ite (fun hb => ?_) (fun hb => ?_)
      · simp
        refine t2.Q _ _ (oQ _ _ ?_)
        have : withinB l.2 lot = false := by
          unfold withinB
          rw [List.all_eq_false]
          exact ⟨c, hm, by rw [decide_eq_true_eq]; omega⟩
        rw [← this]
        exact q _ (pr.trans p2)
      · rw [run_nx0]
        refine t2.N _ _ ⟨pr.trans p2, ⟨_, _, rfl⟩, fun y hy => ?_⟩
        rcases mem_take_succ hx hy with z | rfl
        · exact hk y z
        · omega
  · rintro ρ h1 ⟨pr, ⟨x2, x3, rfl⟩, hk⟩
    rw [List.take_length] at hk
    simp
    refine oQ _ _ ?_
    have : withinB l.2 lot = true := by
      unfold withinB
      rw [List.all_eq_true]
      intro c hcm
      rw [decide_eq_true_eq]
      exact hk c hcm
    rw [← this]
    exact q _ pr
theorem law_bars {p : Plan} {l : Lim} (wp : Pw p) (hn : 0 ≤ p.1 ∧ p.1 ≤ 1000) (hc : ∀ c ∈ l.2, c.1.length ≤ 1000 ∧ ∀ w ∈ c.1, 0 ≤ w ∧ w < p.1)
    (q : ∀ h', h <+: h' → Q (.tup (((ppairs p).filter fun t => withinB l.2 (lotOf p.1 t.2.2.2)).map fun t => .tup [.int (t.1 : Nat), .int (t.2.1 : Nat), .int (t.2.2.1 : Nat)])) h') : WE (callK D (k + 3) i_law_bars [pD p, lD l] h) Q X := by
  refine call_wp (md := D_law_bars) rfl rfl fun O oN oQ oX => ?_
  simp [m_law_bars]
  refine run_sFor ?_
  simp
  refine law_pairs wp fun h1 b p1 hb e1 => ?_
  have e0 : h1[h.length]? = some (.lst []) := pre_get p1 (new_get _ _)
  rw [itOf_lst e1]
  simp at hb ⊢
  refine run_col (H := fun h' => h <+: h' ∧ h'[b]? = some (.lst ((ppairs p).map t4D))) (f := t4D) (xs := ppairs p) (hi_lstA fun h' t => t.2) (a := h.length) (fun ρ => ∃ x3 x4 x5 x6 x7 x8, ρ = [some (pD p), some (lD l), some (.loc h.length), x3, x4, x5, x6, x7, x8])
    (fun t => if withinB l.2 (lotOf p.1 t.2.2.2) = true then [.tup [.int (t.1 : Nat), .int (t.2.1 : Nat), .int (t.2.2.1 : Nat)]] else []) ⟨_, _, _, _, _, _, rfl⟩ ⟨(pre_app _ _).trans p1, e1⟩ e0 ?_ ?_ ?_
  · have h1 := ppairs_len wp
    have := len_flatX (ppairs p) (fun t => if withinB l.2 (lotOf p.1 t.2.2.2) = true then [Dt.tup [.int (t.1 : Nat), .int (t.2.1 : Nat), .int (t.2.2.1 : Nat)]] else []) 1 (fun t _ => by split <;> simp)
    rw [sizeLine_eq, List.length_nil]
    omega
  · rintro j t ρ h2 acc ht ⟨x3, x4, x5, x6, x7, x8, rfl⟩ ⟨pr, e2⟩ e3 el
    refine ⟨[some (pD p), some (lD l), some (.loc h.length), some (.int (t.1 : Nat)), some (.int (t.2.1 : Nat)), some (.int (t.2.2.1 : Nat)), some (wD t.2.2.2), x7, x8], by simp, fun O2 t2 => ?_⟩
    simp
    refine lc_it (iRg1_wp ?_)
    simp
    refine ⟨sm_int (by omega) (by omega), ?_⟩
    refine lc_wpm (f := fun i : Nat => Dt.int (i : Nat)) (xs := List.range p.1.toNat) rfl hi_rng0 (fun w => Dt.int (if ((w : Nat) : Int) ∈ t.2.2.2 then 1 else 0)) (by rw [sizeLine_eq]; simp; omega) ?_ ?_
    · intro w hw
      refine ⟨_, rfl, fun h3 p3 => ?_⟩
      simp [in_wD]
    · intro h3 p3 e4
      have e4' : h3[h2.length]? = some (.lst ((lotOf p.1 t.2.2.2).map Dt.int)) := by rw [e4, lotOf, List.map_map]; rfl
      have hne : h2.length ≠ h.length := by have := lt_of_get e3; omega
      skip
      refine law_within e4' (fun c hcm => ⟨(hc c hcm).1, fun w hw => ?_⟩) fun h4 p4 => ?_
      · have := (hc c hcm).2 w hw
        simp [lotOf]
        omega
      · have e5 := pre_get p4 (pre_get p3 e3)
        have e6 := pre_get p4 (pre_get p3 e2)
        simp
        cases hw : withinB l.2 (lotOf p.1 t.2.2.2) with
        | false =>
          simp
          refine t2.N _ _ ⟨⟨_, _, _, _, _, _, rfl⟩, ⟨pr.trans (p3.trans p4), e6⟩, ?_⟩
          rw [hw]
          simpa using e5
        | true =>
          rw [if_pos hw] at el
          obtain ⟨h5, f5, u⟩ := app_ex (v := .tup [.int (t.1 : Nat), .int (t.2.1 : Nat), .int (t.2.2.1 : Nat)]) e5 el
          simp [isLst_lst e5, f5]
          refine t2.N _ _ ⟨⟨_, _, _, _, _, _, rfl⟩, ⟨u.pre (pr.trans (p3.trans p4)) (Nat.le_refl _), u.get (by omega) e6⟩, ?_⟩
          rw [hw, if_pos rfl, u.at_]
  · rintro ρ h2 ⟨x3, x4, x5, x6, x7, x8, rfl⟩ ⟨pr, e2⟩ e3
    simp [tuple_lst e3]
    refine oQ _ _ ?_
    have : ((ppairs p).filter fun t => withinB l.2 (lotOf p.1 t.2.2.2)).map (fun t => Dt.tup [.int (t.1 : Nat), .int (t.2.1 : Nat), .int (t.2.2.1 : Nat)]) = (ppairs p).flatMap fun t => if withinB l.2 (lotOf p.1 t.2.2.2) = true then [.tup [.int (t.1 : Nat), .int (t.2.1 : Nat), .int (t.2.2.1 : Nat)]] else [] := by
      induction ppairs p with
      | nil => rfl
      | cons a r ih =>
        rw [List.flatMap_cons, ← ih, List.filter_cons]
        split <;> simp_all
    rw [← this]
    exact q _ pr
theorem law_greatest_even {p : Plan} (wp : Pw p) (q : ∀ h', h <+: h' → Q (gapD ((ppairs p).map fun t => t.2.2.2.length)) h') : WE (callK D (k + 3) i_law_greatest_even [pD p] h) Q X := by
  refine call_wp (md := D_law_greatest_even) rfl rfl fun O oN oQ oX => ?_
  simp [m_law_greatest_even]
  refine lc_it ?_
  simp
  refine law_pairs wp fun h1 b p1 hb e1 => ?_
  rw [itOf_lst e1]
  simp
  have hl := ppairs_len wp
  refine lc_wpm (f := t4D) (xs := ppairs p) rfl (hi_lstA fun h' t => pre_get t e1) (fun t => Dt.int (t.2.2.2.length : Nat)) (by rw [sizeLine_eq]; omega) ?_ ?_
  · intro t ht
    refine ⟨_, rfl, fun h3 p3 => ?_⟩
    simp [get3]
  · intro h3 p3 e3
    have e3' : h3[h1.length]? = some (.lst ((((ppairs p).map fun t => t.2.2.2.length).map fun (n : Nat) => (n : Int)).map Dt.int)) := by rw [e3]; simp [Function.comp_def]
    simp [len_lst e3']
    cases hp : ppairs p with
    | nil =>
      simp
      refine oQ _ _ ?_
      have := q h3 (p1.trans p3)
      rw [hp] at this
      exact this
    | cons a r =>
      simp
      rw [min_lst e3' (by rw [hp]; simp)]
      simp
      refine oQ _ _ ?_
      have := q h3 (p1.trans p3)
      unfold gapD at this
      rw [if_neg (by rw [hp]; simp), List.map_map, hp] at this
      rw [hp]
      simpa using this
end K75
end
section
set_option maxRecDepth 20000
namespace EP
open PySem L2
variable {h : MH}
theorem plains_all : ∀ ds : List Dt, plains ds = ds.all Dt.plain
  | [] => by simp [plains]
  | d :: r => by simp [plains, plains_all r]
theorem deps_le {n : Nat} : ∀ ds : List Dt, (∀ d ∈ ds, d.dep ≤ n) → deps ds ≤ n
  | [], _ => by simp [deps]
  | d :: r, h => by
    simp only [deps]
    have h1 := h d (by simp)
    have h2 := deps_le r fun x hx => h x (by simp [hx])
    omega
theorem eqOk_tup {ds : List Dt} (h : ∀ d ∈ ds, d.plain = true ∧ d.dep ≤ 59) : (Dt.tup ds).eqOk = true := by
  unfold Dt.eqOk
  have h1 : plains ds = true := by
    rw [plains_all, List.all_eq_true]
    exact fun d hd => (h d hd).1
  have h2 := deps_le ds fun d hd => (h d hd).2
  have h3 : (Dt.tup ds).plain = true := by rw [Dt.plain]; exact h1
  have h4 : (Dt.tup ds).dep ≤ 60 := by rw [Dt.dep]; omega
  rw [h3, decide_eq_true h4]
  rfl
theorem eqOk_ii {a b : Int} : (Dt.tup [.int a, .int b]).eqOk = true := eqOk_tup (by simp [Dt.plain, Dt.dep])
theorem qD_ok (P : List (Int × Int)) : (Dt.tup (P.map qD)).eqOk = true := eqOk_tup (by
  intro d hd
  obtain ⟨x, _, rfl⟩ := List.mem_map.mp hd
  simp [Dt.plain, plains, Dt.dep, deps])
theorem eqv_ii {a b c d : Int} : eqv (.tup [.int a, .int b]) (.tup [.int c, .int d]) = decide ((a, b) = (c, d)) := by
  simp only [eqv, Dt.py, pys, PyData.eqv, PyData.eqvAll]
  by_cases h1 : a = c <;> by_cases h2 : b = d <;> simp [h1, h2]
theorem in_qL {ng : Bool} {P : List (Int × Int)} {a b : Int} {n : Nat} (e : h[n]? = some (.lst (P.map qD))) : oIn ng (.tup [.int a, .int b]) (.loc n) h = .ok (.bl (if ng then !decide ((a, b) ∈ P) else decide ((a, b) ∈ P))) h := by
  have h1 : ((P.map qD).any fun z => eqv z (.tup [.int a, .int b])) = decide ((a, b) ∈ P) := by
    rw [List.any_map, Bool.eq_iff_iff, List.any_eq_true, decide_eq_true_eq]
    constructor
    · rintro ⟨q, hq, e⟩
      simp only [Function.comp_apply, qD, eqv_ii, decide_eq_true_eq] at e
      exact e ▸ hq
    · intro hm
      exact ⟨(a, b), hm, by simp only [Function.comp_apply, qD, eqv_ii, decide_eq_true_eq]⟩
  simp only [oIn, e, eqOk_ii, qD_ok, and_self, if_true, h1]
theorem findIdx_eq (P : List (Int × Int)) (x : Int × Int) (hm : x ∈ P) : (P.map qD).findIdx? (fun z => eqv z (qD x)) = some (P.idxOf x) := by
  induction P with
  | nil => cases hm
  | cons a r ih =>
    rw [List.map_cons, List.findIdx?_cons, List.idxOf_cons]
    have e : eqv (qD a) (qD x) = decide (a = x) := by rw [qD, qD, eqv_ii]
    rw [e]
    by_cases h : a = x
    · simp [h]
    · rcases List.mem_cons.mp hm with z | z
      · exact absurd z.symm h
      · have e3 : (a == x) = false := by simpa using h
        simp [h, e3, ih z]
theorem index_qL {P : List (Int × Int)} {a b : Int} {n : Nat} (e : h[n]? = some (.lst (P.map qD))) (hm : (a, b) ∈ P) : mIndex (.loc n) [.tup [.int a, .int b]] h = .ok (.int (P.idxOf (a, b) : Nat)) h := by
  simp only [mIndex, e, eqOk_ii, qD_ok, and_self, if_true]
  have := findIdx_eq P (a, b) hm
  rw [qD] at this
  rw [this]
end EP
namespace K75
open PySem L2 EP
variable {k : Nat} {h : MH} {Q : Dt → MH → Prop} {X : Str → Fs → MH → Prop}
theorem law_met {p q : Plan} (wp : Wf p) (wq : Wf q) (qq : ∀ h' a, h <+: h' → h.length ≤ a → h'[a]? = some (.lst ((met p q).map qD)) → Q (.loc a) h') : WE (callK D (k + 1) i_law_met [pD p, pD q] h) Q X := by
  refine call_wp (md := D_law_met) rfl rfl fun O oN oQ oX => ?_
  simp [m_law_met]
  refine run_sFor (iRg1_wp ?_)
  simp
  refine ⟨sm_int (by omega) (by omega), ?_⟩
  refine run_rng (fun i ρ h' => ∃ P : List (Int × Int), (∃ x3 x4 x5, ρ = [some (pD p), some (pD q), some (.loc h.length), x3, x4, x5]) ∧ h <+: h' ∧ h'[h.length]? = some (.lst (P.map qD)) ∧ P.Nodup ∧ (∀ x ∈ P, VP p q x) ∧ ((i ≤ P.length ∧ bfs (cand p q) (145 - i) i P = met p q) ∨ (P = met p q ∧ P.length ≤ i)))
    ⟨[(0, 0)], ⟨_, _, _, rfl⟩, pre_app _ _, by simp, by simp, by simpa using vp0 wp wq, .inl ⟨by simp, rfl⟩⟩ ?_ ?_
  · rintro i ρ h1 hi ⟨P, ⟨x3, x4, x5, rfl⟩, pr, e1, hn, hv, hb⟩ O2 t2
    have hle := vp_le wp wq P hn hv
    by_cases hl : i < P.length
    · have hb' : bfs (cand p q) (145 - i) i P = met p q := by
        rcases hb with hb | hb
        · exact hb.2
        · omega
      simp [len_lst e1, hl]
      have hq : P[i]? = some P[i] := List.getElem?_eq_getElem hl
      have hvi := hv P[i] (List.getElem_mem hl)
      generalize hx : P[i] = x at hq hvi
      obtain ⟨a, b⟩ := x
      obtain ⟨v1, v2, v3, v4⟩ := hvi
      have hc2 := cand_ok wp wq (a, b) ⟨v1, v2, v3, v4⟩
      have g1 : oGet (.loc h.length) (.int (i : Nat)) h1 = .ok (qD (a, b)) h1 := get_lst e1 (by omega) (by simp [hq])
      have g2 : ∀ {h}, oGet (.tup (p.2.map sD)) (.int a) h = .ok (sD (rowAt p a)) h := rows_get v1 v2
      have g3 : ∀ {h}, oGet (.tup (q.2.map sD)) (.int b) h = .ok (sD (rowAt q b)) h := rows_get v3 v4
      refine run_sFor ?_
      simp [g1, g2]
      have hqx : ∀ {P' : List (Int × Int)}, P <+: P' → P'[i]? = some (a, b) := by
        rintro P' ⟨t, rfl⟩
        rw [List.getElem?_append_left hl]
        exact hq
      refine run_wk (f := eD) (xs := rowAt p a) (H := fun _ => True) hi_tup (fun j ρ h' => ∃ (P' : List (Int × Int)) (x4 x5 : Option Dt), P' = addAll P (((rowAt p a).take j).flatMap fun l => (rowAt q b).map fun r => (l.2, r.2)) ∧
        ρ = [some (pD p), some (pD q), some (.loc h.length), some (.int (i : Nat)), x4, x5] ∧ h <+: h' ∧ h'[h.length]? = some (.lst (P'.map qD))) (fun _ _ _ _ => trivial)
        ⟨P, x4, x5, by simp [addAll_nil], rfl, pr, e1⟩ ?_ ?_
      · rintro j l ρ h2 hlj ⟨P', x4, x5, hP', rfl, pr2, e2⟩
        refine ⟨_, rfl, fun O3 t3 => ?_⟩
        have hpre : P <+: P' := by rw [hP']; exact pre_addAll
        have g4 : oGet (.loc h.length) (.int (i : Nat)) h2 = .ok (qD (a, b)) h2 := get_lst e2 (by omega) (by simp [hqx hpre])
        refine run_sFor ?_
        simp [g4, g3]
        refine run_wk (f := eD) (xs := rowAt q b) (H := fun _ => True) hi_tup (fun j2 ρ h' => ∃ (P2 : List (Int × Int)) (x5 : Option Dt), P2 = addAll P' (((rowAt q b).take j2).map fun r => (l.2, r.2)) ∧
          ρ = [some (pD p), some (pD q), some (.loc h.length), some (.int (i : Nat)), some (eD l), x5] ∧ h <+: h' ∧ h'[h.length]? = some (.lst (P2.map qD))) (fun _ _ _ _ => trivial)
          ⟨P', x5, by simp [addAll_nil], rfl, pr2, e2⟩ ?_ ?_
        · rintro j2 r ρ h3 hr ⟨P2, x5, hP2, rfl, pr3, e3⟩
          refine ⟨_, rfl, fun O4 t4 => ?_⟩
          have hPn : addAll P' (((rowAt q b).take (j2 + 1)).map fun r => (l.2, r.2)) = addAll P2 [(l.2, r.2)] := by
            rw [List.take_succ, hr, List.map_append, addAll_app, ← hP2]; rfl
          simp [in_qL e3]
          by_cases hm : (l.2, r.2) ∈ P2
          · simp [hm]
            exact t4.N _ _ ⟨P2, _, by rw [hPn, addAll_one, if_pos hm], rfl, pr3, e3⟩
          · have hlen : (P2.map qD).length < sizeLine := by
              have hn2 : P2.Nodup := by rw [hP2, hP']; exact nodup_addAll (nodup_addAll hn)
              have hv2 : ∀ x ∈ P2, VP p q x := by
                intro x hx
                rw [hP2] at hx
                rcases mem_addAll.mp hx with hx | hx
                · rw [hP'] at hx
                  rcases mem_addAll.mp hx with hx | hx
                  · exact hv x hx
                  · obtain ⟨l', hl', hx⟩ := List.mem_flatMap.mp hx
                    exact hc2 x (List.mem_flatMap.mpr ⟨l', List.mem_of_mem_take hl', hx⟩)
                · obtain ⟨r', hr', rfl⟩ := List.mem_map.mp hx
                  exact hc2 _ (List.mem_flatMap.mpr ⟨l, List.mem_of_getElem? hlj, List.mem_map.mpr ⟨r', List.mem_of_mem_take hr', rfl⟩⟩)
              have := vp_le wp wq P2 hn2 hv2
              rw [sizeLine_eq, List.length_map]; omega
            obtain ⟨h5, e9, u5⟩ := app_ex (v := qD (l.2, r.2)) e3 hlen
            simp [hm, isLst_lst e3, e9]
            refine t4.N _ _ ⟨P2 ++ [(l.2, r.2)], _, by rw [hPn, addAll_one, if_neg hm], rfl, u5.pre pr3 (Nat.le_refl _), ?_⟩
            rw [u5.at_]; simp
        · rintro ρ h3 ⟨P2, x5, hP2, rfl, pr3, e3⟩
          rw [run_nx0]
          refine t3.N _ _ ⟨P2, _, _, ?_, rfl, pr3, e3⟩
          rw [List.take_succ, hlj, List.flatMap_append, addAll_app, ← hP', hP2, List.take_length]
          simp
      · rintro ρ h2 ⟨P', x4, x5, hP', rfl, pr2, e2⟩
        rw [run_nx0]
        rw [List.take_length] at hP'
        have hPc : P' = addAll P (cand p q (a, b)) := hP'
        refine t2.N _ _ ⟨P', ⟨_, _, _, rfl⟩, pr2, e2, by rw [hPc]; exact nodup_addAll hn, ?_, .inl ⟨?_, ?_⟩⟩
        · rw [hPc]
          intro x hx
          rcases mem_addAll.mp hx with hx | hx
          · exact hv x hx
          · exact hc2 x hx
        · rw [hPc]
          have := (pre_addAll (P := P) (cs := cand p q (a, b))).length_le
          omega
        · have e145 : 145 - i = (145 - (i + 1)) + 1 := by omega
          rw [e145, bfs_step hq] at hb'
          rw [hPc]; exact hb'
    · simp [len_lst e1, hl]
      have hPm : P = met p q := by
        rcases hb with hb | hb
        · rw [← hb.2, bfs_done (by omega)]
        · exact hb.1
      exact t2.N _ _ ⟨P, ⟨_, _, _, rfl⟩, pr, e1, hn, hv, .inr ⟨hPm, by omega⟩⟩
  · rintro ρ h1 ⟨P, ⟨x3, x4, x5, rfl⟩, pr, e1, hn, hv, hb⟩
    simp
    refine oQ _ _ (qq _ _ pr (Nat.le_refl _) ?_)
    have hle := vp_le wp wq P hn hv
    have hPm : P = met p q := by
      rcases hb with hb | hb
      · rw [← hb.2, bfs_done (by omega)]
      · exact hb.1
    rw [e1, hPm]
end K75
end
section
set_option maxRecDepth 20000
namespace EP
open PySem L2
abbrev refD (n : Str) (v : Dt) : Dt := .tup [.str "refused", .str n, v, .bl true, .bl false]
abbrev givD (v : Dt) : Dt := .tup [.str "given", v]
def dueSide (p q : Plan) : Dt := if 40 < p.1 + q.1 then refD "BadSize" (.int (p.1 + q.1)) else if 12 < (met p q).length then refD "TooMany" (.tup [.str "states", .int 12])
  else if 64 < wordsIn p q then refD "TooMany" (.tup [.str "words", .int 64]) else givD (pD (sideP p q))
def dueLimit (a b : Lim) : Dt := if 40 < a.1 + b.1 then refD "BadSize" (.int (a.1 + b.1)) else if 12 < a.2.length + b.2.length then refD "TooMany" (.tup [.str "clauses", .int 12]) else givD (lD (limP a b))
def duePaired (p q : Plan) : Dt := if p.2.length ≠ 1 then refD "NotBook" (.int p.2.length) else if q.2.length ≠ 1 then refD "NotBook" (.int q.2.length)
  else if 40 < p.1 + q.1 then refD "BadSize" (.int (p.1 + q.1)) else if (bookRow p).length ≠ (bookRow q).length then refD "BadNumber" (.int (bookRow q).length) else givD (pD (pairP p q))
theorem app1 {h : MH} {n : Nat} {acc : List Dt} {v : Dt} (e : h[n]? = some (.lst acc)) (l : acc.length + 1 ≤ sizeLine) : ∃ h', mAppend (.loc n) [v] h = .ok .non h' ∧ Up n h h' (.lst (acc ++ [v])) := app_ex e l
end EP
namespace K75
open PySem L2 EP
variable {k : Nat} {h : MH} {Q : Dt → MH → Prop} {X : Str → Fs → MH → Prop}
theorem law_joined_wp {n : Int} {a b : Word} (ha : a.length ≤ 200) (hb : b.length ≤ 200) (q : ∀ h', h <+: h' → Q (wD (joinW n a b)) h') : WE (callK D (k + 1) i_law_joined [.int n, wD a, wD b] h) Q X := wp_val (law_joined ha hb) q
theorem law_book {n : Int} {a : Nat} {ws : List Word} (ea : h[a]? = some (.lst (ws.map wD))) (hl : ws.length ≤ 1000) (q : ∀ h', h <+: h' → Q (pD (n, [ws.map fun w => (w, 0)])) h') : WE (callK D (k + 1) i_law_book [.int n, .loc a] h) Q X := by
  refine call_wp (md := D_law_book) rfl rfl fun O oN oQ oX => ?_
  simp [m_law_book]
  refine lc_it ?_
  simp [itOf_lst ea]
  refine lc_wpm (f := wD) (xs := ws) rfl (hi_lstA fun h' t => pre_get t ea) (fun w => .tup [wD w, .int 0]) (by rw [sizeLine_eq]; omega) ?_ ?_
  · intro w hw
    refine ⟨_, rfl, fun h' pr => ?_⟩
    simp
  · intro h1 p1 e1
    simp [tuple_lst e1]
    refine oQ _ _ (Q_eq (q h1 p1) ?_)
    simp [Function.comp_def]
theorem law_due_limit {n m : Int} {a b : Lim} (wa : WfL n a) (wb : WfL m b) (q : ∀ h', h <+: h' → Q (dueLimit a b) h') : WE (callK D (k + 2) i_law_due_limit [lD a, lD b] h) Q X := by
  refine call_wp (md := D_law_due_limit) rfl rfl fun O oN oQ oX => ?_
  simp [m_law_due_limit]
  refine run_ite (fun hb => ?_) (fun hb => ?_)
  · simp
    refine oQ _ _ ?_
    have := q h (pre_refl h)
    rw [dueLimit, if_pos hb] at this
    exact this
  simp
  refine run_ite (fun hb2 => ?_) (fun hb2 => ?_)
  · simp
    refine oQ _ _ ?_
    have := q h (pre_refl h)
    rw [dueLimit, if_neg hb, if_pos (by omega)] at this
    exact this
  simp
  have la := wa.len
  have lb := wb.len
  refine lc_it ?_
  simp
  refine lc_wpm (f := eD) (xs := b.2) rfl hi_tup (fun c => eD (joinW a.1 [] c.1, c.2)) (by rw [sizeLine_eq]; omega) ?_ ?_
  · intro c hc
    refine ⟨_, rfl, fun h' pr => ?_⟩
    simp
    have := wb.row c hc
    refine law_joined_wp (a := []) (by simp) (by omega) fun h2 p2 => ?_
    simpa using p2
  · intro h1 p1 e1
    have hl : (a.2.map eD ++ b.2.map fun c => eD (joinW a.1 [] c.1, c.2)).length ≤ sizeLine := by rw [sizeLine_eq]; simp; omega
    simp [tuple_lst e1, newT_le hl]
    refine oQ _ _ (Q_eq (q h1 p1) ?_)
    rw [dueLimit, if_neg hb, if_neg (by omega)]
    simp [limP, Function.comp_def]
theorem law_due_paired {p q : Plan} (wp : Wf p) (wq : Wf q) (qq : ∀ h', h <+: h' → Q (duePaired p q) h') : WE (callK D (k + 2) i_law_due_paired [pD p, pD q] h) Q X := by
  refine call_wp (md := D_law_due_paired) rfl rfl fun O oN oQ oX => ?_
  have hp1 := List.length_pos_iff.mpr wp.c1
  have hq1 := List.length_pos_iff.mpr wq.c1
  simp [m_law_due_paired]
  refine run_sFor ?_
  simp
  rw [itOf_lst (new_get h _)]
  simp
  have hI : HI (itL h.length 2) (fun h' => h ++ [.lst [pD p, pD q]] <+: h') ([p, q].map pD) := hi_lst (n := h.length) (xs := [pD p, pD q]) fun h' t => pre_get t (new_get h _)
  refine run_wk (f := pD) (xs := [p, q]) hI (fun i ρ h' => h ++ [.lst [pD p, pD q]] <+: h' ∧ (∃ x2, ρ = [some (pD p), some (pD q), x2, none, none, none, none]) ∧ ∀ r ∈ [p, q].take i, r.2.length = 1) (fun _ _ _ t => t.1) ⟨pre_refl _, ⟨_, rfl⟩, by simp⟩ ?_ ?_
  · rintro i r ρ h1 hr ⟨pr, ⟨x2, rfl⟩, hk⟩
    refine ⟨_, rfl, fun O2 t2 => ?_⟩
    simp
    refine run_ite (fun hb => ?_) (fun hb => ?_)
    · simp
      refine t2.Q _ _ (oQ _ _ ?_)
      have := qq h1 ((pre_app _ _).trans pr)
      match i, hr with
      | 0, hr =>
        simp at hr
        subst hr
        rw [duePaired, if_pos (by omega)] at this
        exact this
      | 1, hr =>
        simp at hr
        subst hr
        have h0 := hk p (by simp)
        rw [duePaired, if_neg (by omega), if_pos (by omega)] at this
        exact this
    · rw [run_nx0]
      refine t2.N _ _ ⟨pr, ⟨_, rfl⟩, fun y hy => ?_⟩
      rcases mem_take_succ hr hy with z | rfl
      · exact hk y z
      · have hm := List.mem_of_getElem? hr
        simp at hm
        rcases hm with rfl | rfl <;> omega
  · rintro ρ h1 ⟨pr, ⟨x2, rfl⟩, hk⟩
    have h01 : p.2.length = 1 := hk p (by simp)
    have h02 : q.2.length = 1 := hk q (by simp)
    obtain ⟨rp, hp⟩ := List.length_eq_one_iff.mp h01
    obtain ⟨rq, hq⟩ := List.length_eq_one_iff.mp h02
    have bp : bookRow p = rp := by rw [bookRow, hp]; rfl
    have bq : bookRow q = rq := by rw [bookRow, hq]; rfl
    have wrp := wp.row rp (by rw [hp]; simp)
    have wrq := wq.row rq (by rw [hq]; simp)
    have pr0 := (pre_app h [.lst [pD p, pD q]]).trans pr
    simp
    refine run_ite (fun hb => ?_) (fun hb => ?_)
    · simp
      refine oQ _ _ ?_
      have := qq h1 pr0
      rw [duePaired, if_neg (by omega), if_neg (by omega), if_pos hb] at this
      exact this
    simp [hp, hq]
    refine run_ite (fun hb2 => ?_) (fun hb2 => ?_)
    rotate_left
    · simp
      refine oQ _ _ (Q_eq (qq h1 pr0) ?_)
      rw [duePaired, if_neg (by omega), if_neg (by omega), if_neg hb, if_pos (by rw [bp, bq]; omega), bq]
    have hll : List.length rp = List.length rq := by omega
    simp
    refine lc_it (iRg1_wp ?_)
    simp
    refine ⟨sm_nat (by omega), ?_⟩
    refine lc_wpm (f := fun i : Nat => Dt.int (i : Nat)) (xs := List.range (List.length rp)) rfl hi_rng0 (fun i => wD (joinW p.1 (rp.getD i ([], 0)).1 (rq.getD i ([], 0)).1)) (by rw [sizeLine_eq, List.length_range]; omega) ?_ ?_
    · intro i hi
      simp at hi
      have hi2 : i < List.length rq := by omega
      have g1 : ∀ {h}, oGet (.tup (rp.map eD)) (.int (i : Nat)) h = .ok (eD rp[i]) h := get_nat (by simp [hi])
      have g2 : ∀ {h}, oGet (.tup (rq.map eD)) (.int (i : Nat)) h = .ok (eD rq[i]) h := get_nat (by simp [hi2])
      refine ⟨_, rfl, fun h' pr => ?_⟩
      have l1 := (wrp.2.2 _ (List.getElem_mem hi)).2.2.2.2
      have l2 := (wrq.2.2 _ (List.getElem_mem hi2)).2.2.2.2
      simp [g1, g2]
      refine law_joined_wp (by omega) (by omega) fun h2 p2 => ?_
      simp [hi, hi2, p2]
    · intro h2 p2 e2
      have e3 : ((List.range (List.length rp)).map fun i => wD (joinW p.1 (rp.getD i ([], 0)).1 (rq.getD i ([], 0)).1)) = ((rp.zip rq).map fun z => joinW p.1 z.1.1 z.2.1).map wD := by
        rw [List.map_map]
        apply List.ext_getElem
        · simp; omega
        · intro i h1 h2
          have hi : i < List.length rp := by simpa using h1
          have hi2 : i < List.length rq := by omega
          simp [hi, hi2]
      rw [e3] at e2
      refine law_book e2 (by simp; omega) fun h3 p3 => ?_
      simp
      refine oQ _ _ (Q_eq (qq h3 (pr0.trans (p2.trans p3))) ?_)
      rw [duePaired, if_neg (by omega), if_neg (by omega), if_neg hb, if_neg (by rw [bp, bq]; omega)]
      simp [pairP, bp, bq, Function.comp_def]
theorem law_due_side {p q : Plan} (wp : Wf p) (wq : Wf q) (qq : ∀ h', h <+: h' → Q (dueSide p q) h') : WE (callK D (k + 2) i_law_due_side [pD p, pD q] h) Q X := by
  refine call_wp (md := D_law_due_side) rfl rfl fun O oN oQ oX => ?_
  simp [m_law_due_side]
  refine run_ite (fun hb => ?_) (fun hb => ?_)
  · simp
    refine oQ _ _ ?_
    have := qq h (pre_refl h)
    rw [dueSide, if_pos hb] at this
    exact this
  simp
  refine law_met wp wq fun h1 a p1 ha e1 => ?_
  simp [len_lst e1]
  refine run_ite (fun hb2 => ?_) (fun hb2 => ?_)
  · simp
    refine oQ _ _ ?_
    have := qq h1 p1
    rw [dueSide, if_neg hb, if_pos (by omega)] at this
    exact this
  have hm := met_spec wp wq
  have hml := met_len wp wq
  simp
  refine lc_it ?_
  simp [itOf_lst e1]
  refine lc_wpm (f := qD) (xs := met p q) rfl (hi_lstA fun h' t => pre_get t e1) (fun x => .int (((rowAt p x.1).length : Int) * ((rowAt q x.2).length : Int))) (by rw [sizeLine_eq]; omega) ?_ ?_
  · intro x hx
    obtain ⟨v1, v2, v3, v4⟩ := hm.2.1 x hx
    refine ⟨_, rfl, fun h' pr => ?_⟩
    have := (wp.row _ (rowAt_mem v1 v2)).2.1
    simp [rows_get v1 v2, rows_get v3 v4]
    rw [mul_small (by omega) (by omega)]
    simp
  intro h2 p2 e2
  have e2' : h2[h1.length]? = some (.lst (((met p q).map fun x => ((rowAt p x.1).length : Int) * ((rowAt q x.2).length : Int)).map Dt.int)) := by rw [e2, List.map_map]; rfl
  simp [sum_lst e2']
  refine run_ite (fun hb3 => ?_) (fun hb3 => ?_)
  · simp
    refine oQ _ _ (Q_eq (qq h2 (p1.trans p2)) ?_)
    rw [dueSide, if_neg hb, if_neg (by omega), wordsIn, if_pos hb3]
  simp
  refine run_sFor ?_
  have e1' := pre_get (pre_app h2 [.lst []]) (pre_get p2 e1)
  simp
  rw [itOf_lst e1']
  simp
  refine run_col (H := fun h' => h2 <+: h') (f := qD) (xs := met p q) (hi_lstA fun h' t => pre_get t (pre_get p2 e1)) (a := h2.length) (fun ρ => ∃ x3 x5 x6 x7, ρ = [some (pD p), some (pD q), some (.loc a), x3, some (.loc h2.length), x5, x6, x7])
    (fun x => [sD (sideRow p q (met p q) x)]) ⟨_, _, _, _, rfl⟩ (pre_app _ _) (new_get _ _) ?_ ?_ ?_
  · rw [sizeLine_eq]
    have := len_flatX (met p q) (fun x => [sD (sideRow p q (met p q) x)]) 1 (by simp)
    simp only [List.length_nil]
    omega
  · rintro j x ρ h3 acc hx ⟨x3, x5, x6, x7, rfl⟩ pr3 e3 el
    refine ⟨_, rfl, fun O2 t2 => ?_⟩
    have hxm := List.mem_of_getElem? hx
    obtain ⟨v1, v2, v3, v4⟩ := hm.2.1 x hxm
    have r1 := (wp.row _ (rowAt_mem v1 v2))
    have r2 := (wq.row _ (rowAt_mem v3 v4))
    have em := pre_get pr3 (pre_get p2 e1)
    simp
    refine run_sFor ?_
    simp [rows_get v1 v2]
    refine run_col (H := fun h' => h3 <+: h') (f := eD) (xs := rowAt p x.1) hi_tup (a := h3.length) (fun ρ => ∃ x6 x7, ρ = [some (pD p), some (pD q), some (.loc a), some (qD x), some (.loc h2.length), some (.loc h3.length), x6, x7])
      (fun l => (rowAt q x.2).map fun r => eD (joinW p.1 l.1 r.1, idx (met p q) (l.2, r.2))) ⟨_, _, rfl⟩ (pre_app _ _) (new_get _ _) ?_ ?_ ?_
    · rw [sizeLine_eq]
      have := len_flatX (rowAt p x.1) (fun l => (rowAt q x.2).map fun r => eD (joinW p.1 l.1 r.1, idx (met p q) (l.2, r.2))) 64 (by simp; intro _ _ _; exact r2.2.1)
      have := Nat.le_trans this (Nat.mul_le_mul_right 64 r1.2.1)
      simp only [List.length_nil]
      omega
    · rintro j l ρ h4 acc2 hl ⟨x6, x7, rfl⟩ pr4 e4 el2
      refine ⟨_, rfl, fun O3 t3 => ?_⟩
      have hlm := List.mem_of_getElem? hl
      simp
      refine run_sFor ?_
      simp [rows_get v3 v4]
      rw [← List.flatMap_singleton' (List.map (fun r => eD (joinW p.1 l.1 r.1, idx (met p q) (l.2, r.2))) (rowAt q x.2)), List.flatMap_map] at el2 t3
      refine run_col (H := fun h' => h3 <+: h') (f := eD) (xs := rowAt q x.2) hi_tup (a := h3.length) (fun ρ => ∃ x7, ρ = [some (pD p), some (pD q), some (.loc a), some (qD x), some (.loc h2.length), some (.loc h3.length), some (eD l), x7])
        _ ⟨_, rfl⟩ pr4 e4 el2 ?_ ?_
      · rintro j r ρ h5 acc3 hr ⟨x7, rfl⟩ pr5 e5 el3
        refine ⟨_, rfl, fun O4 t4 => ?_⟩
        have hrm := List.mem_of_getElem? hr
        have l1 := (r1.2.2 _ hlm).2.2.2.2
        have l2 := (r2.2.2 _ hrm).2.2.2.2
        have hmem : (l.2, r.2) ∈ met p q := hm.2.2.1 x hxm _ (List.mem_flatMap.mpr ⟨l, hlm, List.mem_map.mpr ⟨r, hrm, rfl⟩⟩)
        simp [isLst_lst e5]
        refine law_joined_wp (by omega) (by omega) fun h6 p6 => ?_
        have em6 := pre_get p6 (pre_get pr5 em)
        simp [isLst_lst em6, index_qL em6 hmem]
        obtain ⟨h7, f7, u⟩ := app1 (v := eD (joinW p.1 l.1 r.1, idx (met p q) (l.2, r.2))) (pre_get p6 e5) (by simpa using el3)
        simp [idx] at f7
        simp [f7]
        refine t4.N _ _ ⟨⟨_, rfl⟩, u.pre (pr5.trans p6) (Nat.le_refl _), ?_⟩
        rw [u.at_]
      · rintro ρ h5 ⟨x7, rfl⟩ pr5 e5
        rw [run_nx0]
        exact t3.N _ _ ⟨⟨_, _, rfl⟩, pr5, e5⟩
    · rintro ρ h4 ⟨x6, x7, rfl⟩ pr4 e4
      have e4' : h4[h3.length]? = some (.lst ((sideRow p q (met p q) x).map eD)) := by
        rw [e4, sideRow, List.map_flatMap]
        simp [Function.comp_def]
      have e3' := pre_get pr4 e3
      obtain ⟨h5, f5, u⟩ := app1 (v := sD (sideRow p q (met p q) x)) e3' (by simpa using el)
      simp [isLst_lst e3', tuple_lst e4', f5]
      refine t2.N _ _ ⟨⟨_, _, _, _, rfl⟩, u.pre (pr3.trans pr4) (Nat.le_refl _), ?_⟩
      rw [u.at_]
  · rintro ρ h3 ⟨x3, x5, x6, x7, rfl⟩ pr3 e3
    simp [tuple_lst e3]
    refine oQ _ _ (Q_eq (qq h3 (p1.trans (p2.trans pr3))) ?_)
    rw [dueSide, if_neg hb, if_neg (by omega), wordsIn, if_neg hb3]
    simp [sideP, Function.comp_def]
    rw [List.map_eq_flatMap]
end K75
end
section
set_option maxRecDepth 20000
namespace EP
open PySem L2
section
variable {G : Orc} {O : Out} {ks : List SS} {ρ : Env} {h : MH}
/-- try: what the body leaves, what a clause leaves -/
theorem run_try {sub : Sub} {b : SS} {hs : List (Str × Nat × XS)} (w : ∀ O' : Out, (∀ ρ h, Run G O ks (.nx ρ h) → O'.N ρ h) → (∀ d h, O.Q d h → O'.Q d h) → (∀ C fs ρ h, Run G O ks (runH sub C fs G hs ρ h) → O'.X C fs ρ h) → Run G O' [] (b G ρ h)) : Run G O ks (sTry sub b hs G ρ h) := by
  have w := w { N := fun ρ h => Run G O ks (.nx ρ h), Q := O.Q, X := fun C fs ρ h => Run G O ks (runH sub C fs G hs ρ h) } (fun _ _ h => h) (fun _ _ h => h) (fun _ _ _ _ h => h)
  unfold sTry
  cases hb : b G ρ h with
  | nx ρ1 h1 => rw [hb] at w; simpa using w
  | rt d h1 => rw [hb] at w; simpa using w
  | bk ρ1 h1 => rw [hb] at w; simp at w
  | ct ρ1 h1 => rw [hb] at w; simp at w
  | ex C fs ρ1 h1 => rw [hb] at w; simpa using w
  | bad => rw [hb] at w; simp at w
theorem runH_nil {sub : Sub} {C : Str} {fs : Fs} : runH sub C fs G [] ρ h = .ex C fs ρ h := (rfl)
theorem runH_no {sub : Sub} {C : Str} {fs : Fs} {D : Str} {i : Nat} {s : XS} {r : List (Str × Nat × XS)} (e : sub C D = some false) : runH sub C fs G ((D, i, s) :: r) ρ h = runH sub C fs G r ρ h := by
  conv => lhs; unfold runH
  rw [e]
/-- the suite of a clause, which returns -/
theorem run_yes {sub : Sub} {C : Str} {fs : Fs} {D : Str} {i : Nat} {s : XS} {r : List (Str × Nat × XS)} (e : sub C D = some true) (hi : i < ρ.length) (w : ∀ O' : Out, (∀ ρ h, Run G O ks (.nx (ρ.set i none) h) → O'.N ρ h) → (∀ d h, O.Q d h → O'.Q d h) → Run G O' [] (s C fs G (ρ.set i none) h)) : Run G O ks (runH sub C fs G ((D, i, s) :: r) ρ h) := by
  have w := w { N := fun ρ h => Run G O ks (.nx (ρ.set i none) h), Q := O.Q } (fun _ _ h => h) (fun _ _ h => h)
  conv => arg 4; unfold runH
  rw [e]
  simp only [if_pos hi]
  cases hb : s C fs G (ρ.set i none) h with
  | nx ρ1 h1 => rw [hb] at w; simpa using w
  | rt d h1 => rw [hb] at w; simpa using w
  | bk ρ1 h1 => rw [hb] at w; simp at w
  | ct ρ1 h1 => rw [hb] at w; simp at w
  | ex C fs ρ1 h1 => rw [hb] at w; simp at w
  | bad => rw [hb] at w; simp at w
theorem eqv_str {x y : Str} : eqv (.str x) (.str y) = decide (x = y) := by
  simp only [eqv, Dt.py, PyData.eqv]
  by_cases h : x = y <;> simp [h]
theorem eq_str {n : Bool} {x y : Str} (hx : PyData.strOk x = true) (hy : PyData.strOk y = true) : oEq n (.str x) (.str y) h = .ok (.bl (if n then !decide (x = y) else decide (x = y))) h := by
  have h1 : (Dt.str x).eqOk = true := by unfold Dt.eqOk; simp [Dt.plain, Dt.dep, hx]
  have h2 : (Dt.str y).eqOk = true := by unfold Dt.eqOk; simp [Dt.plain, Dt.dep, hy]
  simp [oEq, h1, h2, eqv_str]
end
end EP
namespace K75
open PySem L2 EP
variable {k : Nat} {h : MH} {Q : Dt → MH → Prop} {X : Str → Fs → MH → Prop}
theorem ans_we {m : RE Dt} {Q : Dt → MH → Prop} {X : Str → Fs → MH → Prop} (a : Ans Q X m) : EP.WE m Q X := by
  revert a
  unfold Ans EP.WE
  cases m <;> exact id
theorem sb1 : tab.sub "BadSize" "NotBook" = some false := by decide +kernel
theorem sb2 : tab.sub "BadSize" "BadSize" = some true := by decide +kernel
theorem sb3 : tab.sub "TooMany" "NotBook" = some false := by decide +kernel
theorem sb4 : tab.sub "TooMany" "BadSize" = some false := by decide +kernel
theorem sb5 : tab.sub "TooMany" "BadNumber" = some false := by decide +kernel
theorem sb6 : tab.sub "TooMany" "TooMany" = some true := by decide +kernel
theorem sb7 : tab.sub "NotBook" "NotBook" = some true := by decide +kernel
theorem sb8 : tab.sub "BadNumber" "NotBook" = some false := by decide +kernel
theorem sb9 : tab.sub "BadNumber" "BadSize" = some false := by decide +kernel
theorem sb10 : tab.sub "BadNumber" "BadNumber" = some true := by decide +kernel
theorem is_NotBook_BadSize {G : Orc} {ρ : EP.Env} {fs : Fs} : xIs tab.sub "BadSize" "NotBook" fs G ρ h = .ok (.bl false) h := by rfl
theorem is_NotBook_BadNumber {G : Orc} {ρ : EP.Env} {fs : Fs} : xIs tab.sub "BadNumber" "NotBook" fs G ρ h = .ok (.bl false) h := by rfl
theorem is_NotBook_TooMany {G : Orc} {ρ : EP.Env} {fs : Fs} : xIs tab.sub "TooMany" "NotBook" fs G ρ h = .ok (.bl false) h := by rfl
theorem is_NotBook_PulseError {G : Orc} {ρ : EP.Env} {fs : Fs} : xIs tab.sub "PulseError" "NotBook" fs G ρ h = .ok (.bl true) h := by rfl
theorem fl_NotBook {G : Orc} {ρ : EP.Env} {d : Dt} : xF tab.flds "states" "NotBook" [("states", d)] G ρ h = .ok d h := by rfl
theorem is_BadSize_BadNumber {G : Orc} {ρ : EP.Env} {fs : Fs} : xIs tab.sub "BadNumber" "BadSize" fs G ρ h = .ok (.bl false) h := by rfl
theorem is_BadSize_TooMany {G : Orc} {ρ : EP.Env} {fs : Fs} : xIs tab.sub "TooMany" "BadSize" fs G ρ h = .ok (.bl false) h := by rfl
theorem is_BadSize_PulseError {G : Orc} {ρ : EP.Env} {fs : Fs} : xIs tab.sub "PulseError" "BadSize" fs G ρ h = .ok (.bl true) h := by rfl
theorem fl_BadSize {G : Orc} {ρ : EP.Env} {d : Dt} : xF tab.flds "size" "BadSize" [("size", d)] G ρ h = .ok d h := by rfl
theorem is_BadNumber_PulseError {G : Orc} {ρ : EP.Env} {fs : Fs} : xIs tab.sub "PulseError" "BadNumber" fs G ρ h = .ok (.bl true) h := by rfl
theorem is_BadNumber_TooMany {G : Orc} {ρ : EP.Env} {fs : Fs} : xIs tab.sub "TooMany" "BadNumber" fs G ρ h = .ok (.bl false) h := by rfl
theorem fl_BadNumber {G : Orc} {ρ : EP.Env} {d : Dt} : xF tab.flds "place" "BadNumber" [("place", d)] G ρ h = .ok d h := by rfl
theorem is_TooMany_PulseError {G : Orc} {ρ : EP.Env} {fs : Fs} : xIs tab.sub "PulseError" "TooMany" fs G ρ h = .ok (.bl true) h := by rfl
theorem fl_most {G : Orc} {ρ : EP.Env} {d e : Dt} : xF tab.flds "most" "TooMany" [("most", d), ("what", e)] G ρ h = .ok d h := by rfl
theorem fl_what {G : Orc} {ρ : EP.Env} {d e : Dt} : xF tab.flds "what" "TooMany" [("most", d), ("what", e)] G ρ h = .ok e h := by rfl
theorem so1 : PyData.strOk "side" = true := by decide +kernel
theorem so2 : PyData.strOk "limit" = true := by decide +kernel
theorem so3 : PyData.strOk "paired" = true := by decide +kernel
theorem law_ask_side {p q : Plan} (wp : Wf p) (wq : Wf q) (qq : ∀ h', h <+: h' → Q (dueSide p q) h') : WE (callK D (k + 5) i_law_ask [.str "side", pD p, pD q] h) Q X := by
  refine call_wp (md := D_law_ask) rfl rfl fun O oN oQ oX => ?_
  simp [m_law_ask]
  refine run_try fun O1 o1 o2 o3 => ?_
  simp [eq_str so1 so1]
  refine (ans_we (side (k := k) (h := h) wp wq)).mono ?_ ?_
  · rintro d h' ⟨⟨a, b, c⟩, rfl, pr⟩
    refine o2 _ _ (oQ _ _ (Q_eq (qq _ pr) ?_))
    rw [dueSide, if_neg (by omega), if_neg (by omega), if_neg (by omega)]
  · rintro C fs h' ⟨pr, ⟨a, rfl, rfl⟩ | ⟨a, b, rfl, rfl⟩ | ⟨a, b, c, rfl, rfl⟩⟩
    · refine o3 _ _ _ _ ?_
      rw [runH_no sb1]
      refine run_yes sb2 (by simp) fun O2 t1 t2 => ?_
      simp [is_NotBook_BadSize, is_NotBook_BadNumber, is_NotBook_TooMany, is_NotBook_PulseError, fl_NotBook, is_BadSize_BadNumber, is_BadSize_TooMany, is_BadSize_PulseError, fl_BadSize, is_BadNumber_PulseError, is_BadNumber_TooMany, fl_BadNumber, is_TooMany_PulseError, fl_most, fl_what]
      refine t2 _ _ (oQ _ _ (Q_eq (qq _ pr) ?_))
      rw [dueSide, if_pos a]
    · refine o3 _ _ _ _ ?_
      rw [runH_no sb3, runH_no sb4, runH_no sb5]
      refine run_yes sb6 (by simp) fun O2 t1 t2 => ?_
      simp [is_NotBook_BadSize, is_NotBook_BadNumber, is_NotBook_TooMany, is_NotBook_PulseError, fl_NotBook, is_BadSize_BadNumber, is_BadSize_TooMany, is_BadSize_PulseError, fl_BadSize, is_BadNumber_PulseError, is_BadNumber_TooMany, fl_BadNumber, is_TooMany_PulseError, fl_most, fl_what]
      refine t2 _ _ (oQ _ _ (Q_eq (qq _ pr) ?_))
      rw [dueSide, if_neg (by omega), if_pos b]
    · refine o3 _ _ _ _ ?_
      rw [runH_no sb3, runH_no sb4, runH_no sb5]
      refine run_yes sb6 (by simp) fun O2 t1 t2 => ?_
      simp [is_NotBook_BadSize, is_NotBook_BadNumber, is_NotBook_TooMany, is_NotBook_PulseError, fl_NotBook, is_BadSize_BadNumber, is_BadSize_TooMany, is_BadSize_PulseError, fl_BadSize, is_BadNumber_PulseError, is_BadNumber_TooMany, fl_BadNumber, is_TooMany_PulseError, fl_most, fl_what]
      refine t2 _ _ (oQ _ _ (Q_eq (qq _ pr) ?_))
      rw [dueSide, if_neg (by omega), if_neg (by omega), if_pos c]
theorem law_ask_limit {n m : Int} {a b : Lim} (wa : WfL n a) (wb : WfL m b) (hn : 1 ≤ n) (hm : 1 ≤ m) (qq : ∀ h', h <+: h' → Q (dueLimit a b) h') : WE (callK D (k + 5) i_law_ask [.str "limit", lD a, lD b] h) Q X := by
  refine call_wp (md := D_law_ask) rfl rfl fun O oN oQ oX => ?_
  have ea := wa.eq
  have eb := wb.eq
  have n1 : ¬ (("limit" : Str) = "side") := by decide +kernel
  simp [m_law_ask]
  refine run_try fun O1 o1 o2 o3 => ?_
  simp [eq_str so2 so1, eq_str so2 so2, n1]
  refine (ans_we (side_limit (k := k) (h := h) wa wb hn hm)).mono ?_ ?_
  · rintro d h' ⟨⟨a, b⟩, rfl, pr⟩
    refine o2 _ _ (oQ _ _ (Q_eq (qq _ pr) ?_))
    rw [dueLimit, if_neg (by omega), if_neg (by omega)]
  · rintro C fs h' ⟨pr, ⟨a, rfl, rfl⟩ | ⟨a, b, rfl, rfl⟩⟩
    · refine o3 _ _ _ _ ?_
      rw [runH_no sb1]
      refine run_yes sb2 (by simp) fun O2 t1 t2 => ?_
      simp [is_NotBook_BadSize, is_NotBook_BadNumber, is_NotBook_TooMany, is_NotBook_PulseError, fl_NotBook, is_BadSize_BadNumber, is_BadSize_TooMany, is_BadSize_PulseError, fl_BadSize, is_BadNumber_PulseError, is_BadNumber_TooMany, fl_BadNumber, is_TooMany_PulseError, fl_most, fl_what]
      refine t2 _ _ (oQ _ _ (Q_eq (qq _ pr) ?_))
      rw [dueLimit, if_pos (by omega), ea, eb]
    · refine o3 _ _ _ _ ?_
      rw [runH_no sb3, runH_no sb4, runH_no sb5]
      refine run_yes sb6 (by simp) fun O2 t1 t2 => ?_
      simp [is_NotBook_BadSize, is_NotBook_BadNumber, is_NotBook_TooMany, is_NotBook_PulseError, fl_NotBook, is_BadSize_BadNumber, is_BadSize_TooMany, is_BadSize_PulseError, fl_BadSize, is_BadNumber_PulseError, is_BadNumber_TooMany, fl_BadNumber, is_TooMany_PulseError, fl_most, fl_what]
      refine t2 _ _ (oQ _ _ (Q_eq (qq _ pr) ?_))
      rw [dueLimit, if_neg (by omega), if_pos b]
theorem law_ask_paired {p q : Plan} (wp : Wf p) (wq : Wf q) (qq : ∀ h', h <+: h' → Q (duePaired p q) h') : WE (callK D (k + 7) i_law_ask [.str "paired", pD p, pD q] h) Q X := by
  refine call_wp (md := D_law_ask) rfl rfl fun O oN oQ oX => ?_
  have n1 : ¬ (("paired" : Str) = "side") := by decide +kernel
  have n2 : ¬ (("paired" : Str) = "limit") := by decide +kernel
  simp [m_law_ask]
  refine run_try fun O1 o1 o2 o3 => ?_
  simp [eq_str so3 so1, eq_str so3 so2, n1, n2]
  refine (ans_we (paired (k := k) (h := h) wp wq)).mono ?_ ?_
  · rintro d h' ⟨⟨a, b, c, e⟩, rfl, pr⟩
    refine o2 _ _ (oQ _ _ (Q_eq (qq _ pr) ?_))
    rw [duePaired, if_neg (by omega), if_neg (by omega), if_neg (by omega), if_neg (by omega)]
  · rintro C fs h' ⟨pr, ⟨a, rfl, rfl⟩ | ⟨a, b, rfl, rfl⟩ | ⟨a, b, c, rfl, rfl⟩ | ⟨a, b, c, e, rfl, rfl⟩⟩
    · refine o3 _ _ _ _ ?_
      refine run_yes sb7 (by simp) fun O2 t1 t2 => ?_
      simp [is_NotBook_BadSize, is_NotBook_BadNumber, is_NotBook_TooMany, is_NotBook_PulseError, fl_NotBook, is_BadSize_BadNumber, is_BadSize_TooMany, is_BadSize_PulseError, fl_BadSize, is_BadNumber_PulseError, is_BadNumber_TooMany, fl_BadNumber, is_TooMany_PulseError, fl_most, fl_what]
      refine t2 _ _ (oQ _ _ (Q_eq (qq _ pr) ?_))
      rw [duePaired, if_pos (by omega)]
    · refine o3 _ _ _ _ ?_
      refine run_yes sb7 (by simp) fun O2 t1 t2 => ?_
      simp [is_NotBook_BadSize, is_NotBook_BadNumber, is_NotBook_TooMany, is_NotBook_PulseError, fl_NotBook, is_BadSize_BadNumber, is_BadSize_TooMany, is_BadSize_PulseError, fl_BadSize, is_BadNumber_PulseError, is_BadNumber_TooMany, fl_BadNumber, is_TooMany_PulseError, fl_most, fl_what]
      refine t2 _ _ (oQ _ _ (Q_eq (qq _ pr) ?_))
      rw [duePaired, if_neg (by omega), if_pos (by omega)]
    · refine o3 _ _ _ _ ?_
      rw [runH_no sb1]
      refine run_yes sb2 (by simp) fun O2 t1 t2 => ?_
      simp [is_NotBook_BadSize, is_NotBook_BadNumber, is_NotBook_TooMany, is_NotBook_PulseError, fl_NotBook, is_BadSize_BadNumber, is_BadSize_TooMany, is_BadSize_PulseError, fl_BadSize, is_BadNumber_PulseError, is_BadNumber_TooMany, fl_BadNumber, is_TooMany_PulseError, fl_most, fl_what]
      refine t2 _ _ (oQ _ _ (Q_eq (qq _ pr) ?_))
      rw [duePaired, if_neg (by omega), if_neg (by omega), if_pos c]
    · refine o3 _ _ _ _ ?_
      rw [runH_no sb8, runH_no sb9]
      refine run_yes sb10 (by simp) fun O2 t1 t2 => ?_
      simp [is_NotBook_BadSize, is_NotBook_BadNumber, is_NotBook_TooMany, is_NotBook_PulseError, fl_NotBook, is_BadSize_BadNumber, is_BadSize_TooMany, is_BadSize_PulseError, fl_BadSize, is_BadNumber_PulseError, is_BadNumber_TooMany, fl_BadNumber, is_TooMany_PulseError, fl_most, fl_what]
      refine t2 _ _ (oQ _ _ (Q_eq (qq _ pr) ?_))
      rw [duePaired, if_neg (by omega), if_neg (by omega), if_neg (by omega), if_pos e]
end K75
end
section
set_option maxRecDepth 20000
namespace EP
open PySem L2
section
variable {h : MH}
mutual
def nodes : Dt → Nat
  | .tup ds => nodesL ds + 1
  | _ => 1
def nodesL : List Dt → Nat
  | [] => 0
  | d :: r => nodes d + nodesL r
end
theorem nodesL_app (a b : List Dt) : nodesL (a ++ b) = nodesL a + nodesL b := by
  induction a with
  | nil => simp [nodesL]
  | cons x r ih => simp [nodesL, ih, Nat.add_assoc]
theorem nodes_pos (d : Dt) : 1 ≤ nodes d := by
  cases d <;> simp [nodes]
theorem nodesL_len (ds : List Dt) : ds.length ≤ nodesL ds := by
  induction ds with
  | nil => simp [nodesL]
  | cons x r ih =>
    have := nodes_pos x
    simp only [nodesL, List.length_cons]
    omega
theorem nodesL_map {α : Type} (f : α → Dt) (c : Nat) (xs : List α) (hc : ∀ x ∈ xs, nodes (f x) ≤ c) : nodesL (xs.map f) ≤ xs.length * c := by
  induction xs with
  | nil => simp [nodesL]
  | cons a r ih =>
    have h1 := ih fun x hx => hc x (by simp [hx])
    have h2 := hc a (by simp)
    simp only [List.map_cons, nodesL, List.length_cons, Nat.add_mul]
    omega
def kindD : Dt → Int
  | .non => 0 | .bl _ => 1 | .int _ => 2 | .str _ => 3 | .tup _ => 4 | .loc _ => 5
@[simp] theorem isi_bl_bool {b : Bool} : bIsi "bool" [.bl b] h = .ok (.bl true) h := (rfl)
@[simp] theorem isi_str_bool {i : Str} : bIsi "bool" [.str i] h = .ok (.bl false) h := (rfl)
@[simp] theorem isi_str_int {i : Str} : bIsi "int" [.str i] h = .ok (.bl false) h := (rfl)
@[simp] theorem isi_str_str {i : Str} : bIsi "str" [.str i] h = .ok (.bl true) h := (rfl)
@[simp] theorem isi_tup_bool {i : List Dt} : bIsi "bool" [.tup i] h = .ok (.bl false) h := (rfl)
@[simp] theorem isi_tup_int {i : List Dt} : bIsi "int" [.tup i] h = .ok (.bl false) h := (rfl)
@[simp] theorem isi_tup_str {i : List Dt} : bIsi "str" [.tup i] h = .ok (.bl false) h := (rfl)
@[simp] theorem isi_tup_tuple {i : List Dt} : bIsi "tuple" [.tup i] h = .ok (.bl true) h := (rfl)
@[simp] theorem is_non_str {n : Bool} {i : Str} : oIs n (.str i) .non h = .ok (.bl n) h := (rfl)
@[simp] theorem is_non_bl {n : Bool} {i : Bool} : oIs n (.bl i) .non h = .ok (.bl n) h := (rfl)
theorem eqv_bl {a b : Bool} : eqv (.bl a) (.bl b) = decide (a = b) := by
  simp only [eqv, Dt.py, PyData.eqv]
  cases a <;> cases b <;> rfl
theorem eqv_self : ∀ {d : Dt}, kindD d < 4 → eqv d d = true
  | .non, _ => by simp [eqv, Dt.py, PyData.eqv]
  | .bl b, _ => by simp [eqv_bl]
  | .int i, _ => by simp
  | .str x, _ => by simp [eqv_str]
  | .tup _, h => absurd h (by simp [kindD])
  | .loc _, h => absurd h (by simp [kindD])
theorem eqOk_flat : ∀ {d : Dt}, kindD d < 4 → d.plain = true → d.eqOk = true
  | .non, _, _ => rfl
  | .bl b, _, _ => rfl
  | .int i, _, _ => rfl
  | .str x, _, h => by unfold Dt.eqOk; rw [h]; simp [Dt.dep]
  | .tup _, h, _ => absurd h (by simp [kindD])
  | .loc _, h, _ => absurd h (by simp [kindD])
theorem pop_last {n : Nat} {xs : List Dt} {d : Dt} (e : h[n]? = some (.lst (xs ++ [d]))) : ∃ h', mPop (.loc n) [] h = .ok d h' ∧ Up n h h' (.lst xs) := ⟨_, by simp [mPop, e], Up.of e⟩
theorem dt_tup {d : Dt} (h : ¬ kindD d < 4) (p : d.plain = true) : ∃ ds, d = .tup ds ∧ ∀ x ∈ ds, x.plain = true := by
  match d, h, p with
  | .tup ds, _, p =>
    refine ⟨ds, rfl, ?_⟩
    rw [Dt.plain, plains_all, List.all_eq_true] at p
    exact p
  | .non, h, _ => exact absurd (by decide) h
  | .bl b, h, _ => exact absurd (show (1 : Int) < 4 by decide) h
  | .int i, h, _ => exact absurd (show (2 : Int) < 4 by decide) h
  | .str x, h, _ => exact absurd (show (3 : Int) < 4 by decide) h
  | .loc _, _, p => simp [Dt.plain] at p
end
end EP
namespace K75
open PySem L2 EP
variable {k : Nat} {h : MH} {Q : Dt → MH → Prop} {X : Str → Fs → MH → Prop}
theorem law_kind {d : Dt} (pl : d.plain = true) : callK D (k + 1) i_law_kind [d] h = .ok (.int (kindD d)) h := by
  rw [call_eq (md := D_law_kind) rfl rfl, run_s]
  cases d with
  | non => simp [m_law_kind, sSeq_s, kindD]
  | bl b => simp [m_law_kind, sSeq_s, kindD]
  | int i => simp [m_law_kind, sSeq_s, kindD]
  | str x => simp [m_law_kind, sSeq_s, kindD]
  | tup ds => simp [m_law_kind, sSeq_s, kindD]
  | loc n => simp [Dt.plain] at pl
theorem law_same {d : Dt} (pl : d.plain = true) (hn : nodes d < 900000) (q : ∀ h', h <+: h' → Q (.bl true) h') : WE (callK D (k + 2) i_law_same [d, d] h) Q X := by
  refine call_wp (md := D_law_same) rfl rfl fun O oN oQ oX => ?_
  simp [m_law_same]
  refine run_while (fun m ρ h' => m < 900000 ∧ ∃ (ds : List Dt) (x3 x4 x5 x6 : Option Dt), nodesL ds = m ∧ (∀ x ∈ ds, x.plain = true) ∧ ρ = [some d, some d, some (.loc h.length), x3, x4, x5, x6] ∧ h <+: h' ∧ h'[h.length]? = some (.lst (ds.map fun x => .tup [x, x]))) (m := nodes d) (by unfold whileFuel; omega)
    ⟨hn, [d], none, none, none, none, by simp [nodesL], by simpa using pl, rfl, pre_app _ _, by simp⟩ ?_
  rintro m ρ h1 ⟨hm, ds, x3, x4, x5, x6, hs, hp, rfl, pr, e1⟩
  refine ⟨decide (0 < ds.length), h1, by simp [len_lst e1], fun hc => ?_, fun hc O' t => ?_⟩
  · simp
    exact oQ _ _ (q _ pr)
  · have hne : ds ≠ [] := by rintro rfl; simp at hc
    obtain ⟨ds', x, rfl⟩ : ∃ ds' x, ds = ds' ++ [x] := ⟨_, _, (List.dropLast_concat_getLast hne).symm⟩
    rw [nodesL_app] at hs
    simp [nodesL] at hs
    have px := hp x (by simp)
    rw [List.map_append, List.map_singleton] at e1
    obtain ⟨h2, f2, u⟩ := pop_last e1
    have pr2 := u.pre pr (Nat.le_refl _)
    have kn : ¬ kindD x = 6 := by cases x <;> simp [kindD]
    have nx := nodes_pos x
    simp [isLst_lst e1, f2, law_kind px, kn]
    refine run_ite (fun hk => ?_) (fun hk => ?_)
    · simp [oEq, eqOk_flat hk px, eqv_self hk]
      exact t.N _ _ ⟨nodesL ds', by omega, by omega, ds', _, _, _, _, rfl, fun y hy => hp y (by simp [hy]), rfl, pr2, u.at_⟩
    · obtain ⟨xs, rfl, hxs⟩ := dt_tup hk px
      simp [nodes] at hs
      have hxl := nodesL_len xs
      have hdl := nodesL_len ds'
      simp
      refine run_sFor (iRg1_wp ?_)
      simp
      refine ⟨by unfold Sm; omega, ?_⟩
      refine run_colR (H := fun h' => h <+: h') (a := h.length) (fun ρ => ∃ x6, ρ = [some d, some d, some (.loc h.length), some (.tup xs), some (.tup xs), some (.int (kindD (.tup xs))), x6]) (fun j => [.tup [xs.getD j .non, xs.getD j .non]]) ⟨_, rfl⟩ pr2 u.at_ ?_ ?_ ?_
      · rw [sizeLine_eq]
        have := len_flatX (List.range xs.length) (fun j => [Dt.tup [xs.getD j .non, xs.getD j .non]]) 1 (by simp)
        simp only [List.length_range, List.length_map] at *
        omega
      · rintro j ρ h3 acc hj ⟨x6, rfl⟩ pr3 e3 el O3 t3
        have g1 : ∀ {h}, oGet (.tup xs) (.int (j : Nat)) h = .ok xs[j] h := get_nat (by simp [hj])
        have hg : xs.getD j .non = xs[j] := by simp [hj]
        rw [hg] at t3 el
        obtain ⟨h4, f4, u4⟩ := app1 (v := .tup [xs[j], xs[j]]) e3 (by simpa using el)
        simp [isLst_lst e3, g1, f4]
        refine t3.N _ _ ⟨⟨_, rfl⟩, u4.pre pr3 (Nat.le_refl _), ?_⟩
        rw [u4.at_]
      · rintro ρ h3 ⟨x6, rfl⟩ pr3 e3
        rw [run_nx0]
        have e3' : h3[h.length]? = some (.lst ((ds' ++ xs).map fun x => .tup [x, x])) := by
          rw [e3, List.map_append]
          congr 3
          rw [← List.map_eq_flatMap]
          apply List.ext_getElem
          · simp
          · intro i h1 h2
            have : i < xs.length := by simpa using h2
            simp [this]
        refine t.N _ _ ⟨nodesL (ds' ++ xs), by rw [nodesL_app]; omega, by rw [nodesL_app]; omega, ds' ++ xs, _, _, _, _, rfl, fun y hy => ?_, rfl, pr3, e3'⟩
        rcases List.mem_append.mp hy with z | z
        · exact hp y (by simp [z])
        · exact hxs y z
end K75
end
section
set_option maxRecDepth 20000
namespace K75
open PySem L2 EP
variable {k : Nat} {h : MH} {Q : Dt → MH → Prop} {X : Str → Fs → MH → Prop}
theorem law_mixed (x s : Int) : ∃ r, callK D (k + 1) i_law_mixed [.int x, .int s] h = .ok (.int r) h := by
  rw [call_eq (md := D_law_mixed) rfl rfl, run_s]
  simp [m_law_mixed, sSeq_s]
  rw [mul_r (by omega) (by omega)]
  simp
  rw [mul_r (by omega) (by omega)]
  simp
  rw [mod_k (by omega)]
  simp
  generalize hA : (x * 48271 + s * 69621 + 12345) % 2147483647 = A
  have hA1 : 0 ≤ A := by rw [← hA]; exact Int.emod_nonneg _ (by omega)
  have hA2 : A < 2147483647 := by rw [← hA]; exact Int.emod_lt_of_pos _ (by omega)
  rw [mul_l (by omega) (by omega)]
  simp
  rw [mul_r (by omega) (by omega)]
  simp
  rw [fdiv_s (by omega) (by omega)]
  simp
  rw [mod_k (by omega)]
  simp
  generalize hB : (A * A + s * 16807 + A / 65536 + 7) % 2147483629 = B
  have hB1 : 0 ≤ B := by rw [← hB]; exact Int.emod_nonneg _ (by omega)
  have hB2 : B < 2147483629 := by rw [← hB]; exact Int.emod_lt_of_pos _ (by omega)
  rw [mul_l (by omega) (by omega)]
  simp
  rw [fdiv_s (by omega) (by omega)]
  simp
  rw [mod_k (by omega)]
  simp
  rw [mul_r (by omega) (by omega)]
  simp
theorem law_take {m n : Nat} {c : Int} (hs : St m n h) (hm : m ≤ h.length) (hc : c < lim200) (q : ∀ (r : Int) h', Kp m n h h' → 0 ≤ r → (1 ≤ c → r < c) → Q (.int r) h') : WE (callK D (k + 2) i_law_take [.loc n, .int c] h) Q X := by
  refine call_wp (md := D_law_take) rfl rfl fun O oN oQ oX => ?_
  obtain ⟨cA, cs, t0⟩ := hs
  obtain ⟨a, b, s, e, e0, a0, a1⟩ := t0.top
  have hkeep : ∀ {h' : MH}, StE m n cA cs h' → h.length ≤ h'.length → (∀ i o, m ≤ i → h[i]? = some o → h'[i]? = some o) → Kp m n h h' := fun t l g => ⟨⟨cA, cs, t⟩, l, g⟩
  have hup : ∀ {h' h2 : MH} {x : Nat} {o : MO}, x < m → Up x h' h2 o → (h.length ≤ h'.length ∧ ∀ i o, m ≤ i → h[i]? = some o → h'[i]? = some o) → (h.length ≤ h2.length ∧ ∀ i o, m ≤ i → h[i]? = some o → h2[i]? = some o) := fun hx u ⟨l, g⟩ =>
    ⟨by rw [u.len]; exact l, fun i o hi e => u.get (by omega) (g i o hi e)⟩
  have hN : ∀ {h' : MH} {a b s e : Int}, h'[n]? = some (.lst [.loc cA, .int a, .int b, .int s, .int e]) → (∀ v, ∃ h2, oSet (.loc n) (.int 1) (.int v) h' = some h2 ∧ Up n h' h2 (.lst [.loc cA, .int v, .int b, .int s, .int e])) ∧ (∀ v, ∃ h2, oSet (.loc n) (.int 2) (.int v) h' = some h2 ∧ Up n h' h2 (.lst [.loc cA, .int a, .int v, .int s, .int e])) ∧ (∀ v, ∃ h2, oSet (.loc n) (.int 4) (.int v) h' = some h2 ∧ Up n h' h2 (.lst [.loc cA, .int a, .int b, .int s, .int v])) := by
    intro h' a b s e e0
    refine ⟨fun v => ?_, fun v => ?_, fun v => ?_⟩
    · obtain ⟨h2, f, u⟩ := setL_ex (i := 1) (v := .int v) e0 (by omega) (by simp)
      exact ⟨h2, f, u⟩
    · obtain ⟨h2, f, u⟩ := setL_ex (i := 2) (v := .int v) e0 (by omega) (by simp)
      exact ⟨h2, f, u⟩
    · obtain ⟨h2, f, u⟩ := setL_ex (i := 4) (v := .int v) e0 (by omega) (by simp)
      exact ⟨h2, f, u⟩
  have gN : ∀ {h' : MH} {a b s e : Int}, h'[n]? = some (.lst [.loc cA, .int a, .int b, .int s, .int e]) → oGet (.loc n) (.int 0) h' = .ok (.loc cA) h' ∧ oGet (.loc n) (.int 1) h' = .ok (.int a) h' ∧ oGet (.loc n) (.int 2) h' = .ok (.int b) h' ∧ oGet (.loc n) (.int 3) h' = .ok (.int s) h' ∧ oGet (.loc n) (.int 4) h' = .ok (.int e) h' :=
    fun e0 => ⟨get_lst e0 (by omega) rfl, get_lst e0 (by omega) rfl, get_lst e0 (by omega) rfl, get_lst e0 (by omega) rfl, get_lst e0 (by omega) rfl⟩
  obtain ⟨g0, g1, g2, g3, g4⟩ := gN e0
  obtain ⟨h1, f1, u1⟩ := (hN e0).2.2 (e + 1)
  have t1 := t0.upN u1 a0 a1
  have k1 := hup t0.nm u1 ⟨Nat.le_refl _, fun _ _ _ e => e⟩
  have nm := t0.nm
  simp [m_law_take, g0, g4, f1]
  refine run_ite (fun hb => ?_) (fun hb => ?_)
  · simp
    exact oQ _ _ (q 0 h1 (hkeep t1 k1.1 k1.2) (by omega) (by omega))
  obtain ⟨g0, g1, g2, g3, g4⟩ := gN u1.at_
  have hlen : bLen [.loc cA] h1 = .ok (.int cs.length) h1 := by rw [len_lst t1.cells, List.length_map]
  simp
  refine run_sFor (iRg2_wp ?_)
  have hcl := t0.len
  simp [g1, hlen]
  refine ⟨sm_int (by omega) (by omega), sm_nat (by omega), ?_⟩
  refine run_wk (f := fun j : Nat => Dt.int (a + (j : Nat))) (xs := List.range ((cs.length : Int) - a).toNat) (H := fun _ => True) hi_rng (fun i ρ h' => StE m n cA cs h' ∧ (h.length ≤ h'.length ∧ ∀ i o, m ≤ i → h[i]? = some o → h'[i]? = some o) ∧ ∃ x3 x4 x5, ρ = [some (.loc n), some (.int c), some (.loc cA), x3, x4, x5]) (fun _ _ _ _ => trivial) ⟨t1, k1, _, _, _, rfl⟩ ?_ ?_
  · rintro j j' ρ h2 hj ⟨t2, k2, x3, x4, x5, rfl⟩
    obtain ⟨hjl, rfl⟩ : j < ((cs.length : Int) - a).toNat ∧ j = j' := by
      obtain ⟨a, b⟩ := List.getElem?_eq_some_iff.mp hj
      simp at a b
      exact ⟨by omega, b⟩
    refine ⟨_, rfl, fun O2 tb => ?_⟩
    have hjc : (a + (j : Int)).toNat < cs.length := by omega
    have hx : cs[(a + (j : Int)).toNat] ∈ cs := List.getElem_mem hjc
    have gc : oGet (.loc cA) (.int (a + (j : Nat))) h2 = .ok (.loc cs[(a + (j : Int)).toNat]) h2 := get_lst t2.cells (by omega) (by rw [List.getElem?_map, List.getElem?_eq_getElem hjc]; rfl)
    generalize cs[(a + (j : Int)).toNat] = x at hx gc
    obtain ⟨a2, b2, s2, e2, f2, a20, a21⟩ := t2.top
    obtain ⟨h3, f3, u3⟩ := (hN f2).1 (a + (j : Nat))
    have t3 := t2.upN u3 (by omega) (by omega)
    have k3 := hup nm u3 k2
    obtain ⟨p, v, ex⟩ := t3.each x hx
    have x0 : oGet (.loc x) (.int 0) h3 = .ok (.int p) h3 := get_lst ex (by omega) rfl
    have x1 : oGet (.loc x) (.int 1) h3 = .ok (.int v) h3 := get_lst ex (by omega) rfl
    have xm := (t0.cel x hx).1
    have hmodn : ∀ r : Int, 0 ≤ r % c := fun r => Int.emod_nonneg _ (by omega)
    have hmodl : ∀ r : Int, r % c < c := fun r => Int.emod_lt_of_pos _ (by omega)
    simp [-tAnd_s, gc, f3]
    rw [tAnd_ok (x := decide (p = 1)) (y := decide (0 < v)) (by simp [x0]) (fun _ => by simp [x1])]
    simp only [we_ok]
    refine run_ite (fun hb1 => ?_) (fun hb1 => ?_)
    · simp [x1]
      rw [mod_k (by omega)]
      simp [x1]
      rw [fdiv_k (by omega) hc]
      simp
      obtain ⟨h4, f4, u4⟩ := setL_ex (i := 1) (v := .int (v / c)) ex (by omega) (by simp)
      have t4 := t3.upX (p := p) (v := v / c) hx u4
      have k4 := hup xm u4 k3
      simp [f4]
      exact tb.Q _ _ (oQ _ _ (q _ h4 (hkeep t4 k4.1 k4.2) (hmodn _) (fun _ => hmodl _)))
    obtain ⟨y0, y1, y2, y3, y4⟩ := gN u3.at_
    simp [-tAnd_s]
    rw [tAnd_ok (x := decide (p = 0)) (y := decide (b2 < 4)) (by simp [x0]) (fun _ => by simp [y2])]
    simp only [we_ok]
    refine run_ite (fun hb2 => ?_) (fun hb2 => ?_)
    · obtain ⟨h4, f4, u4⟩ := (hN u3.at_).2.1 (b2 + 1)
      have t4 := t3.upN u4 (by omega) (by omega)
      have k4 := hup nm u4 k3
      obtain ⟨z0, z1, z2, z3, z4⟩ := gN u4.at_
      have ex4 := u4.get (t0.cel x hx).2.1 ex
      have x14 : oGet (.loc x) (.int 1) h4 = .ok (.int v) h4 := get_lst ex4 (by omega) rfl
      simp [y2, f4, x14, z2]
      rw [mul_r (by omega) (by omega)]
      obtain ⟨r, hr⟩ := law_mixed (k := k) (h := h4) (v + (a + (j : Int)) * 7919) (b2 + 1)
      simp [z2, hr]
      rw [mod_k (by omega)]
      simp
      exact tb.Q _ _ (oQ _ _ (q _ h4 (hkeep t4 k4.1 k4.2) (hmodn _) (fun _ => hmodl _)))
    · obtain ⟨h4, f4, u4⟩ := (hN u3.at_).2.1 0
      have t4 := t3.upN u4 (by omega) (by omega)
      have k4 := hup nm u4 k3
      simp [f4]
      exact tb.N _ _ ⟨t4, k4, _, _, _, rfl⟩
  · rintro ρ h2 ⟨t2, k2, x3, x4, x5, rfl⟩
    obtain ⟨a2, b2, s2, e2, f2, a20, a21⟩ := t2.top
    obtain ⟨h3, f3, u3⟩ := (hN f2).1 cs.length
    have t3 := t2.upN u3 (by omega) (by omega)
    have k3 := hup nm u3 k2
    obtain ⟨y0, y1, y2, y3, y4⟩ := gN u3.at_
    have hlen2 : bLen [.loc cA] h2 = .ok (.int cs.length) h2 := by rw [len_lst t2.cells, List.length_map]
    obtain ⟨r, hr⟩ := law_mixed (k := k) (h := h3) s2 e2
    simp [hlen2, f3, y3, y4, hr]
    rw [mod_k (by omega)]
    simp
    exact oQ _ _ (q _ h3 (hkeep t3 k3.1 k3.2) (Int.emod_nonneg _ (by omega)) (fun _ => Int.emod_lt_of_pos _ (by omega)))
end K75
end
section
set_option maxRecDepth 20000
namespace EP
open PySem L2
theorem lt200 {c : Int} (h : c ≤ 1000000000000) : c < lim200 := by
  have := lim200_big
  generalize lim200 = l at *; omega
theorem pow200 {n : Nat} (h : n ≤ 100) : (2 : Int) ^ n < lim200 := by
  have h1 : (2 : Int) ^ n ≤ 2 ^ 100 := by
    have := Nat.pow_le_pow_right (n := 2) (by omega) h
    have e : ∀ m : Nat, ((2 ^ m : Nat) : Int) = (2 : Int) ^ m := fun m => by simp
    rw [← e, ← e]
    exact Int.ofNat_le.mpr this
  have h2 : (2 : Int) ^ 100 < lim200 := by decide +kernel
  exact Int.lt_of_le_of_lt h1 h2
/-- the wires of a mask -/
def maskW (m : Int) (n : Nat) : Word := ((List.range n).filter fun i => decide (m / 2 ^ i % 2 = 1)).map fun i => ((i : Nat) : Int)
theorem maskW_asc (m : Int) (n : Nat) : Asc (maskW m n) := by
  unfold Asc maskW
  rw [List.pairwise_map]
  refine List.Pairwise.imp ?_ (List.Pairwise.filter _ List.pairwise_lt_range)
  intro a b h
  omega
theorem maskW_mem {m : Int} {n : Nat} {x : Int} (h : x ∈ maskW m n) : 0 ≤ x ∧ x < n := by
  unfold maskW at h
  obtain ⟨i, hi, rfl⟩ := List.mem_map.mp h
  have := List.mem_filter.mp hi
  have := List.mem_range.mp this.1
  omega
theorem maskW_len (m : Int) (n : Nat) : (maskW m n).length ≤ n := by
  unfold maskW
  rw [List.length_map]
  exact Nat.le_trans (List.length_filter_le _ _) (by simp)
theorem maskW_ne {m : Int} : ∀ {n : Nat}, 0 < m → m < 2 ^ n → maskW m n ≠ []
  | 0, h0, h1 => by simp at h1; omega
  | n + 1, h0, h1 => by
    intro e
    by_cases h2 : m < 2 ^ n
    · refine maskW_ne h0 h2 ?_
      unfold maskW at e ⊢
      rw [List.range_succ, List.filter_append, List.map_append] at e
      exact (List.append_eq_nil_iff.mp e).1
    · have hp : (0 : Int) < 2 ^ n := Int.pow_pos (by omega)
      have h3 : m / 2 ^ n = 1 := by
        have h4 : 1 ≤ m / 2 ^ n := Int.le_ediv_of_mul_le hp (by omega)
        have h5 : m / 2 ^ n < 2 := Int.ediv_lt_of_lt_mul hp (by rw [Int.pow_succ] at h1; omega)
        omega
      unfold maskW at e
      rw [List.range_succ, List.filter_append, List.map_append] at e
      have := (List.append_eq_nil_iff.mp e).2
      simp [h3] at this
end EP
namespace K75
open PySem L2 EP
variable {k : Nat} {h : MH} {Q : Dt → MH → Prop} {X : Str → Fs → MH → Prop}
theorem law_number {m n : Nat} {a b : Int} (hs : St m n h) (hm : m ≤ h.length) (hb : b - a < 1000000) (q : ∀ (r : Int) h', Kp m n h h' → a ≤ r → (r ≤ b ∨ r = a) → Q (.int r) h') : WE (callK D (k + 3) i_law_number [.loc n, .int a, .int b] h) Q X := by
  refine call_wp (md := D_law_number) rfl rfl fun O oN oQ oX => ?_
  simp [m_law_number]
  refine run_ite (fun h1 => ?_) (fun h1 => ?_)
  · simp
    exact oQ _ _ (q a h (.refl hs) (by omega) (.inr rfl))
  simp
  refine law_take hs hm (lt200 (by omega)) fun r h1 k1 r0 r1 => ?_
  simp
  refine run_ite (fun h2 => ?_) (fun h2 => ?_)
  · simp
    exact oQ _ _ (q a h1 k1 (by omega) (.inr rfl))
  simp
  refine run_ite (fun h3 => ?_) (fun h3 => ?_)
  · simp
    exact oQ _ _ (q b h1 k1 (by omega) (.inl (by omega)))
  simp
  refine law_take k1.st (Nat.le_trans hm k1.len) (lt200 (by omega)) fun r2 h2 k2 r20 r21 => ?_
  simp
  exact oQ _ _ (q _ h2 (k1.trans k2) (by omega) (.inl (by have := r21 (by omega); omega)))
theorem law_size {m n : Nat} {a b c : Int} (hs : St m n h) (hm : m ≤ h.length) (hab : a ≤ b) (hbc : b ≤ c) (hb : c - a < 1000000) (q : ∀ (r : Int) h', Kp m n h h' → a ≤ r → r ≤ c → Q (.int r) h') : WE (callK D (k + 3) i_law_size [.loc n, .int a, .int b, .int c] h) Q X := by
  refine call_wp (md := D_law_size) rfl rfl fun O oN oQ oX => ?_
  simp [m_law_size]
  refine law_take hs hm (lt200 (by omega)) fun r h1 k1 r0 r1 => ?_
  simp
  refine run_ite (fun h2 => ?_) (fun h2 => ?_)
  · simp
    exact oQ _ _ (q a h1 k1 (by omega) (by omega))
  simp
  refine run_ite (fun h2 => ?_) (fun h2 => ?_)
  · simp
    exact oQ _ _ (q b h1 k1 (by omega) (by omega))
  simp
  refine run_ite (fun h2 => ?_) (fun h2 => ?_)
  · simp
    exact oQ _ _ (q c h1 k1 (by omega) (by omega))
  simp
  refine run_ite (fun h2 => ?_) (fun h2 => ?_)
  · simp
    refine law_take k1.st (Nat.le_trans hm k1.len) (lt200 (by omega)) fun r2 h2 k2 r20 r21 => ?_
    simp
    exact oQ _ _ (q _ h2 (k1.trans k2) (by omega) (by have := r21 (by omega); omega))
  simp
  refine law_take k1.st (Nat.le_trans hm k1.len) (lt200 (by omega)) fun r2 h2 k2 r20 r21 => ?_
  simp
  exact oQ _ _ (q _ h2 (k1.trans k2) (by omega) (by have := r21 (by omega); omega))
theorem law_power {b c : Int} (b0 : -1000000 ≤ b) (b1 : b ≤ 1000000) (c0 : 0 ≤ c) (c1 : c ≤ 1000) (q : Q (.int (b ^ c.toNat)) h) : WE (callK D (k + 1) i_law_power [.int b, .int c] h) Q X := by
  refine call_wp (md := D_law_power) rfl rfl fun O oN oQ oX => ?_
  simp [m_law_power]
  refine run_sFor (iRg1_wp ?_)
  simp
  refine ⟨sm_int (by omega) (by omega), ?_⟩
  refine run_rng (fun i ρ h' => h' = h ∧ ∃ x3, ρ = [some (.int b), some (.int c), some (.int (b ^ i)), x3]) ⟨rfl, none, by simp⟩ ?_ ?_
  · rintro i ρ h' hi ⟨rfl, x3, rfl⟩ O2 t2
    simp
    rw [mul_r (by omega) (by omega)]
    simp
    exact t2.N _ _ ⟨rfl, _, by rw [Int.pow_succ]⟩
  · rintro ρ h' ⟨rfl, x3, rfl⟩
    simp
    exact oQ _ _ q
theorem law_mask_word {M n : Int} (n0 : 0 ≤ n) (n1 : n ≤ 1000) (q : ∀ h', h <+: h' → Q (wD (maskW M n.toNat)) h') : WE (callK D (k + 1) i_law_mask_word [.int M, .int n] h) Q X := by
  refine call_wp (md := D_law_mask_word) rfl rfl fun O oN oQ oX => ?_
  simp [m_law_mask_word]
  refine run_sFor (iRg1_wp ?_)
  simp
  refine ⟨sm_int (by omega) (by omega), ?_⟩
  refine run_rng (fun i ρ h' => h <+: h' ∧ (∃ x4, ρ = [some (.int M), some (.int n), some (.loc h.length), some (.int (M / 2 ^ i)), x4]) ∧ h'[h.length]? = some (.lst ((maskW M i).map .int))) ⟨pre_app _ _, ⟨none, by simp⟩, by simp [maskW]⟩ ?_ ?_
  · rintro i ρ h1 hi ⟨pr, ⟨x4, rfl⟩, e1⟩ O2 t2
    simp
    rw [mod_k (by omega)]
    simp
    have hdiv : M / 2 ^ i / 2 = M / 2 ^ (i + 1) := by
      rw [Int.pow_succ, Int.ediv_ediv_of_nonneg (Int.pow_nonneg (by omega))]
    have hstep : maskW M (i + 1) = maskW M i ++ if M / 2 ^ i % 2 = 1 then [(i : Int)] else [] := by
      unfold maskW
      rw [List.range_succ, List.filter_append, List.map_append]
      congr 1
      by_cases hb : M / 2 ^ i % 2 = 1 <;> simp [hb]
    have hml := maskW_len M i
    refine run_ite (fun hb => ?_) (fun hb => ?_)
    · obtain ⟨h2, f2, u⟩ := app_ex (v := .int (i : Nat)) e1 (by rw [sizeLine_eq, List.length_map]; omega)
      simp [isLst_lst e1, f2]
      rw [fdiv_s (by omega) (by omega)]
      simp
      refine t2.N _ _ ⟨u.pre pr (Nat.le_refl _), ⟨_, by rw [hdiv]⟩, ?_⟩
      rw [u.at_, hstep, if_pos hb]
      simp
    · simp
      rw [fdiv_s (by omega) (by omega)]
      simp
      refine t2.N _ _ ⟨pr, ⟨_, by rw [hdiv]⟩, ?_⟩
      rw [e1, hstep, if_neg hb]
      simp
  · rintro ρ h1 ⟨pr, ⟨x4, rfl⟩, e1⟩
    simp [tuple_lst e1]
    exact oQ _ _ (q _ pr)
end K75
end
section
set_option maxRecDepth 20000
namespace EP
open PySem L2
theorem pow_int (m : Nat) : ((2 ^ m : Nat) : Int) = (2 : Int) ^ m := by simp
theorem pow_dbl {a b : Nat} (h : a < b) : 2 * (2 : Int) ^ a ≤ 2 ^ b := by
  have := Nat.pow_le_pow_right (n := 2) (by omega) h
  rw [← pow_int, ← pow_int]
  rw [Nat.pow_succ] at this
  omega
theorem pow_one (a : Nat) : 1 ≤ (2 : Int) ^ a := by
  have := Nat.one_le_two_pow (n := a)
  rw [← pow_int]
  omega
theorem int_ok (P : List Int) : (Dt.tup (P.map .int)).eqOk = true := eqOk_tup (by
  intro d hd
  obtain ⟨x, _, rfl⟩ := List.mem_map.mp hd
  simp [Dt.plain, Dt.dep])
theorem in_iL {h : MH} {ng : Bool} {P : List Int} {a : Int} {n : Nat} (e : h[n]? = some (.lst (P.map .int))) : oIn ng (.int a) (.loc n) h = .ok (.bl (if ng then !decide (a ∈ P) else decide (a ∈ P))) h := by
  have h1 : ((P.map Dt.int).any fun z => eqv z (.int a)) = decide (a ∈ P) := by
    rw [List.any_map, Bool.eq_iff_iff, List.any_eq_true, decide_eq_true_eq]
    constructor
    · rintro ⟨q, hq, e⟩
      simp at e
      exact e ▸ hq
    · intro hm
      exact ⟨a, hm, by simp⟩
  simp only [oIn, e, eqOk_int, int_ok, and_self, if_true, h1]
end EP
namespace K75
open PySem L2 EP
variable {k : Nat} {h : MH} {Q : Dt → MH → Prop} {X : Str → Fs → MH → Prop}
theorem law_masks {m n : Nat} {N c : Int} (hs : St m n h) (hm : m ≤ h.length) (N0 : 1 ≤ N) (N1 : N ≤ 60) (c0 : 0 ≤ c) (c1 : c ≤ 1000)
    (q : ∀ (ms : List Int) a h', Kp m n h h' → h.length ≤ a → h'[a]? = some (.lst (ms.map .int)) → (∀ x ∈ ms, 1 ≤ x ∧ x < 2 ^ N.toNat) → (ms.length : Int) ≤ c → (1 ≤ c → ms ≠ []) → Q (.loc a) h') : WE (callK D (k + 3) i_law_masks [.loc n, .int N, .int c] h) Q X := by
  refine call_wp (md := D_law_masks) rfl rfl fun O oN oQ oX => ?_
  simp [m_law_masks]
  refine law_power (by omega) (by omega) (by omega) (by omega) ?_
  have hp1 := pow_one N.toNat
  have hp2 := pow_dbl (a := 0) (b := N.toNat) (by omega)
  have hp3 : (2 : Int) ^ N.toNat < lim200 := pow200 (by omega)
  have hpd : ∀ r : Int, 0 ≤ r → r < N → 2 * (2 : Int) ^ r.toNat ≤ 2 ^ N.toNat := fun r h0 h1 => pow_dbl (by omega)
  generalize hPP : (2 : Int) ^ N.toNat = P at hp1 hp2 hp3 hpd q
  simp at hp2
  simp
  refine law_take hs hm (lt200 (by omega)) fun r h1 k1 r0 r1 => ?_
  simp
  have hl1 := k1.len
  simp [if_ok]
  refine run_sFor (iRg1_wp ?_)
  have hmin : bMin [.int c, .int (P - 1)] = fun h => RE.ok (Dt.int (if P - 1 < c then P - 1 else c)) h := rfl
  simp [hmin]
  have hl1 := k1.len
  have hmc : 0 ≤ (if P - 1 < c then P - 1 else c) ∧ (if P - 1 < c then P - 1 else c) ≤ c ∧ (1 ≤ c → 1 ≤ (if P - 1 < c then P - 1 else c)) := by split <;> omega
  generalize (if P - 1 < c then P - 1 else c) = T at hmc
  generalize (decide (r = 0) && decide (3 < N)) = th
  refine ⟨sm_int (by omega) (by omega), ?_⟩
  refine run_rng (fun i ρ h' => ∃ ms : List Int, ms.length = i ∧ (∀ x ∈ ms, 1 ≤ x ∧ x < P) ∧ Kp m n h h' ∧ h'[h1.length]? = some (.lst (ms.map .int)) ∧ ∃ x6 x7 x8 x9 x10, ρ = [some (.loc n), some (.int N), some (.int c), some (.int (P - 1)), some (.bl th), some (.loc h1.length), x6, x7, x8, x9, x10])
    ⟨[], rfl, by simp, k1.thenPre (pre_app _ _), by simp, _, _, _, _, _, rfl⟩ ?_ ?_
  · rintro i ρ h2 hi ⟨ms, hms, hr, k2, e2, x6, x7, x8, x9, x10, rfl⟩ O2 t2
    have hl2 := k2.len
    simp [-sIf_s]
    refine run_join (J := fun ρ h' => Kp m n h h' ∧ h'[h1.length]? = some (.lst (ms.map .int)) ∧ ∃ x7 x8 x10, ∃ M : Int, 1 ≤ M ∧ M < P ∧ ρ = [some (.loc n), some (.int N), some (.int c), some (.int (P - 1)), some (.bl th), some (.loc h1.length), some (.int (i : Nat)), x7, x8, some (.int M), x10]) (fun O3 w1 w2 w3 w4 w5 => ?_) ?_
    · simp
      refine run_ite (fun hb => ?_) (fun hb => ?_)
      · simp
        refine law_take k2.st (Nat.le_trans hm k2.len) (lt200 (by omega)) fun r1 h3 k3 r10 r11 => ?_
        have r11 := r11 (by omega)
        refine law_power (by omega) (by omega) (by omega) (by omega) ?_
        refine law_take k3.st (Nat.le_trans hm (Nat.le_trans hl2 k3.len)) (lt200 (by omega)) fun r2 h4 k4 r20 r21 => ?_
        have r21 := r21 (by omega)
        refine law_power (by omega) (by omega) (by omega) (by omega) ?_
        have k5 := k2.trans (k3.trans k4)
        have e5 := k4.ge _ _ (by omega) (k3.ge _ _ (by omega) e2)
        have hmax : ∀ a b : Int, bMax [.int a, .int b] = fun h => RE.ok (Dt.int (if b > a then b else a)) h := fun _ _ => rfl
        have d1 := hpd r1 r10 r11
        have d2 := hpd r2 r20 r21
        have o1 := pow_one r1.toNat
        have o2 := pow_one r2.toNat
        simp [hmax]
        refine run_ite (fun hb2 => ?_) (fun hb2 => ?_)
        · simp
          refine w1 _ _ ⟨k5, e5, _, _, _, _, ?_, ?_, rfl⟩
          · split <;> omega
          · split <;> omega
        · simp
          have hne : r1.toNat ≠ r2.toNat := fun e => hb2 (by rw [e])
          refine w1 _ _ ⟨k5, e5, _, _, _, _, by omega, ?_, rfl⟩
          rcases Nat.lt_or_gt_of_ne hne with z | z
          · have := pow_dbl z
            omega
          · have := pow_dbl z
            omega
      · simp
        refine law_take k2.st (Nat.le_trans hm k2.len) (by omega) fun r1 h3 k3 r10 r11 => ?_
        have r11 := r11 (by omega)
        simp
        exact w1 _ _ ⟨k2.trans k3, k3.ge _ _ (by omega) e2, _, _, _, _, by omega, by omega, rfl⟩
    · rintro ρ h3 ⟨k3, e3, x7, x8, x10, M, M0, M1, rfl⟩
      simp
      refine run_sFor (iRg1_wp ?_)
      simp [len_lst e3]
      refine ⟨sm_nat (by omega), ?_⟩
      have fin : ∀ (x7 x8 x10 : Option Dt) (M : Int), 1 ≤ M → M < P → Run (callK D (k + 2)) O2 [sExpr (eMf mAppend (eVar 5) (aCons (eVar 9) aNil))] (.nx [some (.loc n), some (.int N), some (.int c), some (.int (P - 1)), some (.bl th), some (.loc h1.length), some (.int (i : Nat)), x7, x8, some (.int M), x10] h3) := by
        intro x7 x8 x10 M M0 M1
        obtain ⟨h4, f4, u⟩ := app_ex (v := .int M) e3 (by rw [sizeLine_eq, List.length_map]; omega)
        simp [isLst_lst e3, f4]
        refine t2.N _ _ ⟨ms ++ [M], by simp [hms], fun x hx => ?_, k3.up u hl1 hm, ?_, _, _, _, _, _, rfl⟩
        · rcases List.mem_append.mp hx with z | z
          · exact hr x z
          · simp at z
            subst z
            exact ⟨M0, M1⟩
        · rw [u.at_]; simp
      refine run_rng (fun j ρ h' => h' = h3 ∧ ∃ x10, ∃ M : Int, 1 ≤ M ∧ M < P ∧ ρ = [some (.loc n), some (.int N), some (.int c), some (.int (P - 1)), some (.bl th), some (.loc h1.length), some (.int (i : Nat)), x7, x8, some (.int M), x10]) ⟨rfl, _, M, M0, M1, rfl⟩ ?_ ?_
      · rintro j ρ h' hj ⟨rfl, x10, M, M0, M1, rfl⟩ O3 t3
        simp [in_iL e3]
        refine run_ite (fun hb => ?_) (fun hb => ?_)
        · simp
          rw [mod_k (by omega)]
          simp
          have := Int.emod_nonneg M (b := P - 1) (by omega)
          have := Int.emod_lt_of_pos M (b := P - 1) (by omega)
          exact t3.N _ _ ⟨rfl, _, _, by omega, by omega, rfl⟩
        · simp
          exact t3.B _ _ (fin _ _ _ _ M0 M1)
      · rintro ρ h' ⟨rfl, x10, M, M0, M1, rfl⟩
        exact fin _ _ _ _ M0 M1
  · rintro ρ h2 ⟨ms, hms, hr, k2, e2, x6, x7, x8, x9, x10, rfl⟩
    simp
    refine oQ _ _ (q ms _ _ k2 hl1 e2 hr (by omega) ?_)
    intro hc
    rintro rfl
    simp at hms
    omega
end K75
end
section
set_option maxRecDepth 20000
namespace EP
open PySem L2
/-- what is known of a drawn word -/
structure WdOk (n : Int) (w : Word) : Prop where
  asc : Asc w
  rng : ∀ x ∈ w, 0 ≤ x ∧ x < n
  ne : w ≠ []
  len : w.length ≤ n.toNat
theorem wdOk_mask {n x : Int} (n0 : 0 ≤ n) (h0 : 1 ≤ x) (h1 : x < 2 ^ n.toNat) : WdOk n (maskW x n.toNat) :=
  ⟨maskW_asc _ _, fun y hy => by have := maskW_mem hy; omega, maskW_ne (by omega) h1, maskW_len _ _⟩
theorem pop_at {h : MH} {n : Nat} {xs : List Dt} {i : Int} {d : Dt} (e : h[n]? = some (.lst xs)) (h0 : 0 ≤ i) (hd : xs[i.toNat]? = some d) : ∃ h', mPop (.loc n) [.int i] h = .ok d h' ∧ Up n h h' (.lst (xs.eraseIdx i.toNat)) := by
  have hl := (List.getElem?_eq_some_iff.mp hd).1
  have h1 : i < xs.length := by omega
  exact ⟨_, by simp only [mPop, e, ixN, h0, h1, if_true, hd], Up.of e⟩
theorem map_eraseIdxX {α β : Type} (f : α → β) : ∀ (l : List α) (i : Nat), (l.map f).eraseIdx i = (l.eraseIdx i).map f
  | [], _ => by simp
  | a :: r, 0 => by simp
  | a :: r, i + 1 => by simp [map_eraseIdxX f r i]
theorem erase_perm {α : Type} : ∀ {l : List α} {i : Nat} {x : α}, l[i]? = some x → l.Perm (x :: l.eraseIdx i)
  | [], i, x, h => by simp at h
  | a :: r, 0, x, h => by
    simp at h
    subst h
    exact List.Perm.refl _
  | a :: r, i + 1, x, h => by
    simp at h
    have := erase_perm (l := r) (i := i) (x := x) h
    rw [List.eraseIdx_cons_succ]
    exact (List.Perm.cons a this).trans (List.Perm.swap x a _)
end EP
namespace K75
open PySem L2 EP
variable {k : Nat} {h : MH} {Q : Dt → MH → Prop} {X : Str → Fs → MH → Prop}
theorem law_words {m n : Nat} {N c : Int} (hs : St m n h) (hm : m ≤ h.length) (N0 : 1 ≤ N) (N1 : N ≤ 60) (c0 : 0 ≤ c) (c1 : c ≤ 1000)
    (q : ∀ (ws : List Word) a h', Kp m n h h' → h.length ≤ a → h'[a]? = some (.lst (ws.map wD)) → (∀ w ∈ ws, WdOk N w) → (ws.length : Int) ≤ c → (1 ≤ c → ws ≠ []) → Q (.loc a) h') : WE (callK D (k + 4) i_law_words [.loc n, .int N, .int c] h) Q X := by
  refine call_wp (md := D_law_words) rfl rfl fun O oN oQ oX => ?_
  simp [m_law_words]
  refine lc_it ?_
  simp
  refine law_masks hs hm N0 N1 c0 c1 fun ms a h1 k1 ha e1 hr hl hne => ?_
  rw [itOf_lst e1]
  simp
  refine lc_wpm (f := Dt.int) (xs := ms) rfl (hi_lstA fun h' t => pre_get t e1) (fun x => wD (maskW x N.toNat)) (by rw [sizeLine_eq]; omega) ?_ ?_
  · intro x hx
    refine ⟨_, rfl, fun h' pr => ?_⟩
    simp
    exact law_mask_word (by omega) (by omega) fun h2 p2 => ⟨rfl, p2⟩
  · intro h2 p2 e2
    have hl1 := k1.len
    refine oQ _ _ (q (ms.map fun x => maskW x N.toNat) _ _ (k1.thenPre p2) hl1 (by rw [e2, List.map_map]; rfl) ?_ (by simpa using hl) (by simpa using hne))
    intro w hw
    obtain ⟨x, hx, rfl⟩ := List.mem_map.mp hw
    exact wdOk_mask (by omega) (hr x hx).1 (hr x hx).2
theorem law_pruned {a : Nat} {ws : List Word} (ea : h[a]? = some (.lst (ws.map wD))) (hl : ws.length ≤ 1000) (hw : ∀ w ∈ ws, w.length ≤ 200)
    (q : ∀ (us : List Word) b h', h <+: h' → h.length ≤ b → h'[b]? = some (.lst (us.map wD)) → (∀ w ∈ us, w ∈ ws) → us.length ≤ ws.length → (ws ≠ [] → us ≠ []) → Q (.loc b) h') : WE (callK D (k + 2) i_law_pruned [.loc a] h) Q X := by
  refine call_wp (md := D_law_pruned) rfl rfl fun O oN oQ oX => ?_
  simp [m_law_pruned]
  refine run_sFor ?_
  have ea' := pre_get (pre_app h [.lst []]) ea
  simp [itOf_lst ea']
  refine run_wk (f := wD) (xs := ws) (H := fun h' => h <+: h') (hi_lstA fun h' t => pre_get t ea) (fun i ρ h' => h <+: h' ∧ ∃ us : List Word, us.length ≤ i ∧ (∀ w ∈ us, w ∈ ws) ∧ (0 < i → us ≠ []) ∧ h'[h.length]? = some (.lst (us.map wD)) ∧ ∃ x2 x3 x4, ρ = [some (.loc a), some (.loc h.length), x2, x3, x4]) (fun _ _ _ t => t.1)
    ⟨pre_app _ _, [], by simp, by simp, by simp, by simp, _, _, _, rfl⟩ ?_ ?_
  · rintro i w ρ h1 hi ⟨pr, us, hus, hsub, hne, e1, x2, x3, x4, rfl⟩
    have hil := (List.getElem?_eq_some_iff.mp hi).1
    have hwm := List.mem_of_getElem? hi
    refine ⟨_, rfl, fun O2 t2 => ?_⟩
    simp
    refine run_sFor ?_
    simp [itOf_lst e1]
    refine run_wk (f := wD) (xs := us) (H := fun h' => h1 <+: h') (hi_lstA fun h' t => pre_get t e1) (fun j ρ h' => h1 <+: h' ∧ ∃ (b : Bool) (x4 : Option Dt), (j = 0 → b = true) ∧ ρ = [some (.loc a), some (.loc h.length), some (wD w), some (.bl b), x4]) (fun _ _ _ t => t.1)
      ⟨pre_refl _, true, _, fun _ => rfl, rfl⟩ ?_ ?_
    · rintro j u ρ h2 hj ⟨pr2, b, x4, hb, rfl⟩
      have hum := List.mem_of_getElem? hj
      refine ⟨_, rfl, fun O3 t3 => ?_⟩
      simp
      refine law_less_wp (hw _ hwm) fun h3 pr3 => ?_
      simp
      by_cases hc : less w u = []
      · simp [hc]
        exact t3.N _ _ ⟨pr2.trans pr3, _, _, by omega, rfl⟩
      · simp [hc]
        refine law_less_wp (hw _ (hsub _ hum)) fun h4 pr4 => ?_
        simp
        refine run_ite (fun hd => ?_) (fun hd => ?_)
        · simp
          exact t3.N _ _ ⟨pr2.trans (pr3.trans pr4), _, _, by omega, rfl⟩
        · rw [run_nx0]
          exact t3.N _ _ ⟨pr2.trans (pr3.trans pr4), _, _, by omega, rfl⟩
    · rintro ρ h2 ⟨pr2, b, x4, hb, rfl⟩
      have e2 := pre_get pr2 e1
      simp
      refine run_ite (fun hc => ?_) (fun hc => ?_)
      · obtain ⟨h3, f3, u⟩ := app_ex (v := wD w) e2 (by rw [sizeLine_eq, List.length_map]; omega)
        simp [isLst_lst e2, f3]
        refine t2.N _ _ ⟨u.pre (pr.trans pr2) (Nat.le_refl _), us ++ [w], by simp; omega, fun x hx => ?_, by simp, by rw [u.at_]; simp, _, _, _, rfl⟩
        rcases List.mem_append.mp hx with z | z
        · exact hsub x z
        · simp at z
          exact z ▸ hwm
      · rw [run_nx0]
        refine t2.N _ _ ⟨pr.trans pr2, us, by omega, hsub, fun _ => ?_, e2, _, _, _, rfl⟩
        rintro rfl
        exact hc (hb rfl)
  · rintro ρ h1 ⟨pr, us, hus, hsub, hne, e1, x2, x3, x4, rfl⟩
    simp
    exact oQ _ _ (q us _ _ pr (Nat.le_refl _) e1 hsub hus fun hw => hne (List.length_pos_iff.mpr hw))
theorem law_order {m n : Nat} {c : Int} (hs : St m n h) (hm : m ≤ h.length) (c0 : 0 ≤ c) (c1 : c ≤ 1000)
    (q : ∀ (os : List Int) a h', Kp m n h h' → h.length ≤ a → h'[a]? = some (.lst (os.map .int)) → os.Perm ((List.range c.toNat).map fun i => ((i : Nat) : Int)) → Q (.loc a) h') : WE (callK D (k + 3) i_law_order [.loc n, .int c] h) Q X := by
  refine call_wp (md := D_law_order) rfl rfl fun O oN oQ oX => ?_
  have hrg : rgD 0 c = ((List.range c.toNat).map fun i => ((i : Nat) : Int)).map Dt.int := by
    unfold rgD
    rw [List.map_map]
    simp
  have hro : rgOk 0 c = true := rgOk_of (by omega) (by omega) (by omega) (by omega)
  simp [m_law_order, hro, hrg]
  rw [← List.map_map (g := Dt.int) (f := fun i : Nat => (i : Int))]
  generalize hL : (List.range c.toNat).map (fun i => ((i : Nat) : Int)) = L at q
  have hLl : L.length = c.toNat := by rw [← hL]; simp
  have k0 := Kp.pre hs (pre_app h [.lst (L.map Dt.int)])
  refine law_take k0.st (Nat.le_trans hm k0.len) (lt200 (by omega)) fun r h1 k1 r0 r1 => ?_
  have k1' := k0.trans k1
  have e1 := k1.ge _ _ hm (new_get h (.lst (L.map Dt.int)))
  have hl1 := lt_of_get e1
  simp
  refine run_ite (fun hb => ?_) (fun hb => ?_)
  · simp
    exact oQ _ _ (q L _ _ k1' (Nat.le_refl _) e1 (List.Perm.refl _))
  simp
  refine run_sFor (iRg1_wp ?_)
  simp
  refine ⟨sm_int (by omega) (by omega), ?_⟩
  refine run_rng (fun i ρ h' => Kp m n h h' ∧ ∃ (pool found : List Int), found.length = i ∧ (found ++ pool).Perm L ∧ h'[h.length]? = some (.lst (pool.map .int)) ∧ h'[h1.length]? = some (.lst (found.map .int)) ∧ ∃ x5 x6, ρ = [some (.loc n), some (.int c), some (.loc h.length), some (.int r), some (.loc h1.length), x5, x6])
    ⟨k1'.thenPre (pre_app _ _), L, [], rfl, List.Perm.refl _, pre_get (pre_app _ _) e1, by simp, _, _, rfl⟩ ?_ ?_
  · rintro i ρ h2 hi ⟨k2, pool, found, hf, hperm, e2, e3, x5, x6, rfl⟩ O2 t2
    have hpl : pool.length = c.toNat - i := by
      have := hperm.length_eq
      rw [List.length_append] at this
      omega
    have hl2 := k2.len
    simp [-sIf_s, len_lst e2]
    refine run_join (J := fun ρ h' => Kp m n h h' ∧ h'[h.length]? = some (.lst (pool.map .int)) ∧ h'[h1.length]? = some (.lst (found.map .int)) ∧ ∃ A : Int, 0 ≤ A ∧ A < pool.length ∧ ρ = [some (.loc n), some (.int c), some (.loc h.length), some (.int r), some (.loc h1.length), some (.int (i : Nat)), some (.int A)]) (fun O3 w1 w2 w3 w4 w5 => ?_) ?_
    · simp
      refine run_ite (fun hb => ?_) (fun hb => ?_)
      · simp [len_lst e2]
        refine law_take k2.st (Nat.le_trans hm k2.len) (lt200 (by omega)) fun r2 h3 k3 r20 r21 => ?_
        have r21 := r21 (by omega)
        skip
        exact w1 _ _ ⟨k2.trans k3, k3.ge _ _ (by omega) e2, k3.ge _ _ (by omega) e3, _, r20, r21, rfl⟩
      · rw [run_nx0]
        exact w1 _ _ ⟨k2, e2, e3, _, by omega, by omega, rfl⟩
    · rintro ρ h3 ⟨k3, e2, e3, A, A0, A1, rfl⟩
      have hA : A.toNat < pool.length := by omega
      have hp : pool[A.toNat]? = some pool[A.toNat] := List.getElem?_eq_getElem hA
      generalize pool[A.toNat] = v at hp
      obtain ⟨h4, f4, u4⟩ := pop_at (d := .int v) e2 A0 (by rw [List.getElem?_map, hp]; rfl)
      have e3' := u4.get (by omega) e3
      obtain ⟨h5, f5, u5⟩ := app_ex (v := .int v) e3' (by rw [sizeLine_eq, List.length_map]; omega)
      simp [isLst_lst e3, isLst_lst e2, f4, f5]
      refine t2.N _ _ ⟨(k3.up u4 (Nat.le_refl _) hm).up u5 k1'.len hm, pool.eraseIdx A.toNat, found ++ [v], by simp [hf], ?_, ?_, by rw [u5.at_]; simp, _, _, rfl⟩
      · refine List.Perm.trans ?_ hperm
        rw [List.append_assoc]
        exact List.Perm.append_left _ (erase_perm hp).symm
      · rw [u5.get (by omega) u4.at_]
        rw [map_eraseIdxX]
  · rintro ρ h2 ⟨k2, pool, found, hf, hperm, e2, e3, x5, x6, rfl⟩
    simp
    have : pool = [] := by
      have := hperm.length_eq
      rw [List.length_append] at this
      exact List.length_eq_zero_iff.mp (by omega)
    subst this
    exact oQ _ _ (q found _ _ k2 k1'.len e3 (by simpa using hperm))
end K75
end
section
set_option maxRecDepth 20000
namespace EP
open PySem L2
def rngI (c : Nat) : List Int := (List.range c).map fun i => ((i : Nat) : Int)
structure RwOk (N : Int) (cnt : Nat) (cap : Int) (r : Row) : Prop where
  ne : r ≠ []
  len : (r.length : Int) ≤ cap
  each : ∀ e ∈ r, WdOk N e.1 ∧ 0 ≤ e.2 ∧ e.2 < cnt
/-- a drawn plan -/
structure PlOk (p : Plan) (cnt : Nat) (cap : Int) : Prop where
  len : p.2.length = cnt
  row : ∀ r ∈ p.2, RwOk p.1 cnt cap r
  ring : ∃ R : List Int, R.Perm (rngI cnt) ∧ R[0]? = some 0 ∧ ∀ i, i < cnt → ∃ e ∈ rowAt p (R.getD i 0), e.2 = R.getD ((i + 1) % cnt) 0
theorem rngI_mem {c : Nat} {x : Int} (h : x ∈ rngI c) : 0 ≤ x ∧ x < c := by
  obtain ⟨i, hi, rfl⟩ := List.mem_map.mp h
  have := List.mem_range.mp hi
  omega
theorem rngI_nodup (c : Nat) : (rngI c).Nodup := by
  unfold rngI
  rw [List.nodup_iff_pairwise_ne, List.pairwise_map]
  refine List.Pairwise.imp ?_ List.pairwise_lt_range
  intro a b h
  omega
theorem rngI_succ (c : Nat) : rngI (c + 1) = 0 :: (rngI c).map (1 + ·) := by
  unfold rngI
  rw [List.range_succ_eq_map, List.map_cons, List.map_map, List.map_map]
  congr 1
  apply List.map_congr_left
  intro a _
  simp
  omega
theorem mul_lst {h : MH} {n : Nat} {d : Dt} {k : Int} (e : h[n]? = some (.lst [d])) (k0 : 0 ≤ k) (k1 : k ≤ 1000) : oMul (.loc n) (.int k) h = .ok (.loc h.length) (h ++ [.lst (List.replicate k.toNat d)]) := by
  obtain ⟨a, b⟩ := lim62_big
  have h1 : k < lim62 ∧ -lim62 ≤ k := by generalize lim62 = l at *; omega
  have h2 : (List.replicate k.toNat [d]).flatten = List.replicate k.toNat d := by
    induction k.toNat with
    | zero => rfl
    | succ j ih => simp [List.replicate_succ, ih]
  simp only [oMul, e, if_pos h1, h2]
  rw [newL_le (by rw [sizeLine_eq, List.length_replicate]; omega)]
theorem add_lst {h : MH} {a b : Nat} {xs ys : List Dt} (e1 : h[a]? = some (.lst xs)) (e2 : h[b]? = some (.lst ys)) (hl : xs.length + ys.length ≤ 1000) : oAdd (.loc a) (.loc b) h = .ok (.loc h.length) (h ++ [.lst (xs ++ ys)]) := by
  simp only [oAdd, e1, e2]
  rw [newL_le (by rw [sizeLine_eq, List.length_append]; omega)]
theorem getD_of {α : Type} {l : List α} {i : Nat} {d x : α} (e : l[i]? = some x) : l.getD i d = x := by
  rw [List.getD_eq_getElem?_getD, e]; rfl
end EP
namespace K75
open PySem L2 EP
variable {k : Nat} {h : MH} {Q : Dt → MH → Prop} {X : Str → Fs → MH → Prop}
theorem law_plan {m n : Nat} {N c cap : Int} {b : Bool} (hs : St m n h) (hm : m ≤ h.length) (N0 : 1 ≤ N) (N1 : N ≤ 60) (c0 : 1 ≤ c) (c1 : c ≤ 100) (p0 : 1 ≤ cap) (p1 : cap ≤ 100)
    (q : ∀ (p : Plan) h', Kp m n h h' → p.1 = N → PlOk p c.toNat cap → Q (pD p) h') : WE (callK D (k + 5) i_law_plan [.loc n, .int N, .bl b, .int c, .int cap] h) Q X := by
  refine call_wp (md := D_law_plan) rfl rfl fun O oN oQ oX => ?_
  simp [m_law_plan]
  have k0 := Kp.pre hs (pre_app h [.lst [Dt.int 0]])
  refine lc_it ?_
  simp
  refine law_order k0.st (Nat.le_trans hm k0.len) (by omega) (by omega) fun os a h1 k1 ha e1 hperm => ?_
  have k1' := k0.trans k1
  have hol : os.length = (c - 1).toNat := by have := hperm.length_eq; simpa using this
  rw [itOf_lst e1]
  simp at ha ⊢
  refine lc_wpm (f := Dt.int) (xs := os) rfl (hi_lstA fun h' t => pre_get t e1) (fun x => .int (1 + x)) (by rw [sizeLine_eq]; omega) (fun x hx => ⟨_, rfl, fun h' pr => by simp⟩) fun h2 pr2 e2 => ?_
  have k2 := k1'.thenPre pr2
  have e0 : h2[h.length]? = some (.lst [Dt.int 0]) := pre_get pr2 (k1.ge _ _ hm (new_get _ _))
  rw [add_lst e0 e2 (by simp; omega)]
  have hR : ([Dt.int 0] ++ os.map fun x => Dt.int (1 + x)) = ((0 :: os.map (1 + ·)).map Dt.int) := by simp [Function.comp_def]
  have hRp : (0 :: os.map (1 + ·)).Perm (rngI c.toNat) := by
    have ec : c.toNat = (c - 1).toNat + 1 := by omega
    rw [ec, rngI_succ]
    exact List.Perm.cons _ (hperm.map _)
  have hR0 : (0 :: os.map (1 + ·))[0]? = some (0 : Int) := rfl
  rw [hR]
  generalize (0 :: os.map (1 + ·)) = R at hRp hR0
  have hRl : R.length = c.toNat := by have := hRp.length_eq; simpa [rngI] using this
  have hRn : R.Nodup := hRp.nodup_iff.mpr (rngI_nodup _)
  have hRm : ∀ x ∈ R, 0 ≤ x ∧ x < c := fun x hx => by have := rngI_mem (hRp.mem_iff.mp hx); omega
  have k3 := k2.thenPre (pre_app h2 [.lst (R.map Dt.int)])
  have e3 := new_get h2 (.lst (R.map Dt.int))
  generalize hA3 : h2 ++ [.lst (R.map Dt.int)] = h3 at k3 e3 ⊢
  simp
  have k4 := k3.thenPre (pre_app h3 [.lst [Dt.int 0]])
  rw [mul_lst (new_get h3 (.lst [Dt.int 0])) (by omega) (by omega)]
  simp
  have hrep : List.replicate c.toNat (Dt.int 0) = (List.replicate c.toNat (0 : Int)).map Dt.int := by simp
  rw [hrep]
  have hl2 := k2.len
  have k5 := k4.thenPre (pre_app (h3 ++ [.lst [Dt.int 0]]) [.lst ((List.replicate c.toNat (0 : Int)).map Dt.int)])
  have e5 := new_get (h3 ++ [.lst [Dt.int 0]]) (.lst ((List.replicate c.toNat (0 : Int)).map Dt.int))
  have e5R : ((h3 ++ [.lst [Dt.int 0]]) ++ [.lst ((List.replicate c.toNat (0 : Int)).map Dt.int)])[h2.length]? = some (.lst (R.map Dt.int)) := pre_get (pre_app _ _) (pre_get (pre_app _ _) e3)
  have hFl : (h3 ++ [MO.lst [Dt.int 0]]).length = h3.length + 1 := by simp
  have hl3 := lt_of_get e3
  rw [hFl] at e5
  have hcat : h3 ++ [MO.lst [Dt.int 0], MO.lst (List.map Dt.int (List.replicate c.toNat 0))] = ((h3 ++ [.lst [Dt.int 0]]) ++ [.lst ((List.replicate c.toNat (0 : Int)).map Dt.int)]) := by simp
  rw [hcat]
  generalize ((h3 ++ [.lst [Dt.int 0]]) ++ [.lst ((List.replicate c.toNat (0 : Int)).map Dt.int)]) = h5 at k5 e5 e5R
  -- follow
  refine run_sFor (iRg1_wp ?_)
  simp
  refine ⟨sm_int (by omega) (by omega), ?_⟩
  refine run_rng (fun i ρ h' => Kp m n h h' ∧ h'[h2.length]? = some (.lst (R.map Dt.int)) ∧ (∃ F : List Int, F.length = c.toNat ∧ (∀ x ∈ F, 0 ≤ x ∧ x < c) ∧ (∀ j, j < i → F.getD (R.getD j 0).toNat 0 = R.getD ((j + 1) % c.toNat) 0) ∧ h'[h3.length + 1]? = some (.lst (F.map Dt.int))) ∧
      ∃ x8, ρ = [some (.loc n), some (.int N), some (.bl b), some (.int c), some (.int cap), some (.loc h2.length), none, some (.loc (h3.length + 1)), x8, none, none, none, none, none, none, none])
    ⟨k5, e5R, ⟨_, by simp, fun x hx => by have := List.eq_of_mem_replicate hx; omega, by omega, e5⟩, _, rfl⟩ ?_ ?_
  · rintro i ρ h6 hi ⟨k6, e6, ⟨F, hFl, hFm, hFr, eF⟩, x8, rfl⟩ O2 t2
    have hiR : i < R.length := by omega
    have hjR : (i + 1) % c.toNat < R.length := by rw [hRl]; exact Nat.mod_lt _ (by omega)
    have gi : oGet (.loc h2.length) (.int (i : Nat)) h6 = .ok (.int R[i]) h6 := get_lst e6 (by omega) (by simp [hiR])
    have hmod : (((i : Int) + 1) % c) = (((i + 1) % c.toNat : Nat) : Int) := by
      have : ((c.toNat : Nat) : Int) = c := by omega
      rw [Int.natCast_emod, this]
      simp
    have gj : oGet (.loc h2.length) (.int (((i + 1) % c.toNat : Nat) : Int)) h6 = .ok (.int R[(i + 1) % c.toNat]) h6 := get_lst e6 (by omega) (by rw [List.getElem?_map, Int.toNat_natCast, List.getElem?_eq_getElem hjR]; rfl)
    have rm := hRm R[i] (List.getElem_mem hiR)
    obtain ⟨h7, f7, u⟩ := setL_ex (i := R[i]) (v := .int R[(i + 1) % c.toNat]) eF rm.1 (by simp; omega)
    simp
    rw [mod_k (by omega)]
    simp only [we_ok]
    rw [hmod, gj]
    simp [gi, f7]
    have hne2 : h3.length + 1 ≠ h2.length := by rw [← hA3]; simp; omega
    refine t2.N _ _ ⟨k6.up u (by omega) hm, u.get hne2.symm e6, ⟨F.set R[i].toNat R[(i + 1) % c.toNat], by simp [hFl], fun x hx => ?_, fun j hj => ?_, ?_⟩, _, rfl⟩
    · rcases List.mem_or_eq_of_mem_set hx with z | z
      · exact hFm x z
      · rw [z]; exact hRm _ (List.getElem_mem hjR)
    · by_cases hji : j = i
      · subst hji
        simp [hiR, hjR]
        rw [List.getElem?_set_self (by omega)]
        rfl
      · have hjl : j < R.length := by omega
        have := hFr j (by omega)
        have hne : R[i].toNat ≠ R[j].toNat := by
          intro e
          have r2 := hRm R[j] (List.getElem_mem hjl)
          have e2 : R[i] = R[j] := by omega
          exact hji ((List.getElem_inj hRn).mp e2).symm
        rw [← this]
        simp [hjl]
        rw [List.getElem?_set_ne hne]
    · rw [u.at_]
      simp
  rintro ρ h6 ⟨k6, e6, ⟨F, hFl, hFm, hFr, eF⟩, x8, rfl⟩
  have hl6 := k6.len
  have hF6 := lt_of_get eF
  simp
  refine run_sFor (iRg1_wp ?_)
  simp
  refine ⟨sm_int (by omega) (by omega), ?_⟩
  refine run_rng (fun i ρ h' => Kp m n h h' ∧ h'[h3.length + 1]? = some (.lst (F.map Dt.int)) ∧ (∃ rows : List Row, rows.length = i ∧ (∀ r ∈ rows, RwOk N c.toNat cap r) ∧ (∀ (j : Nat) r, rows[j]? = some r → ∃ e ∈ r, e.2 = F.getD j 0) ∧ h'[h6.length]? = some (.lst (rows.map sD))) ∧
      ∃ x8 x10 x11 x12 x13 x14 x15, ρ = [some (.loc n), some (.int N), some (.bl b), some (.int c), some (.int cap), some (.loc h2.length), none, some (.loc (h3.length + 1)), x8, some (.loc h6.length), x10, x11, x12, x13, x14, x15])
    ⟨k6.thenPre (pre_app _ _), pre_get (pre_app _ _) eF, ⟨[], rfl, by simp, by simp, by simp⟩, _, _, _, _, _, _, _, rfl⟩ ?_ ?_
  · rintro i ρ h7 hi ⟨k7, eF7, ⟨rows, hrl, hro, hrf, e7⟩, x8, x10, x11, x12, x13, x14, x15, rfl⟩ O2 t2
    have hl7 := k7.len
    simp [-sIf_s]
    refine law_take k7.st (by omega) (lt200 (by omega)) fun r1 h8 k8 r10 r11 => ?_
    have r11 := r11 (by omega)
    have hl8 := k8.len
    try simp [-sIf_s]
    refine law_words k8.st (by omega) N0 N1 (by omega) (by omega) fun ws aw h9 k9 haw e9 hw hwl hwne => ?_
    have hwne := hwne (by omega)
    have hl9 := k9.len
    have k9' := k7.trans (k8.trans k9)
    have eF9 := k9.ge _ _ (by omega) (k8.ge _ _ (by omega) eF7)
    have er9 := k9.ge _ _ (by omega) (k8.ge _ _ (by omega) e7)
    let J : EP.Env → MH → Prop := fun ρ h' => Kp m n h h' ∧ h'[h3.length + 1]? = some (.lst (F.map Dt.int)) ∧ h'[h6.length]? = some (.lst (rows.map sD)) ∧ h9.length ≤ h'.length ∧ (∃ ws : List Word, ∃ aw : Nat, m ≤ aw ∧ h'[aw]? = some (.lst (ws.map wD)) ∧ (∀ w ∈ ws, WdOk N w) ∧ (ws.length : Int) ≤ cap ∧ ws ≠ [] ∧
      ∃ x12 x13, ρ = [some (.loc n), some (.int N), some (.bl b), some (.int c), some (.int cap), some (.loc h2.length), none, some (.loc (h3.length + 1)), x8, some (.loc h6.length), some (.int (i : Nat)), some (.loc aw), x12, x13, x14, x15])
    try simp [-sIf_s]
    refine run_join (J := J) (fun O3 w1 w2 w3 w4 w5 => ?_) ?_
    · simp
      refine run_ite (fun hb => ?_) (fun hb => ?_)
      · simp
        refine law_pruned e9 (by omega) (fun w hw' => by have := (hw w hw').len; omega) fun us bu h10 pr10 hbu e10 hsub hul hune => ?_
        have k10 := k9'.thenPre pr10
        have hl10 := k10.len
        exact w1 _ _ ⟨k10, pre_get pr10 eF9, pre_get pr10 er9, pr10.length_le, us, bu, by omega, e10, fun w hw' => hw w (hsub w hw'), by omega, hune hwne, _, _, rfl⟩
      · rw [run_nx0]
        exact w1 _ _ ⟨k9', eF9, er9, Nat.le_refl _, ws, aw, by omega, e9, hw, by omega, hwne, _, _, rfl⟩
    rintro ρ h10 ⟨k10, eF10, er10, hl10, ws, aw, haw, e10, hw, hwl, hwne, x12, x13, rfl⟩
    simp [-sIf_s]
    refine run_join (J := J) (fun O3 w1 w2 w3 w4 w5 => ?_) ?_
    · simp
      have hnot : ∀ h', Kp m n h10 h' → O3.N [some (.loc n), some (.int N), some (.bl b), some (.int c), some (.int cap), some (.loc h2.length), none, some (.loc (h3.length + 1)), x8, some (.loc h6.length), some (.int (i : Nat)), some (.loc aw), x12, x13, x14, x15] h' := fun h' k => by
        have := k.len
        exact w1 _ _ ⟨k10.trans k, k.ge _ _ (by omega) eF10, k.ge _ _ (by omega) er10, by omega, ws, aw, haw, k.ge _ _ haw e10, hw, hwl, hwne, _, _, rfl⟩
      by_cases hi0 : 0 < i
      · simp [hi0]
        refine law_take k10.st (by omega) (lt200 (by omega)) fun r2 h11 k11 r20 r21 => ?_
        simp
        have hl11 := k11.len
        refine run_ite (fun hb => ?_) (fun hb => ?_)
        · simp
          refine law_take k11.st (by omega) (lt200 (by omega)) fun r3 h12 k12 r30 r31 => ?_
          have r31 := r31 (by omega)
          have hl12 := k12.len
          have k12' := k10.trans (k11.trans k12)
          have er12 := k12.ge _ _ (by omega) (k11.ge _ _ (by omega) er10)
          have eF12 := k12.ge _ _ (by omega) (k11.ge _ _ (by omega) eF10)
          have hr3 : r3.toNat < rows.length := by omega
          have gr : oGet (.loc h6.length) (.int r3) h12 = .ok (sD rows[r3.toNat]) h12 := get_lst er12 r30 (by simp [hr3])
          have hok := hro _ (List.getElem_mem hr3)
          generalize rows[r3.toNat] = rr at gr hok
          have hrrl := hok.len
          simp [gr]
          refine lc_it ?_
          simp
          refine lc_wpm (f := eD) (xs := rr) rfl hi_tup (fun e => wD e.1) (by rw [sizeLine_eq]; omega) (fun x hx => ⟨_, rfl, fun h' pr => by simp⟩) fun h13 p13 e13 => ?_
          refine w1 _ _ ⟨k12'.thenPre p13, pre_get p13 eF12, pre_get p13 er12, by have := p13.length_le; omega, rr.map (·.1), _, by omega, by rw [e13, List.map_map]; rfl, fun w hw' => ?_, by simpa using hok.len, by simpa using hok.ne, _, _, rfl⟩
          obtain ⟨e, he, rfl⟩ := List.mem_map.mp hw'
          exact (hok.each e he).1
        · rw [run_nx0]
          exact hnot _ k11
      · simp [hi0]
        exact hnot _ (.refl k10.st)
    rintro ρ h11 ⟨k11, eF11, er11, hl11, ws, aw, haw, e11, hw, hwl, hwne, x12, x13, rfl⟩
    have hl11' := k11.len
    simp
    refine lc_it ?_
    simp [itOf_lst e11]
    refine lc_gen (f := wD) (xs := ws) rfl (fun h' => Kp m n h11 h') (hi_lstA fun h' t => t.ge _ _ haw e11) (by rw [sizeLine_eq]; omega) (.pre k11.st (pre_app _ _)) (fun h' o t => t.set (Nat.le_refl _) (by omega)) (fun j acc => ∃ es : List (Word × Int), acc = es.map eD ∧ es.map (·.1) = ws.take j ∧ ∀ e ∈ es, 0 ≤ e.2 ∧ e.2 < c)
      ⟨[], by simp⟩ ?_ ?_ ?_
    · rintro j acc ⟨es, rfl, e, _⟩
      have := congrArg List.length e
      simp at this
      simp
      omega
    · rintro j w acc h12 hj ⟨es, rfl, he, hes⟩ k12 e12
      refine ⟨_, rfl, ?_⟩
      have hl12 := k12.len
      simp
      refine ⟨k12, e12, ?_⟩
      refine law_take k12.st (by omega) (lt200 (by omega)) fun r4 h13 k13 r40 r41 => ?_
      have r41 := r41 (by omega)
      have e13 := k13.ge _ _ (by omega) e12
      try simp
      refine ⟨k12.trans k13, e13, es ++ [(w, r4)], by simp, ?_, fun w' x hm => ?_⟩
      · rw [List.map_append, he, List.take_succ, hj]
        rfl
      · rcases List.mem_append.mp hm with z | z
        · exact hes _ z
        · simp at z
          obtain ⟨rfl, rfl⟩ := z
          exact ⟨r40, r41⟩
    · rintro acc h12 k12 e12 ⟨es, rfl, he, hes⟩
      rw [List.take_length] at he
      have hel : es.length = ws.length := by rw [← he]; simp
      have hep : 0 < es.length := by rw [hel]; exact List.length_pos_iff.mpr hwne
      have hl12 := k12.len
      simp [len_lst e12]
      refine law_take k12.st (by omega) (lt200 (by omega)) fun A h13 k13 A0 A1 => ?_
      have A1 := A1 (by omega)
      have hl13 := k13.len
      have hA : A.toNat < es.length := by omega
      have e13 := k13.ge _ _ (by omega) e12
      have eF13 := k13.ge _ _ (by omega) (k12.ge _ _ (by omega) eF11)
      have er13 := k13.ge _ _ (by omega) (k12.ge _ _ (by omega) er11)
      have gA : oGet (.loc h11.length) (.int A) h13 = .ok (eD es[A.toNat]) h13 := get_lst e13 A0 (by simp [hA])
      have hiF : i < F.length := by omega
      have gF : oGet (.loc (h3.length + 1)) (.int (i : Nat)) h13 = .ok (.int F[i]) h13 := get_lst eF13 (by omega) (by simp [hiF])
      obtain ⟨h14, f14, u14⟩ := setL_ex (i := A) (v := eD (es[A.toNat].1, F[i])) e13 A0 (by simp; omega)
      have e14 : h14[h11.length]? = some (.lst ((es.set A.toNat (es[A.toNat].1, F[i])).map eD)) := by rw [u14.at_]; simp
      have hlh : h6.length ≠ h11.length := by have := lt_of_get er11; omega
      have er14 := u14.get hlh er13
      obtain ⟨h15, f15, u15⟩ := app_ex (v := sD (es.set A.toNat (es[A.toNat].1, F[i]))) er14 (by rw [sizeLine_eq, List.length_map]; omega)
      simp [gA, gF, f14, tuple_lst e14, isLst_lst er14]
      rw [← List.map_set]
      rw [f15]
      simp only [we_ok]
      have hFi := hFm _ (List.getElem_mem hiF)
      have hlF : h3.length + 1 ≠ h11.length := by have := lt_of_get eF11; omega
      have hl36 : h3.length + 1 ≠ h6.length := by omega
      refine t2.N _ _ ⟨((k11.trans (k12.trans k13)).up u14 hl11' hm).up u15 (by omega) hm, u15.get hl36 (u14.get hlF eF13), ⟨rows ++ [es.set A.toNat (es[A.toNat].1, F[i])], by simp [hrl], fun r hr => ?_, fun j r hj => ?_, ?_⟩, _, _, _, _, _, _, _, rfl⟩
      · rcases List.mem_append.mp hr with z | z
        · exact hro r z
        · simp at z
          subst z
          have hwd : ∀ e ∈ es, WdOk N e.1 := fun e hm => hw _ (by rw [← he]; exact List.mem_map.mpr ⟨e, hm, rfl⟩)
          refine ⟨fun e => ?_, by simp; omega, fun e hm => ?_⟩
          · have := congrArg List.length e
            rw [List.length_set, List.length_nil] at this
            omega
          · rcases List.mem_or_eq_of_mem_set hm with z | z
            · exact ⟨hwd e z, by have := hes e z; omega⟩
            · subst z
              exact ⟨hwd es[A.toNat] (List.getElem_mem hA), by simp; omega⟩
      · by_cases hjr : j < rows.length
        · rw [List.getElem?_append_left hjr] at hj
          exact hrf j r hj
        · have hjl := (List.getElem?_eq_some_iff.mp hj).1
          simp at hjl
          have hji : j = i := by omega
          subst hji
          rw [List.getElem?_append_right (by omega)] at hj
          simp [hrl] at hj
          subst hj
          refine ⟨(es[A.toNat].1, F[j]), List.mem_set hA _, by simp [hiF]⟩
      · rw [u15.at_]; simp
  · rintro ρ h7 ⟨k7, eF7, ⟨rows, hrl, hro, hrf, e7⟩, x8, x10, x11, x12, x13, x14, x15, rfl⟩
    simp [tuple_lst e7]
    refine oQ _ _ (q (N, rows) _ k7 rfl ⟨hrl, hro, R, hRp, hR0, fun i hi => ?_⟩)
    have hiR : i < R.length := by omega
    have rm := hRm R[i] (List.getElem_mem hiR)
    have hgi : R.getD i 0 = R[i] := by simp [hiR]
    have hlt : R[i].toNat < rows.length := by omega
    obtain ⟨e, he, h2⟩ := hrf R[i].toNat _ (List.getElem?_eq_getElem hlt)
    refine ⟨e, ?_, ?_⟩
    · rw [hgi]
      unfold rowAt
      simpa [hlt] using he
    · rw [h2, ← hFr i hi, hgi]
end K75
end
section
set_option maxRecDepth 20000
namespace EP
open PySem L2
/-- drawn clauses -/
structure ClOk (N : Int) (c : Word × Int) : Prop where
  asc : Asc c.1
  rng : ∀ x ∈ c.1, 0 ≤ x ∧ x < N
  len : c.1.length ≤ N.toNat
  b0 : 0 ≤ c.2
theorem asc_rng (N : Nat) : Asc (rngI N) := by
  unfold Asc rngI
  rw [List.pairwise_map]
  refine List.Pairwise.imp ?_ List.pairwise_lt_range
  intro a b h
  omega
theorem clOk_all {N b : Int} (N0 : 0 ≤ N) (h : 0 ≤ b) : ClOk N (rngI N.toNat, b) := ⟨asc_rng _, fun x hx => by have := rngI_mem hx; omega, by simp [rngI], h⟩
theorem clOk_nil {N b : Int} (h : 0 ≤ b) : ClOk N ([], b) := ⟨List.Pairwise.nil, by simp, by simp, h⟩
theorem clOk_mask {N b M : Int} (N0 : 0 ≤ N) (h : 0 ≤ b) : ClOk N (maskW M N.toNat, b) := ⟨maskW_asc _ _, fun x hx => by have := maskW_mem hx; omega, maskW_len _ _, h⟩
theorem rgD_eq {N : Int} : rgD 0 N = (rngI N.toNat).map Dt.int := by
  unfold rgD rngI
  rw [List.map_map]
  simp
end EP
namespace K75
open PySem L2 EP
variable {k : Nat} {h : MH} {Q : Dt → MH → Prop} {X : Str → Fs → MH → Prop}
theorem law_clauses {m n : Nat} {N : Int} (hs : St m n h) (hm : m ≤ h.length) (N0 : 1 ≤ N) (N1 : N ≤ 60)
    (q : ∀ (cs : Row) a h', Kp m n h h' → h.length ≤ a → h'[a]? = some (.lst (cs.map eD)) → (∀ c ∈ cs, ClOk N c) → cs.length ≤ 12 → Q (.loc a) h') : WE (callK D (k + 4) i_law_clauses [.loc n, .int N] h) Q X := by
  refine call_wp (md := D_law_clauses) rfl rfl fun O oN oQ oX => ?_
  simp [m_law_clauses]
  have k0 := Kp.pre hs (pre_app h [.lst []])
  refine run_sFor (iRg1_wp ?_)
  simp
  refine law_size k0.st (Nat.le_trans hm k0.len) (by omega) (by omega) (by omega) fun T h1 k1 T0 T1 => ?_
  have e1 := k1.ge _ _ hm (new_get h (.lst []))
  have k1' := k0.trans k1
  have hl1 := k1'.len
  simp
  refine ⟨sm_int (by omega) (by omega), ?_⟩
  have hrk : rgOk 0 N = true := rgOk_of (by omega) (by omega) (by omega) (by omega)
  refine run_rng (fun i ρ h' => Kp m n h h' ∧ ∃ cs : Row, cs.length = i ∧ (∀ c ∈ cs, ClOk N c) ∧ h'[h.length]? = some (.lst (cs.map eD)) ∧ ∃ x3 x4 x5, ρ = [some (.loc n), some (.int N), some (.loc h.length), x3, x4, x5])
    ⟨k1', [], rfl, by simp, e1, _, _, _, rfl⟩ ?_ ?_
  · rintro i ρ h2 hi ⟨k2, cs, hcl, hc, e2, x3, x4, x5, rfl⟩ O2 t2
    have hl2 := k2.len
    simp [-tAnd_s]
    refine law_take k2.st (by omega) (lt200 (by omega)) fun r1 h3 k3 r10 r11 => ?_
    have hl3 := k3.len
    simp [-tAnd_s]
    refine law_size k3.st (by omega) (by omega) (by omega) (by omega) fun B h4 k4 B0 B1 => ?_
    have hl4 := k4.len
    have e4 := k4.ge _ _ (by omega) (k3.ge _ _ (by omega) e2)
    have k4' := k2.trans (k3.trans k4)
    have key : ∀ (c : Word × Int) (h5 : MH), Kp m n h4 h5 → ClOk N c → ∃ h6, mAppend (.loc h.length) [eD c] h5 = .ok .non h6 ∧ ∀ x3 x4 x5, O2.N [some (.loc n), some (.int N), some (.loc h.length), x3, x4, x5] h6 := by
      intro c h5 k5 hcl2
      have e5 := k5.ge _ _ (by omega) e4
      obtain ⟨h6, f6, u⟩ := app_ex (v := eD c) e5 (by rw [sizeLine_eq, List.length_map]; omega)
      refine ⟨h6, f6, fun x3 x4 x5 => t2.N _ _ ⟨(k4'.trans k5).up u (Nat.le_refl _) hm, cs ++ [c], by simp [hcl], fun y hy => ?_, by rw [u.at_]; simp, _, _, _, rfl⟩⟩
      rcases List.mem_append.mp hy with z | z
      · exact hc y z
      · simp at z
        exact z ▸ hcl2
    rw [tAnd_ok (x := decide (r1 = 0)) (y := decide (0 < cs.length)) (by simp) (fun _ => by simp [len_lst e4])]
    simp only [we_ok]
    refine run_ite (fun hb => ?_) (fun hb => ?_)
    · simp at hb
      simp [isLst_lst e4, len_lst e4]
      refine law_take k4.st (by omega) (lt200 (by omega)) fun r2 h5 k5 r20 r21 => ?_
      have r21 := r21 (by omega)
      have e5 := k5.ge _ _ (by omega) e4
      have hr2 : r2.toNat < cs.length := by omega
      have g5 : oGet (.loc h.length) (.int r2) h5 = .ok (eD cs[r2.toNat]) h5 := get_lst e5 r20 (by simp [hr2])
      obtain ⟨h6, f6, w6⟩ := key cs[r2.toNat] h5 k5 (hc _ (List.getElem_mem hr2))
      simp [g5, f6]
      exact w6 _ _ _
    try simp
    refine run_ite (fun hb2 => ?_) (fun hb2 => ?_)
    · obtain ⟨h6, f6, w6⟩ := key ([], B) h4 (.refl k4.st) (clOk_nil B0)
      have f6' : mAppend (.loc h.length) [.tup [.tup [], .int B]] h4 = .ok .non h6 := f6
      simp [isLst_lst e4, f6']
      exact w6 _ _ _
    try simp
    refine run_ite (fun hb3 => ?_) (fun hb3 => ?_)
    · obtain ⟨h6, f6, w6⟩ := key (rngI N.toNat, B) h4 (.refl k4.st) (clOk_all (by omega) B0)
      simp [isLst_lst e4, hrk, rgD_eq, f6]
      exact w6 _ _ _
    · simp [isLst_lst e4]
      refine law_power (by omega) (by omega) (by omega) (by omega) ?_
      try simp
      refine law_take k4.st (by omega) (pow200 (by omega)) fun M h5 k5 M0 M1 => ?_
      try simp
      refine law_mask_word (by omega) (by omega) fun h6 p6 => ?_
      obtain ⟨h7, f7, w7⟩ := key (maskW M N.toNat, B) h6 (k5.thenPre p6) (clOk_mask (by omega) B0)
      simp [f7]
      exact w7 _ _ _
  · rintro ρ h2 ⟨k2, cs, hcl, hc, e2, x3, x4, x5, rfl⟩
    simp
    exact oQ _ _ (q cs _ _ k2 (Nat.le_refl _) e2 hc (by omega))
theorem gap_int {ns : List Nat} : gapD ns = .non ∨ ∃ g : Int, gapD ns = .int g ∧ -1 ≤ g := by
  unfold gapD
  split
  · exact .inl rfl
  · refine .inr ⟨_, rfl, ?_⟩
    have : ∀ ns : List Nat, 0 ≤ minL (ns.map fun (n : Nat) => (n : Int)) := by
      intro ns
      induction ns with
      | nil => simp [minL]
      | cons a r ih =>
        cases r with
        | nil => simp [minL]
        | cons b r' =>
          simp only [List.map_cons, minL] at ih ⊢
          omega
    have := this ns
    omega
theorem law_any_limit {m n : Nat} {p : Plan} (hs : St m n h) (hm : m ≤ h.length) (wp : Pw p) (N0 : 1 ≤ p.1) (N1 : p.1 ≤ 60)
    (q : ∀ (l : Lim) h', Kp m n h h' → l.1 = p.1 → (∀ c ∈ l.2, ClOk p.1 c) → l.2.length ≤ 12 → Q (lD l) h') : WE (callK D (k + 5) i_law_any_limit [.loc n, pD p] h) Q X := by
  refine call_wp (md := D_law_any_limit) rfl rfl fun O oN oQ oX => ?_
  simp [m_law_any_limit]
  refine law_clauses hs hm N0 N1 fun cs a h1 k1 ha e1 hc hl => ?_
  have hl1 := k1.len
  have hcut : oCut (.loc a) none (some 4) h1 = .ok (.loc h1.length) (h1 ++ [.lst ((cs.take 4).map eD)]) := by
    simp only [oCut, getL, e1]
    have : cutD (cs.map eD) none (some 4) = (cs.take 4).map eD := by
      unfold cutD HT.sIx
      simp
    rw [this]
  simp [-List.map_take, hcut]
  have k2 := k1.thenPre (pre_app h1 [.lst ((cs.take 4).map eD)])
  have e2 := new_get h1 (.lst ((cs.take 4).map eD))
  generalize h1 ++ [.lst ((cs.take 4).map eD)] = h2 at k2 e2 ⊢
  refine law_greatest_even wp fun h3 p3 => ?_
  have k3 := k2.thenPre p3
  have e3 := pre_get p3 e2
  have hl3 := k3.len
  have hc4 : ∀ c ∈ cs.take 4, ClOk p.1 c := fun c hcm => hc c (List.mem_of_mem_take hcm)
  have hl4 : (cs.take 4).length ≤ 4 := by rw [List.length_take]; omega
  generalize cs.take 4 = c4 at hc4 hl4 e3
  have hrk : rgOk 0 p.1 = true := rgOk_of (by omega) (by omega) (by omega) (by omega)
  have fin : ∀ {X' : Str → Fs → MH → Prop} h', Kp m n h3 h' → EP.WE (bTuple [.loc h1.length] h') (fun b h => O.Q (.tup [.int p.1, b]) h) X' := by
    intro X' h' k'
    simp [tuple_lst (k'.ge _ _ (by omega) e3)]
    exact oQ _ _ (q (p.1, c4) _ (k3.trans k') rfl hc4 (by simp; omega))
  rcases gap_int (ns := (ppairs p).map fun t => t.2.2.2.length) with hg | ⟨g, hg, g0⟩
  · rw [hg]
    simp
    exact fin _ (.refl k3.st)
  · rw [hg]
    simp
    refine law_take k3.st (by omega) (lt200 (by omega)) fun r h4 k4 r0 r1 => ?_
    have e4 := k4.ge _ _ (by omega) e3
    have hl4' := k4.len
    simp
    refine run_ite (fun hb => ?_) (fun hb => ?_)
    · simp [isLst_lst e4, hrk, rgD_eq]
      refine law_take k4.st (by omega) (lt200 (by omega)) fun r2 h5 k5 r20 r21 => ?_
      have e5 := k5.ge _ _ (by omega) e4
      have hmax : ∀ a b : Int, bMax [.int a, .int b] = fun h => RE.ok (Dt.int (if b > a then b else a)) h := fun _ _ => rfl
      simp [hmax]
      have hB : 0 ≤ (if 0 < g + r2 then g + r2 else 0) := by split <;> omega
      generalize (if 0 < g + r2 then g + r2 else 0) = B at hB
      obtain ⟨h6, f6, u⟩ := app_ex (v := eD (rngI p.1.toNat, B)) e5 (by rw [sizeLine_eq, List.length_map]; omega)
      simp [f6]
      have e6 : h6[h1.length]? = some (.lst ((c4 ++ [(rngI p.1.toNat, B)]).map eD)) := by rw [u.at_]; simp
      simp [tuple_lst e6]
      refine oQ _ _ (Q_eq (q (p.1, c4 ++ [(rngI p.1.toNat, B)]) _ ((k3.trans (k4.trans k5)).up u (by omega) hm) rfl ?_ (by simp; omega)) (by simp))
      intro c hcm
      rcases List.mem_append.mp hcm with z | z
      · exact hc4 c z
      · simp at z
        subst z
        exact clOk_all (by omega) hB
    · simp
      exact fin _ k4
end K75
end
section
set_option maxRecDepth 20000
namespace K75
open PySem L2 EP
variable {k : Nat} {h : MH} {Q : Dt → MH → Prop} {X : Str → Fs → MH → Prop}
theorem law_many_clauses {m n : Nat} {N c : Int} (hs : St m n h) (hm : m ≤ h.length) (N0 : 1 ≤ N) (N1 : N ≤ 60) (c0 : 0 ≤ c) (c1 : c ≤ 20)
    (q : ∀ (l : Lim) h', Kp m n h h' → l.1 = N → (∀ c ∈ l.2, ClOk N c) → (l.2.length : Int) ≤ c → Q (lD l) h') : WE (callK D (k + 4) i_law_many_clauses [.loc n, .int N, .int c] h) Q X := by
  refine call_wp (md := D_law_many_clauses) rfl rfl fun O oN oQ oX => ?_
  simp [m_law_many_clauses]
  have k0 := Kp.pre hs (pre_app h [.lst []])
  refine run_sFor (iRg1_wp ?_)
  simp
  refine ⟨sm_int (by omega) (by omega), ?_⟩
  refine run_rng (fun i ρ h' => Kp m n h h' ∧ ∃ cs : Row, cs.length = i ∧ (∀ c ∈ cs, ClOk N c) ∧ h'[h.length]? = some (.lst (cs.map eD)) ∧ ∃ x4, ρ = [some (.loc n), some (.int N), some (.int c), some (.loc h.length), x4])
    ⟨k0, [], rfl, by simp, new_get _ _, _, rfl⟩ ?_ ?_
  · rintro i ρ h2 hi ⟨k2, cs, hcl, hc, e2, x4, rfl⟩ O2 t2
    have hl2 := k2.len
    simp [isLst_lst e2]
    refine law_power (by omega) (by omega) (by omega) (by omega) ?_
    try simp
    refine law_take k2.st (by omega) (pow200 (by omega)) fun M h5 k5 M0 M1 => ?_
    have hl5 := k5.len
    try simp
    refine law_mask_word (by omega) (by omega) fun h6 p6 => ?_
    have k6 := k2.trans (k5.thenPre p6)
    have e6 := pre_get p6 (k5.ge _ _ (by omega) e2)
    have hl6 := k6.len
    try simp
    refine law_number k6.st (by omega) (by omega) fun B h7 k7 B0 B1 => ?_
    have e7 := k7.ge _ _ (by omega) e6
    obtain ⟨h8, f8, u⟩ := app_ex (v := eD (maskW M N.toNat, B)) e7 (by rw [sizeLine_eq, List.length_map]; omega)
    try simp
    simp [f8]
    refine t2.N _ _ ⟨(k6.trans k7).up u (Nat.le_refl _) hm, cs ++ [(maskW M N.toNat, B)], by simp [hcl], fun y hy => ?_, by rw [u.at_]; simp, _, rfl⟩
    rcases List.mem_append.mp hy with z | z
    · exact hc y z
    · simp at z
      subst z
      exact clOk_mask (by omega) B0
  · rintro ρ h2 ⟨k2, cs, hcl, hc, e2, x4, rfl⟩
    simp [tuple_lst e2]
    exact oQ _ _ (q (N, cs) _ k2 rfl hc (by simp; omega))
theorem law_store {a : Nat} {ns : List Int} (ea : h[a]? = some (.fro (ns.map .int))) (hl : ns.length ≤ 63) (q : ∀ n h', St h'.length n h' → Q (.loc n) h') : WE (callK D (k + 1) i_law_store [.loc a] h) Q X := by
  refine call_wp (md := D_law_store) rfl rfl fun O oN oQ oX => ?_
  simp [m_law_store]
  refine run_sFor ?_
  have ea' := pre_get (pre_app h [.lst []]) ea
  have hcut : ∀ h', h'[a]? = some (.fro (ns.map .int)) → oCut (.loc a) none (some 63) h' = .ok (.loc h'.length) (h' ++ [.lst (ns.map .int)]) := by
    intro h' e
    simp only [oCut, getL, e]
    have : cutD (ns.map Dt.int) none (some 63) = ns.map .int := by
      unfold cutD HT.sIx
      simp
      rw [Nat.min_eq_right hl, ← List.length_map (f := Dt.int), List.take_length]
    rw [this]
  simp [hcut _ ea']
  have e1 : (h ++ [MO.lst [], MO.lst (ns.map Dt.int)])[h.length + 1]? = some (.lst (ns.map .int)) := by
    rw [List.getElem?_append_right (by omega)]
    simp
  rw [itOf_lst e1]
  simp
  have hc : h.length + 1 + 1 = (h ++ [MO.lst [], MO.lst (ns.map Dt.int)]).length := by simp
  generalize hh : h ++ [MO.lst [], MO.lst (ns.map Dt.int)] = h1 at e1 hc
  have e0 : h1[h.length]? = some (.lst []) := by rw [← hh]; simp
  refine run_wk (f := Dt.int) (xs := ns) (H := fun h' => h'[h.length + 1]? = some (.lst (ns.map .int))) (hi_lstA fun h' t => t) (fun i ρ h' => h'[h.length + 1]? = some (.lst (ns.map .int)) ∧ ∃ (cs : List Nat) (s : Int), cs.length = i ∧ h.length + 2 ≤ h'.length ∧ h'[h.length]? = some (.lst (cs.map .loc)) ∧ (∀ x ∈ cs, h.length + 2 ≤ x ∧ x < h'.length ∧ ∃ t v : Int, h'[x]? = some (.lst [.int t, .int v])) ∧
      ∃ x3, ρ = [some (.loc a), some (.loc h.length), some (.int s), x3]) (fun _ _ _ t => t.1)
    ⟨e1, [], 77, rfl, by omega, e0, by simp, _, rfl⟩ ?_ ?_
  · rintro i x ρ h2 hx ⟨e2, cs, s, hcl, hle, e3, hcs, x3, rfl⟩
    have hil := (List.getElem?_eq_some_iff.mp hx).1
    refine ⟨_, rfl, fun O2 t2 => ?_⟩
    have hp18 : oPow (.int 10) (.int 18) = fun h => RE.ok (.int 1000000000000000000) h := by
      funext h
      unfold oPow
      simp only []
      rw [if_pos (by decide)]
      rfl
    have hp60 : oPow (.int 10) (.int 60) = fun h => RE.ok (.int 1000000000000000000000000000000000000000000000000000000000000) h := by
      funext h
      unfold oPow
      simp only []
      rw [if_pos (by decide)]
      rfl
    simp [-sIf_s]
    refine run_join (J := fun ρ h' => h'[h.length + 1]? = some (.lst (ns.map .int)) ∧ ∃ (cs : List Nat) (s v : Int) (y : Nat), cs.length = i ∧ h.length + 2 ≤ h'.length ∧ h'[h.length]? = some (.lst ((cs ++ [y]).map .loc)) ∧ (∀ x ∈ cs ++ [y], h.length + 2 ≤ x ∧ x < h'.length ∧ ∃ t v : Int, h'[x]? = some (.lst [.int t, .int v])) ∧
      (∃ t : Int, h'[y]? = some (.lst [.int t, .int v])) ∧ ρ = [some (.loc a), some (.loc h.length), some (.int s), some (.int x)]) (fun O3 w1 w2 w3 w4 w5 => ?_) ?_
    · have key : ∀ t v : Int, ∃ h6, mAppend (.loc h.length) [.loc h2.length] (h2 ++ [.lst [.int t, .int v]]) = .ok .non h6 ∧ O3.N [some (.loc a), some (.loc h.length), some (.int s), some (.int x)] h6 := by
        intro t v
        have e4 := pre_get (pre_app h2 [.lst [Dt.int t, .int v]]) e3
        have e5 := new_get h2 (.lst [Dt.int t, .int v])
        obtain ⟨h6, f6, u⟩ := app_ex (v := .loc h2.length) e4 (by rw [sizeLine_eq, List.length_map]; omega)
        refine ⟨h6, f6, w1 _ _ ⟨u.get (by omega) (pre_get (pre_app _ _) e2), cs, s, v, h2.length, hcl, by rw [u.len]; simp; omega, by rw [u.at_]; simp, fun z hz => ?_, ⟨t, u.get (by omega) e5⟩, rfl⟩⟩
        rcases List.mem_append.mp hz with z' | z'
        · obtain ⟨a1, a2, t, v, a3⟩ := hcs z z'
          exact ⟨a1, by rw [u.len]; simp; omega, t, v, u.get (by omega) (pre_get (pre_app _ _) a3)⟩
        · simp at z'
          subst z'
          exact ⟨hle, by rw [u.len]; simp, t, v, u.get (by omega) e5⟩
      simp [hp18, if_ok]
      refine run_ite (fun hb => ?_) (fun hb => ?_)
      · simp [isLst_lst e3]
        rw [mod_k (by omega)]
        obtain ⟨h6, f6, w6⟩ := key 0 (x % 2147483647)
        simp [f6]
        exact w6
      · have habs : bAbs [.int x] = fun h => RE.ok (.int (if x < 0 then -x else x)) h := rfl
        simp [isLst_lst e3, habs, hp60]
        rw [mod_k (by decide)]
        obtain ⟨h6, f6, w6⟩ := key 1 ((if x < 0 then -x else x) % 1000000000000000000000000000000000000000000000000000000000000)
        simp [f6]
        exact w6
    · rintro ρ h3 ⟨e2, cs, s, v, y, hcl, hle, e3, hcs, ⟨t, e5⟩, rfl⟩
      have g1 : oGet (.loc h.length) (.int (-1)) h3 = .ok (.loc y) h3 := by
        simp [oGet, e3, getL, atI, ixN]
        rw [if_pos (by omega)]
        have : (-1 + ((cs.length : Int) + 1)).toNat = cs.length := by omega
        simp [this]
      have g2 : oGet (.loc y) (.int 1) h3 = .ok (.int v) h3 := get_lst e5 (by omega) rfl
      simp
      rw [mul_r (by omega) (by omega)]
      simp [g1, g2]
      rw [mod_k (by omega)]
      simp
      refine t2.N _ _ ⟨e2, cs ++ [y], _, by simp [hcl], hle, e3, hcs, _, rfl⟩
  · rintro ρ h2 ⟨e2, cs, s, hcl, hle, e3, hcs, x3, rfl⟩
    have hlt := lt_of_get e3
    simp
    rw [newL_le (by rw [sizeLine_eq]; simp)]
    simp
    refine oQ _ _ (q _ _ ⟨h.length, cs, by simp, by simp; omega, by omega, by omega, fun x hx => ?_, ⟨0, 0, s, 0, new_get _ _, by omega, by omega⟩, pre_get (pre_app _ _) e3, fun x hx => ?_⟩)
    · obtain ⟨a1, a2, _⟩ := hcs x hx
      exact ⟨by simp; omega, by omega, by omega⟩
    · obtain ⟨a1, a2, t, v, a3⟩ := hcs x hx
      exact ⟨t, v, pre_get (pre_app _ _) a3⟩
end K75
end
section
set_option maxRecDepth 20000
namespace EP
open PySem L2
/-- a drawn plan of k75 -/
structure PlK (p : Plan) : Prop where
  n1 : 1 ≤ p.1
  n60 : p.1 ≤ 60
  ok : ∃ (cnt : Nat) (cap : Int), 1 ≤ cnt ∧ cnt ≤ 12 ∧ cap ≤ 64 ∧ PlOk p cnt cap
theorem plK_book {n : Int} {ws : List Word} (n1 : 1 ≤ n) (n60 : n ≤ 60) (hw : ∀ w ∈ ws, WdOk n w) (hl : ws.length ≤ 64) (hne : ws ≠ []) : PlK (n, [ws.map fun w => (w, 0)]) := by
  refine ⟨n1, n60, 1, 64, by omega, by omega, by omega, rfl, ?_, [0], by simp [rngI], rfl, ?_⟩
  · intro r hr
    simp at hr
    subst hr
    refine ⟨by simpa using hne, by simp; omega, fun e he => ?_⟩
    obtain ⟨w, hm, rfl⟩ := List.mem_map.mp he
    exact ⟨hw w hm, by simp, by simp⟩
  · intro i hi
    have : i = 0 := by omega
    subst this
    cases ws with
    | nil => exact absurd rfl hne
    | cons w r => exact ⟨(w, 0), by simp [rowAt], rfl⟩
theorem bd0 {r c : Int} : (decide (r = c)) = decide (r = c) := rfl
end EP
namespace K75
open PySem L2 EP
variable {k : Nat} {h : MH} {Q : Dt → MH → Prop} {X : Str → Fs → MH → Prop}
theorem law_two_plans {m n : Nat} (hs : St m n h) (hm : m ≤ h.length)
    (q : ∀ (p r : Plan) h', Kp m n h h' → PlK p → PlK r → Q (.tup [pD p, pD r]) h') : WE (callK D (k + 6) i_law_two_plans [.loc n] h) Q X := by
  refine call_wp (md := D_law_two_plans) rfl rfl fun O oN oQ oX => ?_
  simp [m_law_two_plans]
  refine law_take hs hm (lt200 (by omega)) fun r1 h1 k1 r10 r11 => ?_
  have l1 := k1.len
  try simp
  have two : ∀ (h1 : MH), Kp m n h h1 → ∀ (N M c d a b : Int) (x y : Bool), 1 ≤ N → N ≤ 60 → 1 ≤ M → M ≤ 60 → 1 ≤ c → c ≤ 12 → 1 ≤ d → d ≤ 12 → 1 ≤ a → a ≤ 64 → 1 ≤ b → b ≤ 64 → True := fun _ _ _ _ _ _ _ _ _ _ _ _ _ _ _ _ _ _ _ _ _ _ => trivial
  have pk : ∀ {p : Plan} {N c cap : Int}, p.1 = N → 1 ≤ N → N ≤ 60 → 1 ≤ c → c ≤ 12 → cap ≤ 64 → PlOk p c.toNat cap → PlK p := fun e a1 a2 a3 a4 a5 a6 => ⟨by omega, by omega, _, _, by omega, by omega, a5, a6⟩
  refine run_ite (fun hb => ?_) (fun hb => ?_)
  · simp
    refine law_take k1.st (by omega) (lt200 (by omega)) fun r2 h2 k2 r20 r21 => ?_
    have l2 := k2.len
    try simp
    refine law_take k2.st (by omega) (lt200 (by omega)) fun r3 h3 k3 r30 r31 => ?_
    have l3 := k3.len
    try simp
    refine law_plan k3.st (by omega) (by omega) (by omega) (by omega) (by omega) (by omega) (by omega) fun p h4 k4 pn po => ?_
    have l4 := k4.len
    try simp
    refine law_take k4.st (by omega) (lt200 (by omega)) fun r5 h5 k5 r50 r51 => ?_
    have l5 := k5.len
    try simp
    refine law_plan k5.st (by omega) (by omega) (by omega) (by omega) (by omega) (by omega) (by omega) fun p2 h6 k6 pn2 po2 => ?_
    try simp
    exact oQ _ _ (q _ _ _ (k1.trans (k2.trans (k3.trans (k4.trans (k5.trans k6))))) (pk pn (by omega) (by omega) (by omega) (by omega) (by omega) po) (pk pn2 (by omega) (by omega) (by omega) (by omega) (by omega) po2))
  try simp
  refine run_ite (fun hb2 => ?_) (fun hb2 => ?_)
  · simp
    refine law_take k1.st (by omega) (lt200 (by omega)) fun r2 h2 k2 r20 r21 => ?_
    have r21 := r21 (by omega)
    have l2 := k2.len
    try simp
    rw [fdiv_s (by omega) (by omega)]
    try simp
    refine law_take k2.st (by omega) (lt200 (by omega)) fun r3 h3 k3 r30 r31 => ?_
    have r31 := r31 (by omega)
    have l3 := k3.len
    have hmin : ∀ a b : Int, bMin [.int a, .int b] = fun h => RE.ok (.int (if b < a then b else a)) h := fun _ _ => rfl
    simp [hmin]
    have hT : 1 ≤ (if 12 / (1 + r2) + r3 < 12 then 12 / (1 + r2) + r3 else 12) ∧ (if 12 / (1 + r2) + r3 < 12 then 12 / (1 + r2) + r3 else 12) ≤ 12 := by
      have : 1 ≤ 12 / (1 + r2) := by
        apply Int.le_ediv_of_mul_le
        · omega
        · omega
      split <;> omega
    generalize (if 12 / (1 + r2) + r3 < 12 then 12 / (1 + r2) + r3 else 12) = T at hT
    refine law_take k3.st (by omega) (lt200 (by omega)) fun r4 h4 k4 r40 r41 => ?_
    have l4 := k4.len
    try simp
    refine law_plan k4.st (by omega) (by omega) (by omega) (by omega) (by omega) (by omega) (by omega) fun p h5 k5 pn po => ?_
    have l5 := k5.len
    try simp
    refine law_take k5.st (by omega) (lt200 (by omega)) fun r5 h6 k6 r50 r51 => ?_
    have l6 := k6.len
    try simp
    refine law_plan k6.st (by omega) (by omega) (by omega) (by omega) (by omega) (by omega) (by omega) fun p2 h7 k7 pn2 po2 => ?_
    try simp
    exact oQ _ _ (q _ _ _ (k1.trans (k2.trans (k3.trans (k4.trans (k5.trans (k6.trans k7)))))) (pk pn (by omega) (by omega) (by omega) (by omega) (by omega) po) (pk pn2 (by omega) (by omega) (by omega) (by omega) (by omega) po2))
  try simp
  refine run_ite (fun hb3 => ?_) (fun hb3 => ?_)
  · simp
    rw [newL_le (by rw [sizeLine_eq]; simp)]
    simp
    have k2 := k1.thenPre (pre_app h1 [.lst [.tup [.int 8, .int 8], .tup [.int 13, .int 5], .tup [.int 16, .int 4], .tup [.int 9, .int 7], .tup [.int 31, .int 2], .tup [.int 64, .int 1], .tup [.int 5, .int 13], .tup [.int 11, .int 6], .tup [.int 1, .int 64], .tup [.int 32, .int 2], .tup [.int 1, .int 63]]])
    have e2 := new_get h1 (.lst [.tup [.int 8, .int 8], .tup [.int 13, .int 5], .tup [.int 16, .int 4], .tup [.int 9, .int 7], .tup [.int 31, .int 2], .tup [.int 64, .int 1], .tup [.int 5, .int 13], .tup [.int 11, .int 6], .tup [.int 1, .int 64], .tup [.int 32, .int 2], .tup [.int 1, .int 63]])
    generalize h1 ++ [.lst [.tup [.int 8, .int 8], .tup [.int 13, .int 5], .tup [.int 16, .int 4], .tup [.int 9, .int 7], .tup [.int 31, .int 2], .tup [.int 64, .int 1], .tup [.int 5, .int 13], .tup [.int 11, .int 6], .tup [.int 1, .int 64], .tup [.int 32, .int 2], .tup [.int 1, .int 63]]] = h2 at k2 e2 ⊢
    have l2 := k2.len
    try simp [len_lst e2]
    refine law_take k2.st (by omega) (lt200 (by omega)) fun r2 h3 k3 r20 r21 => ?_
    have r21 := r21 (by omega)
    have l3 := k3.len
    have e3 := k3.ge _ _ (by omega) e2
    have gr : ∃ a b : Int, 1 ≤ a ∧ a ≤ 64 ∧ 1 ≤ b ∧ b ≤ 64 ∧ oGet (.loc h1.length) (.int r2) h3 = .ok (.tup [.int a, .int b]) h3 := by
      have key : ∀ i : Nat, i < 11 → ∃ a b : Int, 1 ≤ a ∧ a ≤ 64 ∧ 1 ≤ b ∧ b ≤ 64 ∧ ([.tup [.int 8, .int 8], .tup [.int 13, .int 5], .tup [.int 16, .int 4], .tup [.int 9, .int 7], .tup [.int 31, .int 2], .tup [.int 64, .int 1], .tup [.int 5, .int 13], .tup [.int 11, .int 6], .tup [.int 1, .int 64], .tup [.int 32, .int 2], .tup [.int 1, .int 63]] : List Dt)[i]? = some (.tup [.int a, .int b]) := by
        intro i hi
        match i, hi with
        | 0, _ => exact ⟨8, 8, by omega, by omega, by omega, by omega, rfl⟩
        | 1, _ => exact ⟨13, 5, by omega, by omega, by omega, by omega, rfl⟩
        | 2, _ => exact ⟨16, 4, by omega, by omega, by omega, by omega, rfl⟩
        | 3, _ => exact ⟨9, 7, by omega, by omega, by omega, by omega, rfl⟩
        | 4, _ => exact ⟨31, 2, by omega, by omega, by omega, by omega, rfl⟩
        | 5, _ => exact ⟨64, 1, by omega, by omega, by omega, by omega, rfl⟩
        | 6, _ => exact ⟨5, 13, by omega, by omega, by omega, by omega, rfl⟩
        | 7, _ => exact ⟨11, 6, by omega, by omega, by omega, by omega, rfl⟩
        | 8, _ => exact ⟨1, 64, by omega, by omega, by omega, by omega, rfl⟩
        | 9, _ => exact ⟨32, 2, by omega, by omega, by omega, by omega, rfl⟩
        | 10, _ => exact ⟨1, 63, by omega, by omega, by omega, by omega, rfl⟩
      obtain ⟨a, b, a0, a1, b0, b1, e⟩ := key r2.toNat (by omega)
      exact ⟨a, b, a0, a1, b0, b1, get_lst e3 r20 e⟩
    obtain ⟨a, b, a0, a1, b0, b1, gr⟩ := gr
    simp [gr]
    refine law_words k3.st (by omega) (by omega) (by omega) (by omega) (by omega) fun ws aw h4 k4 haw e4 hw hwl hwne => ?_
    have l4 := k4.len
    try simp
    refine law_book e4 (by omega) fun h5 p5 => ?_
    have k5 := k4.thenPre p5
    have l5 := k5.len
    try simp
    refine law_words k5.st (by omega) (by omega) (by omega) (by omega) (by omega) fun us au h6 k6 hau e6 hu hul hune => ?_
    have l6 := k6.len
    try simp
    refine law_book e6 (by omega) fun h7 p7 => ?_
    try simp
    refine oQ _ _ (Q_eq (q _ _ _ (k2.trans (k3.trans (k5.trans (k6.thenPre p7)))) (plK_book (by omega) (by omega) hw (by omega) (hwne (by omega))) (plK_book (by omega) (by omega) hu (by omega) (hune (by omega)))) ?_)
    rfl
  · simp
    refine law_take k1.st (by omega) (lt200 (by omega)) fun r2 h2 k2 r20 r21 => ?_
    have r21 := r21 (by omega)
    have l2 := k2.len
    try simp
    refine law_take k2.st (by omega) (lt200 (by omega)) fun r3 h3 k3 r30 r31 => ?_
    have l3 := k3.len
    try simp
    refine law_size k3.st (by omega) (by omega) (by omega) (by omega) fun r4 h4 k4 r40 r41 => ?_
    have l4 := k4.len
    try simp
    refine law_plan k4.st (by omega) (by omega) (by omega) (by omega) (by omega) (by omega) (by omega) fun p h5 k5 pn po => ?_
    have l5 := k5.len
    try simp
    refine law_take k5.st (by omega) (lt200 (by omega)) fun r6 h6 k6 r60 r61 => ?_
    have r61 := r61 (by omega)
    have l6 := k6.len
    try simp
    refine law_take k6.st (by omega) (lt200 (by omega)) fun r7 h7 k7 r70 r71 => ?_
    have l7 := k7.len
    try simp
    refine law_size k7.st (by omega) (by omega) (by omega) (by omega) fun r8 h8 k8 r80 r81 => ?_
    have l8 := k8.len
    try simp
    refine law_plan k8.st (by omega) (by omega) (by omega) (by omega) (by omega) (by omega) (by omega) fun p2 h9 k9 pn2 po2 => ?_
    try simp
    exact oQ _ _ (q _ _ _ (k1.trans (k2.trans (k3.trans (k4.trans (k5.trans (k6.trans (k7.trans (k8.trans k9)))))))) (pk pn (by omega) (by omega) (by omega) (by omega) (by omega) po) (pk pn2 (by omega) (by omega) (by omega) (by omega) (by omega) po2))
theorem law_two_books {m n : Nat} (hs : St m n h) (hm : m ≤ h.length)
    (q : ∀ (p r : Plan) h', Kp m n h h' → PlK p → PlK r → Q (.tup [pD p, pD r]) h') : WE (callK D (k + 5) i_law_two_books [.loc n] h) Q X := by
  refine call_wp (md := D_law_two_books) rfl rfl fun O oN oQ oX => ?_
  simp [m_law_two_books]
  refine law_size hs hm (by omega) (by omega) (by omega) fun c h1 k1 c0 c1 => ?_
  have l1 := k1.len
  try simp
  refine law_take k1.st (by omega) (lt200 (by omega)) fun r2 h2 k2 r20 r21 => ?_
  have r21 := r21 (by omega)
  have l2 := k2.len
  simp [-sIf_s]
  refine run_join (J := fun ρ h' => h' = h2 ∧ ∃ N : Int, 1 ≤ N ∧ N ≤ 60 ∧ ρ = [some (.loc n), some (.int c), some (.int N), none, none]) (fun O3 w1 w2 w3 w4 w5 => ?_) ?_
  · try simp
    refine run_ite (fun hb => ?_) (fun hb => ?_)
    · simp
      exact w1 _ _ ⟨rfl, _, by omega, by omega, rfl⟩
    · rw [run_nx0]
      exact w1 _ _ ⟨rfl, _, by omega, by omega, rfl⟩
  rintro ρ h' ⟨rfl, N, N0, N1, rfl⟩
  simp [-sIf_s]
  refine run_join (J := fun ρ h3 => Kp m n h' h3 ∧ ∃ c N : Int, 1 ≤ c ∧ c ≤ 64 ∧ 1 ≤ N ∧ N ≤ 60 ∧ ρ = [some (.loc n), some (.int c), some (.int N), none, none]) (fun O3 w1 w2 w3 w4 w5 => ?_) ?_
  · simp
    refine law_take k2.st (by omega) (lt200 (by omega)) fun r3 h3 k3 r30 r31 => ?_
    try simp
    refine run_ite (fun hb => ?_) (fun hb => ?_)
    · simp
      exact w1 _ _ ⟨k3, _, _, by omega, by omega, by omega, by omega, rfl⟩
    · rw [run_nx0]
      exact w1 _ _ ⟨k3, _, _, c0, by omega, N0, N1, rfl⟩
  rintro ρ h3 ⟨k3, c, N, c0, c1, N0, N1, rfl⟩
  have l3 := k3.len
  simp
  refine law_words k3.st (by omega) (by omega) (by omega) (by omega) (by omega) fun ws aw h4 k4 haw e4 hw hwl hwne => ?_
  have l4 := k4.len
  simp [len_lst e4]
  refine law_take k4.st (by omega) (lt200 (by omega)) fun r5 h5 k5 r50 r51 => ?_
  have l5 := k5.len
  have e5 := k5.ge _ _ (by omega) e4
  simp [if_ok, len_lst e5]
  have hB : 0 ≤ (if r5 = 0 ∧ ws.length < 64 then (1 : Int) else 0) ∧ (ws.length : Int) + (if r5 = 0 ∧ ws.length < 64 then (1 : Int) else 0) ≤ 64 := by split <;> omega
  generalize (if r5 = 0 ∧ ws.length < 64 then (1 : Int) else 0) = B at hB
  refine law_words k5.st (by omega) (by omega) (by omega) (by omega) (by omega) fun us au h6 k6 hau e6 hu hul hune => ?_
  have l6 := k6.len
  have hwp := List.length_pos_iff.mpr (hwne (by omega))
  try simp
  refine law_book (k6.ge _ _ (by omega) e5) (by omega) fun h7 p7 => ?_
  try simp
  refine law_book (pre_get p7 e6) (by omega) fun h8 p8 => ?_
  try simp
  refine oQ _ _ (Q_eq (q _ _ _ (k1.trans (k2.trans (k3.trans (k4.trans (k5.trans (k6.thenPre (p7.trans p8))))))) (plK_book (by omega) (by omega) hw (by omega) (hwne (by omega))) (plK_book (by omega) (by omega) hu (by omega) (hune (by omega)))) ?_)
  rfl
end K75
end
section
set_option maxRecDepth 20000
/-! MathB: what is made of two: differences, bars, sizes. -/
namespace K75
open PySem L2 EP
theorem less_join {n : Int} {l r l' r' : Word} (h1 : ∀ x ∈ l, x < n) (h2 : ∀ x ∈ l', x < n) (h3 : ∀ x ∈ r, 0 ≤ x) (h4 : ∀ x ∈ r', 0 ≤ x) : less (joinW n l r) (joinW n l' r') = less l l' ++ (less r r').map (· + n) := by
  unfold less joinW
  rw [List.filter_append, List.filter_map]
  congr 1
  · apply List.filter_congr
    intro x hx
    have := h1 x hx
    congr 1
    rw [decide_eq_decide, List.mem_append]
    constructor
    · rintro (h | h)
      · exact h
      · obtain ⟨y, hy, e⟩ := List.mem_map.mp h
        have := h4 y hy
        omega
    · exact .inl
  · congr 1
    apply List.filter_congr
    intro x hx
    have := h3 x hx
    simp only [Function.comp_apply]
    congr 1
    rw [decide_eq_decide, List.mem_append]
    constructor
    · rintro (h | h)
      · have := h2 _ h
        omega
      · obtain ⟨y, hy, e⟩ := List.mem_map.mp h
        have : x = y := by omega
        exact this ▸ hy
    · intro h
      exact .inr (List.mem_map.mpr ⟨x, h, rfl⟩)
theorem less_self (l : Word) : less l l = [] := by
  unfold less
  rw [List.filter_eq_nil_iff]
  intro x hx
  simp [hx]
theorem less_sub {l l' : Word} {x : Int} (h : x ∈ less l l') : x ∈ l := (List.mem_filter.mp h).1
theorem less_nodup {l l' : Word} (h : l.Nodup) : (less l l').Nodup := h.filter _
theorem asc_nodup {w : Word} (h : Asc w) : w.Nodup := by
  rw [List.nodup_iff_pairwise_ne]
  exact List.Pairwise.imp (fun a => by omega) h
theorem fits_nil {la : Row} (h : ∀ c ∈ la, 0 ≤ c.2) : fits la [] = true := by
  unfold fits
  rw [List.all_eq_true]
  intro c hc
  have := h c hc
  show decide (((0 : Nat) : Int) ≤ c.2) = true
  rw [decide_eq_true_eq]
  omega
theorem fits_join {n : Int} {la lb : Row} {u v : Word} (ha : ∀ c ∈ la, ∀ x ∈ c.1, x < n) (hb : ∀ c ∈ lb, ∀ x ∈ c.1, 0 ≤ x) (hu : ∀ x ∈ u, x < n) (hv : ∀ x ∈ v, 0 ≤ x) :
    fits (la ++ lb.map fun c => (joinW n [] c.1, c.2)) (u ++ v.map (· + n)) = (fits la u && fits lb v) := by
  unfold fits
  rw [List.all_append, List.all_map]
  congr 1
  · rw [Bool.eq_iff_iff, List.all_eq_true, List.all_eq_true]
    have key : ∀ c ∈ la, ((u ++ v.map (· + n)).filter fun x => decide (x ∈ c.1)) = u.filter fun x => decide (x ∈ c.1) := by
      intro c hc
      rw [List.filter_append]
      have : (v.map (· + n)).filter (fun x => decide (x ∈ c.1)) = [] := by
        rw [List.filter_eq_nil_iff]
        intro x hx
        obtain ⟨y, hy, rfl⟩ := List.mem_map.mp hx
        have h1 := hv y hy
        intro h
        have := ha c hc _ (by simpa using h)
        omega
      rw [this, List.append_nil]
    constructor
    · intro h c hc
      have := h c hc
      rwa [key c hc] at this
    · intro h c hc
      rw [key c hc]
      exact h c hc
  · rw [Bool.eq_iff_iff, List.all_eq_true, List.all_eq_true]
    have key : ∀ c ∈ lb, ((u ++ v.map (· + n)).filter fun x => decide (x ∈ joinW n [] c.1)).length = (v.filter fun x => decide (x ∈ c.1)).length := by
      intro c hc
      rw [List.filter_append, List.filter_map, List.length_append, List.length_map]
      have h0 : u.filter (fun x => decide (x ∈ joinW n [] c.1)) = [] := by
        rw [List.filter_eq_nil_iff]
        intro x hx h
        have h1 := hu x hx
        rw [decide_eq_true_eq] at h
        unfold joinW at h
        rw [List.nil_append] at h
        obtain ⟨y, hy, e⟩ := List.mem_map.mp h
        have := hb c hc y hy
        omega
      rw [h0, List.length_nil, Nat.zero_add]
      congr 1
      apply List.filter_congr
      intro x hx
      simp only [Function.comp_apply]
      rw [decide_eq_decide]
      unfold joinW
      rw [List.nil_append]
      constructor
      · intro h
        obtain ⟨y, hy, e⟩ := List.mem_map.mp h
        have : x = y := by omega
        exact this ▸ hy
      · intro h
        exact List.mem_map.mpr ⟨x, h, rfl⟩
    constructor
    · intro h c hc
      have := h c hc
      simp only [Function.comp_apply] at this
      rwa [key c hc] at this
    · intro h c hc
      simp only [Function.comp_apply]
      rw [key c hc]
      exact h c hc
/-- a property of the differences of all pairs -/
theorem pairs_pw {p : Plan} (N : Word → Prop) : (∀ t ∈ ppairs p, N t.2.2.2) ↔ ∀ r ∈ p.2, r.Pairwise fun e f => N (less e.1 f.1) ∧ N (less f.1 e.1) := by
  have hg : ∀ (r : Row) (i : Nat) (hi : i < List.length r), (r.map (·.1)).getD i [] = r[i].1 := fun r i hi => by simp [hi]
  rw [ppairs_eq]
  constructor
  · intro h r hr
    obtain ⟨s, hs, rfl⟩ := List.getElem_of_mem hr
    rw [List.pairwise_iff_getElem]
    intro i j hi hj hij
    have hgs : p.2.getD s [] = p.2[s] := by simp [hs]
    have key : ∀ i j, (hi : i < List.length p.2[s]) → (hj : j < List.length p.2[s]) → i ≠ j → N (less p.2[s][i].1 p.2[s][j].1) := by
      intro i j hi hj hij
      refine h (s, i, j, less p.2[s][i].1 p.2[s][j].1) (List.mem_flatMap.mpr ⟨s, List.mem_range.mpr hs, List.mem_map.mpr ⟨(i, j, less p.2[s][i].1 p.2[s][j].1), ?_, rfl⟩⟩)
      rw [hgs, wpairs_eq, List.length_map]
      refine List.mem_flatMap.mpr ⟨i, List.mem_range.mpr hi, List.mem_flatMap.mpr ⟨j, List.mem_range.mpr hj, ?_⟩⟩
      rw [if_pos hij, hg _ i hi, hg _ j hj]
      exact List.mem_singleton.mpr rfl
    exact ⟨key i j hi hj (by omega), key j i hj hi (by omega)⟩
  · rintro h t ht
    obtain ⟨s, hs, ht⟩ := List.mem_flatMap.mp ht
    obtain ⟨u, hu, rfl⟩ := List.mem_map.mp ht
    have hs := List.mem_range.mp hs
    have hgs : p.2.getD s [] = p.2[s] := by simp [hs]
    rw [hgs, wpairs_eq, List.length_map] at hu
    obtain ⟨i, hi, hu⟩ := List.mem_flatMap.mp hu
    obtain ⟨j, hj, hu⟩ := List.mem_flatMap.mp hu
    have hi := List.mem_range.mp hi
    have hj := List.mem_range.mp hj
    by_cases hij : i ≠ j
    · rw [if_pos hij, hg _ i hi, hg _ j hj] at hu
      have := List.mem_singleton.mp hu
      subst this
      have hr := List.pairwise_iff_getElem.mp (h _ (List.getElem_mem hs))
      rcases Nat.lt_or_gt_of_ne hij with z | z
      · exact (hr i j hi hj z).1
      · exact (hr j i hj hi z).2
    · rw [if_neg hij] at hu
      cases hu
/-- all states are met -/
theorem met_left {p q : Plan} (wp : Wf p) (wq : Wf q) (ring : ∃ R : List Int, R.Perm (rngI p.2.length) ∧ R[0]? = some 0 ∧ ∀ i, i < p.2.length → ∃ e ∈ rowAt p (R.getD i 0), e.2 = R.getD ((i + 1) % p.2.length) 0) : ∀ s : Nat, s < p.2.length → ∃ x ∈ met p q, x.1 = (s : Int) := by
  obtain ⟨R, hp, h0, hr⟩ := ring
  have ms := met_spec wp wq
  have hl : R.length = p.2.length := by have := hp.length_eq; simpa [rngI] using this
  have key : ∀ i, i < p.2.length → ∃ x ∈ met p q, x.1 = R.getD i 0 := by
    intro i
    induction i with
    | zero =>
      intro _
      refine ⟨(0, 0), ms.2.2.2.subset (by simp), ?_⟩
      rw [getD_of h0]
    | succ i ih =>
      intro hi
      obtain ⟨x, hx, e⟩ := ih (by omega)
      obtain ⟨f, hf, ef⟩ := hr i (by omega)
      have v := ms.2.1 x hx
      have hne := (wq.row _ (rowAt_mem v.2.2.1 v.2.2.2)).1
      obtain ⟨g, r', hg⟩ := List.exists_cons_of_ne_nil hne
      refine ⟨(f.2, g.2), ms.2.2.1 x hx _ (List.mem_flatMap.mpr ⟨f, by rw [e]; exact hf, List.mem_map.mpr ⟨g, by rw [hg]; simp, rfl⟩⟩), ?_⟩
      rw [ef, Nat.mod_eq_of_lt hi]
  intro s hs
  have hm : (s : Int) ∈ R := hp.mem_iff.mpr (List.mem_map.mpr ⟨s, List.mem_range.mpr hs, rfl⟩)
  obtain ⟨i, hi, e⟩ := List.getElem_of_mem hm
  obtain ⟨x, hx, e2⟩ := key i (by omega)
  exact ⟨x, hx, by rw [e2, ← e]; simp [hi]⟩
theorem met_right {p q : Plan} (wp : Wf p) (wq : Wf q) (ring : ∃ R : List Int, R.Perm (rngI q.2.length) ∧ R[0]? = some 0 ∧ ∀ i, i < q.2.length → ∃ e ∈ rowAt q (R.getD i 0), e.2 = R.getD ((i + 1) % q.2.length) 0) : ∀ s : Nat, s < q.2.length → ∃ x ∈ met p q, x.2 = (s : Int) := by
  obtain ⟨R, hp, h0, hr⟩ := ring
  have ms := met_spec wp wq
  have hl : R.length = q.2.length := by have := hp.length_eq; simpa [rngI] using this
  have key : ∀ i, i < q.2.length → ∃ x ∈ met p q, x.2 = R.getD i 0 := by
    intro i
    induction i with
    | zero =>
      intro _
      refine ⟨(0, 0), ms.2.2.2.subset (by simp), ?_⟩
      rw [getD_of h0]
    | succ i ih =>
      intro hi
      obtain ⟨x, hx, e⟩ := ih (by omega)
      obtain ⟨f, hf, ef⟩ := hr i (by omega)
      have v := ms.2.1 x hx
      have hne := (wp.row _ (rowAt_mem v.1 v.2.1)).1
      obtain ⟨g, r', hg⟩ := List.exists_cons_of_ne_nil hne
      refine ⟨(g.2, f.2), ms.2.2.1 x hx _ (List.mem_flatMap.mpr ⟨g, by rw [hg]; simp, List.mem_map.mpr ⟨f, by rw [e]; exact hf, rfl⟩⟩), ?_⟩
      rw [ef, Nat.mod_eq_of_lt hi]
  intro s hs
  have hm : (s : Int) ∈ R := hp.mem_iff.mpr (List.mem_map.mpr ⟨s, List.mem_range.mpr hs, rfl⟩)
  obtain ⟨i, hi, e⟩ := List.getElem_of_mem hm
  obtain ⟨x, hx, e2⟩ := key i (by omega)
  exact ⟨x, hx, by rw [e2, ← e]; simp [hi]⟩
/-- a property of differences that is kept by joining: the pairs of the joined plan -/
theorem side_pw {p q : Plan} (kp : PlK p) (kq : PlK q) (wp : Wf p) (wq : Wf q) (N : Word → Prop) (Np Nq : Word → Prop)
    (h1 : ∀ u v : Word, (∀ x ∈ u, 0 ≤ x ∧ x < p.1) → (∀ x ∈ v, 0 ≤ x) → Np u → N (u ++ v.map (· + p.1)))
    (h2 : ∀ u v : Word, (∀ x ∈ u, 0 ≤ x ∧ x < p.1) → (∀ x ∈ v, 0 ≤ x) → Nq v → N (u ++ v.map (· + p.1)))
    (h3 : ∀ u : Word, (∀ x ∈ u, 0 ≤ x ∧ x < p.1) → N (u ++ [].map (· + p.1)) → Np u) (h4 : ∀ v : Word, (∀ x ∈ v, 0 ≤ x) → N ([] ++ v.map (· + p.1)) → Nq v) :
    (∀ t ∈ ppairs (sideP p q), N t.2.2.2) ↔ (∀ t ∈ ppairs p, Np t.2.2.2) ∧ (∀ t ∈ ppairs q, Nq t.2.2.2) := by
  rw [pairs_pw N, pairs_pw Np, pairs_pw Nq]
  have ms := met_spec wp wq
  have row : ∀ x ∈ met p q, (sideRow p q (met p q) x).Pairwise (fun e f => N (less e.1 f.1) ∧ N (less f.1 e.1)) ↔ ((rowAt p x.1).Pairwise fun e f => Np (less e.1 f.1) ∧ Np (less f.1 e.1)) ∧ ((rowAt q x.2).Pairwise fun e f => Nq (less e.1 f.1) ∧ Nq (less f.1 e.1)) := by
    intro x hx
    have v := ms.2.1 x hx
    have rp := wp.row _ (rowAt_mem v.1 v.2.1)
    have rq := wq.row _ (rowAt_mem v.2.2.1 v.2.2.2)
    generalize hA : rowAt p x.1 = A at rp
    generalize hB : rowAt q x.2 = B at rq
    obtain ⟨a0, A', eA⟩ := List.exists_cons_of_ne_nil rp.1
    obtain ⟨b0, B', eB⟩ := List.exists_cons_of_ne_nil rq.1
    have la : ∀ e ∈ A, ∀ x ∈ e.1, 0 ≤ x ∧ x < p.1 := fun e he => (rp.2.2 e he).2.2.2.1
    have lb : ∀ e ∈ B, ∀ x ∈ e.1, 0 ≤ x := fun e he x hx => ((rq.2.2 e he).2.2.2.1 x hx).1
    have hjoin : ∀ l ∈ A, ∀ l' ∈ A, ∀ r ∈ B, ∀ r' ∈ B, less (joinW p.1 l.1 r.1) (joinW p.1 l'.1 r'.1) = less l.1 l'.1 ++ (less r.1 r'.1).map (· + p.1) := fun l hl l' hl' r hr r' hr' =>
      less_join (fun x hx => (la l hl x hx).2) (fun x hx => (la l' hl' x hx).2) (lb r hr) (lb r' hr')
    unfold sideRow
    rw [hA, hB, List.pairwise_flatMap]
    constructor
    · rintro ⟨g1, g2⟩
      constructor
      · refine List.Pairwise.imp_of_mem ?_ g2
        intro l l' hl hl' g
        have hb0 : b0 ∈ B := by rw [eB]; simp
        have g := g _ (List.mem_map.mpr ⟨b0, hb0, rfl⟩) _ (List.mem_map.mpr ⟨b0, hb0, rfl⟩)
        simp only at g
        rw [hjoin l hl l' hl' b0 hb0 b0 hb0, hjoin l' hl' l hl b0 hb0 b0 hb0, less_self] at g
        exact ⟨h3 _ (fun x hx => la l hl x (less_sub hx)) g.1, h3 _ (fun x hx => la l' hl' x (less_sub hx)) g.2⟩
      · have ha0 : a0 ∈ A := by rw [eA]; simp
        have g := g1 a0 ha0
        rw [List.pairwise_map] at g
        refine List.Pairwise.imp_of_mem ?_ g
        intro r r' hr hr' g
        rw [hjoin a0 ha0 a0 ha0 r hr r' hr', hjoin a0 ha0 a0 ha0 r' hr' r hr, less_self] at g
        exact ⟨h4 _ (fun x hx => lb r hr x (less_sub hx)) g.1, h4 _ (fun x hx => lb r' hr' x (less_sub hx)) g.2⟩
    · rintro ⟨g1, g2⟩
      constructor
      · intro l hl
        rw [List.pairwise_map]
        refine List.Pairwise.imp_of_mem ?_ g2
        intro r r' hr hr' g
        rw [hjoin l hl l hl r hr r' hr', hjoin l hl l hl r' hr' r hr, less_self]
        exact ⟨h2 _ _ (by simp) (fun x hx => lb r hr x (less_sub hx)) g.1, h2 _ _ (by simp) (fun x hx => lb r' hr' x (less_sub hx)) g.2⟩
      · refine List.Pairwise.imp_of_mem ?_ g1
        intro l l' hl hl' g x hx y hy
        obtain ⟨r, hr, rfl⟩ := List.mem_map.mp hx
        obtain ⟨r', hr', rfl⟩ := List.mem_map.mp hy
        simp only
        rw [hjoin l hl l' hl' r hr r' hr', hjoin l' hl' l hl r' hr' r hr]
        exact ⟨h1 _ _ (fun x hx => la l hl x (less_sub hx)) (fun x hx => lb r hr x (less_sub hx)) g.1, h1 _ _ (fun x hx => la l' hl' x (less_sub hx)) (fun x hx => lb r' hr' x (less_sub hx)) g.2⟩
  obtain ⟨c1, cap1, _, _, _, o1⟩ := kp.ok
  obtain ⟨c2, cap2, _, _, _, o2⟩ := kq.ok
  have hl := met_left (q := q) wp wq (by rw [o1.len]; exact o1.ring)
  have hr := met_right (p := p) wp wq (by rw [o2.len]; exact o2.ring)
  unfold sideP
  constructor
  · intro h
    constructor
    · intro r hr'
      obtain ⟨s, hs, rfl⟩ := List.getElem_of_mem hr'
      obtain ⟨x, hx, e⟩ := hl s hs
      have := ((row x hx).mp (h _ (List.mem_map.mpr ⟨x, hx, rfl⟩))).1
      rw [e] at this
      simpa [rowAt, hs] using this
    · intro r hr'
      obtain ⟨s, hs, rfl⟩ := List.getElem_of_mem hr'
      obtain ⟨x, hx, e⟩ := hr s hs
      have := ((row x hx).mp (h _ (List.mem_map.mpr ⟨x, hx, rfl⟩))).2
      rw [e] at this
      simpa [rowAt, hs] using this
  · rintro ⟨g1, g2⟩ r hr'
    obtain ⟨x, hx, rfl⟩ := List.mem_map.mp hr'
    have v := ms.2.1 x hx
    exact (row x hx).mpr ⟨g1 _ (rowAt_mem v.1 v.2.1), g2 _ (rowAt_mem v.2.2.1 v.2.2.2)⟩
end K75
end
section
set_option maxRecDepth 20000
/-! MathC: bars, greatest even limits of what is made of two. -/
namespace K75
open PySem L2 EP
theorem plK_wf {p : Plan} (k : PlK p) : Wf p := by
  obtain ⟨c, cap, c1, c2, c3, o⟩ := k.ok
  have n1 := k.n1
  have n60 := k.n60
  refine ⟨n1, by omega, ?_, by rw [o.len]; exact c2, fun r hr => ?_⟩
  · intro e
    have := o.len
    rw [e] at this
    simp at this
    omega
  · have ro := o.row r hr
    have rl := ro.len
    refine ⟨ro.ne, by omega, fun e he => ?_⟩
    obtain ⟨w, a, b⟩ := ro.each e he
    have := w.len
    exact ⟨a, by rw [o.len]; exact b, w.asc, w.rng, by omega⟩
theorem wf_pw {p : Plan} (w : Wf p) : Pw p := ⟨w.c12, fun r hr => ⟨(w.row r hr).2.1, fun e he => ⟨asc_nodup ((w.row r hr).2.2 e he).2.2.1, by have := ((w.row r hr).2.2 e he).2.2.2.2; omega⟩⟩⟩
/-- the sums over a lot of a set are the sizes of what is in both -/
theorem count_sym : ∀ (a b : List Int), a.Nodup → b.Nodup → (a.filter fun x => decide (x ∈ b)).length = (b.filter fun x => decide (x ∈ a)).length := by
  intro a b ha hb
  apply List.Perm.length_eq
  rw [List.perm_ext_iff_of_nodup (ha.filter _) (hb.filter _)]
  intro x
  simp only [List.mem_filter, decide_eq_true_eq]
  exact And.comm
theorem sum_ind (v : Word) (c : List Int) : (c.map fun w => if w ∈ v then (1 : Int) else 0).sum = ((c.filter fun x => decide (x ∈ v)).length : Int) := by
  induction c with
  | nil => rfl
  | cons a r ih =>
    rw [List.map_cons, List.sum_cons, ih, List.filter_cons]
    by_cases h : a ∈ v
    · simp [h]
      omega
    · simp [h]
theorem lot_get {n : Int} {v : Word} {w : Int} (h0 : 0 ≤ w) (h1 : w < n) : (lotOf n v).getD w.toNat 0 = if w ∈ v then 1 else 0 := by
  unfold lotOf
  have : w.toNat < n.toNat := by omega
  rw [List.getD_eq_getElem?_getD, List.getElem?_map, List.getElem?_range this]
  have : ((w.toNat : Nat) : Int) = w := by omega
  simp [this]
theorem within_fits {n : Int} {l : Row} {v : Word} (hl : ∀ c ∈ l, Asc c.1 ∧ ∀ w ∈ c.1, 0 ≤ w ∧ w < n) (hv : v.Nodup) : withinB l (lotOf n v) = fits l v := by
  unfold withinB fits
  rw [Bool.eq_iff_iff, List.all_eq_true, List.all_eq_true]
  have key : ∀ c ∈ l, (c.1.map fun w => (lotOf n v).getD w.toNat 0).sum = ((v.filter fun x => decide (x ∈ c.1)).length : Int) := by
    intro c hc
    rw [← count_sym c.1 v (asc_nodup (hl c hc).1) hv, ← sum_ind]
    congr 1
    apply List.map_congr_left
    intro w hw
    exact lot_get ((hl c hc).2 w hw).1 ((hl c hc).2 w hw).2
  constructor
  · intro h c hc
    have := h c hc
    rwa [key c hc] at this
  · intro h c hc
    rw [key c hc]
    exact h c hc
theorem ppairs_nodup {p : Plan} (w : Pw p) : ∀ t ∈ ppairs p, t.2.2.2.Nodup := by
  rw [pairs_pw fun v : Word => v.Nodup]
  intro r hr
  apply List.Pairwise.imp_of_mem (R := fun _ _ => True)
  · intro e f he hf _
    exact ⟨less_nodup ((w.row r hr).2 e he).1, less_nodup ((w.row r hr).2 f hf).1⟩
  · exact List.pairwise_iff_getElem.mpr (fun _ _ _ _ _ => trivial)
/-- no bars, by the law's own sums -/
theorem bars_nil {p : Plan} {l : Lim} (w : Pw p) (hl : ∀ c ∈ l.2, ClOk p.1 c) : (((ppairs p).filter fun t => withinB l.2 (lotOf p.1 t.2.2.2)).map fun t => Dt.tup [.int (t.1 : Nat), .int (t.2.1 : Nat), .int (t.2.2.1 : Nat)]).length = 0 ↔ ∀ t ∈ ppairs p, fits l.2 t.2.2.2 = false := by
  rw [List.length_map, List.length_eq_zero_iff, List.filter_eq_nil_iff]
  have nd := ppairs_nodup w
  constructor
  · intro h t ht
    have := h t ht
    rw [within_fits (fun c hc => ⟨(hl c hc).asc, (hl c hc).rng⟩) (nd t ht)] at this
    simpa using this
  · intro h t ht
    rw [within_fits (fun c hc => ⟨(hl c hc).asc, (hl c hc).rng⟩) (nd t ht), h t ht]
    simp
theorem side_right {p q : Plan} {a b : Lim} (kp : PlK p) (kq : PlK q) (ha : ∀ c ∈ a.2, ClOk p.1 c) (hb : ∀ c ∈ b.2, ClOk q.1 c) (ea : a.1 = p.1) :
    (∀ t ∈ ppairs (sideP p q), fits (limP a b).2 t.2.2.2 = false) ↔ (∀ t ∈ ppairs p, fits a.2 t.2.2.2 = false) ∧ (∀ t ∈ ppairs q, fits b.2 t.2.2.2 = false) := by
  have fj : ∀ u v : Word, (∀ x ∈ u, 0 ≤ x ∧ x < p.1) → (∀ x ∈ v, 0 ≤ x) → fits (limP a b).2 (u ++ v.map (· + p.1)) = (fits a.2 u && fits b.2 v) := by
    intro u v hu hv
    unfold limP
    rw [ea]
    exact fits_join (fun c hc x hx => ((ha c hc).rng x hx).2) (fun c hc x hx => ((hb c hc).rng x hx).1) (fun x hx => (hu x hx).2) hv
  have na := fits_nil (la := a.2) (fun c hc => (ha c hc).b0)
  have nb := fits_nil (la := b.2) (fun c hc => (hb c hc).b0)
  refine side_pw kp kq (plK_wf kp) (plK_wf kq) (fun v => fits (limP a b).2 v = false) (fun v => fits a.2 v = false) (fun v => fits b.2 v = false) ?_ ?_ ?_ ?_
  · intro u v hu hv h
    rw [fj u v hu hv, h]; rfl
  · intro u v hu hv h
    rw [fj u v hu hv, h, Bool.and_false]
  · intro u hu h
    rw [fj u [] hu (by simp), nb, Bool.and_true] at h
    exact h
  · intro v hv h
    rw [fj [] v (by simp) hv, na, Bool.true_and] at h
    exact h
/-! ### greatest even limits -/
def minN : List Nat → Nat
  | [] => 0
  | [a] => a
  | a :: r => min a (minN r)
theorem minL_minN : ∀ ns : List Nat, minL (ns.map fun (n : Nat) => (n : Int)) = (minN ns : Int)
  | [] => rfl
  | [a] => rfl
  | a :: b :: r => by
    have := minL_minN (b :: r)
    simp only [List.map_cons, minL, minN] at this ⊢
    omega
theorem minN_le : ∀ (ns : List Nat), ns ≠ [] → ∀ m, (m ≤ minN ns ↔ ∀ x ∈ ns, m ≤ x)
  | [], h, _ => absurd rfl h
  | [a], _, m => by simp [minN]
  | a :: b :: r, _, m => by
    have := minN_le (b :: r) (by simp) m
    simp only [minN, List.mem_cons, forall_eq_or_imp] at this ⊢
    rw [← this]
    omega
theorem gap_ext {ns ks : List Nat} (h : ∀ m, (∀ x ∈ ns, m ≤ x) ↔ (∀ x ∈ ks, m ≤ x)) : gapD ns = gapD ks := by
  unfold gapD
  by_cases h1 : ns = []
  · subst h1
    have h2 : ks = [] := by
      cases ks with
      | nil => rfl
      | cons a r =>
        have := (h (a + 1)).mp (by simp) a (by simp)
        omega
    rw [h2]
  · have h2 : ks ≠ [] := by
      rintro rfl
      obtain ⟨a, r, e⟩ := List.exists_cons_of_ne_nil h1
      have := (h (a + 1)).mpr (by simp) a (by rw [e]; simp)
      omega
    rw [if_neg h1, if_neg h2, minL_minN, minL_minN]
    have : minN ns = minN ks := by
      apply Nat.le_antisymm
      · rw [minN_le ks h2, ← h, ← minN_le ns h1]
        exact Nat.le_refl _
      · rw [minN_le ns h1, h, ← minN_le ks h2]
        exact Nat.le_refl _
    rw [this]
def sizesOf (p : Plan) : List Nat := (ppairs p).map fun t => t.2.2.2.length
theorem side_gap {p q : Plan} (kp : PlK p) (kq : PlK q) : gapD (sizesOf (sideP p q)) = gapD (sizesOf p ++ sizesOf q) := by
  apply gap_ext
  intro m
  have sz : ∀ r : Plan, (∀ x ∈ sizesOf r, m ≤ x) ↔ ∀ t ∈ ppairs r, m ≤ t.2.2.2.length := fun r => by
    unfold sizesOf
    simp only [List.forall_mem_map]
  rw [sz]
  have : (∀ x ∈ sizesOf p ++ sizesOf q, m ≤ x) ↔ (∀ x ∈ sizesOf p, m ≤ x) ∧ (∀ x ∈ sizesOf q, m ≤ x) := by
    simp only [List.mem_append]
    constructor
    · intro h
      exact ⟨fun x hx => h x (.inl hx), fun x hx => h x (.inr hx)⟩
    · rintro ⟨h1, h2⟩ x (hx | hx)
      · exact h1 x hx
      · exact h2 x hx
  rw [this, sz, sz]
  refine side_pw kp kq (plK_wf kp) (plK_wf kq) (fun v => m ≤ v.length) (fun v => m ≤ v.length) (fun v => m ≤ v.length) ?_ ?_ ?_ ?_
  · intro u v _ _ h
    simp only [List.length_append]
    omega
  · intro u v _ _ h
    simp only [List.length_append, List.length_map]
    omega
  · intro u _ h
    simpa using h
  · intro v _ h
    simpa using h
/-- the lesser of two -/
theorem gap_app (a b : List Nat) : gapD (a ++ b) = match gapD a, gapD b with
    | .int i, .int j => .int (min i j)
    | .int i, _ => .int i
    | _, d => d := by
  by_cases ha : a = []
  · subst ha
    have : gapD [] = .non := rfl
    rw [List.nil_append, this]
  · by_cases hb : b = []
    · subst hb
      have h1 : gapD [] = .non := rfl
      have h2 : gapD a = .int (minL (a.map fun (n : Nat) => (n : Int)) - 1) := if_neg ha
      rw [List.append_nil, h1, h2]
    · have h1 : gapD a = .int (minL (a.map fun (n : Nat) => (n : Int)) - 1) := if_neg ha
      have h2 : gapD b = .int (minL (b.map fun (n : Nat) => (n : Int)) - 1) := if_neg hb
      have h3 : gapD (a ++ b) = .int (minL ((a ++ b).map fun (n : Nat) => (n : Int)) - 1) := if_neg (by simp [ha])
      rw [h1, h2, h3, minL_minN, minL_minN, minL_minN]
      have : minN (a ++ b) = min (minN a) (minN b) := by
        apply Nat.le_antisymm
        · rw [Nat.le_min]
          constructor
          · rw [minN_le a ha]
            exact fun x hx => (minN_le (a ++ b) (by simp [ha]) _).mp (Nat.le_refl _) x (by simp [hx])
          · rw [minN_le b hb]
            exact fun x hx => (minN_le (a ++ b) (by simp [ha]) _).mp (Nat.le_refl _) x (by simp [hx])
        · rw [minN_le (a ++ b) (by simp [ha])]
          intro x hx
          rcases List.mem_append.mp hx with z | z
          · have := (minN_le a ha (minN a)).mp (Nat.le_refl _) x z
            omega
          · have := (minN_le b hb (minN b)).mp (Nat.le_refl _) x z
            omega
      rw [this]
      congr 1
      omega
end K75
end
section
set_option maxRecDepth 20000
/-! MathD: paired books; the data's size. -/
namespace K75
open PySem L2 EP
/-- the pairs of places -/
def idxs (n : Nat) : List (Nat × Nat) := (List.range n).flatMap fun i => (List.range n).flatMap fun j => if i ≠ j then [(i, j)] else []
theorem wpairs_idxs (ws : List Word) : wpairs ws = (idxs ws.length).map fun t => (t.1, t.2, less (ws.getD t.1 []) (ws.getD t.2 [])) := by
  rw [wpairs_eq, idxs, List.map_flatMap]
  congr 1
  funext i
  rw [List.map_flatMap]
  congr 1
  funext j
  split <;> rfl
theorem idxs_mem {n : Nat} {t : Nat × Nat} (h : t ∈ idxs n) : t.1 < n ∧ t.2 < n := by
  obtain ⟨i, hi, h⟩ := List.mem_flatMap.mp h
  obtain ⟨j, hj, h⟩ := List.mem_flatMap.mp h
  split at h
  · have := List.mem_singleton.mp h
    subst this
    exact ⟨List.mem_range.mp hi, List.mem_range.mp hj⟩
  · cases h
theorem ppairs_book {n : Int} {r : Row} : ppairs (n, [r]) = (idxs (List.length r)).map fun t => (0, t.1, t.2, less (r.getD t.1 ([], 0)).1 (r.getD t.2 ([], 0)).1) := by
  rw [ppairs_eq]
  have hg : ∀ i, (r.map (·.1)).getD i [] = (r.getD i ([], 0)).1 := fun i => getD_map (fun e : Word × Int => e.1) r ([], 0) i
  simp only [List.length_singleton, List.range_one, List.flatMap_singleton, List.getD_cons_zero]
  rw [wpairs_idxs, List.length_map, List.map_map]
  apply List.map_congr_left
  intro t ht
  simp only [Function.comp_apply, hg]
theorem paired_sizes {p q : Plan} (wp : Wf p) (wq : Wf q) (h1 : p.2.length = 1) (h2 : q.2.length = 1) (hl : (bookRow p).length = (bookRow q).length) :
    (sizesOf (pairP p q)) = (List.range (ppairs p).length).map fun i => ((ppairs p).getD i (0, 0, 0, [])).2.2.2.length + ((ppairs q).getD i (0, 0, 0, [])).2.2.2.length := by
  obtain ⟨n, P⟩ := p
  obtain ⟨m, R⟩ := q
  obtain ⟨A, rfl⟩ := List.length_eq_one_iff.mp h1
  obtain ⟨B, rfl⟩ := List.length_eq_one_iff.mp h2
  have rA := wp.row A (by simp)
  have rB := wq.row B (by simp)
  have hl' : List.length A = List.length B := hl
  have zl : List.length ((A.zip B).map fun z => (joinW n z.1.1 z.2.1, (0 : Int))) = List.length A := by simp; omega
  unfold sizesOf pairP bookRow
  simp only [List.headD_cons]
  rw [ppairs_book, ppairs_book, ppairs_book, zl, ← hl', List.map_map, List.length_map]
  apply List.ext_getElem
  · simp
  · intro i g1 g2
    have hi : i < (idxs (List.length A)).length := by simpa using g1
    have ht := idxs_mem (List.getElem_mem hi)
    have hgm : ∀ {β : Type} (f : Nat × Nat → β) (d : β), ((idxs (List.length A)).map f).getD i d = f (idxs (List.length A))[i] := fun f d => getD_of (by rw [List.getElem?_map, List.getElem?_eq_getElem hi]; rfl)
    rw [List.getElem_map, List.getElem_map, List.getElem_range, hgm, hgm]
    simp only [Function.comp_apply]
    generalize (idxs (List.length A))[i] = t at ht
    obtain ⟨a, b⟩ := t
    obtain ⟨ha, hb⟩ := ht
    simp only at ha hb
    have ha' : a < List.length B := by omega
    have hb' : b < List.length B := by omega
    have zg : ∀ c, (hc : c < List.length A) → (hc' : c < List.length B) → ((A.zip B).map fun z : (Word × Int) × (Word × Int) => (joinW n z.1.1 z.2.1, (0 : Int))).getD c ([], 0) = (joinW n A[c].1 B[c].1, 0) := by
      intro c hc hc'
      apply getD_of
      have : (A.zip B)[c]? = some (A[c], B[c]) := by rw [List.getElem?_zip_eq_some]; exact ⟨List.getElem?_eq_getElem hc, List.getElem?_eq_getElem hc'⟩
      rw [List.getElem?_map, this]
      rfl
    have hA : ∀ c, (hc : c < List.length A) → A.getD c ([], 0) = A[c] := fun c hc => getD_of (List.getElem?_eq_getElem hc)
    have hB : ∀ c, (hc : c < List.length B) → B.getD c ([], 0) = B[c] := fun c hc => getD_of (List.getElem?_eq_getElem hc)
    rw [zg a ha ha', zg b hb hb', hA a ha, hA b hb, hB a ha', hB b hb']
    have la : ∀ c, (hc : c < List.length A) → ∀ x ∈ A[c].1, x < n := fun c hc x hx => ((rA.2.2 _ (List.getElem_mem hc)).2.2.2.1 x hx).2
    have lb : ∀ c, (hc : c < List.length B) → ∀ x ∈ B[c].1, 0 ≤ x := fun c hc x hx => ((rB.2.2 _ (List.getElem_mem hc)).2.2.2.1 x hx).1
    rw [less_join (la a ha) (la b hb) (lb a ha') (lb b hb')]
    simp
/-! ### plain, small -/
theorem pl_wD (w : Word) : (wD w).plain = true := by
  rw [Dt.plain, plains_all, List.all_map, List.all_eq_true]
  intro x _
  rfl
theorem pl_eD (e : Word × Int) : (eD e).plain = true := by
  rw [Dt.plain, plains_all]
  simp [pl_wD]
  rfl
theorem pl_sD (s : Row) : (sD s).plain = true := by
  rw [Dt.plain, plains_all, List.all_map, List.all_eq_true]
  intro x _
  exact pl_eD x
theorem pl_pD (p : Plan) : (pD p).plain = true := by
  rw [Dt.plain, plains_all]
  have h1 : (Dt.tup (p.2.map sD)).plain = true := by
    rw [Dt.plain, plains_all, List.all_map, List.all_eq_true]
    intro x _
    exact pl_sD x
  simp only [List.all_cons, List.all_nil, h1]
  rfl
theorem pl_lD (l : Lim) : (lD l).plain = true := by
  rw [Dt.plain, plains_all]
  simp only [List.all_cons, List.all_nil, pl_sD]
  rfl
theorem pl_giv {d : Dt} (h : d.plain = true) : (givD d).plain = true := by
  rw [Dt.plain, plains_all]
  simp only [List.all_cons, List.all_nil, h]
  decide +kernel
theorem no_wD (w : Word) : nodes (wD w) = w.length + 1 := by
  have : ∀ ns : List Int, nodesL (ns.map Dt.int) = ns.length := by
    intro ns
    induction ns with
    | nil => rfl
    | cons a r ih => simp only [List.map_cons, nodesL, nodes, ih, List.length_cons]; omega
  simp only [nodes, this]
theorem no_eD (e : Word × Int) : nodes (eD e) = e.1.length + 3 := by
  simp only [nodes, nodesL]
  have := no_wD e.1
  rw [nodes] at this
  omega
theorem no_sD {s : Row} {c : Nat} (h : ∀ e ∈ s, e.1.length ≤ c) : nodes (sD s) ≤ s.length * (c + 3) + 1 := by
  have := nodesL_map eD (c + 3) s fun e he => by rw [no_eD]; have := h e he; omega
  simp only [nodes]
  omega
theorem no_pD {p : Plan} {c d : Nat} (h : ∀ r ∈ p.2, r.length ≤ d ∧ ∀ e ∈ r, e.1.length ≤ c) : nodes (pD p) ≤ p.2.length * (d * (c + 3) + 1) + 3 := by
  have := nodesL_map sD (d * (c + 3) + 1) p.2 fun r hr => by
    have h1 := no_sD (h r hr).2
    have h2 := Nat.mul_le_mul_right (c + 3) (h r hr).1
    omega
  simp only [nodes, nodesL]
  omega
theorem join_len (n : Int) (a b : Word) : (joinW n a b).length = a.length + b.length := by simp [joinW]
theorem sum_ge : ∀ (l : List Int), (∀ x ∈ l, 0 ≤ x) → ∀ x ∈ l, x ≤ l.sum
  | [], _, x, hx => by cases hx
  | a :: r, h, x, hx => by
    have h0 : 0 ≤ r.sum := by
      clear hx
      have : ∀ r : List Int, (∀ x ∈ r, 0 ≤ x) → 0 ≤ r.sum := by
        intro r
        induction r with
        | nil => intro _; simp
        | cons b s ih =>
          intro h
          have := ih fun x hx => h x (by simp [hx])
          have := h b (by simp)
          rw [List.sum_cons]
          omega
      exact this r fun x hx => h x (by simp [hx])
    have ha := h a (by simp)
    rw [List.sum_cons]
    rcases List.mem_cons.mp hx with rfl | z
    · omega
    · have := sum_ge r (fun x hx => h x (by simp [hx])) x z
      omega
theorem flat_len_const {α β γ : Type} (A : List α) (B : List β) (f : α → β → γ) : (A.flatMap fun l => B.map fun r => f l r).length = A.length * B.length := by
  induction A with
  | nil => simp
  | cons a r ih =>
    rw [List.flatMap_cons, List.length_append, ih, List.length_map, List.length_cons, Nat.add_mul]
    omega
/-- the joined plan -/
theorem side_rows {p q : Plan} (wp : Wf p) (wq : Wf q) (hw : wordsIn p q ≤ 64) : ∀ r ∈ (sideP p q).2, r.length ≤ 64 ∧ ∀ e ∈ r, e.1.Nodup ∧ e.1.length ≤ 128 := by
  intro r hr
  have ms := met_spec wp wq
  obtain ⟨x, hx, rfl⟩ := List.mem_map.mp hr
  have v := ms.2.1 x hx
  have rp := wp.row _ (rowAt_mem v.1 v.2.1)
  have rq := wq.row _ (rowAt_mem v.2.2.1 v.2.2.2)
  constructor
  · unfold sideRow
    rw [flat_len_const]
    have h1 := sum_ge ((met p q).map fun x => ((rowAt p x.1).length : Int) * ((rowAt q x.2).length : Int)) (fun y hy => by
      obtain ⟨z, _, rfl⟩ := List.mem_map.mp hy
      exact Int.mul_nonneg (by omega) (by omega)) _ (List.mem_map.mpr ⟨x, hx, rfl⟩)
    unfold wordsIn at hw
    have h2 : ((rowAt p x.1).length : Int) * ((rowAt q x.2).length : Int) ≤ 64 := Int.le_trans h1 hw
    have h3 : (((rowAt p x.1).length * (rowAt q x.2).length : Nat) : Int) ≤ 64 := by rw [Int.natCast_mul]; exact h2
    omega
  · intro e he
    unfold sideRow at he
    obtain ⟨l, hl, he⟩ := List.mem_flatMap.mp he
    obtain ⟨m, hm, rfl⟩ := List.mem_map.mp he
    have e1 := rp.2.2 l hl
    have e2 := rq.2.2 m hm
    refine ⟨?_, by simp only; rw [join_len]; omega⟩
    unfold joinW
    rw [List.nodup_append]
    refine ⟨asc_nodup e1.2.2.1, ?_, ?_⟩
    · rw [List.nodup_iff_pairwise_ne, List.pairwise_map]
      refine List.Pairwise.imp ?_ e2.2.2.1
      intro a b h
      omega
    · intro a ha b hb e
      obtain ⟨y, hy, rfl⟩ := List.mem_map.mp hb
      have := (e1.2.2.2.1 a ha).2
      have := (e2.2.2.2.1 y hy).1
      omega
theorem side_Pw {p q : Plan} (wp : Wf p) (wq : Wf q) (hm : (met p q).length ≤ 12) (hw : wordsIn p q ≤ 64) : Pw (sideP p q) :=
  ⟨by simpa [sideP] using hm, fun r hr => ⟨(side_rows wp wq hw r hr).1, fun e he => ⟨((side_rows wp wq hw r hr).2 e he).1, by have := ((side_rows wp wq hw r hr).2 e he).2; omega⟩⟩⟩
theorem pair_rows {p q : Plan} (wp : Wf p) (wq : Wf q) : ∀ r ∈ (pairP p q).2, r.length ≤ 64 ∧ ∀ e ∈ r, e.1.Nodup ∧ e.1.length ≤ 128 := by
  intro r hr
  simp only [pairP, List.mem_singleton] at hr
  subst hr
  have bp : bookRow p ∈ p.2 := by
    unfold bookRow
    obtain ⟨a, r, e⟩ := List.exists_cons_of_ne_nil wp.c1
    rw [e]; simp
  have bq : bookRow q ∈ q.2 := by
    unfold bookRow
    obtain ⟨a, r, e⟩ := List.exists_cons_of_ne_nil wq.c1
    rw [e]; simp
  have rp := wp.row _ bp
  have rq := wq.row _ bq
  constructor
  · have := rp.2.1
    simp only [List.length_map, List.length_zip]
    omega
  · intro e he
    obtain ⟨z, hz, rfl⟩ := List.mem_map.mp he
    obtain ⟨z1, z2⟩ := z
    have e1 := rp.2.2 z1 (List.of_mem_zip hz).1
    have e2 := rq.2.2 z2 (List.of_mem_zip hz).2
    refine ⟨?_, by simp only; rw [join_len]; omega⟩
    unfold joinW
    rw [List.nodup_append]
    refine ⟨asc_nodup e1.2.2.1, ?_, ?_⟩
    · rw [List.nodup_iff_pairwise_ne, List.pairwise_map]
      refine List.Pairwise.imp ?_ e2.2.2.1
      intro a b h
      omega
    · intro a ha b hb e
      obtain ⟨y, hy, rfl⟩ := List.mem_map.mp hb
      have := (e1.2.2.2.1 a ha).2
      have := (e2.2.2.2.1 y hy).1
      omega
theorem pair_Pw {p q : Plan} (wp : Wf p) (wq : Wf q) : Pw (pairP p q) :=
  ⟨by simp [pairP], fun r hr => ⟨(pair_rows wp wq r hr).1, fun e he => ⟨((pair_rows wp wq r hr).2 e he).1, by have := ((pair_rows wp wq r hr).2 e he).2; omega⟩⟩⟩
theorem ref_ok {n : Str} {v : Dt} (hn : PyData.strOk n = true) (hv : v.plain = true) (hs : nodes v < 100) : (refD n v).plain = true ∧ nodes (refD n v) < 900000 := by
  constructor
  · rw [Dt.plain, plains_all]
    simp only [List.all_cons, List.all_nil, hv, Dt.plain, hn]
    decide +kernel
  · simp only [nodes, nodesL]
    omega
theorem giv_ok {v : Dt} (hv : v.plain = true) (hs : nodes v < 800000) : (givD v).plain = true ∧ nodes (givD v) < 900000 := by
  refine ⟨pl_giv hv, ?_⟩
  simp only [nodes, nodesL]
  omega
theorem so4 : PyData.strOk "BadSize" = true ∧ PyData.strOk "TooMany" = true ∧ PyData.strOk "NotBook" = true ∧ PyData.strOk "BadNumber" = true ∧ PyData.strOk "states" = true ∧ PyData.strOk "words" = true ∧ PyData.strOk "clauses" = true := by decide +kernel
theorem tm_ok {n : Str} {i : Int} (hn : PyData.strOk n = true) : (Dt.tup [.str n, .int i]).plain = true ∧ nodes (Dt.tup [.str n, .int i]) < 100 := by
  constructor
  · rw [Dt.plain, plains_all]
    simp [Dt.plain, hn]
  · simp [nodes, nodesL]
theorem due_side_ok {p q : Plan} (wp : Wf p) (wq : Wf q) : (dueSide p q).plain = true ∧ nodes (dueSide p q) < 900000 := by
  obtain ⟨s1, s2, s3, s4, s5, s6, s7⟩ := so4
  unfold dueSide
  split
  · exact ref_ok s1 rfl (by simp [nodes])
  split
  · exact ref_ok s2 (tm_ok s5).1 (tm_ok s5).2
  split
  · exact ref_ok s2 (tm_ok s6).1 (tm_ok s6).2
  · refine giv_ok (pl_pD _) ?_
    have h := no_pD (p := sideP p q) (c := 128) (d := 64) fun r hr => ⟨(side_rows wp wq (by omega) r hr).1, fun e he => ((side_rows wp wq (by omega) r hr).2 e he).2⟩
    have hl : (sideP p q).2.length ≤ 12 := by simp [sideP]; omega
    have := Nat.mul_le_mul_right (64 * (128 + 3) + 1) hl
    omega
theorem due_limit_ok {n m : Int} {a b : Lim} (wa : WfL n a) (wb : WfL m b) : (dueLimit a b).plain = true ∧ nodes (dueLimit a b) < 900000 := by
  obtain ⟨s1, s2, s3, s4, s5, s6, s7⟩ := so4
  unfold dueLimit
  split
  · exact ref_ok s1 rfl (by simp [nodes])
  split
  · exact ref_ok s2 (tm_ok s7).1 (tm_ok s7).2
  · refine giv_ok (pl_lD _) ?_
    have h := no_sD (s := (limP a b).2) (c := 64) fun e he => by
      simp only [limP] at he
      rcases List.mem_append.mp he with z | z
      · exact (wa.row e z).2.2.1
      · obtain ⟨c, hc, rfl⟩ := List.mem_map.mp z
        have := (wb.row c hc).2.2.1
        simp only [join_len, List.length_nil]
        omega
    have hl : (limP a b).2.length ≤ 12 := by simp [limP]; omega
    have := Nat.mul_le_mul_right (64 + 3) hl
    rw [nodes] at h
    simp only [nodes, nodesL]
    omega
theorem due_paired_ok {p q : Plan} (wp : Wf p) (wq : Wf q) : (duePaired p q).plain = true ∧ nodes (duePaired p q) < 900000 := by
  obtain ⟨s1, s2, s3, s4, s5, s6, s7⟩ := so4
  unfold duePaired
  split
  · exact ref_ok s3 rfl (by simp [nodes])
  split
  · exact ref_ok s3 rfl (by simp [nodes])
  split
  · exact ref_ok s1 rfl (by simp [nodes])
  split
  · exact ref_ok s4 rfl (by simp [nodes])
  · refine giv_ok (pl_pD _) ?_
    have h := no_pD (p := pairP p q) (c := 128) (d := 64) fun r hr => ⟨(pair_rows wp wq r hr).1, fun e he => ((pair_rows wp wq r hr).2 e he).2⟩
    have hl : (pairP p q).2.length ≤ 1 := by simp [pairP]
    have := Nat.mul_le_mul_right (64 * (128 + 3) + 1) hl
    omega
end K75
end
section
set_option maxRecDepth 20000
namespace K75
open PySem L2 EP
variable {k : Nat} {h : MH} {Q : Dt → MH → Prop} {X : Str → Fs → MH → Prop}
theorem wfL_of {n : Int} {l : Lim} (e : l.1 = n) (n60 : n ≤ 60) (hl : l.2.length ≤ 12) (hc : ∀ c ∈ l.2, ClOk n c) : WfL n l :=
  ⟨e, by omega, fun c h => ⟨(hc c h).asc, (hc c h).rng, by have := (hc c h).len; omega, (hc c h).b0⟩⟩
theorem lim_rows {n m : Int} {a b : Lim} (wa : WfL n a) (wb : WfL m b) : ∀ c ∈ (limP a b).2, c.1.Nodup ∧ c.1.length ≤ 200 := by
  intro c hc
  simp only [limP] at hc
  rcases List.mem_append.mp hc with z | z
  · exact ⟨asc_nodup (wa.row c z).1, by have := (wa.row c z).2.2.1; omega⟩
  · obtain ⟨d, hd, rfl⟩ := List.mem_map.mp z
    have w := wb.row d hd
    refine ⟨?_, by simp only [join_len, List.length_nil]; have := w.2.2.1; omega⟩
    unfold joinW
    rw [List.nil_append, List.nodup_iff_pairwise_ne, List.pairwise_map]
    refine List.Pairwise.imp ?_ w.1
    intro a b h
    omega
theorem sog : PyData.strOk "given" = true ∧ PyData.strOk "refused" = true := by decide +kernel
theorem eq_ref : oEq false (.str "refused") (.str "given") h = .ok (.bl false) h := by
  rw [eq_str sog.2 sog.1]
  have : ¬ (("refused" : Str) = "given") := by decide +kernel
  simp [this]
theorem eq_giv : oEq false (.str "given") (.str "given") h = .ok (.bl true) h := by
  rw [eq_str sog.1 sog.1]
  simp
theorem due_side_cases (p q : Plan) : (∃ n v, dueSide p q = refD n v) ∨ (dueSide p q = givD (pD (sideP p q)) ∧ p.1 + q.1 ≤ 40 ∧ (met p q).length ≤ 12 ∧ wordsIn p q ≤ 64) := by
  unfold dueSide
  split
  · exact .inl ⟨_, _, rfl⟩
  split
  · exact .inl ⟨_, _, rfl⟩
  split
  · exact .inl ⟨_, _, rfl⟩
  · exact .inr ⟨rfl, by omega, by omega, by omega⟩
theorem due_limit_cases (a b : Lim) : (∃ n v, dueLimit a b = refD n v) ∨ (dueLimit a b = givD (lD (limP a b)) ∧ a.1 + b.1 ≤ 40 ∧ a.2.length + b.2.length ≤ 12) := by
  unfold dueLimit
  split
  · exact .inl ⟨_, _, rfl⟩
  split
  · exact .inl ⟨_, _, rfl⟩
  · exact .inr ⟨rfl, by omega, by omega⟩
theorem due_paired_cases (p q : Plan) : (∃ n v, duePaired p q = refD n v) ∨ (duePaired p q = givD (pD (pairP p q)) ∧ p.2.length = 1 ∧ q.2.length = 1 ∧ (bookRow p).length = (bookRow q).length) := by
  unfold duePaired
  split
  · exact .inl ⟨_, _, rfl⟩
  split
  · exact .inl ⟨_, _, rfl⟩
  split
  · exact .inl ⟨_, _, rfl⟩
  split
  · exact .inl ⟨_, _, rfl⟩
  · exact .inr ⟨rfl, by omega, by omega, by omega⟩
theorem greatest_even_wp {p : Plan} (wp : Pw p) (q : ∀ h', h <+: h' → Q (gapD (sizesOf p)) h') : EP.WE (callK D (k + 4) i_greatest_even [pD p] h) Q X := wp_val (greatest_even wp) q
theorem law_ge_wp {p : Plan} (wp : Pw p) (q : ∀ h', h <+: h' → Q (gapD (sizesOf p)) h') : EP.WE (callK D (k + 3) i_law_greatest_even [pD p] h) Q X := law_greatest_even wp q
theorem gap_cases (ns : List Nat) : gapD ns = .non ∨ ∃ g : Int, gapD ns = .int g := by
  rcases gap_int (ns := ns) with e | ⟨g, e, _⟩
  · exact .inl e
  · exact .inr ⟨g, e⟩
theorem law_sides_hold {p q : Plan} {a b : Lim} (kp : PlK p) (kq : PlK q) (ea : a.1 = p.1) (eb : b.1 = q.1) (la : a.2.length ≤ 12) (lb : b.2.length ≤ 12) (ca : ∀ c ∈ a.2, ClOk p.1 c) (cb : ∀ c ∈ b.2, ClOk q.1 c)
    (qq : ∀ h', h <+: h' → Q (.bl true) h') : EP.WE (callK D (k + 7) i_law_sides_hold [pD p, pD q, lD a, lD b] h) Q X := by
  refine call_wp (md := D_law_sides_hold) rfl rfl fun O oN oQ oX => ?_
  have wp := plK_wf kp
  have wq := plK_wf kq
  have wa := wfL_of ea kp.n60 la ca
  have wb := wfL_of eb kq.n60 lb cb
  simp [m_law_sides_hold, -tOr_s, -tAnd_s]
  refine law_ask_side (k := k + 1) wp wq fun h1 p1 => ?_
  try simp [-tOr_s, -tAnd_s]
  refine law_ask_limit (k := k + 1) wa wb kp.n1 kq.n1 fun h2 p2 => ?_
  have so := due_side_ok wp wq
  have lo := due_limit_ok wa wb
  try simp
  refine law_due_side wp wq fun h3 p3 => ?_
  try simp
  refine law_same so.1 so.2 fun h4 p4 => ?_
  try simp
  refine law_due_limit wa wb fun h5 p5 => ?_
  try simp
  refine law_same lo.1 lo.2 fun h6 p6 => ?_
  have pr6 := p1.trans (p2.trans (p3.trans (p4.trans (p5.trans p6))))
  -- what stands behind the first two questions
  have tail : ∀ h', h6 <+: h' → ∀ x6 x7 x8, Run (callK D (k + 6)) O [sSeq (sIf (tBl (eOp (oEq false) (eOp oGet (eVar 4) (eC (.int 0))) (eC (.str "given")))) (sSeq (sSet (.nm 7) (eLc (iSeq (eLst (aCons (eCall i_law_greatest_even (aCons (eVar 0) aNil)) (aCons (eCall i_law_greatest_even (aCons (eVar 1) aNil)) aNil)))) (.nm 8) (tBl (eOp (oIs true) (eVar 8) (eC .non))) (eVar 8) [8]))
      (sSeq (sIf (tBl (eOp (oEq false) (eBf bLen (aCons (eVar 7) aNil)) (eC (.int 0)))) (sRet (eOp (oIs false) (eCall i_greatest_even (aCons (eOp oGet (eVar 4) (eC (.int 1))) aNil)) (eC .non))) sSkip)
      (sRet (eCall i_law_same (aCons (eCall i_greatest_even (aCons (eOp oGet (eVar 4) (eC (.int 1))) aNil)) (aCons (eBf bMin (aCons (eVar 7) aNil)) aNil)))))) sSkip)
      (sRet (eC (.bl true)))] (.nx [some (pD p), some (pD q), some (lD a), some (lD b), some (dueSide p q), some (dueLimit a b), x6, x7, x8] h') := by
    intro h' p' x6 x7 x8
    rcases due_side_cases p q with ⟨n, v, e⟩ | ⟨e, c1, c2, c3⟩
    · rw [e]
      simp [eq_ref]
      exact oQ _ _ (qq _ (pr6.trans p'))
    · rw [e]
      simp [eq_giv]
      refine lc_it ?_
      simp
      refine law_ge_wp (wf_pw wp) fun h7 p7 => ?_
      try simp
      refine law_ge_wp (wf_pw wq) fun h8 p8 => ?_
      have jw := side_Pw wp wq c2 c3
      rw [itOf_lst (new_get h8 _)]
      simp only [we_ok]
      refine lc_wp (f := fun d : Dt => d) (xs := [gapD (sizesOf p), gapD (sizesOf q)]) (h1 := h8 ++ [.lst [gapD (sizesOf p), gapD (sizesOf q)]]) rfl (hi_lst (n := h8.length) (xs := [gapD (sizesOf p), gapD (sizesOf q)]) fun h' t => pre_get t (new_get h8 _)) (fun d => match d with | .non => false | _ => true) (fun d => d) (by rw [sizeLine_eq]; simp) ?_ ?_
      · intro d hd
        refine ⟨_, rfl, fun h' pr => ?_⟩
        have hd' : d = .non ∨ ∃ g : Int, d = .int g := by
          simp at hd
          rcases hd with rfl | rfl <;> exact gap_cases _
        rcases hd' with rfl | ⟨g, rfl⟩
        · simp
        · simp
      · intro h9 p9 e9
        have pr9 := pr6.trans (p'.trans (p7.trans (p8.trans ((pre_app _ _).trans p9))))
        have hga := gap_app (sizesOf p) (sizesOf q)
        simp only [List.map_id'] at e9
        have hmin : ∀ {n : Nat} {ns : List Int}, h9[n]? = some (.lst (ns.map Dt.int)) → ns ≠ [] → bMin [.loc n] h9 = .ok (.int (minL ns)) h9 := fun e ne => min_lst e ne
        have fin : ∀ {d : Dt}, gapD (sizesOf p ++ sizesOf q) = d → d.plain = true → nodes d = 1 → ∀ h' : MH, h9 <+: h' → ∀ {X' : Str → Fs → MH → Prop}, EP.WE (callK D (k + 6) i_law_same [gapD (sizesOf (sideP p q)), d] h') (fun d h => O.Q d h) X' := by
          intro d e pl no h' pr X'
          rw [side_gap kp kq, e]
          exact law_same pl (by omega) fun h2 p2 => oQ _ _ (qq _ (pr9.trans (pr.trans p2)))
        rcases gap_cases (sizesOf p) with e1 | ⟨g1, e1⟩ <;> rcases gap_cases (sizesOf q) with e2 | ⟨g2, e2⟩
        · rw [e1, e2] at e9 hga
          simp at e9
          simp [len_lst e9]
          refine greatest_even_wp jw fun h10 p10 => ?_
          rw [side_gap kp kq, hga]
          simp
          exact oQ _ _ (qq _ (pr9.trans p10))
        · rw [e1, e2] at e9 hga
          simp at e9
          simp [len_lst e9]
          refine greatest_even_wp jw fun h10 p10 => ?_
          simp [min_lst (ns := [g2]) (pre_get p10 e9) (by simp)]
          exact fin (by rw [hga]; rfl) rfl rfl h10 p10
        · rw [e1, e2] at e9 hga
          simp at e9
          simp [len_lst e9]
          refine greatest_even_wp jw fun h10 p10 => ?_
          simp [min_lst (ns := [g1]) (pre_get p10 e9) (by simp)]
          exact fin (by rw [hga]; rfl) rfl rfl h10 p10
        · rw [e1, e2] at e9 hga
          simp at e9
          simp [len_lst e9]
          refine greatest_even_wp jw fun h10 p10 => ?_
          simp [min_lst (ns := [g1, g2]) (pre_get p10 e9) (by simp)]
          exact fin (by rw [hga]; rfl) rfl rfl h10 p10
  try simp [-tAnd_s]
  rcases due_side_cases p q with ⟨n, v, e⟩ | ⟨e, c1, c2, c3⟩
  · rw [e] at tail ⊢
    rw [tAnd_ok (x := false) (y := false) (by simp [eq_ref]) (by simp)]
    simp only [we_ok]
    rw [if_neg (by simp)]
    exact tail _ (pre_refl _) _ _ _
  rcases due_limit_cases a b with ⟨n2, v2, e2⟩ | ⟨e2, d1, d2⟩
  · rw [e, e2] at tail ⊢
    rw [tAnd_ok (x := true) (y := false) (by simp [eq_giv]) (by simp [eq_ref])]
    simp only [we_ok]
    rw [if_neg (by simp)]
    exact tail _ (pre_refl _) _ _ _
  · rw [e, e2] at tail ⊢
    rw [tAnd_ok (x := true) (y := true) (by simp [eq_giv]) (by simp [eq_giv])]
    simp only [we_ok]
    rw [if_pos (by simp)]
    simp [-run_nx, -eAnd_s]
    have jw := side_Pw wp wq c2 c3
    have b1 := bars_nil (wf_pw wp) ca
    have b2 := bars_nil (wf_pw wq) cb
    have sr := side_right kp kq ca cb ea
    have ir : ∀ h', ∃ h'', callK D (k + 6) i_is_right [pD (sideP p q), lD (limP a b)] h' = .ok (.bl ((ppairs (sideP p q)).all fun t => !fits (limP a b).2 t.2.2.2)) h'' ∧ h' <+: h'' := fun h' =>
      is_right (k := k + 1) jw (by simp [sideP, limP, ea, eb]) (by simp [limP]; omega) (lim_rows wa wb)
    have ij : (ppairs (sideP p q)).all (fun t => !fits (limP a b).2 t.2.2.2) = true ↔ (∀ t ∈ ppairs (sideP p q), fits (limP a b).2 t.2.2.2 = false) := by
      rw [List.all_eq_true]
      simp
    generalize (∀ t ∈ ppairs p, fits a.2 t.2.2.2 = false) = PA at b1 sr
    generalize (∀ t ∈ ppairs q, fits b.2 t.2.2.2 = false) = PB at b2 sr
    refine WE.monoQ (Q := fun d h' => h6 <+: h' ∧ ∃ g : Bool, d = .bl g ∧ (g = true ↔ PA ∧ PB)) ?_ ?_
    · simp [-run_nx]
      refine law_bars (wf_pw wp) ⟨by have := kp.n1; omega, by have := kp.n60; omega⟩ (fun c hc => ⟨by have := (wa.row c hc).2.2.1; omega, (wa.row c hc).2.1⟩) fun h7 p7 => ?_
      generalize (((ppairs p).filter fun t => withinB a.2 (lotOf p.1 t.2.2.2)).map fun t => Dt.tup [.int (t.1 : Nat), .int (t.2.1 : Nat), .int (t.2.2.1 : Nat)]) = B1 at b1 ⊢
      rcases B1 with _ | ⟨x, B1⟩
      · simp
        refine law_bars (wf_pw wq) ⟨by have := kq.n1; omega, by have := kq.n60; omega⟩ (fun c hc => ⟨by have := (wb.row c hc).2.2.1; omega, (wb.row c hc).2.1⟩) fun h8 p8 => ?_
        generalize (((ppairs q).filter fun t => withinB b.2 (lotOf q.1 t.2.2.2)).map fun t => Dt.tup [.int (t.1 : Nat), .int (t.2.1 : Nat), .int (t.2.2.1 : Nat)]) = B2 at b2 ⊢
        have b1' := b1.mp rfl
        simp
        refine ⟨p7.trans p8, ?_⟩
        have b2' : B2 = [] ↔ PB := by rw [← b2]; simp
        by_cases hB : B2 = []
        · have := b2'.mp hB
          simp [hB, b1', this]
        · have : ¬ PB := fun z => hB (b2'.mpr z)
          simp [hB, b1', this]
      · have hn : ¬ PA := fun z => by have := b1.mpr z; simp at this
        have hl : ¬ ((B1.length : Int) + 1 = 0) := by omega
        simp [hl, hn, p7]
    · rintro d h' ⟨pr, g, rfl, hg⟩
      obtain ⟨h8, e8, p8⟩ := ir h'
      have hgg : (ppairs (sideP p q)).all (fun t => !fits (limP a b).2 t.2.2.2) = g := by
        rw [Bool.eq_iff_iff, ij, sr, hg]
      rw [hgg] at e8
      have t8 := tail
      simp [e8]
      refine law_same rfl (by simp [nodes]) fun h9 p9 => ?_
      have t9 := tail _ (pr.trans (p8.trans p9)) (some (.bl g)) none none
      simpa using t9
end K75
end
section
set_option maxRecDepth 20000
namespace K75
open PySem L2 EP
variable {k : Nat} {h : MH} {Q : Dt → MH → Prop} {X : Str → Fs → MH → Prop}
theorem get3i {a b c d : Dt} : oGet (.tup [a, b, c, d]) (.int 3) h = .ok d h := rfl
theorem law_pairs_hold {p q : Plan} (kp : PlK p) (kq : PlK q) (qq : ∀ h', h <+: h' → Q (.bl true) h') : EP.WE (callK D (k + 8) i_law_pairs_hold [pD p, pD q] h) Q X := by
  refine call_wp (md := D_law_pairs_hold) rfl rfl fun O oN oQ oX => ?_
  have wp := plK_wf kp
  have wq := plK_wf kq
  simp [m_law_pairs_hold]
  refine law_ask_paired (k := k) wp wq fun h1 p1 => ?_
  have po := due_paired_ok wp wq
  try simp
  refine law_due_paired wp wq fun h2 p2 => ?_
  try simp
  refine law_same po.1 po.2 fun h3 p3 => ?_
  have pr3 := p1.trans (p2.trans p3)
  try simp
  rcases due_paired_cases p q with ⟨n, v, e⟩ | ⟨e, c1, c2, c3⟩
  · rw [e]
    simp [eq_ref]
    exact oQ _ _ (qq _ pr3)
  rw [e]
  simp [eq_giv]
  refine law_pairs (wf_pw wp) fun h4 a p4 ha e4 => ?_
  try simp
  refine law_pairs (wf_pw wq) fun h5 b p5 hb e5 => ?_
  have e4' := pre_get p5 e4
  have sz := paired_sizes wp wq c1 c2 c3
  have pl := ppairs_len (wf_pw wp)
  have jw := pair_Pw wp wq
  have hlen : (ppairs q).length = (ppairs p).length := by
    obtain ⟨A, hA⟩ := List.length_eq_one_iff.mp c1
    obtain ⟨B, hB⟩ := List.length_eq_one_iff.mp c2
    have e1 : p = (p.1, [A]) := by rw [← hA]
    have e2 : q = (q.1, [B]) := by rw [← hB]
    have c3' : List.length A = List.length B := by rw [bookRow, bookRow, hA, hB] at c3; exact c3
    rw [e1, e2, ppairs_book, ppairs_book, List.length_map, List.length_map, c3']
  have pr5 := pr3.trans (p4.trans p5)
  simp [len_lst e4']
  refine run_ite (fun hne => ?_) (fun hne => ?_)
  · simp
    refine lc_it (iRg1_wp ?_)
    simp [len_lst e4']
    refine ⟨by unfold Sm; omega, ?_⟩
    refine lc_wpm (f := fun i : Nat => Dt.int (i : Nat)) (xs := List.range (ppairs p).length) rfl hi_rng0 (fun i => .int ((((ppairs p).getD i (0, 0, 0, [])).2.2.2.length : Int) + (((ppairs q).getD i (0, 0, 0, [])).2.2.2.length : Int))) (by rw [sizeLine_eq, List.length_range]; omega) ?_ ?_
    · intro i hi
      have hi := List.mem_range.mp hi
      have hi2 : i < (ppairs q).length := by omega
      refine ⟨_, rfl, fun h' pr => ?_⟩
      have g1 : oGet (.loc a) (.int (i : Nat)) h' = .ok (t4D (ppairs p)[i]) h' := get_lst (pre_get pr e4') (by omega) (by simp [hi])
      have g2 : oGet (.loc b) (.int (i : Nat)) h' = .ok (t4D (ppairs q)[i]) h' := get_lst (pre_get pr e5) (by omega) (by simp [hi2])
      simp [g1, g2, get3i, hi, hi2]
    · intro h6 p6 e6
      have e6' : h6[h5.length]? = some (.lst (((sizesOf (pairP p q)).map fun (n : Nat) => (n : Int)).map Dt.int)) := by
        rw [e6, sz, List.map_map, List.map_map]
        congr 3
      have hsn : sizesOf (pairP p q) ≠ [] := by
        rw [sz]
        intro z
        have := congrArg List.length z
        simp at this
        rw [this] at hne
        simp at hne
      rw [min_lst e6' (by simpa using hsn)]
      simp
      refine greatest_even_wp jw fun h7 p7 => ?_
      have hg : gapD (sizesOf (pairP p q)) = .int (minL ((sizesOf (pairP p q)).map fun (n : Nat) => (n : Int)) - 1) := if_neg hsn
      rw [hg]
      try simp
      exact law_same rfl (by simp [nodes]) fun h8 p8 => oQ _ _ (qq _ (pr5.trans (p6.trans (p7.trans p8))))
  · have h0 : ppairs p = [] := by
      apply List.length_eq_zero_iff.mp
      omega
    simp
    refine greatest_even_wp jw fun h7 p7 => ?_
    have hg : gapD (sizesOf (pairP p q)) = .non := by rw [sz, h0]; rfl
    rw [hg]
    try simp
    exact law_same rfl (by simp [nodes]) fun h8 p8 => oQ _ _ (qq _ (pr5.trans (p7.trans p8)))
theorem lens_sum {p : Plan} (kp : PlK p) : 0 ≤ (p.2.map fun r => ((List.length r : Nat) : Int)).sum ∧ (p.2.map fun r => ((List.length r : Nat) : Int)).sum ≤ 100000 := by
  have w := plK_wf kp
  have h1 := w.c12
  have key : ∀ l : List Row, (∀ r ∈ l, r.length ≤ 64) → 0 ≤ (l.map fun r => ((List.length r : Nat) : Int)).sum ∧ (l.map fun r => ((List.length r : Nat) : Int)).sum ≤ l.length * 64 := by
    intro l
    induction l with
    | nil => intro _; simp
    | cons a r ih =>
      intro h
      have := ih fun x hx => h x (by simp [hx])
      have := h a (by simp)
      simp only [List.map_cons, List.sum_cons, List.length_cons]
      omega
  have := key p.2 fun r hr => (w.row r hr).2.1
  omega
theorem hT (ns : List Int) (hl : ns.length ≤ 63) : ∃ h', callK D 61 69 [.loc 0] [.fro (ns.map .int)] = .ok (.bl true) h' := by
  have W : EP.WE (callK D 61 69 [.loc 0] [.fro (ns.map .int)]) (fun d _ => d = .bl true) noX := by
    refine call_wp (k := 60) (md := D_law) rfl rfl fun O oN oQ oX => ?_
    simp [m_law, -sIf_s]
    refine law_store (ns := ns) rfl hl fun n h0 s0 => ?_
    generalize hm : h0.length = m at s0
    have hm : m ≤ h0.length := by omega
    try simp [-sIf_s]
    refine law_two_plans s0 hm fun p q h1 k1 kp kq => ?_
    have wp := plK_wf kp
    have wq := plK_wf kq
    have l1 := k1.len
    have p60 := kp.n60
    have q60 := kq.n60
    have p01 := kp.n1
    have q01 := kq.n1
    try simp [-sIf_s]
    refine law_any_limit k1.st (by omega) (wf_pw wp) kp.n1 kp.n60 fun a h2 k2 ea ca la => ?_
    have l2 := k2.len
    try simp [-sIf_s]
    refine law_any_limit k2.st (by omega) (wf_pw wq) kq.n1 kq.n60 fun b h3 k3 eb cb lb => ?_
    have l3 := k3.len
    try simp [-sIf_s]
    refine run_join (J := fun ρ h' => Kp m n h3 h' ∧ ∃ (a b : Lim) (x6 : Option Dt), a.1 = p.1 ∧ b.1 = q.1 ∧ a.2.length ≤ 12 ∧ b.2.length ≤ 12 ∧ (∀ c ∈ a.2, ClOk p.1 c) ∧ (∀ c ∈ b.2, ClOk q.1 c) ∧ ρ = [some (.loc 0), some (.loc n), some (pD p), some (pD q), some (lD a), some (lD b), x6, none, none, none, none]) (fun O' w1 w2 w3 w4 w5 => ?_) ?_
    · simp
      refine law_take k3.st (by omega) (lt200 (by omega)) fun r1 h4 k4 r10 r11 => ?_
      have l4 := k4.len
      try simp
      refine run_ite (fun hb => ?_) (fun hb => ?_)
      · simp
        refine law_take k4.st (by omega) (lt200 (by omega)) fun c h5 k5 c0 c1 => ?_
        have c1 := c1 (by omega)
        have l5 := k5.len
        try simp
        refine law_many_clauses k5.st (by omega) (by omega) (by omega) c0 (by omega) fun a2 h6 k6 ea2 ca2 la2 => ?_
        have l6 := k6.len
        try simp
        refine law_take k6.st (by omega) (lt200 (by omega)) fun r2 h7 k7 r20 r21 => ?_
        have r21 := r21 (by omega)
        have l7 := k7.len
        have hmin : ∀ a b : Int, bMin [.int a, .int b] = fun h => RE.ok (.int (if b < a then b else a)) h := fun _ _ => rfl
        simp [hmin]
        have hT : 0 ≤ (if 12 - c + r2 < 12 then 12 - c + r2 else 12) ∧ (if 12 - c + r2 < 12 then 12 - c + r2 else 12) ≤ 12 := by split <;> omega
        generalize (if 12 - c + r2 < 12 then 12 - c + r2 else 12) = T at hT
        refine law_many_clauses k7.st (by omega) (by omega) (by omega) hT.1 (by omega) fun b2 h8 k8 eb2 cb2 lb2 => ?_
        try simp
        exact w1 _ _ ⟨k4.trans (k5.trans (k6.trans (k7.trans k8))), a2, b2, _, ea2, eb2, by omega, by omega, ca2, cb2, rfl⟩
      · rw [run_nx0]
        exact w1 _ _ ⟨k4, a, b, _, ea, eb, la, lb, ca, cb, rfl⟩
    rintro ρ h4 ⟨k4, a, b, x6, ea, eb, la, lb, ca, cb, rfl⟩
    have l4 := k4.len
    simp
    refine law_sides_hold kp kq ea eb la lb ca cb fun h5 p5 => ?_
    have k5 := Kp.pre k4.st p5
    have l5 := k5.len
    try simp
    refine law_two_books k5.st (by omega) fun u v h6 k6 ku kv => ?_
    try simp
    refine law_pairs_hold ku kv fun h7 p7 => ?_
    try simp
    refine law_pairs_hold kp kq fun h8 p8 => ?_
    try simp
    refine lc_it ?_
    simp
    have s1 := lens_sum kp
    have s2 := lens_sum kq
    refine lc_wpm (f := sD) (xs := p.2) rfl hi_tup (fun r => .int ((List.length r : Nat) : Int)) (by rw [sizeLine_eq]; have := wp.c12; omega) (fun r hr => ⟨_, rfl, fun h' pr => by simp⟩) fun h9 p9 e9 => ?_
    have e9' : h9[h8.length]? = some (.lst ((p.2.map fun r => ((List.length r : Nat) : Int)).map Dt.int)) := by rw [e9, List.map_map]; rfl
    simp [sum_lst e9']
    refine lc_it ?_
    simp
    refine lc_wpm (f := sD) (xs := q.2) rfl hi_tup (fun r => .int ((List.length r : Nat) : Int)) (by rw [sizeLine_eq]; have := wq.c12; omega) (fun r hr => ⟨_, rfl, fun h' pr => by simp⟩) fun h10 p10 e10 => ?_
    have e10' : h10[h9.length]? = some (.lst ((q.2.map fun r => ((List.length r : Nat) : Int)).map Dt.int)) := by rw [e10, List.map_map]; rfl
    simp [sum_lst e10', -tAnd_s]
    rw [mul_l (by omega) (by omega)]
    simp [-tAnd_s]
    have so := due_side_ok wp wq
    by_cases hs : (p.2.map fun r => ((List.length r : Nat) : Int)).sum * (q.2.map fun r => ((List.length r : Nat) : Int)).sum < 40
    · simp [hs]
      refine law_sides_hold kq kp eb ea lb la cb ca fun h11 p11 => ?_
      try simp
      refine law_ask_side (k := 55) wp wq fun h12 p12 => ?_
      try simp
      refine law_due_side (k := 58) wp wq fun h13 p13 => ?_
      try simp
      exact law_same so.1 so.2 fun h14 p14 => oQ _ _ rfl
    · simp [hs]
      refine law_ask_side (k := 55) wp wq fun h12 p12 => ?_
      try simp
      refine law_due_side (k := 58) wp wq fun h13 p13 => ?_
      try simp
      exact law_same so.1 so.2 fun h14 p14 => oQ _ _ rfl
  obtain ⟨d, h', e, rfl⟩ := W.run
  exact ⟨h', e⟩
end K75
end
theorem PySem.Challenge.cw_earlypulses_k75_side_by_side_holds : PySem.Challenge.rw_earlypulses_k75_side_by_side.Holds :=
  K75.holds K75.hT
