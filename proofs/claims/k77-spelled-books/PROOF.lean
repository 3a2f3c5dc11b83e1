import PyProof.Rows.All
import Wide.All
import OpenK.AllK
import Wide.FinOn
import HandS.ForMost
import HandS.IsInst
import HandS.Exc
import HandS.TryOnly
import HandS.TryMany
import HandS.ExcOwn
import HandS.ExcInit
import HandS.ExcField
import HandS.ExcIs
import HandS.CallSlots
import HandS.Defaults
import HandS.Wide
import HandS.Deep
import HandS.DictComp
import HandS.Conv
import HandS.Zip
import HandS.TupAny
import HandS.Flow
import HandS.WordsDict
import HandS.More
import HandS.SetFor
import HandS.Flt
import KE.GoesMore
import KE.GoesEnum
import PyProof.ExcBaseAll.ValueError
import KE.KExcIs
import KE.KStateDown
import HandS.Words
import HandS.WordsExc
import HandS.Head0
import HandS.Head1
import HandS.Head2
import HandS.HeadEnd
import HandS.HeadHook1
import HandS.HeadHook2
import Lean
import PySem.Challenge.RW_earlypulses_k77_spelled_books
set_option Elab.async false
set_option linter.all false
set_option maxHeartbeats 4000000
section
/-! Mid: data, symbolic heaps, the meaning of the program's forms as plain functions. -/
namespace EP
open PySem L2

/-- data: tuples by value, lists, dicts and objects by a symbolic address -/
inductive Dt where
  | non | bl (b : Bool) | int (i : Int) | str (x : Str) | tup (ds : List Dt) | loc (n : Nat)
/-- what stands at a symbolic address; fro: read, never written -/
inductive MO where
  | lst (xs : List Dt) | fro (xs : List Dt) | dK (kvs : List (Key × Dt)) | dT (kvs : List (List Key × Dt))
  | ins (C : Str) (fs : List (Str × Dt))
  | set (ns : List Int)
abbrev MH := List MO
abbrev Fs := List (Str × Dt)
inductive RE (α : Type) where
  | ok (a : α) (h : MH) | ex (C : Str) (fs : Fs) (h : MH) | bad
abbrev M (α : Type) := MH → RE α
abbrev Env := List (Option Dt)
inductive RS where
  | nx (ρ : Env) (h : MH) | rt (d : Dt) (h : MH) | bk (ρ : Env) (h : MH) | ct (ρ : Env) (h : MH) | ex (C : Str) (fs : Fs) (ρ : Env) (h : MH) | bad
/-- the defs, by number -/
abbrev Orc := Nat → List Dt → M Dt
abbrev SE := Orc → Env → M Dt
abbrev ST := Orc → Env → M Bool
abbrev SA := Orc → Env → M (List Dt)
abbrev SS := Orc → Env → MH → RS

def bnd {α β : Type} (m : RE α) (f : α → MH → RE β) : RE β := match m with
  | .ok a h => f a h
  | .ex C fs h => .ex C fs h
  | .bad => .bad
/-- an expression within a statement -/
def bndS {α : Type} (ρ : Env) (m : RE α) (f : α → MH → RS) : RS := match m with
  | .ok a h => f a h
  | .ex C fs h => .ex C fs ρ h
  | .bad => .bad

/-! ### data -/
mutual
def Dt.py : Dt → PyData
  | .non => .none | .bl b => .bool b | .int i => .int i | .str x => .str x | .tup ds => .tuple (pys ds) | .loc _ => .dict []
def pys : List Dt → List PyData
  | [] => []
  | d :: r => d.py :: pys r
end
mutual
/-- no address within, texts in order -/
def Dt.plain : Dt → Bool
  | .non => true | .bl _ => true | .int _ => true | .str x => PyData.strOk x | .tup ds => plains ds | .loc _ => false
def plains : List Dt → Bool
  | [] => true
  | d :: r => d.plain && plains r
end
mutual
def Dt.dep : Dt → Nat
  | .tup ds => deps ds + 1
  | _ => 0
def deps : List Dt → Nat
  | [] => 0
  | d :: r => max d.dep (deps r)
end
def Dt.eqOk (d : Dt) : Bool := d.plain && decide (d.dep ≤ 60)
def eqv (a b : Dt) : Bool := PyData.eqv a.py b.py
def toKey : Dt → Option Key
  | .int i => some (.inl i)
  | .str x => some (.inr x)
  | _ => none
def toKeyL : List Dt → Option (List Key)
  | [] => some []
  | d :: r => match toKey d, toKeyL r with
    | some k, some ks => some (k :: ks)
    | _, _ => none
def toKeys : Dt → Option (List Key)
  | .tup ds => toKeyL ds
  | _ => none

/-! ### heaps -/
/-- a list that may be read -/
def getL (h : MH) (n : Nat) : Option (List Dt) := match h[n]? with
  | some (.lst xs) => some xs
  | some (.fro xs) => some xs
  | _ => none
/-- a list's or a tuple's items -/
def seqOf (h : MH) : Dt → Option (List Dt)
  | .tup xs => some xs
  | .loc n => getL h n
  | _ => none
def truth (d : Dt) (h : MH) : RE Bool := match d with
  | .non => .ok false h
  | .bl b => .ok b h
  | .int i => .ok (i != 0) h
  | .str x => if x.length ≤ sizeLine then .ok ((x.length : Int) != 0) h else .bad
  | .tup ds => .ok (!ds.isEmpty) h
  | .loc n => match h[n]? with
    | some (.lst xs) => .ok (!xs.isEmpty) h
    | some (.fro xs) => .ok (!xs.isEmpty) h
    | some (.dK kvs) => .ok (!kvs.isEmpty) h
    | _ => .bad
def newL (xs : List Dt) (h : MH) : RE Dt := if xs.length ≤ sizeLine then .ok (.loc h.length) (h ++ [.lst xs]) else .bad
def newT (xs : List Dt) (h : MH) : RE Dt := if xs.length ≤ sizeLine then .ok (.tup xs) h else .bad

/-! ### operators -/
def lim64 : Int := 18446744073709551616
def lim200 : Int := 1606938044258990275541962092341162602522202993782792835301376
def lim62 : Int := 4611686018427387904
abbrev Op2 := Dt → Dt → MH → RE Dt
def oAdd : Op2
  | .int i, .int j, h => .ok (.int (i + j)) h
  | .tup a, .tup b, h => newT (a ++ b) h
  | .loc m, .loc n, h => match h[m]?, h[n]? with
    | some (.lst a), some (.lst b) => newL (a ++ b) h
    | _, _ => .bad
  | _, _, _ => .bad
def oSub : Op2
  | .int i, .int j, h => .ok (.int (i - j)) h
  | _, _, _ => .bad
/-- += on ints -/
def oAddI : Op2
  | .int i, .int j, h => .ok (.int (i + j)) h
  | _, _, _ => .bad
def oMul : Op2
  | .int i, .int j, h => if ((-lim64 < i ∧ i < lim64) ∨ (-lim64 < j ∧ j < lim64)) ∨ (-lim200 < i ∧ i < lim200 ∧ -lim200 < j ∧ j < lim200) then .ok (.int (i * j)) h else .bad
  | .loc m, .int k, h => match h[m]? with
    | some (.lst xs) => if k < lim62 ∧ -lim62 ≤ k then newL (List.replicate k.toNat xs).flatten h else .bad
    | _ => .bad
  | _, _, _ => .bad
def oFdiv : Op2
  | .int i, .int j, h => if 0 < j ∧ j < lim200 then .ok (.int (i / j)) h else .bad
  | _, _, _ => .bad
def oMod : Op2
  | .int i, .int j, h => if 0 < j then .ok (.int (i % j)) h else .bad
  | _, _, _ => .bad
def oPow : Op2
  | .int i, .int j, h => if 0 ≤ j ∧ j ≤ 1000000 ∧ -lim64 < i ∧ i < lim64 then .ok (.int (i ^ j.toNat)) h else .bad
  | _, _, _ => .bad
def oCmp (p : Int → Int → Bool) : Op2
  | .int i, .int j, h => .ok (.bl (p i j)) h
  | _, _, _ => .bad
def oLt : Op2 := oCmp fun i j => decide (i < j)
def oLe : Op2 := oCmp fun i j => decide (i ≤ j)
def oGt : Op2 := oCmp fun i j => decide (j < i)
def oGe : Op2 := oCmp fun i j => decide (j ≤ i)
/-- two things' contents, told apart by what they are -/
def eqL (neg : Bool) (xs ys : List Dt) (h : MH) : RE Dt := if (Dt.tup xs).eqOk = true ∧ (Dt.tup ys).eqOk = true then .ok (.bl (if neg then !eqv (.tup xs) (.tup ys) else eqv (.tup xs) (.tup ys))) h else .bad
def oEq (neg : Bool) : Op2
  | .loc m, .loc n, h => match getL h m, getL h n with
    | some xs, some ys => eqL neg xs ys h
    | _, _ => .bad
  | a, b, h => if a.eqOk = true ∧ b.eqOk = true then .ok (.bl (if neg then !eqv a b else eqv a b)) h else .bad
def oIs (neg : Bool) : Op2
  | .non, .non, h => .ok (.bl (!neg)) h
  | _, .non, h => .ok (.bl neg) h
  | _, _, _ => .bad
def Dt.flat : Dt → Bool
  | .non => true | .bl _ => true | .int _ => true | .str _ => true | _ => false
/-- a in b: a tuple of flat things, a list, a dict -/
def oIn (neg : Bool) : Op2
  | a, .tup ds, h => if a.flat = true ∧ ds.all Dt.flat = true then .ok (.bl (if neg then !ds.any (fun z => eqv z a) else ds.any fun z => eqv z a)) h else .bad
  | a, .loc n, h => match h[n]? with
    | some (.lst ds) => if a.eqOk = true ∧ (Dt.tup ds).eqOk = true then .ok (.bl (if neg then !ds.any (fun z => eqv z a) else ds.any fun z => eqv z a)) h else .bad
    | some (.dK kvs) => match toKey a with
      | some k => .ok (.bl (if neg then !(kvs.any fun kv => decide (kv.1 = k)) else kvs.any fun kv => decide (kv.1 = k))) h
      | none => .bad
    | some (.dT kvs) => match toKeys a with
      | some k => .ok (.bl (if neg then !(kvs.any fun kv => decide (kv.1 = k)) else kvs.any fun kv => decide (kv.1 = k))) h
      | none => .bad
    | some (.set ns) => match a with
      | .int i => .ok (.bl (if neg then !decide (i ∈ ns) else decide (i ∈ ns))) h
      | _ => .bad
    | _ => .bad
  | _, _, _ => .bad
def getK {κ : Type} [DecidableEq κ] (kvs : List (κ × Dt)) (k : κ) : Option Dt := (kvs.find? fun kv => decide (kv.1 = k)).map (·.2)
def setK {κ : Type} [DecidableEq κ] (kvs : List (κ × Dt)) (k : κ) (v : Dt) : List (κ × Dt) :=
  if (kvs.any fun kv => decide (kv.1 = k)) = true then kvs.map (fun kv => if kv.1 = k then (kv.1, v) else kv) else kvs ++ [(k, v)]
def oGet : Op2
  | .tup ds, .int i, h => match atI ds i with
    | some d => .ok d h
    | none => .bad
  | .loc n, i, h => match h[n]? with
    | some (.dK kvs) => match (toKey i).bind (getK kvs) with
      | some d => .ok d h
      | none => .bad
    | some (.dT kvs) => match (toKeys i).bind (getK kvs) with
      | some d => .ok d h
      | none => .bad
    | _ => match i, getL h n with
      | .int i, some xs => match atI xs i with
        | some d => .ok d h
        | none => .bad
      | _, _ => .bad
  | _, _, _ => .bad
def cutD (xs : List Dt) (lo hi : Option Int) : List Dt := (xs.drop (HT.sIx xs.length 0 lo)).take (HT.sIx xs.length xs.length hi - HT.sIx xs.length 0 lo)
def oCut (d : Dt) (lo hi : Option Int) (h : MH) : RE Dt := match d with
  | .tup xs => .ok (.tup (cutD xs lo hi)) h
  | .loc n => match getL h n with
    | some xs => .ok (.loc h.length) (h ++ [.lst (cutD xs lo hi)])
    | none => .bad
  | _ => .bad
/-- o[i] = v -/
def oSet (o i v : Dt) (h : MH) : Option MH := match o with
  | .loc n => match h[n]? with
    | some (.lst xs) => match i with
      | .int k => (ixN xs.length k).map fun j => h.set n (.lst (xs.set j v))
      | _ => none
    | some (.dK kvs) => match toKey i with
      | some k => if kvs.length < sizeLine then some (h.set n (.dK (setK kvs k v))) else none
      | none => none
    | some (.dT kvs) => match toKeys i with
      | some k => if kvs.length < sizeLine then some (h.set n (.dT (setK kvs k v))) else none
      | none => none
    | _ => none
  | _ => none

/-! ### built-in functions -/
def intsOf : List Dt → Option (List Int)
  | [] => some []
  | .int i :: r => (intsOf r).map (i :: ·)
  | _ => none
def blsOf : List Dt → Option (List Bool)
  | [] => some []
  | .bl i :: r => (blsOf r).map (i :: ·)
  | _ => none
def minL : List Int → Int
  | [] => 0
  | [a] => a
  | a :: r => min a (minL r)
def maxL : List Int → Int
  | [] => 0
  | [a] => a
  | a :: r => max a (maxL r)
abbrev Bf := List Dt → MH → RE Dt
def bLen : Bf
  | [.tup ds], h => .ok (.int ds.length) h
  | [.str x], h => if x.length ≤ sizeLine then .ok (.int x.length) h else .bad
  | [.loc n], h => match h[n]? with
    | some (.lst xs) => .ok (.int xs.length) h
    | some (.fro xs) => .ok (.int xs.length) h
    | some (.dK kvs) => .ok (.int kvs.length) h
    | _ => .bad
  | _, _ => .bad
def bTuple : Bf
  | [.tup ds], h => .ok (.tup ds) h
  | [.loc n], h => match getL h n with
    | some xs => .ok (.tup xs) h
    | none => .bad
  | _, _ => .bad
def bList : Bf
  | [d], h => match seqOf h d with
    | some xs => .ok (.loc h.length) (h ++ [.lst xs])
    | none => .bad
  | _, _ => .bad
def bInt : Bf
  | [.int i], h => .ok (.int i) h
  | [.bl b], h => .ok (.int (if b then 1 else 0)) h
  | _, _ => .bad
def bAbs : Bf
  | [.int i], h => .ok (.int (if i < 0 then -i else i)) h
  | _, _ => .bad
def bSum : Bf
  | [.loc n], h => match (getL h n).bind intsOf with
    | some ns => .ok (.int ns.sum) h
    | none => .bad
  | _, _ => .bad
def bMin : Bf
  | [.int i, .int j], h => .ok (.int (if j < i then j else i)) h
  | [.loc n], h => match (getL h n).bind intsOf with
    | some ns => if ns = [] then .bad else .ok (.int (minL ns)) h
    | none => .bad
  | _, _ => .bad
def bMax : Bf
  | [.int i, .int j], h => .ok (.int (if j > i then j else i)) h
  | [.int i, .int j, .int k], h => .ok (.int (if (if i < j then j else i) < k then k else if i < j then j else i)) h
  | [.loc n], h => match (getL h n).bind intsOf with
    | some ns => if ns = [] then .bad else .ok (.int (maxL ns)) h
    | none => .bad
  | _, _ => .bad
def bAny : Bf
  | [.loc n], h => match (getL h n).bind blsOf with
    | some ns => .ok (.bl (ns.any id)) h
    | none => .bad
  | _, _ => .bad
def bAll : Bf
  | [.loc n], h => match (getL h n).bind blsOf with
    | some ns => .ok (.bl (ns.all id)) h
    | none => .bad
  | _, _ => .bad
/-- set(t), t a tuple of ints -/
def bSet : Bf
  | [.tup ds], h => match intsOf ds with
    | some ns => if ns.length < 4000 then .ok (.loc h.length) (h ++ [.set ns]) else .bad
    | none => .bad
  | _, _ => .bad
def bStr : Bf
  | [.int i], h => if -lim200 < i ∧ i < lim200 then .ok (.str (Str.ofString (toString i))) h else .bad
  | _, _ => .bad
/-- the name of a value's built-in type -/
def tyN (h : MH) : Dt → Option String
  | .non => some "NoneType" | .bl _ => some "bool" | .int _ => some "int" | .str _ => some "str" | .tup _ => some "tuple"
  | .loc n => match h[n]? with
    | some (.lst _) => some "list"
    | some (.fro _) => some "list"
    | some (.dK _) => some "dict"
    | some (.dT _) => some "dict"
    | _ => none
def bIsi (T : String) : Bf
  | [d], h => match (tyN h d).bind fun t => kitB t T with
    | some b => .ok (.bl b) h
    | none => .bad
  | _, _ => .bad

/-! ### built-in methods -/
abbrev Mf := Dt → List Dt → MH → RE Dt
def mAppend : Mf
  | .loc n, [v], h => match h[n]? with
    | some (.lst xs) => if xs.length < sizeLine then .ok .non (h.set n (.lst (xs ++ [v]))) else .bad
    | _ => .bad
  | _, _, _ => .bad
def mExtend : Mf
  | .loc n, [.tup ys], h => match h[n]? with
    | some (.lst xs) => if xs.length + ys.length ≤ sizeLine then .ok .non (h.set n (.lst (xs ++ ys))) else .bad
    | _ => .bad
  | .loc n, [.loc m], h => match h[n]?, h[m]? with
    | some (.lst xs), some (.lst ys) => if xs.length + ys.length ≤ sizeLine then .ok .non (h.set n (.lst (xs ++ ys))) else .bad
    | _, _ => .bad
  | _, _, _ => .bad
def mPop : Mf
  | .loc n, [], h => match h[n]? with
    | some (.lst xs) => match xs[xs.length - 1]? with
      | some d => .ok d (h.set n (.lst xs.dropLast))
      | none => .bad
    | _ => .bad
  | .loc n, [.int i], h => match h[n]? with
    | some (.lst xs) => match ixN xs.length i with
      | some j => match xs[j]? with
        | some d => .ok d (h.set n (.lst (xs.eraseIdx j)))
        | none => .bad
      | none => .bad
    | _ => .bad
  | _, _, _ => .bad
def mIndex : Mf
  | .loc n, [v], h => match h[n]? with
    | some (.lst xs) => if v.eqOk = true ∧ (Dt.tup xs).eqOk = true then match xs.findIdx? fun z => eqv z v with
        | some j => .ok (.int (j : Nat)) h
        | none => .bad
      else .bad
    | _ => .bad
  | _, _, _ => .bad

def mInsert : Mf
  | .loc n, [.int i, v], h => match h[n]? with
    | some (.lst xs) => if xs.length < sizeLine ∧ 0 ≤ i ∧ i < lim62 then .ok .non (h.set n (.lst (xs.take i.toNat ++ [v] ++ xs.drop i.toNat))) else .bad
    | _ => .bad
  | _, _, _ => .bad

/-! ### expressions -/
def eVar (i : Nat) : SE := fun _ ρ h => match ρ[i]? with
  | some (some d) => .ok d h
  | _ => .bad
def eC (d : Dt) : SE := fun _ _ h => .ok d h
def eOp (o : Op2) (a b : SE) : SE := fun G ρ h => bnd (a G ρ h) fun x h1 => bnd (b G ρ h1) fun y h2 => o x y h2
def eNeg (a : SE) : SE := fun G ρ h => bnd (a G ρ h) fun x h1 => match x with
  | .int i => .ok (.int (-i)) h1
  | _ => .bad
/-- a op b op' c -/
def eChain (o o' : Op2) (a b c : SE) : SE := fun G ρ h => bnd (a G ρ h) fun x h1 => bnd (b G ρ h1) fun y h2 => bnd (o x y h2) fun z h3 => match z with
  | .bl true => bnd (c G ρ h3) fun u h4 => o' y u h4
  | .bl false => .ok (.bl false) h3
  | _ => .bad
def eAnd (a b : SE) : SE := fun G ρ h => bnd (a G ρ h) fun x h1 => match x with
  | .bl true => b G ρ h1
  | .bl false => .ok (.bl false) h1
  | _ => .bad
def eOr (a b : SE) : SE := fun G ρ h => bnd (a G ρ h) fun x h1 => match x with
  | .bl true => .ok (.bl true) h1
  | .bl false => b G ρ h1
  | _ => .bad
def eNot (a : SE) : SE := fun G ρ h => bnd (a G ρ h) fun x h1 => bnd (truth x h1) fun k h2 => .ok (.bl (!k)) h2
def eIf (t : ST) (a b : SE) : SE := fun G ρ h => bnd (t G ρ h) fun k h1 => if k = true then a G ρ h1 else b G ρ h1
def aNil : SA := fun _ _ h => .ok [] h
def aCons (a : SE) (r : SA) : SA := fun G ρ h => bnd (a G ρ h) fun x h1 => bnd (r G ρ h1) fun xs h2 => .ok (x :: xs) h2
def eTup (a : SA) : SE := fun G ρ h => bnd (a G ρ h) fun xs h1 => newT xs h1
def eLst (a : SA) : SE := fun G ρ h => bnd (a G ρ h) fun xs h1 => newL xs h1
def eBf (f : Bf) (a : SA) : SE := fun G ρ h => bnd (a G ρ h) fun xs h1 => f xs h1
def isLst (h : MH) : Dt → Bool
  | .loc n => (getL h n).isSome
  | _ => false
/-- a list's method -/
def eMf (f : Mf) (o : SE) (a : SA) : SE := fun G ρ h => bnd (o G ρ h) fun x h1 => if isLst h1 x = true then bnd (a G ρ h1) fun xs h2 => f x xs h2 else .bad
def eCall (n : Nat) (a : SA) : SE := fun G ρ h => bnd (a G ρ h) fun xs h1 => G n xs h1
abbrev SO := Orc → Env → M (Option Int)
def oNo : SO := fun _ _ h => .ok none h
def oSome (a : SE) : SO := fun G ρ h => bnd (a G ρ h) fun x h1 => match x with
  | .int i => .ok (some i) h1
  | _ => .bad
def eCut (a : SE) (lo hi : SO) : SE := fun G ρ h => bnd (a G ρ h) fun x h1 => bnd (lo G ρ h1) fun l h2 => bnd (hi G ρ h2) fun u h3 => oCut x l u h3
def rgD (a b : Int) : List Dt := (List.range (b - a).toNat).map fun i => Dt.int (a + (i : Nat))
def rgOk (a b : Int) : Bool := decide (-lim62 ≤ a ∧ a < lim62 ∧ -lim62 ≤ b ∧ b < lim62 ∧ (b - a).toNat ≤ 16777216)
/-- list(range(..)), tuple(range(..)) -/
abbrev SR := Orc → Env → M (Int × Int)
def rg1 (a : SE) : SR := fun G ρ h => bnd (a G ρ h) fun x h1 => match x with
  | .int i => .ok (0, i) h1
  | _ => .bad
def rg2 (a b : SE) : SR := fun G ρ h => bnd (a G ρ h) fun x h1 => bnd (b G ρ h1) fun y h2 => match x, y with
  | .int i, .int j => .ok (i, j) h2
  | _, _ => .bad
def eLRg (r : SR) : SE := fun G ρ h => bnd (r G ρ h) fun p h1 => if rgOk p.1 p.2 = true then .ok (.loc h1.length) (h1 ++ [.lst (rgD p.1 p.2)]) else .bad
def eTRg (r : SR) : SE := fun G ρ h => bnd (r G ρ h) fun p h1 => if rgOk p.1 p.2 = true then .ok (.tup (rgD p.1 p.2)) h1 else .bad
/-- {k: v}, k a tuple -/
def eDict1 (k v : SE) : SE := fun G ρ h => bnd (k G ρ h) fun x h1 => bnd (v G ρ h1) fun y h2 => match toKeys x with
  | some ks => .ok (.loc h2.length) (h2 ++ [.dT [(ks, y)]])
  | none => .bad
/-- {}, to be a dict of tuple keys or not -/
def eDict0 (t : Bool) : SE := fun _ _ h => .ok (.loc h.length) (h ++ [if t then .dT [] else .dK []])
def getF (h : MH) (d : Dt) (f : Str) : Option Dt := match d with
  | .loc n => match h[n]? with
    | some (.ins _ fs) => fs.lookup f
    | _ => none
  | _ => none
def eFld (a : SE) (f : Str) : SE := fun G ρ h => bnd (a G ρ h) fun x h1 => match getF h1 x f with
  | some d => .ok d h1
  | none => .bad

/-! ### tests -/
def tVal (a : SE) : ST := fun G ρ h => bnd (a G ρ h) fun x h1 => truth x h1
/-- a comparison's answer -/
def tBl (a : SE) : ST := fun G ρ h => bnd (a G ρ h) fun x h1 => match x with
  | .bl t => .ok t h1
  | _ => .bad
def tNot (a : ST) : ST := fun G ρ h => bnd (a G ρ h) fun k h1 => .ok (!k) h1
def tAnd (a b : ST) : ST := fun G ρ h => bnd (a G ρ h) fun k h1 => if k = true then b G ρ h1 else .ok false h1
def tOr (a b : ST) : ST := fun G ρ h => bnd (a G ρ h) fun k h1 => if k = true then .ok true h1 else b G ρ h1

/-! ### targets, walks -/
inductive TP where
  | nm (i : Nat) | tp (ps : List TP)
mutual
def assignP : TP → Dt → Env → Option Env
  | .nm i, d, ρ => some (ρ.set i (some d))
  | .tp ps, .tup ds, ρ => if ds.length = ps.length then assignPs ps ds ρ else none
  | .tp _, _, _ => none
def assignPs : List TP → List Dt → Env → Option Env
  | [], [], ρ => some ρ
  | p :: ps, d :: ds, ρ => match assignP p d ρ with
    | some ρ' => assignPs ps ds ρ'
    | none => none
  | _, _, _ => none
end
/-- an iterator: its turns, its items as they stand, whether it may end -/
structure Wk where
  tot : Nat
  get : Nat → MH → Option Dt
  fin : MH → Bool
abbrev SI := Orc → Env → M Wk
def itL (n tot : Nat) : Wk := ⟨tot, fun i h => (getL h n).bind fun xs => xs[i]?, fun h => match getL h n with
  | some xs => decide (xs.length ≤ tot)
  | none => false⟩
def itT (xs : List Dt) : Wk := ⟨xs.length, fun i _ => xs[i]?, fun _ => true⟩
def itR (lo : Int) (n : Nat) : Wk := ⟨n, fun i _ => if i < n then some (.int (lo + (i : Nat))) else none, fun _ => true⟩
def itE (I : Wk) : Wk := ⟨I.tot, fun i h => (I.get i h).map fun d => .tup [.int (i : Nat), d], I.fin⟩
def itOf (d : Dt) (h : MH) : RE Wk := match d with
  | .tup xs => .ok (itT xs) h
  | .loc n => match getL h n with
    | some xs => .ok (itL n xs.length) h
    | none => .bad
  | _ => .bad
def iSeq (a : SE) : SI := fun G ρ h => bnd (a G ρ h) itOf
def iEnum (a : SE) : SI := fun G ρ h => bnd (a G ρ h) fun x h1 => bnd (itOf x h1) fun I h2 => .ok (itE I) h2
def iRg (r : SR) : SI := fun G ρ h => bnd (r G ρ h) fun p h1 => if -lim62 ≤ p.1 ∧ p.1 < lim62 ∧ -lim62 ≤ p.2 ∧ p.2 < lim62 then .ok (itR p.1 (p.2 - p.1).toNat) h1 else .bad
/-- zip of two lists, of two tuples -/
def itZ (I J : Wk) (m : Nat) : Wk := ⟨m, fun i h => match I.get i h, J.get i h with
  | some a, some b => some (.tup [a, b])
  | _, _ => none, fun h => I.fin h && J.fin h && (decide (I.tot ≤ m) || decide (J.tot ≤ m))⟩
def sameKind : Dt → Dt → Bool
  | .tup _, .tup _ => true
  | .loc _, .loc _ => true
  | _, _ => false
def iZip (a b : SE) : SI := fun G ρ h => bnd (a G ρ h) fun x h1 => bnd (b G ρ h1) fun y h2 =>
  if sameKind x y = true then bnd (itOf x h2) fun I h3 => bnd (itOf y h3) fun J h4 => .ok (itZ I J (min I.tot J.tot)) h4 else .bad

/-! ### comprehensions -/
def wipeE (ρ : Env) : List Nat → Env
  | [] => ρ
  | v :: vs => (wipeE ρ vs).set v none
def noEx {α : Type} (m : RE α) : RE α := match m with
  | .ok a h => .ok a h
  | _ => .bad
/-- the turns of a list comprehension: D the new list -/
def lcLoop (I : Wk) (p : TP) (t : ST) (e : SE) (G : Orc) (ρ : Env) (D : Nat) : Nat → MH → RE Dt
  | 0, h => if I.fin h = true then .ok (.loc D) h else .bad
  | k + 1, h => match I.get (I.tot - (k + 1)) h with
    | none => .bad
    | some d => match assignP p d ρ with
      | none => .bad
      | some ρ' => bnd (noEx (t G ρ' h)) fun b h1 =>
        if b = true then bnd (noEx (e G ρ' h1)) fun y h2 => match h2[D]? with
          | some (.lst acc) => if acc.length < sizeLine then lcLoop I p t e G ρ D k (h2.set D (.lst (acc ++ [y]))) else .bad
          | _ => .bad
        else lcLoop I p t e G ρ D k h1
def eLc (i : SI) (p : TP) (t : ST) (e : SE) (vs : List Nat) : SE := fun G ρ h => bnd (i G ρ h) fun I h1 => lcLoop I p t e G (wipeE ρ vs) h1.length I.tot (h1 ++ [.lst []])
def tYes : ST := fun _ _ h => .ok true h
/-- the turns of a dict comprehension -/
def dcLoop (T : Bool) (I : Wk) (p : TP) (t : ST) (k e : SE) (G : Orc) (ρ : Env) (D : Nat) : Nat → MH → RE Dt
  | 0, h => if I.fin h = true then .ok (.loc D) h else .bad
  | n + 1, h => match I.get (I.tot - (n + 1)) h with
    | none => .bad
    | some d => match assignP p d ρ with
      | none => .bad
      | some ρ' => bnd (noEx (t G ρ' h)) fun b h1 =>
        if b = true then bnd (noEx (k G ρ' h1)) fun x h2 => bnd (noEx (e G ρ' h2)) fun y h3 => match h3[D]? with
          | some (.dK kvs) => match toKey x with
            | some kk => if kvs.length < sizeLine ∧ T = false then dcLoop T I p t k e G ρ D n (h3.set D (.dK (setK kvs kk y))) else .bad
            | none => .bad
          | some (.dT kvs) => match toKeys x with
            | some kk => if kvs.length < sizeLine ∧ T = true then dcLoop T I p t k e G ρ D n (h3.set D (.dT (setK kvs kk y))) else .bad
            | none => .bad
          | _ => .bad
        else dcLoop T I p t k e G ρ D n h1
def eDc (T : Bool) (i : SI) (p : TP) (t : ST) (k e : SE) (vs : List Nat) : SE := fun G ρ h => bnd (i G ρ h) fun I h1 => dcLoop T I p t k e G (wipeE ρ vs) h1.length I.tot (h1 ++ [if T then .dT [] else .dK []])

/-! ### statements -/
def sSkip : SS := fun _ ρ h => .nx ρ h
def sBreak : SS := fun _ ρ h => .bk ρ h
def sCont : SS := fun _ ρ h => .ct ρ h
def sSeq (a b : SS) : SS := fun G ρ h => match a G ρ h with
  | .nx ρ1 h1 => b G ρ1 h1
  | r => r
def sExpr (e : SE) : SS := fun G ρ h => bndS ρ (e G ρ h) fun _ h1 => .nx ρ h1
def sRet (e : SE) : SS := fun G ρ h => bndS ρ (e G ρ h) fun d h1 => .rt d h1
def sRetN : SS := fun _ _ h => .rt .non h
def sSet (p : TP) (e : SE) : SS := fun G ρ h => bndS ρ (e G ρ h) fun d h1 => match assignP p d ρ with
  | some ρ' => .nx ρ' h1
  | none => .bad
/-- x, y = a, b -/
def sPar (i j : Nat) (a b : SE) : SS := fun G ρ h => bndS ρ (a G ρ h) fun x h1 => bndS ρ (b G ρ h1) fun y h2 => .nx ((ρ.set i (some x)).set j (some y)) h2
/-- o[i] = e -/
def sSetI (o i e : SE) : SS := fun G ρ h => bndS ρ (e G ρ h) fun v h1 => bndS ρ (o G ρ h1) fun x h2 => bndS ρ (i G ρ h2) fun y h3 => match oSet x y v h3 with
  | some h4 => .nx ρ h4
  | none => .bad
def sIf (t : ST) (a b : SS) : SS := fun G ρ h => bndS ρ (t G ρ h) fun k h1 => if k = true then a G ρ h1 else b G ρ h1
def sAug (i : Nat) (o : Op2) (e : SE) : SS := fun G ρ h => match ρ[i]? with
  | some (some x) => bndS ρ (e G ρ h) fun y h1 => bndS ρ (o x y h1) fun z h2 => .nx (ρ.set i (some z)) h2
  | _ => .bad
def forLoop (I : Wk) (p : TP) (b : SS) (G : Orc) : Nat → Env → MH → RS
  | 0, ρ, h => if I.fin h = true then .nx ρ h else .bad
  | k + 1, ρ, h => match I.get (I.tot - (k + 1)) h with
    | none => .bad
    | some d => match assignP p d ρ with
      | none => .bad
      | some ρ' => match b G ρ' h with
        | .nx ρ2 h2 => forLoop I p b G k ρ2 h2
        | .ct ρ2 h2 => forLoop I p b G k ρ2 h2
        | .bk ρ2 h2 => .nx ρ2 h2
        | r => r
def sFor (i : SI) (p : TP) (b : SS) : SS := fun G ρ h => bndS ρ (i G ρ h) fun I h1 => forLoop I p b G I.tot ρ h1
def whileLoop (t : ST) (b : SS) (G : Orc) : Nat → Env → MH → RS
  | 0, _, _ => .bad
  | k + 1, ρ, h => bndS ρ (t G ρ h) fun c h1 => if c = true then match b G ρ h1 with
      | .nx ρ2 h2 => whileLoop t b G k ρ2 h2
      | .ct ρ2 h2 => whileLoop t b G k ρ2 h2
      | .bk ρ2 h2 => .nx ρ2 h2
      | r => r
    else .nx ρ h1
def whileFuel : Nat := 1000000
def sWhile (t : ST) (b : SS) : SS := fun G ρ h => whileLoop t b G whileFuel ρ h
/-- what an exception's __init__ does: each parameter is handed through the def sp -/
def initLoop (sp : Nat) (G : Orc) : List Dt → MH → RE (List Dt)
  | [], h => .ok [] h
  | x :: xs, h => bnd (G sp [x] h) fun d h1 => bnd (initLoop sp G xs h1) fun ds h2 => .ok (d :: ds) h2
def getSome : Env → Option (List Dt)
  | [] => some []
  | some d :: r => (getSome r).map (d :: ·)
  | none :: _ => none
def sInit (sp : Nat) : SS := fun G ρ h => match getSome ρ with
  | some xs => match initLoop sp G xs h with
    | .ok ds h1 => .rt (.tup ds) h1
    | _ => .bad
  | none => .bad
/-- raise C(..): ini is C's __init__, names its fields -/
def sRaise (C : Str) (ini : Nat) (names : List Str) (a : SA) : SS := fun G ρ h => bndS ρ (a G ρ h) fun xs h1 => match G ini xs h1 with
  | .ok (.tup ds) h2 => if ds.length = names.length then .ex C (names.zip ds).reverse ρ h2 else .bad
  | _ => .bad
/-- raise C(), C without an __init__ of its own -/
def sRaise0 (C : Str) : SS := fun _ ρ h => .ex C [] ρ h
/-! ### try: body, except C as e: suite; a suite knows the exception -/
abbrev XE := Str → Fs → SE
abbrev XA := Str → Fs → SA
abbrev XS := Str → Fs → SS
abbrev Sub := Str → Str → Option Bool
abbrev Flds := List (Str × List Str)
def xF (fl : Flds) (f : Str) : XE := fun C fs _ _ h => match fl.lookup C with
  | some l => if l.contains f = true then match fs.lookup f with
      | some d => .ok d h
      | none => .bad
    else .bad
  | none => .bad
def xIs (sub : Sub) (T : Str) : XE := fun C _ _ _ h => match sub C T with
  | some b => .ok (.bl b) h
  | none => .bad
def runH (sub : Sub) (C : Str) (fs : Fs) (G : Orc) : List (Str × Nat × XS) → Env → MH → RS
  | [], ρ, h => .ex C fs ρ h
  | (D, i, s) :: r, ρ, h => match sub C D with
    | some true => if i < ρ.length then match s C fs G (ρ.set i none) h with
        | .nx ρ2 h2 => .nx (ρ2.set i none) h2
        | .rt d h2 => .rt d h2
        | _ => .bad
      else .bad
    | some false => runH sub C fs G r ρ h
    | none => .bad
def sTry (sub : Sub) (b : SS) (hs : List (Str × Nat × XS)) : SS := fun G ρ h => match b G ρ h with
  | .ex C fs ρ1 h1 => runH sub C fs G hs ρ1 h1
  | r => r
/-- a def's body, called -/
def runBody (n : Nat) (b : SS) (G : Orc) (args : List Dt) (h : MH) : RE Dt := match b G (args.map some ++ List.replicate (n - args.length) none) h with
  | .nx _ h' => .ok .non h'
  | .rt d h' => .ok d h'
  | .ex C fs _ h' => .ex C fs h'
  | _ => .bad
/-- a def: its parameters, its slots, its body -/
structure MDef where
  ar : Nat
  sl : Nat
  body : SS
def callK (P : List MDef) : Nat → Orc
  | 0, _, _, _ => .bad
  | k + 1, n, args, h => match P[n]? with
    | some d => if args.length = d.ar then runBody d.sl d.body (callK P k) args h else .bad
    | none => .bad
end EP
end
section
/-! Rep: how data and symbolic heaps lie in the hand layer's abstract heap. -/
namespace EP
open PySem PySem.Spec PyProof.Rows L2

mutual
inductive RepV (β : List Addr) (H : Hp) : Dt → V → Prop
  | non : RepV β H .non .non
  | bl (b : Bool) : RepV β H (.bl b) (.bl b)
  | int (i : Int) : RepV β H (.int i) (.int i)
  | str (x : Str) : RepV β H (.str x) (.str x)
  | tup {ds : List Dt} {p : Addr} {vs : List V} : H p = some (.tup vs) → ds.length ≤ sizeLine → RepVs β H ds vs → RepV β H (.tup ds) (.ref p)
  | loc {n : Nat} {p : Addr} : β[n]? = some p → RepV β H (.loc n) (.ref p)
inductive RepVs (β : List Addr) (H : Hp) : List Dt → List V → Prop
  | nil : RepVs β H [] []
  | cons {d : Dt} {v : V} {ds : List Dt} {vs : List V} : RepV β H d v → RepVs β H ds vs → RepVs β H (d :: ds) (v :: vs)
end

/-- what is written -/
def Mw : HO → Prop
  | .lst _ => True
  | .dK _ => True
  | .dT _ => True
  | .ins _ _ _ => True
  | .set _ _ => True
  | _ => False
structure Ext (β β' : List Addr) (H H' : Hp) : Prop where
  pre : ∀ (n : Nat) (p : Addr), β[n]? = some p → β'[n]? = some p
  keep : ∀ (p : Addr) (o : HO), H p = some o → p ∉ β → H' p = some o
  tup : ∀ (p : Addr) (xs : List V), H p = some (.tup xs) → H' p = some (.tup xs)
  frz : ∀ (p : Addr) (o : Obj) (u : HO), H p = some (.frz o u) → H' p = some (.frz o u)
  ext : ∀ (p : Addr) (φ : Heap → Prop), H p = some (.ext φ) → H' p = some (.ext φ)
  xd : ∀ (p : Addr) (gs : List (Str × V)), H p = some (.xd gs) → H' p = some (.xd gs)
  dom : ∀ (p : Addr), H' p = none → H p = none
  /-- what is new in β' was free -/
  new : ∀ (p : Addr), p ∈ β' → p ∈ β ∨ H p = none

theorem Ext.refl (β : List Addr) (H : Hp) : Ext β β H H := ⟨fun _ _ h => h, fun _ _ h _ => h, fun _ _ h => h, fun _ _ _ h => h, fun _ _ h => h, fun _ _ h => h, fun _ h => h, fun _ h => .inl h⟩
theorem Ext.trans {β β1 β2 : List Addr} {H H1 H2 : Hp} (a : Ext β β1 H H1) (b : Ext β1 β2 H1 H2) : Ext β β2 H H2 where
  pre := fun n p h => b.pre n p (a.pre n p h)
  keep := fun p o h hn => by
    refine b.keep p o (a.keep p o h hn) fun hm => ?_
    rcases a.new p hm with q | q
    · exact hn q
    · rw [q] at h; cases h
  tup := fun p xs h => b.tup p xs (a.tup p xs h)
  frz := fun p o u h => b.frz p o u (a.frz p o u h)
  ext := fun p o h => b.ext p o (a.ext p o h)
  xd := fun p o h => b.xd p o (a.xd p o h)
  dom := fun p h => a.dom p (b.dom p h)
  new := fun p hp => by
    rcases b.new p hp with q | q
    · exact a.new p q
    · by_cases hb : p ∈ β
      · exact .inl hb
      · cases e : H p with
        | none => exact .inr rfl
        | some o => rw [a.keep p o e hb] at q; cases q

mutual
theorem RepV.ext {β β' : List Addr} {H H' : Hp} (x : Ext β β' H H') : ∀ {d : Dt} {v : V}, RepV β H d v → RepV β' H' d v
  | _, _, .non => .non
  | _, _, .bl b => .bl b
  | _, _, .int i => .int i
  | _, _, .str y => .str y
  | _, _, .tup e l r => .tup (x.tup _ _ e) l (RepVs.ext x r)
  | _, _, .loc e => .loc (x.pre _ _ e)
theorem RepVs.ext {β β' : List Addr} {H H' : Hp} (x : Ext β β' H H') : ∀ {ds : List Dt} {vs : List V}, RepVs β H ds vs → RepVs β' H' ds vs
  | _, _, .nil => .nil
  | _, _, .cons a b => .cons (RepV.ext x a) (RepVs.ext x b)
end

section
variable {β : List Addr} {H : Hp}
theorem RepVs.length : ∀ {ds : List Dt} {vs : List V}, RepVs β H ds vs → ds.length = vs.length
  | _, _, .nil => rfl
  | _, _, .cons _ r => congrArg (· + 1) (RepVs.length r)
theorem RepVs.get : ∀ {ds : List Dt} {vs : List V} {i : Nat} {d : Dt}, RepVs β H ds vs → ds[i]? = some d → ∃ v, vs[i]? = some v ∧ RepV β H d v
  | _, _, _, _, .nil, e => by simp at e
  | _, _, 0, _, .cons a _, e => by simp at e; subst e; exact ⟨_, rfl, a⟩
  | _, _, i + 1, d, .cons _ r, e => by
    obtain ⟨v, h1, h2⟩ := RepVs.get (i := i) (d := d) r (by simpa using e)
    exact ⟨v, by simpa using h1, h2⟩
theorem RepVs.none_of : ∀ {ds : List Dt} {vs : List V} {i : Nat}, RepVs β H ds vs → ds[i]? = none → vs[i]? = none := fun {ds vs i} r e => by
  have h1 := r.length
  have h2 : ds.length ≤ i := List.getElem?_eq_none_iff.mp e
  exact List.getElem?_eq_none_iff.mpr (by omega)
theorem RepVs.append : ∀ {as bs : List Dt} {us vs : List V}, RepVs β H as us → RepVs β H bs vs → RepVs β H (as ++ bs) (us ++ vs)
  | _, _, _, _, .nil, s => s
  | _, _, _, _, .cons r t, s => .cons r (RepVs.append t s)
theorem RepVs.take : ∀ {ds : List Dt} {vs : List V} (n : Nat), RepVs β H ds vs → RepVs β H (ds.take n) (vs.take n)
  | _, _, 0, _ => .nil
  | _, _, _ + 1, .nil => .nil
  | _, _, n + 1, .cons r t => .cons r (RepVs.take n t)
theorem RepVs.drop : ∀ {ds : List Dt} {vs : List V} (n : Nat), RepVs β H ds vs → RepVs β H (ds.drop n) (vs.drop n)
  | _, _, 0, r => r
  | _, _, _ + 1, .nil => .nil
  | _, _, n + 1, .cons r t => RepVs.drop n t
theorem RepVs.set {x : Dt} {u : V} (r : RepV β H x u) : ∀ {ds : List Dt} {vs : List V} (i : Nat), RepVs β H ds vs → RepVs β H (ds.set i x) (vs.set i u)
  | _, _, _, .nil => .nil
  | _, _, 0, .cons _ t => .cons r t
  | _, _, i + 1, .cons q t => .cons q (RepVs.set r i t)
theorem RepVs.eraseIdx : ∀ {ds : List Dt} {vs : List V} (i : Nat), RepVs β H ds vs → RepVs β H (ds.eraseIdx i) (vs.eraseIdx i)
  | _, _, _, .nil => .nil
  | _, _, 0, .cons _ t => t
  | _, _, i + 1, .cons q t => .cons q (RepVs.eraseIdx i t)
theorem RepVs.dropLast {ds : List Dt} {vs : List V} (r : RepVs β H ds vs) : RepVs β H ds.dropLast vs.dropLast := by
  rw [List.dropLast_eq_take, List.dropLast_eq_take, r.length]
  exact r.take _
theorem RepVs.cut {ds : List Dt} {vs : List V} (r : RepVs β H ds vs) (lo hi : Option Int) : RepVs β H (cutD ds lo hi) (cutV vs lo hi) := by
  unfold cutD cutV
  rw [r.length]
  exact (r.drop _).take _
theorem RepVs.flat {ds : List Dt} {vs : List V} (r : RepVs β H ds vs) : ∀ k : Nat, RepVs β H (List.replicate k ds).flatten (List.replicate k vs).flatten
  | 0 => .nil
  | k + 1 => by
    rw [List.replicate_succ, List.replicate_succ, List.flatten_cons, List.flatten_cons]
    exact r.append (RepVs.flat r k)
theorem RepVs.ints : ∀ ns : List Int, RepVs β H (ns.map Dt.int) (ns.map V.int)
  | [] => .nil
  | n :: ns => .cons (.int n) (RepVs.ints ns)
end

/-! ### objects -/
inductive RepK {κ : Type} (β : List Addr) (H : Hp) : List (κ × Dt) → List (κ × V) → Prop
  | nil : RepK β H [] []
  | cons {k : κ} {d : Dt} {v : V} {a : List (κ × Dt)} {b : List (κ × V)} : RepV β H d v → RepK β H a b → RepK β H ((k, d) :: a) ((k, v) :: b)
/-- fields, by name -/
def RepF (β : List Addr) (H : Hp) (fs : Fs) (gs : List (Str × V)) : Prop := ∀ f, (fs.lookup f = none ∧ gs.lookup f = none) ∨ ∃ d v, fs.lookup f = some d ∧ gs.lookup f = some v ∧ RepV β H d v
section
variable {β β' : List Addr} {H H' : Hp} {κ : Type}
theorem RepK.ext (x : Ext β β' H H') : ∀ {a : List (κ × Dt)} {b : List (κ × V)}, RepK β H a b → RepK β' H' a b
  | _, _, .nil => .nil
  | _, _, .cons r t => .cons (r.ext x) (RepK.ext x t)
theorem RepK.length : ∀ {a : List (κ × Dt)} {b : List (κ × V)}, RepK β H a b → a.length = b.length
  | _, _, .nil => rfl
  | _, _, .cons _ r => congrArg (· + 1) (RepK.length r)
theorem RepF.ext (x : Ext β β' H H') {fs : Fs} {gs : List (Str × V)} (r : RepF β H fs gs) : RepF β' H' fs gs := fun f => by
  rcases r f with h | ⟨d, v, h1, h2, h3⟩
  · exact .inl h
  · exact .inr ⟨d, v, h1, h2, h3.ext x⟩
variable [DecidableEq κ]
theorem RepK.val : ∀ {a : List (κ × Dt)} {b : List (κ × V)} (k : κ), RepK β H a b → (getK a k = none ∧ valV b k = none) ∨ ∃ d v, getK a k = some d ∧ valV b k = some v ∧ RepV β H d v
  | _, _, k, .nil => .inl ⟨rfl, rfl⟩
  | _, _, k, .cons (k := k0) (d := d) (v := v) r t => by
    unfold getK valV
    by_cases h : k0 = k
    · refine .inr ⟨d, v, ?_, ?_, r⟩ <;> simp [h]
    · have := RepK.val k t
      unfold getK valV at this
      simp only [List.find?_cons, h, decide_false, Bool.false_eq_true]
      exact this
theorem RepK.any {a : List (κ × Dt)} {b : List (κ × V)} (k : κ) (r : RepK β H a b) : (a.any fun kv => decide (kv.1 = k)) = b.any fun kv => decide (kv.1 = k) := by
  induction r with
  | nil => rfl
  | cons _ _ ih => simp only [List.any_cons, ih]
theorem RepK.repl {a : List (κ × Dt)} {b : List (κ × V)} (k : κ) {y : Dt} {u : V} (ry : RepV β H y u) (r : RepK β H a b) :
    RepK β H (a.map fun kv => if kv.1 = k then (kv.1, y) else kv) (b.map fun kv => if kv.1 = k then (kv.1, u) else kv) := by
  induction r with
  | nil => exact .nil
  | @cons k0 d v a b r t ih =>
    simp only [List.map_cons]
    by_cases h : k0 = k
    · rw [if_pos h, if_pos h]; exact .cons ry ih
    · rw [if_neg h, if_neg h]; exact .cons r ih
theorem RepK.snoc {a : List (κ × Dt)} {b : List (κ × V)} (k : κ) {y : Dt} {u : V} (ry : RepV β H y u) (r : RepK β H a b) : RepK β H (a ++ [(k, y)]) (b ++ [(k, u)]) := by
  induction r with
  | nil => exact .cons ry .nil
  | cons r t ih => exact .cons r ih
theorem RepK.put {a : List (κ × Dt)} {b : List (κ × V)} (k : κ) {y : Dt} {u : V} (ry : RepV β H y u) (r : RepK β H a b) : RepK β H (setK a k y) (putK b k u) := by
  unfold setK putK
  rw [r.any k]
  split
  · exact r.repl k ry
  · exact r.snoc k ry
end

/-- a list that is known and not written: frozen, or in the written part -/
def FroL (K : PySem.W.Frag) (H : Hp) (p : Addr) (vs : List V) : Prop := (∃ o, H p = some (.frz o (.lst vs))) ∨
  ∃ (o : Obj) (its : Array Value) (n : Nat), K.lookup p = some o ∧ o.cls = .type "list" ∧ o.dict = none ∧ o.data = .seq its n ∧ its.size ≤ sizeLine ∧ Vals vs its.toList
theorem FroL.sq {K : PySem.W.Frag} {H : Hp} {p : Addr} {vs : List V} (h : FroL K H p vs) : SqL K H p vs := by
  rcases h with ⟨o, e⟩ | h
  · exact .inl (.inr ⟨o, e⟩)
  · exact .inr h
def RepO (K : PySem.W.Frag) (mg : Str → Option Value) (β : List Addr) (H : Hp) (p : Addr) : MO → Prop
  | .lst xs => xs.length ≤ sizeLine ∧ ∃ vs, H p = some (.lst vs) ∧ RepVs β H xs vs
  | .fro xs => xs.length ≤ sizeLine ∧ ∃ vs, FroL K H p vs ∧ RepVs β H xs vs
  | .dK kvs => kvs.length ≤ sizeLine ∧ ∃ ws, H p = some (.dK ws) ∧ RepK β H kvs ws
  | .dT kvs => kvs.length ≤ sizeLine ∧ ∃ ws, H p = some (.dT ws) ∧ RepK β H kvs ws
  | .ins C fs => ∃ Ca dx gs, mg C = some (.ref Ca) ∧ H p = some (.ins Ca dx gs) ∧ gs.length ≤ fs.length ∧ RepF β H fs gs
  | .set ns => ∃ c, H p = some (.set (fun j => decide (j ∈ ns)) c)
/-- written objects -/
def MO.wr : MO → Bool
  | .fro _ => false | _ => true
structure RepH (K : PySem.W.Frag) (mg : Str → Option Value) (β : List Addr) (h : MH) (H : Hp) : Prop where
  len : β.length = h.length
  at_ : ∀ (n : Nat) (o : MO) (p : Addr), h[n]? = some o → β[n]? = some p → RepO K mg β H p o
  inj : ∀ (i j : Nat) (a b : MO) (p : Addr), h[i]? = some a → h[j]? = some b → a.wr = true → b.wr = true → β[i]? = some p → β[j]? = some p → i = j
structure RepS (β : List Addr) (H : Hp) (ρ : Env) (σ : L2.St) : Prop where
  len : ρ.length = σ.length
  at_ : ∀ (i : Nat) (d : Dt), ρ[i]? = some (some d) → ∃ v : V, σ[i]? = some (some v) ∧ RepV β H d v

section
variable {K : PySem.W.Frag} {mg : Str → Option Value} {β β' : List Addr} {H H' : Hp} {h : MH} {ρ : Env} {σ : L2.St}
theorem RepS.ext (x : Ext β β' H H') (r : RepS β H ρ σ) : RepS β' H' ρ σ := ⟨r.len, fun i d e => let ⟨v, a, b⟩ := r.at_ i d e; ⟨v, a, b.ext x⟩⟩
theorem RepS.set (r : RepS β H ρ σ) (i : Nat) {d : Dt} {v : V} (rv : RepV β H d v) : RepS β H (ρ.set i (some d)) (σ.set i (some v)) := by
  refine ⟨by simp [r.len], fun j d' e => ?_⟩
  by_cases hj : i = j
  · subst hj
    by_cases hl : i < ρ.length
    · rw [List.getElem?_set_self hl] at e
      cases e
      exact ⟨v, List.getElem?_set_self (by rw [← r.len]; exact hl), rv⟩
    · rw [List.getElem?_eq_none (by simpa using hl)] at e; cases e
  · rw [List.getElem?_set_ne hj] at e
    rw [List.getElem?_set_ne hj]
    exact r.at_ j d' e
theorem RepH.addr (r : RepH K mg β h H) {n : Nat} {o : MO} (e : h[n]? = some o) : ∃ p, β[n]? = some p ∧ RepO K mg β H p o := by
  have hn : n < h.length := (List.getElem?_eq_some_iff.mp e).1
  have hb : n < β.length := by rw [r.len]; exact hn
  exact ⟨β[n], List.getElem?_eq_getElem hb, r.at_ n o _ e (List.getElem?_eq_getElem hb)⟩
/-- a readable list -/
theorem RepH.list (r : RepH K mg β h H) {n : Nat} {xs : List Dt} (e : getL h n = some xs) : ∃ p vs, β[n]? = some p ∧ SqL K H p vs ∧ RepVs β H xs vs ∧ xs.length ≤ sizeLine := by
  unfold getL at e
  split at e
  · rename_i ys q
    cases e
    obtain ⟨p, hp, hl, vs, hv, rv⟩ := r.addr q
    exact ⟨p, vs, hp, SqL.of hv, rv, hl⟩
  · rename_i ys q
    cases e
    obtain ⟨p, hp, hl, vs, hv, rv⟩ := r.addr q
    exact ⟨p, vs, hp, hv.sq, rv, hl⟩
  · cases e
/-- the address of a written object holds what it holds -/
theorem RepO.some_of {p : Addr} {o : MO} (r : RepO K mg β H p o) (w : o.wr = true) : ∃ u, H p = some u ∧ Mw u ∧ ∀ xs, u ≠ .tup xs := by
  cases o with
  | lst xs => obtain ⟨_, vs, e, _⟩ := r; exact ⟨_, e, trivial, fun _ q => nomatch q⟩
  | fro xs => cases w
  | dK xs => obtain ⟨_, vs, e, _⟩ := r; exact ⟨_, e, trivial, fun _ q => nomatch q⟩
  | dT xs => obtain ⟨_, vs, e, _⟩ := r; exact ⟨_, e, trivial, fun _ q => nomatch q⟩
  | ins C fs => obtain ⟨_, _, _, _, e, _⟩ := r; exact ⟨_, e, trivial, fun _ q => nomatch q⟩
  | set ns => obtain ⟨_, e⟩ := r; exact ⟨_, e, trivial, fun _ q => nomatch q⟩
/-- nothing but tracked objects change: an object's description stays -/
theorem RepO.ext (x : Ext β β' H H') {p : Addr} {o : MO} (r : RepO K mg β H p o) (k : ∀ u, H p = some u → H' p = some u) : RepO K mg β' H' p o := by
  cases o with
  | lst xs => obtain ⟨l, vs, e, rv⟩ := r; exact ⟨l, vs, k _ e, rv.ext x⟩
  | fro xs =>
    obtain ⟨l, vs, e, rv⟩ := r
    refine ⟨l, vs, ?_, rv.ext x⟩
    rcases e with ⟨o, e⟩ | e
    · exact .inl ⟨o, k _ e⟩
    · exact .inr e
  | dK kvs => obtain ⟨l, vs, e, rv⟩ := r; exact ⟨l, vs, k _ e, rv.ext x⟩
  | dT kvs => obtain ⟨l, vs, e, rv⟩ := r; exact ⟨l, vs, k _ e, rv.ext x⟩
  | ins C fs => obtain ⟨Ca, dx, gs, m, e, l, rv⟩ := r; exact ⟨Ca, dx, gs, m, k _ e, l, rv.ext x⟩
  | set ns => obtain ⟨c, e⟩ := r; exact ⟨c, k _ e⟩
/-- a fresh thing (a tuple, a record that is not ours) is laid -/
theorem Ext.fresh {p : Addr} {u : HO} (hp : H p = none) : Ext β β H (upd H p u) where
  pre := fun _ _ h => h
  keep := fun q o h _ => by rw [upd_ne (ne_of_none h hp)]; exact h
  tup := fun q o h => by rw [upd_ne (ne_of_none h hp)]; exact h
  frz := fun q o u h => by rw [upd_ne (ne_of_none h hp)]; exact h
  ext := fun q o h => by rw [upd_ne (ne_of_none h hp)]; exact h
  xd := fun q o h => by rw [upd_ne (ne_of_none h hp)]; exact h
  dom := fun q h => by
    by_cases e : q = p
    · rw [e]; exact hp
    · rw [upd_ne e] at h; exact h
  new := fun _ h => .inl h
theorem RepH.fresh (r : RepH K mg β h H) {p : Addr} {u : HO} (hp : H p = none) : RepH K mg β h (upd H p u) :=
  ⟨r.len, fun n o q e1 e2 => (r.at_ n o q e1 e2).ext (Ext.fresh hp) fun u h => by rw [upd_ne (ne_of_none h hp)]; exact h, r.inj⟩
/-- a new object of ours -/
theorem Ext.alloc {p : Addr} {u : HO} (hp : H p = none) : Ext β (β ++ [p]) H (upd H p u) where
  pre := fun n q h => by rw [List.getElem?_append_left (List.getElem?_eq_some_iff.mp h).1]; exact h
  keep := fun q o h _ => by rw [upd_ne (ne_of_none h hp)]; exact h
  tup := fun q o h => by rw [upd_ne (ne_of_none h hp)]; exact h
  frz := fun q o u h => by rw [upd_ne (ne_of_none h hp)]; exact h
  ext := fun q o h => by rw [upd_ne (ne_of_none h hp)]; exact h
  xd := fun q o h => by rw [upd_ne (ne_of_none h hp)]; exact h
  dom := fun q h => by
    by_cases e : q = p
    · rw [e]; exact hp
    · rw [upd_ne e] at h; exact h
  new := fun q h => by
    rcases List.mem_append.mp h with z | z
    · exact .inl z
    · rw [List.mem_singleton] at z; rw [z]; exact .inr hp
theorem RepH.alloc (r : RepH K mg β h H) {p : Addr} {u : HO} {o : MO} (hp : H p = none) (new : RepO K mg (β ++ [p]) (upd H p u) p o) : RepH K mg (β ++ [p]) (h ++ [o]) (upd H p u) := by
  have key : ∀ {n : Nat} {a : MO} {q : Addr}, (h ++ [o])[n]? = some a → (β ++ [p])[n]? = some q → (h[n]? = some a ∧ β[n]? = some q) ∨ (n = h.length ∧ a = o ∧ q = p) := by
    intro n a q h1 h2
    by_cases hn : n < h.length
    · rw [List.getElem?_append_left hn] at h1
      rw [List.getElem?_append_left (by rw [r.len]; exact hn)] at h2
      exact .inl ⟨h1, h2⟩
    · have hn' : n = h.length := by
        have := (List.getElem?_eq_some_iff.mp h1).1
        simp at this
        omega
      subst hn'
      rw [List.getElem?_append_right (Nat.le_refl _), Nat.sub_self] at h1
      rw [List.getElem?_append_right (by rw [r.len]; exact Nat.le_refl _), r.len, Nat.sub_self] at h2
      simp at h1 h2
      exact .inr ⟨rfl, h1.symm, h2.symm⟩
  refine ⟨by simp [r.len], fun n a q h1 h2 => ?_, fun i j a b q h1 h2 w1 w2 h3 h4 => ?_⟩
  · rcases key h1 h2 with ⟨h1, h2⟩ | ⟨rfl, rfl, rfl⟩
    · exact (r.at_ n a q h1 h2).ext (Ext.alloc hp) fun u h => by rw [upd_ne (ne_of_none h hp)]; exact h
    · exact new
  · rcases key h1 h3 with ⟨g1, g3⟩ | ⟨e1, e2, e3⟩
    · rcases key h2 h4 with ⟨g2, g4⟩ | ⟨f1, f2, f3⟩
      · exact r.inj i j a b q g1 g2 w1 w2 g3 g4
      · obtain ⟨u, e, _⟩ := (r.at_ i a q g1 g3).some_of w1
        rw [f3, hp] at e; cases e
    · rcases key h2 h4 with ⟨g2, g4⟩ | ⟨f1, f2, f3⟩
      · obtain ⟨u, e, _⟩ := (r.at_ j b q g2 g4).some_of w2
        rw [e3, hp] at e; cases e
      · rw [e1, f1]
/-- an object of ours is written -/
theorem Ext.write {p : Addr} {u u' : HO} (hp : H p = some u) (mu : Mw u) (hb : p ∈ β) : Ext β β H (upd H p u') where
  pre := fun _ _ h => h
  keep := fun q o h hn => by
    have ne : q ≠ p := fun e => hn (by rw [e]; exact hb)
    rw [upd_ne ne]; exact h
  tup := fun q o h => by
    rw [upd_ne fun e => ?_]; exact h
    subst e; rw [hp] at h; cases h; exact mu
  frz := fun q o u h => by
    rw [upd_ne fun e => ?_]; exact h
    subst e; rw [hp] at h; cases h; exact mu
  ext := fun q o h => by
    rw [upd_ne fun e => ?_]; exact h
    subst e; rw [hp] at h; cases h; exact mu
  xd := fun q o h => by
    rw [upd_ne fun e => ?_]; exact h
    subst e; rw [hp] at h; cases h; exact mu
  dom := fun q h => by
    by_cases e : q = p
    · rw [e, upd_same] at h; cases h
    · rw [upd_ne e] at h; exact h
  new := fun _ h => .inl h
theorem RepH.write (r : RepH K mg β h H) {n : Nat} {p : Addr} {u : HO} {o o' : MO} (e : h[n]? = some o) (hp : β[n]? = some p) (w : o.wr = true)
    (new : RepO K mg β (upd H p u) p o') : RepH K mg β (h.set n o') (upd H p u) ∧ Ext β β H (upd H p u) := by
  obtain ⟨u0, e0, mu, _⟩ := (r.at_ n o p e hp).some_of w
  have hb : p ∈ β := List.mem_of_getElem? hp
  have x : Ext β β H (upd H p u) := Ext.write e0 mu hb
  have hn : n < h.length := (List.getElem?_eq_some_iff.mp e).1
  refine ⟨⟨by simp [r.len], fun m a q h1 h2 => ?_, fun i j a b q h1 h2 w1 w2 h3 h4 => ?_⟩, x⟩
  · by_cases hm : n = m
    · subst hm
      rw [List.getElem?_set_self hn] at h1
      cases h1
      rw [hp] at h2; cases h2
      exact new
    · rw [List.getElem?_set_ne hm] at h1
      have ra := r.at_ m a q h1 h2
      by_cases wa : a.wr = true
      · refine ra.ext x fun v hv => ?_
        rw [upd_ne fun eq => ?_]
        · exact hv
        · subst eq
          exact hm (r.inj n m o a q e h1 w wa hp h2)
      · cases a with
        | fro xs =>
          obtain ⟨l, vs, f, rv⟩ := ra
          refine ⟨l, vs, ?_, rv.ext x⟩
          rcases f with ⟨ob, f⟩ | f
          · exact .inl ⟨ob, x.frz _ _ _ f⟩
          · exact .inr f
        | _ => exact absurd rfl wa
  · have wr : ∀ {i : Nat} {a : MO}, (h.set n o')[i]? = some a → a.wr = true → ∃ a', h[i]? = some a' ∧ a'.wr = true := by
      intro i a h1 w1
      by_cases hi : n = i
      · subst hi; exact ⟨o, e, w⟩
      · rw [List.getElem?_set_ne hi] at h1; exact ⟨a, h1, w1⟩
    obtain ⟨a', h1', w1'⟩ := wr h1 w1
    obtain ⟨b', h2', w2'⟩ := wr h2 w2
    exact r.inj i j a' b' q h1' h2' w1' w2' h3 h4
theorem RepH.notin (r : RepH K mg β h H) {p : Addr} (hp : H p = none) (hk : K.lookup p = none) : p ∉ β := fun hm => by
  obtain ⟨n, hn, e⟩ := List.getElem_of_mem hm
  have hn' : n < h.length := by rw [← r.len]; exact hn
  have ra := r.at_ n h[n] p (List.getElem?_eq_getElem hn') (by rw [List.getElem?_eq_getElem hn, e])
  cases ho : h[n] with
  | fro xs =>
    rw [ho] at ra
    obtain ⟨_, vs, f, _⟩ := ra
    rcases f with ⟨o, f⟩ | ⟨o, _, _, f, _⟩
    · rw [hp] at f; cases f
    · rw [hk] at f; cases f
  | _ =>
    rw [ho] at ra
    obtain ⟨u, f, _⟩ := ra.some_of rfl
    rw [hp] at f; cases f
/-- a record laid before becomes ours -/
theorem Ext.adopt {β1 β2 : List Addr} {H2 : Hp} {p : Addr} {o u : HO} (hp : H p = none) (x : Ext β1 β2 (upd H p o) H2) : Ext β1 (β2 ++ [p]) H (upd H2 p u) where
  pre := fun n q h => by
    have := x.pre n q h
    rw [List.getElem?_append_left (List.getElem?_eq_some_iff.mp this).1]; exact this
  keep := fun q o h hn => by
    have ne := ne_of_none h hp
    rw [upd_ne ne]
    exact x.keep q o (by rw [upd_ne ne]; exact h) hn
  tup := fun q xs h => by
    have ne := ne_of_none h hp
    rw [upd_ne ne]
    exact x.tup q xs (by rw [upd_ne ne]; exact h)
  frz := fun q xs u h => by
    have ne := ne_of_none h hp
    rw [upd_ne ne]
    exact x.frz q xs u (by rw [upd_ne ne]; exact h)
  ext := fun q xs h => by
    have ne := ne_of_none h hp
    rw [upd_ne ne]
    exact x.ext q xs (by rw [upd_ne ne]; exact h)
  xd := fun q xs h => by
    have ne := ne_of_none h hp
    rw [upd_ne ne]
    exact x.xd q xs (by rw [upd_ne ne]; exact h)
  dom := fun q h => by
    by_cases e : q = p
    · rw [e]; exact hp
    · rw [upd_ne e] at h
      have := x.dom q h
      rw [upd_ne e] at this; exact this
  new := fun q h => by
    rcases List.mem_append.mp h with z | z
    · rcases x.new q z with w | w
      · exact .inl w
      · by_cases e : q = p
        · rw [e]; exact .inr hp
        · rw [upd_ne e] at w; exact .inr w
    · rw [List.mem_singleton] at z; rw [z]; exact .inr hp
/-- the heap without p -/
def dropH (H : Hp) (p : Addr) : Hp := fun q => if q = p then none else H q
theorem dropH_ne {p q : Addr} (h : q ≠ p) : dropH H p q = H q := if_neg h
theorem dropH_upd {p : Addr} {u : HO} : upd (dropH H p) p u = upd H p u := by
  funext q
  by_cases hq : q = p
  · rw [hq, upd_same, upd_same]
  · rw [upd_ne hq, upd_ne hq, dropH_ne hq]
mutual
theorem RepV.drop {p : Addr} (ht : ∀ xs, H p ≠ some (.tup xs)) : ∀ {d : Dt} {v : V}, RepV β H d v → RepV β (dropH H p) d v
  | _, _, .non => .non
  | _, _, .bl b => .bl b
  | _, _, .int i => .int i
  | _, _, .str y => .str y
  | _, _, .tup (p := q) e l r => .tup (by rw [dropH_ne fun z => ht _ (by rw [← z]; exact e)]; exact e) l (RepVs.drop' ht r)
  | _, _, .loc e => .loc e
theorem RepVs.drop' {p : Addr} (ht : ∀ xs, H p ≠ some (.tup xs)) : ∀ {ds : List Dt} {vs : List V}, RepVs β H ds vs → RepVs β (dropH H p) ds vs
  | _, _, .nil => .nil
  | _, _, .cons a b => .cons (RepV.drop ht a) (RepVs.drop' ht b)
end
theorem RepK.drop {κ : Type} {p : Addr} (ht : ∀ xs, H p ≠ some (.tup xs)) : ∀ {a : List (κ × Dt)} {b : List (κ × V)}, RepK β H a b → RepK β (dropH H p) a b
  | _, _, .nil => .nil
  | _, _, .cons a b => .cons (RepV.drop ht a) (RepK.drop ht b)
theorem RepH.drop (r : RepH K mg β h H) {p : Addr} (hn : p ∉ β) (ht : ∀ xs, H p ≠ some (.tup xs)) (hf : ∀ a b, H p ≠ some (.frz a b)) : RepH K mg β h (dropH H p) := by
  refine ⟨r.len, fun n o q e1 e2 => ?_, r.inj⟩
  have hq : q ≠ p := fun z => hn (by rw [← z]; exact List.mem_of_getElem? e2)
  have ra := r.at_ n o q e1 e2
  cases o with
  | lst xs => obtain ⟨l, vs, e, rv⟩ := ra; exact ⟨l, vs, by rw [dropH_ne hq]; exact e, rv.drop' ht⟩
  | fro xs =>
    obtain ⟨l, vs, f, rv⟩ := ra
    refine ⟨l, vs, ?_, rv.drop' ht⟩
    rcases f with ⟨ob, f⟩ | f
    · exact .inl ⟨ob, by rw [dropH_ne hq]; exact f⟩
    · exact .inr f
  | dK xs => obtain ⟨l, vs, e, rv⟩ := ra; exact ⟨l, vs, by rw [dropH_ne hq]; exact e, rv.drop ht⟩
  | dT xs => obtain ⟨l, vs, e, rv⟩ := ra; exact ⟨l, vs, by rw [dropH_ne hq]; exact e, rv.drop ht⟩
  | set ns => obtain ⟨c, e⟩ := ra; exact ⟨c, by rw [dropH_ne hq]; exact e⟩
  | ins C fs =>
    obtain ⟨Ca, dx, gs, m, e, l, rv⟩ := ra
    refine ⟨Ca, dx, gs, m, by rw [dropH_ne hq]; exact e, l, fun f => ?_⟩
    rcases rv f with z | ⟨d, v, h1, h2, h3⟩
    · exact .inl z
    · exact .inr ⟨d, v, h1, h2, h3.drop ht⟩
theorem RepH.adopt (r : RepH K mg β h H) {p : Addr} {u : HO} {ob : MO} (hn : p ∉ β) (ht : ∀ xs, H p ≠ some (.tup xs)) (hf : ∀ a b, H p ≠ some (.frz a b)) (new : RepO K mg (β ++ [p]) (upd H p u) p ob) : RepH K mg (β ++ [p]) (h ++ [ob]) (upd H p u) := by
  have := (r.drop hn ht hf).alloc (p := p) (u := u) (o := ob) (by simp [dropH]) (by rw [dropH_upd]; exact new)
  rw [dropH_upd] at this
  exact this
/-- what stands, seen after an adoption -/
theorem RepV.adopt {p : Addr} {u : HO} (ht : ∀ xs, H p ≠ some (.tup xs)) {d : Dt} {v : V} (rv : RepV β H d v) : RepV (β ++ [p]) (upd H p u) d v := by
  have x : Ext β (β ++ [p]) (dropH H p) (upd (dropH H p) p u) := Ext.alloc (by simp [dropH])
  rw [dropH_upd] at x
  exact (rv.drop ht).ext x
end
end EP
end
section
set_option maxHeartbeats 1000000
/-! Snd1: the judgement, operators. -/
namespace EP
open PySem PySem.Spec PyProof.Rows L2

structure Rc where
  K : PySem.W.Frag
  mg : Str → Option Value
abbrev rc (X : Cx) : Rc := ⟨X.K, X.mg⟩
/-- an exception's fields: its dict, if it has one -/
def RepX (β : List Addr) (H : Hp) (fs : Fs) : Option Addr → Prop
  | some dd => ∃ gs, H dd = some (.xd gs) ∧ RepF β H fs gs
  | none => fs = []
/-- what is wanted behind a result -/
def Post {α γ : Type} (R : Rc) (W : WX) (σ : L2.St) (β : List Addr) (H : Hp) (Rel : List Addr → Hp → α → γ → Prop) (Q : γ → Hp → Prop) : RE α → Prop
  | .ok a h => ∀ β' H' c, Ext β β' H H' → RepH R.K R.mg β' h H' → Rel β' H' a c → Q c H'
  | .ex C fs h => ∀ β' H' Cv od, Ext β β' H H' → RepH R.K R.mg β' h H' → R.mg C = some Cv → RepX β' H' fs od → W Cv od σ H'
  | .bad => False
/-- the reading of a meaning -/
def tG {α γ : Type} (X : Cx) (W : WX) (Rel : List Addr → Hp → α → γ → Prop) (g : Env → M α) : L2.St → Hp → (γ → Hp → Prop) → Prop :=
  fun σ H Q => ∃ ρ h β, RepS β H ρ σ ∧ RepH X.K X.mg β h H ∧ Post (rc X) W σ β H Rel Q (g ρ h)
abbrev RelE {α : Type} : List Addr → Hp → α → α → Prop := fun _ _ a c => a = c
abbrev tE (X : Cx) (W : WX) (g : Env → M Dt) : TE := tG X W RepV g
abbrev tT (X : Cx) (W : WX) (g : Env → M Bool) : TT := tG X W RelE g
abbrev tA (X : Cx) (W : WX) (g : Env → M (List Dt)) : TA := tG X W RepVs g
abbrev tO (X : Cx) (W : WX) (g : Env → M (Option Int)) : TO := tG X W RelE g
section
variable {X : Rc} {W : WX} {σ : L2.St} {β β' : List Addr} {H H' : Hp}
theorem Post.ext {α γ : Type} {Rel : List Addr → Hp → α → γ → Prop} {Q : γ → Hp → Prop} {r : RE α} (x : Ext β β' H H') (p : Post X W σ β H Rel Q r) : Post X W σ β' H' Rel Q r := by
  cases r with
  | ok a h => exact fun β2 H2 c x2 rh rc => p β2 H2 c (x.trans x2) rh rc
  | ex C fs h => exact fun β2 H2 Cv od x2 => p β2 H2 Cv od (x.trans x2)
  | bad => exact p
theorem Post.bnd {α γ α' γ' : Type} {Rel : List Addr → Hp → α → γ → Prop} {Rel' : List Addr → Hp → α' → γ' → Prop} {Q : γ' → Hp → Prop} {P : γ → Hp → Prop} {m : RE α} {f : α → MH → RE α'} (p : Post X W σ β H Rel' Q (bnd m f))
    (k : ∀ a h1 β' H' c, Ext β β' H H' → RepH X.K X.mg β' h1 H' → Rel β' H' a c → Post X W σ β' H' Rel' Q (f a h1) → P c H') : Post X W σ β H Rel P m := by
  cases m with
  | ok a h => exact fun β2 H2 c x rh rc => k a h β2 H2 c x rh rc (Post.ext x p)
  | ex C fs h => exact p
  | bad => exact p
/-- .. with what was reckoned -/
theorem Post.bndE {α γ α' γ' : Type} {Rel : List Addr → Hp → α → γ → Prop} {Rel' : List Addr → Hp → α' → γ' → Prop} {Q : γ' → Hp → Prop} {P : γ → Hp → Prop} {m : RE α} {f : α → MH → RE α'} (p : Post X W σ β H Rel' Q (EP.bnd m f))
    (k : ∀ a h1 β' H' c, m = .ok a h1 → Ext β β' H H' → RepH X.K X.mg β' h1 H' → Rel β' H' a c → Post X W σ β' H' Rel' Q (f a h1) → P c H') : Post X W σ β H Rel P m := by
  cases m with
  | ok a h => exact fun β2 H2 c x rh rc => k a h β2 H2 c rfl x rh rc (Post.ext x p)
  | ex C fs h => exact p
  | bad => exact p
/-- an end: the value at hand -/
theorem Post.here {α γ : Type} {Rel : List Addr → Hp → α → γ → Prop} {Q : γ → Hp → Prop} {a : α} {h : MH} {c : γ} (p : Post X W σ β H Rel Q (.ok a h)) (rh : RepH X.K X.mg β h H) (rc : Rel β H a c) : Q c H := p β H c (Ext.refl _ _) rh rc
theorem Post.imp {α γ : Type} {Rel : List Addr → Hp → α → γ → Prop} {Q Q' : γ → Hp → Prop} {r : RE α} (p : Post X W σ β H Rel Q r) (k : ∀ c H', Q c H' → Q' c H') : Post X W σ β H Rel Q' r := by
  cases r with
  | ok a h => exact fun β2 H2 c x rh rc => k _ _ (p β2 H2 c x rh rc)
  | ex C fs h => exact p
  | bad => exact p
/-- a new tuple -/
theorem Post.newT {Q : VK} {ds : List Dt} {vs : List V} {h : MH} (p : Post X W σ β H RepV Q (newT ds h)) (rh : RepH X.K X.mg β h H) (rv : RepVs β H ds vs) : vs.length ≤ sizeLine ∧ ∀ a, H a = none → Q (.ref a) (upd H a (.tup vs)) := by
  unfold EP.newT at p
  by_cases hl : ds.length ≤ sizeLine
  · rw [if_pos hl] at p
    refine ⟨by rw [← rv.length]; exact hl, fun a ha => p β _ _ (Ext.fresh ha) (rh.fresh ha) (.tup upd_same hl (rv.ext (Ext.fresh ha)))⟩
  · rw [if_neg hl] at p; exact p.elim
/-- a new list -/
theorem Post.alloc {Q : VK} {ds : List Dt} {vs : List V} {h : MH} (p : Post X W σ β H RepV Q (.ok (.loc h.length) (h ++ [.lst ds]))) (rh : RepH X.K X.mg β h H) (rv : RepVs β H ds vs) (hl : ds.length ≤ sizeLine) : ∀ a, H a = none → Q (.ref a) (upd H a (.lst vs)) := fun a ha => by
  have x : Ext β (β ++ [a]) H (upd H a (.lst vs)) := Ext.alloc ha
  refine p (β ++ [a]) _ _ x (rh.alloc ha ⟨hl, vs, upd_same, rv.ext x⟩) (.loc ?_)
  rw [← rh.len]
  simp
theorem Post.newL {Q : VK} {ds : List Dt} {vs : List V} {h : MH} (p : Post X W σ β H RepV Q (newL ds h)) (rh : RepH X.K X.mg β h H) (rv : RepVs β H ds vs) : vs.length ≤ sizeLine ∧ ∀ a, H a = none → Q (.ref a) (upd H a (.lst vs)) := by
  unfold EP.newL at p
  by_cases hl : ds.length ≤ sizeLine
  · rw [if_pos hl] at p
    exact ⟨by rw [← rv.length]; exact hl, Post.alloc p rh rv hl⟩
  · rw [if_neg hl] at p; exact p.elim
/-- an object of ours is written -/
theorem Post.write {α γ : Type} {Rel : List Addr → Hp → α → γ → Prop} {Q : γ → Hp → Prop} {a : α} {c : γ} {h : MH} {n : Nat} {p : Addr} {u : HO} {o o' : MO} (q : Post X W σ β H Rel Q (.ok a (h.set n o'))) (rh : RepH X.K X.mg β h H)
    (e : h[n]? = some o) (hp : β[n]? = some p) (w : o.wr = true) (new : Ext β β H (upd H p u) → RepO X.K X.mg β (upd H p u) p o') (rc : Ext β β H (upd H p u) → Rel β (upd H p u) a c) : Q c (upd H p u) := by
  obtain ⟨u0, e0, mu, _⟩ := (rh.at_ n o p e hp).some_of w
  have x : Ext β β H (upd H p u) := Ext.write e0 mu (List.mem_of_getElem? hp)
  obtain ⟨rh', _⟩ := rh.write e hp w (new x)
  exact q β _ c x rh' (rc x)
end

theorem _root_.L2.PE.imp {X : Cx} {e : Expr} {t t' : TE} (h : PE X e t) (k : ∀ σ H Q, t' σ H Q → t σ H Q) : PE X e t' := ⟨fun pins s σ H Q I q => h.run pins s σ H Q I (k σ H Q q)⟩
theorem _root_.L2.PT.imp {X : Cx} {e : Expr} {t t' : TT} (h : PT X e t) (k : ∀ σ H Q, t' σ H Q → t σ H Q) : PT X e t' := ⟨fun pins s σ H Q I q => h.run pins s σ H Q I (k σ H Q q)⟩
theorem _root_.L2.PW.imp {X : Cx} {e : Expr} {t t' : TT} (h : PW X e t) (k : ∀ σ H Q, t' σ H Q → t σ H Q) : PW X e t' := ⟨fun w pins s σ H Q I q => h.run w pins s σ H Q I (k σ H Q q)⟩
theorem _root_.L2.PA.imp {X : Cx} {e : List Expr} {t t' : TA} (h : PA X e t) (k : ∀ σ H Q, t' σ H Q → t σ H Q) : PA X e t' := ⟨fun pos pins s σ H Q I q => h.run pos pins s σ H Q I (k σ H Q q)⟩
theorem _root_.L2.PO.imp {X : Cx} {e : Option Expr} {t t' : TO} (h : PO X e t) (k : ∀ σ H Q, t' σ H Q → t σ H Q) : PO X e t' := ⟨fun pins s σ H Q I q => h.run pins s σ H Q I (k σ H Q q)⟩
theorem _root_.L2.PS.imp {X : Cx} {e : Stmt} {t t' : TS} (h : PS X e t) (k : ∀ D σ H, t' D σ H → t D σ H) : PS X e t' := ⟨fun pins s σ H D I q => h.run pins s σ H D I (k D σ H q)⟩
theorem _root_.L2.PSs.imp {X : Cx} {e : List Stmt} {t t' : TS} (h : PSs X e t) (k : ∀ D σ H, t' D σ H → t D σ H) : PSs X e t' := ⟨fun pins s σ H D I q => h.run pins s σ H D I (k D σ H q)⟩
theorem _root_.L2.PI.imp {X : Cx} {tg e : Expr} {t t' : TI} (h : PI X tg e t) (k : ∀ σ H Q, t' σ H Q → t σ H Q) : PI X tg e t' := ⟨fun pins s σ H Q I q => h.run pins s σ H Q I (k σ H Q q)⟩

/-! ### operators by values -/
/-- what an operator on data says of the operator on values -/
def rS (X : Cx) (o : Op2) : R2 := fun x y H Q => ∃ (W : WX) (σ : L2.St) (β : List Addr) (h : MH) (a b : Dt), RepH X.K X.mg β h H ∧ RepV β H a x ∧ RepV β H b y ∧ Post (rc X) W σ β H RepV Q (o a b h)
section
variable {X : Cx}
theorem RepV.sqT {K : PySem.W.Frag} {β : List Addr} {H : Hp} {ds : List Dt} {x : V} (r : RepV β H (.tup ds) x) : ∃ p vs, x = .ref p ∧ H p = some (.tup vs) ∧ SqT K H p vs ∧ RepVs β H ds vs ∧ ds.length ≤ sizeLine := by
  cases r with
  | tup e l r => exact ⟨_, _, rfl, e, SqT.of e, r, l⟩
theorem RepV.at_loc {β : List Addr} {H : Hp} {n : Nat} {x : V} (r : RepV β H (.loc n) x) : ∃ p, x = .ref p ∧ β[n]? = some p := by
  cases r with
  | loc e => exact ⟨_, rfl, e⟩
theorem RepH.lst {K : PySem.W.Frag} {mg : Str → Option Value} {β : List Addr} {h : MH} {H : Hp} (r : RepH K mg β h H) {n : Nat} {p : Addr} {xs : List Dt} (e : h[n]? = some (.lst xs)) (hp : β[n]? = some p) :
    xs.length ≤ sizeLine ∧ ∃ vs, H p = some (.lst vs) ∧ RepVs β H xs vs := r.at_ n _ p e hp
theorem os_add : OpR X (binaryOp .Add) (rS X oAdd) := by
  intro pins s σ H x y v u Q I rx ry ⟨W, σ', β, h, a, b, rh, ra, rb, p⟩
  unfold oAdd at p
  split at p
  · rename_i h' i j
    cases ra; cases rb
    exact op_add pins s σ H _ _ v u Q I rx ry ⟨i, j, rfl, rfl, p.here rh (.int _)⟩
  · rename_i h' as bs
    obtain ⟨p1, us, rfl, e1, s1, r1, l1⟩ := ra.sqT (K := X.K)
    obtain ⟨p2, vs, rfl, e2, s2, r2, l2⟩ := rb.sqT (K := X.K)
    unfold EP.newT at p
    by_cases hl : (as ++ bs).length ≤ sizeLine
    · rw [if_pos hl] at p
      refine op_catA pins s σ H _ _ v u Q I rx ry ⟨p1, p2, us, vs, rfl, rfl, s1, s2, ?_, fun e => ?_, fun ne e => ?_, fun ne ne' q hq => ?_⟩
      · rw [← r1.length, ← r2.length, ← List.length_append]; exact hl
      · subst e
        cases r1
        exact p.here rh (.tup e2 l2 r2)
      · subst e
        cases r2
        rw [List.append_nil] at p
        exact p.here rh (.tup e1 l1 r1)
      · exact p β _ _ (Ext.fresh hq) (rh.fresh hq) (.tup upd_same hl ((r1.append r2).ext (Ext.fresh hq)))
    · rw [if_neg hl] at p; exact p.elim
  · rename_i h' m n
    split at p
    · rename_i as bs em en
      obtain ⟨p1, rfl, b1⟩ := ra.at_loc
      obtain ⟨p2, rfl, b2⟩ := rb.at_loc
      obtain ⟨l1, us, e1, r1⟩ := rh.lst em b1
      obtain ⟨l2, vs, e2, r2⟩ := rh.lst en b2
      obtain ⟨hl, q⟩ := p.newL rh (r1.append r2)
      exact op_cat pins s σ H _ _ v u Q I rx ry ⟨p1, p2, us, vs, rfl, rfl, e1, e2, by rw [← List.length_append]; exact hl, q⟩
    · exact p.elim
  · exact p.elim
theorem os_sub : OpR X (binaryOp .Sub) (rS X oSub) := by
  intro pins s σ H x y v u Q I rx ry ⟨W, σ', β, h, a, b, rh, ra, rb, p⟩
  unfold oSub at p
  split at p
  · cases ra; cases rb
    exact op_sub pins s σ H _ _ v u Q I rx ry ⟨_, _, rfl, rfl, p.here rh (.int _)⟩
  · exact p.elim
theorem lim64_eq : lim64 = 2 ^ 64 := by decide
theorem lim200_eq : lim200 = 2 ^ 200 := by decide
theorem lim62_eq : lim62 = 2 ^ 62 := by decide
theorem os_mul : OpR X (binaryOp .Mult) (rS X oMul) := by
  intro pins s σ H x y v u Q I rx ry ⟨W, σ', β, h, a, b, rh, ra, rb, p⟩
  unfold oMul at p
  split at p
  · rename_i h' i j
    cases ra; cases rb
    split at p
    · rename_i hb
      rcases hb with hb | hb
      · rw [lim64_eq] at hb
        exact op_mul pins s σ H _ _ v u Q I rx ry ⟨_, _, rfl, rfl, hb, p.here rh (.int _)⟩
      · rw [lim200_eq] at hb
        exact op_mulW pins s σ H _ _ v u Q I rx ry ⟨_, _, rfl, rfl, wide_mul (a := 200) (b := 200) (by omega) (by omega) (by decide) (by decide) (by decide), p.here rh (.int _)⟩
    · exact p.elim
  · rename_i h' m k
    cases rb
    obtain ⟨p1, rfl, b1⟩ := ra.at_loc
    split at p
    · rename_i xs em
      obtain ⟨l1, us, e1, r1⟩ := rh.lst em b1
      split at p
      · rename_i hk
        rw [lim62_eq] at hk
        obtain ⟨hl, q⟩ := p.newL rh (r1.flat k.toNat)
        refine op_rep pins s σ H _ _ v u Q I rx ry ⟨p1, k, us, rfl, rfl, e1, ?_, ?_, ?_, q⟩
        · have : (-(2 ^ 62) : Int) ≤ k := hk.2
          omega
        · have : k < (2 ^ 62 : Int) := hk.1
          omega
        · rw [List.length_flatten] at hl
          simp at hl
          rw [Nat.mul_comm]; exact hl
      · exact p.elim
    · exact p.elim
  · exact p.elim
theorem os_fdiv : OpR X (binaryOp .FloorDiv) (rS X oFdiv) := by
  intro pins s σ H x y v u Q I rx ry ⟨W, σ', β, h, a, b, rh, ra, rb, p⟩
  unfold oFdiv at p
  split at p
  · rename_i h' i j
    cases ra; cases rb
    split at p
    · rename_i hb
      obtain ⟨h0, h1⟩ := hb
      rw [lim200_eq] at h1
      have hj : j.natAbs < 2 ^ 200 := by
        have e : ((2 ^ 200 : Nat) : Int) = (2 : Int) ^ 200 := by decide
        omega
      exact op_fdivW pins s σ H _ _ v u Q I rx ry ⟨_, _, rfl, rfl, wide_div h0 hj (by decide) (by decide), p.here rh (.int _)⟩
    · exact p.elim
  · exact p.elim
theorem os_mod : OpR X (binaryOp .Mod) (rS X oMod) := by
  intro pins s σ H x y v u Q I rx ry ⟨W, σ', β, h, a, b, rh, ra, rb, p⟩
  unfold oMod at p
  split at p
  · cases ra; cases rb
    split at p
    · rename_i hb
      exact op_mod pins s σ H _ _ v u Q I rx ry ⟨_, _, rfl, rfl, hb, p.here rh (.int _)⟩
    · exact p.elim
  · exact p.elim
theorem os_pow : OpR X (binaryOp .Pow) (rS X oPow) := by
  intro pins s σ H x y v u Q I rx ry ⟨W, σ', β, h, a, b, rh, ra, rb, p⟩
  unfold oPow at p
  split at p
  · rename_i h' i j
    cases ra; cases rb
    split at p
    · rename_i hb
      rw [lim64_eq] at hb
      refine op_pow pins s σ H _ _ v u Q I rx ry ⟨_, _, rfl, rfl, ⟨hb.1, hb.2.1, ?_⟩, p.here rh (.int _)⟩
      have e : ((2 ^ 64 : Nat) : Int) = (2 : Int) ^ 64 := by decide
      obtain ⟨_, _, h3, h4⟩ := hb
      omega
    · exact p.elim
  · exact p.elim
theorem os_cmp {f : Value → Value → Sem Value} {g : Int → Int → Bool} (ho : OpR X f (rI0 fun i j => .bl (g i j))) : OpR X f (rS X (oCmp g)) := by
  intro pins s σ H x y v u Q I rx ry ⟨W, σ', β, h, a, b, rh, ra, rb, p⟩
  unfold oCmp at p
  split at p
  · cases ra; cases rb
    exact ho pins s σ H _ _ v u Q I rx ry ⟨_, _, rfl, rfl, p.here rh (.bl _)⟩
  · exact p.elim
theorem os_lt : OpR X (compareOp .Lt) (rS X oLt) := os_cmp op_lt
theorem os_le : OpR X (compareOp .LtE) (rS X oLe) := os_cmp op_le
theorem os_gt : OpR X (compareOp .Gt) (rS X oGt) := os_cmp op_gt
theorem os_ge : OpR X (compareOp .GtE) (rS X oGe) := os_cmp op_ge

/-! ### data as the library knows it -/
mutual
theorem RepV.dp {K : PySem.W.Frag} {β : List Addr} {H : Hp} : ∀ {d : Dt} {v : V}, RepV β H d v → d.plain = true → Dp K H v d.py
  | _, _, .non, _ => .non
  | _, _, .bl b, _ => .bl b
  | _, _, .int i, _ => .int i
  | _, _, .str x, _ => .str x
  | _, _, .tup e _ r, h => by
    simp only [Dt.plain] at h
    simp only [Dt.py]
    exact .tup (SqT.of e) (RepVs.dp r h)
  | _, _, .loc _, h => by simp [Dt.plain] at h
theorem RepVs.dp {K : PySem.W.Frag} {β : List Addr} {H : Hp} : ∀ {ds : List Dt} {vs : List V}, RepVs β H ds vs → plains ds = true → DpAll K H vs (pys ds)
  | _, _, .nil, _ => .nil
  | _, _, .cons a r, h => by
    simp only [plains, Bool.and_eq_true] at h
    simp only [pys]
    exact .cons (RepV.dp a h.1) (RepVs.dp r h.2)
end
mutual
theorem canLay_of : ∀ d : Dt, d.plain = true → d.py.canLay0 = true
  | .non, _ => by simp [Dt.py, PyData.canLay0]
  | .bl _, _ => by simp [Dt.py, PyData.canLay0]
  | .int _, _ => by simp [Dt.py, PyData.canLay0]
  | .str x, h => by simpa [Dt.py, PyData.canLay0, Dt.plain] using h
  | .tup ds, h => by
    simp only [Dt.py, PyData.canLay0]
    exact canLays_of ds (by simpa [Dt.plain] using h)
  | .loc _, h => by simp [Dt.plain] at h
theorem canLays_of : ∀ ds : List Dt, plains ds = true → PyData.canLayAll0 (pys ds) = true
  | [], _ => by simp [pys, PyData.canLayAll0]
  | d :: r, h => by
    simp only [plains, Bool.and_eq_true] at h
    simp only [pys, PyData.canLayAll0, Bool.and_eq_true]
    exact ⟨canLay_of d h.1, canLays_of r h.2⟩
end
mutual
theorem depth_of : ∀ d : Dt, d.py.depth ≤ d.dep + 1
  | .non => by simp [Dt.py, PyData.depth, Dt.dep]
  | .bl _ => by simp [Dt.py, PyData.depth, Dt.dep]
  | .int _ => by simp [Dt.py, PyData.depth, Dt.dep]
  | .str x => by simp [Dt.py, PyData.depth, Dt.dep]
  | .tup ds => by
    simp only [Dt.py, PyData.depth, Dt.dep]
    have := depths_of ds
    omega
  | .loc _ => by simp [Dt.py, PyData.depth, Dt.dep, PyData.depthKv]
theorem depths_of : ∀ ds : List Dt, PyData.depthAll (pys ds) ≤ deps ds + 1
  | [] => by simp [pys, PyData.depthAll]
  | d :: r => by
    simp only [pys, PyData.depthAll, deps]
    have h1 := depth_of d
    have h2 := depths_of r
    omega
end
end
end EP
end
section
set_option maxHeartbeats 1000000
/-! Snd2: comparisons, subscripts, built-in functions and methods. -/
namespace EP
open PySem PySem.Spec PyProof.Rows L2
section
variable {X : Cx}
theorem pys_length : ∀ ds : List Dt, (pys ds).length = ds.length
  | [] => rfl
  | _ :: r => congrArg (· + 1) (pys_length r)
theorem pys_get : ∀ (ds : List Dt) (i : Nat), (pys ds)[i]? = ds[i]?.map Dt.py
  | [], i => by simp [pys]
  | d :: r, 0 => by simp [pys]
  | d :: r, i + 1 => by simp [pys, pys_get r i]
theorem pys_any (d : Dt) : ∀ ds : List Dt, ((pys ds).any fun z => PyData.eqv z d.py) = ds.any fun z => eqv z d
  | [] => rfl
  | x :: r => by simp only [pys, List.any_cons, pys_any d r]; rfl
theorem shaped_of {d : Dt} (h : d.eqOk = true) : SeqAt.shaped d.py = true := by
  unfold Dt.eqOk at h
  simp only [Bool.and_eq_true, decide_eq_true_eq] at h
  unfold SeqAt.shaped
  simp only [Bool.and_eq_true, decide_eq_true_eq]
  have := depth_of d
  exact ⟨canLay_of d h.1, by omega⟩
theorem shapedL_of {ds : List Dt} (h : (Dt.tup ds).eqOk = true) : SeqAt.shaped (.list (pys ds)) = true := by
  have := shaped_of h
  unfold SeqAt.shaped at *
  simpa [Dt.py, PyData.canLay0, PyData.depth] using this
theorem plain_of_eqOk {d : Dt} (h : d.eqOk = true) : d.plain = true := by
  unfold Dt.eqOk at h
  simp only [Bool.and_eq_true] at h
  exact h.1
theorem lst_dp {β : List Addr} {h : MH} {H : Hp} {m : Nat} {xs : List Dt} {v : V} {X : Cx} (rh : RepH X.K X.mg β h H) (r : RepV β H (.loc m) v) (e : getL h m = some xs) (k : (Dt.tup xs).eqOk = true) : Dp X.K H v (.list (pys xs)) ∧ SeqAt.shaped (.list (pys xs)) = true := by
  obtain ⟨q, rfl, bq⟩ := r.at_loc
  obtain ⟨q', vs, bq', sq, rv, _⟩ := rh.list e
  rw [bq] at bq'; cases bq'
  have pl := plain_of_eqOk k
  simp only [Dt.plain] at pl
  exact ⟨.lst sq (rv.dp pl), shapedL_of k⟩
theorem eqv_lists (xs ys : List Dt) : PyData.eqv (.list (pys xs)) (.list (pys ys)) = eqv (.tup xs) (.tup ys) := by
  simp only [eqv, Dt.py, PyData.eqv]
theorem os_eq (hu : X.A.units + 64 < cLine) : OpR X (compareOp .Eq) (rS X (oEq false)) := by
  intro pins s σ H x y v u Q I rx ry ⟨W, σ', β, h, a, b, rh, ra, rb, p⟩
  unfold oEq at p
  split at p
  · split at p
    · rename_i xs ys e1 e2
      unfold eqL at p
      split at p
      · rename_i hk
        obtain ⟨d1, s1⟩ := lst_dp rh ra e1 hk.1
        obtain ⟨d2, s2⟩ := lst_dp rh rb e2 hk.2
        refine op_eqD hu pins s σ H _ _ v u Q I rx ry ⟨_, _, d1, d2, s1, s2, ?_⟩
        rw [eqv_lists]
        exact p.here rh (.bl _)
      · exact p.elim
    · exact p.elim
  split at p
  · rename_i hk
    exact op_eqD hu pins s σ H _ _ v u Q I rx ry ⟨_, _, ra.dp (plain_of_eqOk hk.1), rb.dp (plain_of_eqOk hk.2), shaped_of hk.1, shaped_of hk.2, p.here rh (.bl _)⟩
  · exact p.elim
theorem os_ne (hu : X.A.units + 64 < cLine) : OpR X (compareOp .NotEq) (rS X (oEq true)) := by
  intro pins s σ H x y v u Q I rx ry ⟨W, σ', β, h, a, b, rh, ra, rb, p⟩
  unfold oEq at p
  split at p
  · split at p
    · rename_i xs ys e1 e2
      unfold eqL at p
      split at p
      · rename_i hk
        obtain ⟨d1, s1⟩ := lst_dp rh ra e1 hk.1
        obtain ⟨d2, s2⟩ := lst_dp rh rb e2 hk.2
        refine op_neD hu pins s σ H _ _ v u Q I rx ry ⟨_, _, d1, d2, s1, s2, ?_⟩
        rw [eqv_lists]
        exact p.here rh (.bl _)
      · exact p.elim
    · exact p.elim
  split at p
  · rename_i hk
    exact op_neD hu pins s σ H _ _ v u Q I rx ry ⟨_, _, ra.dp (plain_of_eqOk hk.1), rb.dp (plain_of_eqOk hk.2), shaped_of hk.1, shaped_of hk.2, p.here rh (.bl _)⟩
  · exact p.elim
theorem os_is : OpR X (compareOp .Is) (rS X (oIs false)) := by
  intro pins s σ H x y v u Q I rx ry ⟨W, σ', β, h, a, b, rh, ra, rb, p⟩
  unfold oIs at p
  split at p
  · cases ra; cases rb
    exact op_isN pins s σ H _ _ v u Q I rx ry ⟨rfl, p.here rh (.bl _)⟩
  · rename_i hn
    cases rb
    refine op_isN pins s σ H _ _ v u Q I rx ry ⟨rfl, ?_⟩
    have e : x ≠ .non := fun e => by subst e; cases ra; exact hn rfl
    rw [decide_eq_false e]
    exact p.here rh (.bl _)
  · exact p.elim
theorem os_isnot : OpR X (compareOp .IsNot) (rS X (oIs true)) := by
  intro pins s σ H x y v u Q I rx ry ⟨W, σ', β, h, a, b, rh, ra, rb, p⟩
  unfold oIs at p
  split at p
  · cases ra; cases rb
    exact op_notN pins s σ H _ _ v u Q I rx ry ⟨rfl, p.here rh (.bl _)⟩
  · rename_i hn
    cases rb
    refine op_notN pins s σ H _ _ v u Q I rx ry ⟨rfl, ?_⟩
    have e : x ≠ .non := fun e => by subst e; cases ra; exact hn rfl
    rw [decide_eq_false e]
    exact p.here rh (.bl _)
  · exact p.elim
theorem flat_of {β : List Addr} {H : Hp} {d : Dt} {v : V} (r : RepV β H d v) (f : d.flat = true) : flatV v = true := by
  cases r <;> simp_all [Dt.flat, flatV]
theorem eqv_flat {β : List Addr} {H : Hp} {d e : Dt} {v w : V} (r : RepV β H d v) (q : RepV β H e w) (f : d.flat = true) (g : e.flat = true) : eqV v w = eqv d e := by
  cases r <;> cases q <;> simp_all [Dt.flat, eqV, eqv, Dt.py, PyData.eqv]
theorem any_flat {β : List Addr} {H : Hp} {e : Dt} {w : V} (q : RepV β H e w) (g : e.flat = true) : ∀ {ds : List Dt} {vs : List V}, RepVs β H ds vs → ds.all Dt.flat = true → vs.all flatV = true ∧ inV w vs = ds.any fun z => eqv z e
  | _, _, .nil, _ => ⟨rfl, rfl⟩
  | _, _, .cons a r, h => by
    simp only [List.all_cons, Bool.and_eq_true] at h
    obtain ⟨h1, h2⟩ := any_flat q g r h.2
    refine ⟨by simp only [List.all_cons, Bool.and_eq_true]; exact ⟨flat_of a h.1, h1⟩, ?_⟩
    unfold inV at *
    simp only [List.any_cons]
    rw [eqv_flat a q h.1 g, h2]
theorem key_at {β : List Addr} {H : Hp} {d : Dt} {v : V} {k : Key} (r : RepV β H d v) (e : toKey d = some k) : v = kV k := by
  cases r <;> simp [toKey] at e <;> subst e <;> rfl
theorem keyL_at {β : List Addr} {H : Hp} : ∀ {ds : List Dt} {vs : List V} {ks : List Key}, RepVs β H ds vs → toKeyL ds = some ks → vs = ks.map kV
  | _, _, _, .nil, e => by simp [toKeyL] at e; subst e; rfl
  | _, _, _, .cons (d := d) (ds := ds) a r, e => by
    unfold toKeyL at e
    split at e
    · rename_i k ks h1 h2
      cases e
      rw [key_at a h1, keyL_at r h2]
      rfl
    · cases e
theorem keys_at {β : List Addr} {H : Hp} {d : Dt} {v : V} {ks : List Key} (r : RepV β H d v) (e : toKeys d = some ks) : ∃ p, v = .ref p ∧ H p = some (.tup (ks.map kV)) := by
  cases r with
  | @tup ds p vs h l rv =>
    have e' : toKeyL ds = some ks := e
    rw [keyL_at rv e'] at h
    exact ⟨p, rfl, h⟩
  | _ => cases e
theorem RepH.dK {K : PySem.W.Frag} {mg : Str → Option Value} {β : List Addr} {h : MH} {H : Hp} (r : RepH K mg β h H) {n : Nat} {p : Addr} {kvs : List (Key × Dt)} (e : h[n]? = some (.dK kvs)) (hp : β[n]? = some p) :
    kvs.length ≤ sizeLine ∧ ∃ ws, H p = some (.dK ws) ∧ RepK β H kvs ws := r.at_ n _ p e hp
theorem RepH.dT {K : PySem.W.Frag} {mg : Str → Option Value} {β : List Addr} {h : MH} {H : Hp} (r : RepH K mg β h H) {n : Nat} {p : Addr} {kvs : List (List Key × Dt)} (e : h[n]? = some (.dT kvs)) (hp : β[n]? = some p) :
    kvs.length ≤ sizeLine ∧ ∃ ws, H p = some (.dT ws) ∧ RepK β H kvs ws := r.at_ n _ p e hp
theorem RepH.set {K : PySem.W.Frag} {mg : Str → Option Value} {β : List Addr} {h : MH} {H : Hp} (r : RepH K mg β h H) {n : Nat} {p : Addr} {ns : List Int} (e : h[n]? = some (.set ns)) (hp : β[n]? = some p) :
    ∃ c, H p = some (.set (fun j => decide (j ∈ ns)) c) := r.at_ n _ p e hp
theorem op_inS : OpR X (compareOp .In) (fun x y H Q => ∃ (k : Int) (a : Addr) (S : Int → Bool) (n : Nat), x = V.int k ∧ y = V.ref a ∧ H a = some (.set S n) ∧ Q (.bl (S k)) H) := by
  intro pins s σ H x y v u Q I rx ry h
  obtain ⟨k, a, S, n, rfl, rfl, ha, q⟩ := h
  obtain ⟨tk, rfl⟩ := rx
  cases ry
  have hS : s.heap.SetOf (intKind X.prog X.w) a S n := I.hok a _ ha
  exact wpAny_inSet_of (intKind_is _ _ _ _) rfl hS ⟨.bl (S k), H, I.tok _, rfl, q⟩
theorem op_notInS : OpR X (compareOp .NotIn) (fun x y H Q => ∃ (k : Int) (a : Addr) (S : Int → Bool) (n : Nat), x = V.int k ∧ y = V.ref a ∧ H a = some (.set S n) ∧ Q (.bl (!S k)) H) := by
  intro pins s σ H x y v u Q I rx ry h
  obtain ⟨k, a, S, n, rfl, rfl, ha, q⟩ := h
  obtain ⟨tk, rfl⟩ := rx
  cases ry
  have hS : s.heap.SetOf (intKind X.prog X.w) a S n := I.hok a _ ha
  exact wpAny_notInSet_of (intKind_is _ _ _ _) rfl hS ⟨.bl (!S k), H, I.tok _, rfl, q⟩
theorem isSome_val {β : List Addr} {H : Hp} {κ : Type} [DecidableEq κ] {a : List (κ × Dt)} {b : List (κ × V)} (r : RepK β H a b) (k : κ) : (a.any fun kv => decide (kv.1 = k)) = (valV b k).isSome := by
  rw [r.any k, valV_any]
theorem os_in (hu : X.A.units + 65 < cLine) : OpR X (compareOp .In) (rS X (oIn false)) := by
  intro pins s σ H x y v u Q I rx ry ⟨W, σ', β, h, a, b, rh, ra, rb, p⟩
  unfold oIn at p
  split at p
  · rename_i h' ds
    split at p
    · rename_i hk
      obtain ⟨q, vs, rfl, e, sq, rv, _⟩ := rb.sqT (K := X.K)
      obtain ⟨h1, h2⟩ := any_flat ra hk.1 rv hk.2
      refine op_in_seq pins s σ H _ _ v u Q I rx ry ⟨q, vs, rfl, .inr sq, flat_of ra hk.1, h1, ?_⟩
      show Q (.bl (inV x vs)) H
      rw [h2]
      exact p.here rh (.bl _)
    · exact p.elim
  · rename_i h' n
    obtain ⟨q, rfl, bq⟩ := rb.at_loc
    split at p
    · rename_i ds em
      split at p
      · rename_i hk
        obtain ⟨l1, vs, e1, r1⟩ := rh.lst em bq
        have pl := plain_of_eqOk hk.2
        simp only [Dt.plain] at pl
        refine op_inD hu pins s σ H _ _ v u Q I rx ry ⟨a.py, pys ds, ra.dp (plain_of_eqOk hk.1), .lst (SqL.of e1) (r1.dp pl), shaped_of hk.1, shapedL_of hk.2, ?_⟩
        rw [pys_any]
        exact p.here rh (.bl _)
      · exact p.elim
    · rename_i kvs em
      split at p
      · rename_i k ek
        obtain ⟨l1, ws, e1, r1⟩ := rh.dK em bq
        obtain rfl := key_at ra ek
        cases ry
        refine d_in (by omega) I (DGet.k e1) rx fun s' I' => ⟨.bl (valV ws k).isSome, H, I', rfl, ?_⟩
        rw [← isSome_val r1]
        exact p.here rh (.bl _)
      · exact p.elim
    · rename_i kvs em
      split at p
      · rename_i k ek
        obtain ⟨l1, ws, e1, r1⟩ := rh.dT em bq
        obtain ⟨t, rfl, et⟩ := keys_at ra ek
        cases ry
        refine d_in (by omega) I (DGet.t e1 et) rx fun s' I' => ⟨.bl (valV ws k).isSome, H, I', rfl, ?_⟩
        rw [← isSome_val r1]
        exact p.here rh (.bl _)
      · exact p.elim
    · rename_i ns em
      split at p
      · rename_i k
        cases ra
        obtain ⟨c, e1⟩ := rh.set em bq
        exact op_inS pins s σ H _ _ v u Q I rx ry ⟨_, _, _, _, rfl, rfl, e1, p.here rh (.bl _)⟩
      · exact p.elim
    · exact p.elim
  · exact p.elim
theorem os_notin (hu : X.A.units + 65 < cLine) : OpR X (compareOp .NotIn) (rS X (oIn true)) := by
  intro pins s σ H x y v u Q I rx ry ⟨W, σ', β, h, a, b, rh, ra, rb, p⟩
  unfold oIn at p
  split at p
  · rename_i h' ds
    split at p
    · rename_i hk
      obtain ⟨q, vs, rfl, e, sq, rv, _⟩ := rb.sqT (K := X.K)
      obtain ⟨h1, h2⟩ := any_flat ra hk.1 rv hk.2
      refine op_notIn_seq pins s σ H _ _ v u Q I rx ry ⟨q, vs, rfl, .inr sq, flat_of ra hk.1, h1, ?_⟩
      show Q (.bl (!inV x vs)) H
      rw [h2]
      exact p.here rh (.bl _)
    · exact p.elim
  · rename_i h' n
    obtain ⟨q, rfl, bq⟩ := rb.at_loc
    split at p
    · rename_i ds em
      split at p
      · rename_i hk
        obtain ⟨l1, vs, e1, r1⟩ := rh.lst em bq
        have pl := plain_of_eqOk hk.2
        simp only [Dt.plain] at pl
        refine op_notInD hu pins s σ H _ _ v u Q I rx ry ⟨a.py, pys ds, ra.dp (plain_of_eqOk hk.1), .lst (SqL.of e1) (r1.dp pl), shaped_of hk.1, shapedL_of hk.2, ?_⟩
        rw [pys_any]
        exact p.here rh (.bl _)
      · exact p.elim
    · rename_i kvs em
      split at p
      · rename_i k ek
        obtain ⟨l1, ws, e1, r1⟩ := rh.dK em bq
        obtain rfl := key_at ra ek
        cases ry
        refine d_notIn (by omega) I (DGet.k e1) rx fun s' I' => ⟨.bl (!(valV ws k).isSome), H, I', rfl, ?_⟩
        rw [← isSome_val r1]
        exact p.here rh (.bl _)
      · exact p.elim
    · rename_i kvs em
      split at p
      · rename_i k ek
        obtain ⟨l1, ws, e1, r1⟩ := rh.dT em bq
        obtain ⟨t, rfl, et⟩ := keys_at ra ek
        cases ry
        refine d_notIn (by omega) I (DGet.t e1 et) rx fun s' I' => ⟨.bl (!(valV ws k).isSome), H, I', rfl, ?_⟩
        rw [← isSome_val r1]
        exact p.here rh (.bl _)
      · exact p.elim
    · rename_i ns em
      split at p
      · rename_i k
        cases ra
        obtain ⟨c, e1⟩ := rh.set em bq
        exact op_notInS pins s σ H _ _ v u Q I rx ry ⟨_, _, _, _, rfl, rfl, e1, p.here rh (.bl _)⟩
      · exact p.elim
    · exact p.elim
  · exact p.elim

/-! ### subscripts -/
def rIxD : R2 := fun x y H Q => ∃ a v, x = .ref a ∧ DGet H a y (some v) ∧ Q v H
theorem ix_dict (hu : X.A.units + 1 < cLine) : IxR X rIxD := by
  intro value slice pins s σ H x y v u Q I rx ry h hs
  obtain ⟨a, w, rfl, g, q⟩ := h
  cases rx
  exact tail_any (dict_typeIs I g) PySem.F.slot_dict_getitem.lookup (d_getItem hu I g ry fun w' s3 I3 rw' => ⟨w, H, I3, rw', q⟩) hs
theorem atI_rep {β : List Addr} {H : Hp} {ds : List Dt} {vs : List V} {i : Int} {d : Dt} (r : RepVs β H ds vs) (e : atI ds i = some d) : ∃ v, atI vs i = some v ∧ RepV β H d v := by
  unfold atI at *
  rw [← r.length]
  obtain ⟨j, h1, h2⟩ := Option.bind_eq_some_iff.mp e
  obtain ⟨v, h3, h4⟩ := r.get h2
  exact ⟨v, by rw [h1]; exact h3, h4⟩
theorem ix_get (hu : X.A.units + 1 < cLine) : IxR X (rS X oGet) := by
  intro value slice pins s σ H x y v u Q I rx ry ⟨W, σ', β, h, a, b, rh, ra, rb, p⟩ hs
  unfold oGet at p
  split at p
  · rename_i h' ds i
    cases rb
    obtain ⟨q, vs, rfl, e, sq, rv, _⟩ := ra.sqT (K := X.K)
    split at p
    · rename_i d ed
      obtain ⟨w, h1, h2⟩ := atI_rep rv ed
      exact ix_tup value slice pins s σ H _ _ v u Q I rx ry ⟨q, vs, i, w, rfl, rfl, sq, h1, p.here rh h2⟩ hs
    · exact p.elim
  · rename_i h' n
    obtain ⟨q, rfl, bq⟩ := ra.at_loc
    split at p
    · rename_i kvs em
      obtain ⟨l1, ws, e1, r1⟩ := rh.dK em bq
      split at p
      · rename_i d ed
        obtain ⟨k, h1, h2⟩ := Option.bind_eq_some_iff.mp ed
        obtain rfl := key_at rb h1
        rcases r1.val k with ⟨z, _⟩ | ⟨d', w, z1, z2, z3⟩
        · rw [h2] at z; cases z
        · rw [h2] at z1; cases z1
          exact ix_dict hu value slice pins s σ H _ _ v u Q I rx ry ⟨q, w, rfl, by rw [← z2]; exact DGet.k e1, p.here rh z3⟩ hs
      · exact p.elim
    · rename_i kvs em
      obtain ⟨l1, ws, e1, r1⟩ := rh.dT em bq
      split at p
      · rename_i d ed
        obtain ⟨k, h1, h2⟩ := Option.bind_eq_some_iff.mp ed
        obtain ⟨t, rfl, et⟩ := keys_at rb h1
        rcases r1.val k with ⟨z, _⟩ | ⟨d', w, z1, z2, z3⟩
        · rw [h2] at z; cases z
        · rw [h2] at z1; cases z1
          exact ix_dict hu value slice pins s σ H _ _ v u Q I rx ry ⟨q, w, rfl, by rw [← z2]; exact DGet.t e1 et, p.here rh z3⟩ hs
      · exact p.elim
    · split at p
      · rename_i xs i em
        cases rb
        obtain ⟨q', vs, bq', sq, rv, _⟩ := rh.list em
        rw [bq] at bq'; cases bq'
        split at p
        · rename_i d ed
          obtain ⟨w, h1, h2⟩ := atI_rep rv ed
          exact ix_list value slice pins s σ H _ _ v u Q I rx ry ⟨q, vs, _, w, rfl, rfl, sq, h1, p.here rh h2⟩ hs
        · exact p.elim
      · exact p.elim
  · exact p.elim
def rSlS (X : Cx) : V → Option Int → Option Int → Hp → VK → Prop := fun x lo hi H Q => ∃ (W : WX) (σ : L2.St) (β : List Addr) (h : MH) (a : Dt), RepH X.K X.mg β h H ∧ RepV β H a x ∧ Post (rc X) W σ β H RepV Q (oCut a lo hi h)
theorem cutD_length (xs : List Dt) (lo hi : Option Int) : (cutD xs lo hi).length ≤ xs.length := by
  unfold cutD
  rw [List.length_take, List.length_drop]
  omega
theorem sl_cut : SlR X (rSlS X) := by
  intro pins s σ H x v vl vu lo hi sl Q I rx hs pl pu ⟨W, σ', β, h, a, rh, ra, p⟩
  unfold oCut at p
  split at p
  · rename_i xs
    obtain ⟨q, vs, rfl, e, sq, rv, hl⟩ := ra.sqT (K := X.K)
    refine sl_tupA pins s σ H _ v vl vu lo hi sl Q I rx hs pl pu ⟨q, vs, rfl, sq, fun hw => ?_, fun hw a ha => ?_⟩
    · have e0 : cutV vs lo hi = vs := by
        unfold cutV
        rw [hw.1, hw.2]
        simp
      refine p.here rh (.tup e ?_ ?_)
      · exact Nat.le_trans (cutD_length xs lo hi) hl
      · rw [← e0]; exact rv.cut lo hi
    · exact p β _ _ (Ext.fresh ha) (rh.fresh ha) (.tup upd_same (Nat.le_trans (cutD_length xs lo hi) hl) ((rv.cut lo hi).ext (Ext.fresh ha)))
  · rename_i n
    obtain ⟨q, rfl, bq⟩ := ra.at_loc
    split at p
    · rename_i xs em
      obtain ⟨q', vs, bq', sq, rv, hl⟩ := rh.list em
      rw [bq] at bq'; cases bq'
      exact sl_list pins s σ H _ v vl vu lo hi sl Q I rx hs pl pu ⟨q, vs, rfl, sq, p.alloc rh (rv.cut lo hi) (Nat.le_trans (cutD_length xs lo hi) hl)⟩
    · exact p.elim
  · exact p.elim
/-- o[i] = v -/
def rSetS (X : Cx) : V → V → V → Hp → (Hp → Prop) → Prop := fun o i v H Q => ∃ (β : List Addr) (h : MH) (a b c : Dt) (h' : MH), RepH X.K X.mg β h H ∧ RepV β H a o ∧ RepV β H b i ∧ RepV β H c v ∧ oSet a b c h = some h' ∧
  ∀ H', Ext β β H H' → RepH X.K X.mg β h' H' → Q H'
theorem set_all (hu : X.A.units + 1 < cLine) : PSet X (rSetS X) := by
  intro pins s σ H o i v ov iv u Q I ro ri rv ⟨β, h, a, b, c, h', rh, ra, rb, rc, e, q⟩
  unfold oSet at e
  split at e
  · rename_i n
    obtain ⟨p, rfl, bp⟩ := ra.at_loc
    have fin : ∀ {m m' : MO} {w : HO}, h[n]? = some m → m.wr = true → h' = h.set n m' → (Ext β β H (upd H p w) → RepO X.K X.mg β (upd H p w) p m') → Q (upd H p w) := by
      intro m m' w em wr eh new
      obtain ⟨u0, e0, mu, _⟩ := (rh.at_ n m p em bp).some_of wr
      have x : Ext β β H (upd H p w) := Ext.write e0 mu (List.mem_of_getElem? bp)
      obtain ⟨rh', _⟩ := rh.write em bp wr (new x)
      rw [← eh] at rh'
      exact q _ x rh'
    split at e
    · rename_i xs em
      split at e
      · rename_i k
        cases rb
        obtain ⟨l1, vs, e1, r1⟩ := rh.lst em bp
        obtain ⟨j, h1, h2⟩ := Option.map_eq_some_iff.mp e
        refine set_list pins s σ H _ _ _ ov iv u Q I ro ri rv ⟨p, vs, k, j, rfl, rfl, e1, by rw [← r1.length]; exact h1, ?_⟩
        exact fin em rfl h2.symm fun x => ⟨by simpa using l1, _, upd_same, (r1.ext x).set (rc.ext x) j⟩
      · cases e
    · rename_i kvs em
      obtain ⟨l1, ws, e1, r1⟩ := rh.dK em bp
      split at e
      · rename_i k ek
        split at e
        · rename_i hl
          obtain rfl := key_at rb ek
          cases ro
          refine d_setItem hu I (DPut.k (k := k) e1 (by rw [← r1.length]; exact hl)) ri rv fun s' I' => ⟨_, I', ?_⟩
          refine fin em rfl (Option.some.inj e).symm fun x => ⟨?_, _, upd_same, (r1.ext x).put k (rc.ext x)⟩
          have := length_putK ws k v
          have e2 : (setK kvs k c).length = (putK ws k v).length := (r1.put k rc).length
          rw [e2]
          have := r1.length
          omega
        · cases e
      · cases e
    · rename_i kvs em
      obtain ⟨l1, ws, e1, r1⟩ := rh.dT em bp
      split at e
      · rename_i k ek
        split at e
        · rename_i hl
          obtain ⟨t, rfl, et⟩ := keys_at rb ek
          cases ro
          refine d_setItem hu I (DPut.t (k := k) e1 et (by rw [← r1.length]; exact hl)) ri rv fun s' I' => ⟨_, I', ?_⟩
          refine fin em rfl (Option.some.inj e).symm fun x => ⟨?_, _, upd_same, (r1.ext x).put k (rc.ext x)⟩
          have := length_putK ws k v
          have e2 : (setK kvs k c).length = (putK ws k v).length := (r1.put k rc).length
          rw [e2]
          have := r1.length
          omega
        · cases e
      · cases e
    · cases e
  · cases e
end
end EP
end
section
set_option maxHeartbeats 1000000
/-! Snd3: built-in functions, methods, types. -/
namespace EP
open PySem PySem.Spec PyProof.Rows L2
/-- what a built-in function on data says of the built-in -/
def rB (X : Cx) (f : Bf) : List V → Hp → VK → Prop := fun vs H Q => ∃ (W : WX) (σ : L2.St) (β : List Addr) (h : MH) (ds : List Dt), RepH X.K X.mg β h H ∧ RepVs β H ds vs ∧ Post (rc X) W σ β H RepV Q (f ds h)
section
variable {X : Cx}
theorem RepVs.one {β : List Addr} {H : Hp} {d : Dt} {vs : List V} (r : RepVs β H [d] vs) : ∃ v, vs = [v] ∧ RepV β H d v := by
  cases r with
  | cons a r => cases r; exact ⟨_, rfl, a⟩
theorem RepVs.two {β : List Addr} {H : Hp} {d e : Dt} {vs : List V} (r : RepVs β H [d, e] vs) : ∃ v w, vs = [v, w] ∧ RepV β H d v ∧ RepV β H e w := by
  cases r with
  | cons a r => obtain ⟨w, rfl, b⟩ := r.one; exact ⟨_, _, rfl, a, b⟩
theorem RepVs.zero {β : List Addr} {H : Hp} {vs : List V} (r : RepVs β H [] vs) : vs = [] := by cases r; rfl
theorem cs_len : CallR X (.builtin "len") (rB X bLen) := by
  intro pins s σ H xs us Q I rv ⟨W, σ', β, h, ds, rh, rd, p⟩
  unfold bLen at p
  split at p
  · rename_i h' ds
    obtain ⟨v, rfl, r1⟩ := rd.one
    obtain ⟨q, vs, rfl, e, sq, r2, _⟩ := r1.sqT (K := X.K)
    exact call_len pins s σ H _ us Q I rv ⟨_, vs.length, rfl, .inr ⟨vs, sq, rfl⟩, by rw [← r2.length]; exact p.here rh (.int _)⟩
  · rename_i h' x
    obtain ⟨v, rfl, r1⟩ := rd.one
    cases r1
    split at p
    · rename_i hl
      exact call_len pins s σ H _ us Q I rv ⟨_, x.length, rfl, ⟨hl, rfl⟩, p.here rh (.int _)⟩
    · exact p.elim
  · rename_i h' n
    obtain ⟨v, rfl, r1⟩ := rd.one
    obtain ⟨q, rfl, bq⟩ := r1.at_loc
    split at p
    · rename_i xs em
      obtain ⟨q', vs, bq', sq, r2, _⟩ := rh.list (n := n) (xs := xs) (by unfold getL; rw [em])
      rw [bq] at bq'; cases bq'
      exact call_len pins s σ H _ us Q I rv ⟨_, vs.length, rfl, .inl ⟨vs, sq, rfl⟩, by rw [← r2.length]; exact p.here rh (.int _)⟩
    · rename_i xs em
      obtain ⟨q', vs, bq', sq, r2, _⟩ := rh.list (n := n) (xs := xs) (by unfold getL; rw [em])
      rw [bq] at bq'; cases bq'
      exact call_len pins s σ H _ us Q I rv ⟨_, vs.length, rfl, .inl ⟨vs, sq, rfl⟩, by rw [← r2.length]; exact p.here rh (.int _)⟩
    · rename_i kvs em
      obtain ⟨_, ws, e, r2⟩ := rh.dK em bq
      exact call_lenD pins s σ H _ us Q I rv ⟨q, ws, rfl, e, by rw [← r2.length]; exact p.here rh (.int _)⟩
    · exact p.elim
  · exact p.elim
theorem cs_tuple : CallR X (.type "tuple") (rB X bTuple) := by
  intro pins s σ H xs us Q I rv ⟨W, σ', β, h, ds, rh, rd, p⟩
  unfold bTuple at p
  split at p
  · rename_i h' ds
    obtain ⟨v, rfl, r1⟩ := rd.one
    obtain ⟨q, vs, rfl, e, sq, r2, hl⟩ := r1.sqT (K := X.K)
    exact call_tuple_of pins s σ H _ us Q I rv ⟨q, vs, rfl, .inr ⟨sq, p.here rh (.tup e hl r2)⟩⟩
  · rename_i h' n
    obtain ⟨v, rfl, r1⟩ := rd.one
    obtain ⟨q, rfl, bq⟩ := r1.at_loc
    split at p
    · rename_i xs em
      obtain ⟨q', vs, bq', sq, r2, hl⟩ := rh.list em
      rw [bq] at bq'; cases bq'
      exact call_tuple_of pins s σ H _ us Q I rv ⟨q, vs, rfl, .inl ⟨sq, fun a ha => p β _ _ (Ext.fresh ha) (rh.fresh ha) (.tup upd_same hl (r2.ext (Ext.fresh ha)))⟩⟩
    · exact p.elim
  · exact p.elim
theorem cs_list : CallR X (.type "list") (rB X bList) := by
  intro pins s σ H xs us Q I rv ⟨W, σ', β, h, ds, rh, rd, p⟩
  unfold bList at p
  split at p
  · rename_i h' d
    obtain ⟨v, rfl, r1⟩ := rd.one
    split at p
    · rename_i xs em
      cases d with
      | tup ds =>
        obtain ⟨q, vs, rfl, e, sq, r2, hl⟩ := r1.sqT (K := X.K)
        have e' : ds = xs := Option.some.inj em
        subst e'
        exact call_list_of pins s σ H _ us Q I rv ⟨q, vs, rfl, .inr sq, p.alloc rh r2 hl⟩
      | loc n =>
        obtain ⟨q, rfl, bq⟩ := r1.at_loc
        obtain ⟨q', vs, bq', sq, r2, hl⟩ := rh.list (show getL _ n = some xs from em)
        rw [bq] at bq'; cases bq'
        exact call_list_of pins s σ H _ us Q I rv ⟨q, vs, rfl, .inl sq, p.alloc rh r2 hl⟩
      | _ => cases em
    · exact p.elim
  · exact p.elim
theorem cs_int : CallR X (.type "int") (rB X bInt) := by
  intro pins s σ H xs us Q I rv ⟨W, σ', β, h, ds, rh, rd, p⟩
  unfold bInt at p
  split at p
  · obtain ⟨v, rfl, r1⟩ := rd.one
    cases r1
    exact call_int1 pins s σ H _ us Q I rv (.inl ⟨_, rfl, p.here rh (.int _)⟩)
  · obtain ⟨v, rfl, r1⟩ := rd.one
    cases r1
    exact call_int1 pins s σ H _ us Q I rv (.inr ⟨_, rfl, p.here rh (.int _)⟩)
  · exact p.elim
theorem cs_abs : CallR X (.builtin "abs") (rB X bAbs) := by
  intro pins s σ H xs us Q I rv ⟨W, σ', β, h, ds, rh, rd, p⟩
  unfold bAbs at p
  split at p
  · obtain ⟨v, rfl, r1⟩ := rd.one
    cases r1
    exact call_abs pins s σ H _ us Q I rv ⟨_, rfl, p.here rh (.int _)⟩
  · exact p.elim
theorem ints_at {β : List Addr} {H : Hp} : ∀ {ds : List Dt} {vs : List V} {ns : List Int}, RepVs β H ds vs → intsOf ds = some ns → vs = ns.map V.int
  | _, _, _, .nil, e => by simp [intsOf] at e; subst e; rfl
  | _, _, _, .cons (d := d) a r, e => by
    cases a <;> simp [intsOf] at e
    obtain ⟨ns', e1, rfl⟩ := e
    rw [ints_at r e1]
    rfl
theorem bls_at {β : List Addr} {H : Hp} : ∀ {ds : List Dt} {vs : List V} {ns : List Bool}, RepVs β H ds vs → blsOf ds = some ns → vs = ns.map V.bl
  | _, _, _, .nil, e => by simp [blsOf] at e; subst e; rfl
  | _, _, _, .cons (d := d) a r, e => by
    cases a <;> simp [blsOf] at e
    obtain ⟨ns', e1, rfl⟩ := e
    rw [bls_at r e1]
    rfl
theorem RepH.ints {β : List Addr} {h : MH} {H : Hp} {K : PySem.W.Frag} {mg : Str → Option Value} (rh : RepH K mg β h H) {n : Nat} {q : Addr} {ns : List Int} (bq : β[n]? = some q) (e : (getL h n).bind intsOf = some ns) : SqL K H q (ns.map V.int) := by
  obtain ⟨xs, e1, e2⟩ := Option.bind_eq_some_iff.mp e
  obtain ⟨q', vs, bq', sq, r2, hl⟩ := rh.list e1
  rw [bq] at bq'; cases bq'
  rw [← ints_at r2 e2]; exact sq
theorem RepH.bls {β : List Addr} {h : MH} {H : Hp} {K : PySem.W.Frag} {mg : Str → Option Value} (rh : RepH K mg β h H) {n : Nat} {q : Addr} {ns : List Bool} (bq : β[n]? = some q) (e : (getL h n).bind blsOf = some ns) : SqL K H q (ns.map V.bl) := by
  obtain ⟨xs, e1, e2⟩ := Option.bind_eq_some_iff.mp e
  obtain ⟨q', vs, bq', sq, r2, hl⟩ := rh.list e1
  rw [bq] at bq'; cases bq'
  rw [← bls_at r2 e2]; exact sq
theorem cs_sum (hc : X.calm = true) : CallR X (.builtin "sum") (rB X bSum) := by
  intro pins s σ H xs us Q I rv ⟨W, σ', β, h, ds, rh, rd, p⟩
  unfold bSum at p
  split at p
  · obtain ⟨v, rfl, r1⟩ := rd.one
    obtain ⟨q, rfl, bq⟩ := r1.at_loc
    split at p
    · rename_i ns em
      exact cr_sum hc pins s σ H _ us Q I rv ⟨q, ns, rfl, rh.ints bq em, p.here rh (.int _)⟩
    · exact p.elim
  · exact p.elim
theorem minL_mem : ∀ (a : Int) (l : List Int), minL (a :: l) ∈ a :: l ∧ ∀ y ∈ a :: l, minL (a :: l) ≤ y
  | a, [] => by simp [minL]
  | a, b :: l => by
    obtain ⟨h1, h2⟩ := minL_mem b l
    have e : minL (a :: b :: l) = min a (minL (b :: l)) := rfl
    rw [e]
    refine ⟨?_, fun y hy => ?_⟩
    · by_cases h : a ≤ minL (b :: l)
      · rw [Int.min_eq_left h]; exact List.mem_cons_self
      · rw [Int.min_eq_right (by omega)]; exact List.mem_cons_of_mem _ h1
    · rcases List.mem_cons.mp hy with rfl | hy
      · exact Int.min_le_left _ _
      · exact Int.le_trans (Int.min_le_right _ _) (h2 y hy)
theorem maxL_mem : ∀ (a : Int) (l : List Int), maxL (a :: l) ∈ a :: l ∧ ∀ y ∈ a :: l, y ≤ maxL (a :: l)
  | a, [] => by simp [maxL]
  | a, b :: l => by
    obtain ⟨h1, h2⟩ := maxL_mem b l
    have e : maxL (a :: b :: l) = max a (maxL (b :: l)) := rfl
    rw [e]
    refine ⟨?_, fun y hy => ?_⟩
    · by_cases h : a ≤ maxL (b :: l)
      · rw [Int.max_eq_right h]; exact List.mem_cons_of_mem _ h1
      · rw [Int.max_eq_left (by omega)]; exact List.mem_cons_self
    · rcases List.mem_cons.mp hy with rfl | hy
      · exact Int.le_max_left _ _
      · exact Int.le_trans (h2 y hy) (Int.le_max_right _ _)
theorem cs_min (hc : X.calm = true) : CallR X (.builtin "min") (rB X bMin) := by
  intro pins s σ H xs us Q I rv ⟨W, σ', β, h, ds, rh, rd, p⟩
  unfold bMin at p
  split at p
  · obtain ⟨v, w, rfl, r1, r2⟩ := rd.two
    cases r1; cases r2
    exact call_min2 hc pins s σ H _ us Q I rv ⟨_, _, rfl, p.here rh (.int _)⟩
  · obtain ⟨v, rfl, r1⟩ := rd.one
    obtain ⟨q, rfl, bq⟩ := r1.at_loc
    split at p
    · rename_i ns em
      split at p
      · exact p.elim
      · rename_i hne
        obtain ⟨a, l, rfl⟩ := List.exists_cons_of_ne_nil hne
        refine cr_min hc pins s σ H _ us Q I rv ⟨q, a :: l, rfl, rh.ints bq em, by simp, fun m hm hle => ?_⟩
        obtain ⟨h1, h2⟩ := minL_mem a l
        have e : m = minL (a :: l) := Int.le_antisymm (hle _ h1) (h2 _ hm)
        rw [e]
        exact p.here rh (.int _)
    · exact p.elim
  · exact p.elim
theorem cs_max (hc : X.calm = true) : CallR X (.builtin "max") (rB X bMax) := by
  intro pins s σ H xs us Q I rv ⟨W, σ', β, h, ds, rh, rd, p⟩
  unfold bMax at p
  split at p
  · obtain ⟨v, w, rfl, r1, r2⟩ := rd.two
    cases r1; cases r2
    exact call_max2 hc pins s σ H _ us Q I rv ⟨_, _, rfl, p.here rh (.int _)⟩
  · rename_i h' i j k
    cases rd with
    | cons r1 rd =>
      obtain ⟨v2, v3, rfl, r2, r3⟩ := rd.two
      cases r1; cases r2; cases r3
      refine call_max3Nu hc pins s σ H _ us Q I rv ⟨_, _, _, .int (if (if i < j then j else i) < k then k else if i < j then j else i), rfl, ?_, p.here rh (.int _)⟩
      by_cases h1 : i < j
      · by_cases h2 : j < k <;> simp [nuMax3, nuMax2, nuLt, nuCB, h1, h2]
      · by_cases h2 : i < k <;> simp [nuMax3, nuMax2, nuLt, nuCB, h1, h2]
  · obtain ⟨v, rfl, r1⟩ := rd.one
    obtain ⟨q, rfl, bq⟩ := r1.at_loc
    split at p
    · rename_i ns em
      split at p
      · exact p.elim
      · rename_i hne
        obtain ⟨a, l, rfl⟩ := List.exists_cons_of_ne_nil hne
        refine cr_max hc pins s σ H _ us Q I rv ⟨q, a :: l, rfl, rh.ints bq em, by simp, fun m hm hle => ?_⟩
        obtain ⟨h1, h2⟩ := maxL_mem a l
        have e : m = maxL (a :: l) := Int.le_antisymm (h2 _ hm) (hle _ h1)
        rw [e]
        exact p.here rh (.int _)
    · exact p.elim
  · exact p.elim
theorem cs_any (hc : X.calm = true) : CallR X (.builtin "any") (rB X bAny) := by
  intro pins s σ H xs us Q I rv ⟨W, σ', β, h, ds, rh, rd, p⟩
  unfold bAny at p
  split at p
  · obtain ⟨v, rfl, r1⟩ := rd.one
    obtain ⟨q, rfl, bq⟩ := r1.at_loc
    split at p
    · rename_i ns em
      exact cr_any hc pins s σ H _ us Q I rv ⟨q, ns, rfl, rh.bls bq em, p.here rh (.bl _)⟩
    · exact p.elim
  · exact p.elim
theorem cs_all (hc : X.calm = true) : CallR X (.builtin "all") (rB X bAll) := by
  intro pins s σ H xs us Q I rv ⟨W, σ', β, h, ds, rh, rd, p⟩
  unfold bAll at p
  split at p
  · obtain ⟨v, rfl, r1⟩ := rd.one
    obtain ⟨q, rfl, bq⟩ := r1.at_loc
    split at p
    · rename_i ns em
      exact cr_all hc pins s σ H _ us Q I rv ⟨q, ns, rfl, rh.bls bq em, p.here rh (.bl _)⟩
    · exact p.elim
  · exact p.elim
theorem cs_str : CallR X (.type "str") (rB X bStr) := by
  intro pins s σ H xs us Q I rv ⟨W, σ', β, h, ds, rh, rd, p⟩
  unfold bStr at p
  split at p
  · rename_i h' i
    obtain ⟨v, rfl, r1⟩ := rd.one
    cases r1
    split at p
    · rename_i hl
      rw [lim200_eq] at hl
      have hz : i.natAbs.log2 < 1920 := Nat.lt_of_lt_of_le (PySem.Flt.log2_lt_of (k := 200) (by decide) (by omega)) (by decide)
      exact call_str_int pins s σ H _ us Q I rv ⟨_, rfl, hz, p.here rh (.str _)⟩
    · exact p.elim
  · exact p.elim
theorem cs_set (hc : X.calm = true) : CallR X (.type "set") (rB X bSet) := by
  intro pins s σ H xs us Q I rv ⟨W, σ', β, h, ds, rh, rd, p⟩
  unfold bSet at p
  split at p
  · rename_i h' ds
    obtain ⟨v, rfl, r1⟩ := rd.one
    split at p
    · rename_i ns en
      split at p
      · rename_i hl
        obtain ⟨q, vs, rfl, e, sq, r2, hl2⟩ := r1.sqT (K := X.K)
        have ev := ints_at r2 en
        subst ev
        rw [Vals.ref1 rv]
        obtain ⟨its, rv2, pl, hz⟩ := I.tuple sq
        refine call_set_tupI ns (I.ok.hd hc) pl (ints_of_vals rv2) (by unfold scanBound; omega) fun hp tk c R hc' keep => ?_
        have hn : H s.heap.objs.size = none := I.hok.fresh (Nat.le_refl _)
        refine ⟨.ref _, upd H s.heap.objs.size (.set (fun j => decide (j ∈ ns)) c), I.laid (t' := tk) keep (Nat.le_refl _) ?_, rfl, ?_⟩
        · exact R.setOf
        · refine p (β ++ [s.heap.objs.size]) _ _ (Ext.alloc hn) (rh.alloc hn ⟨c, upd_same⟩) (.loc ?_)
          rw [← rh.len]; simp
      · exact p.elim
    · exact p.elim
  · exact p.elim
/-! ### types -/
theorem ty_at {β : List Addr} {h : MH} {H : Hp} (rh : RepH X.K X.mg β h H) {d : Dt} {v : V} {t : String} (r : RepV β H d v) (e : tyN h d = some t) : TyX X.K H v (.type t) := by
  cases r with
  | non => cases e; exact .base .non
  | bl b => cases e; exact .base (.bl b)
  | int i => cases e; exact .base (.int i)
  | str x => cases e; exact .base (.str x)
  | tup e1 _ _ => cases e; exact .base (.tup e1)
  | @loc n p hp =>
    simp only [tyN] at e
    split at e
    · rename_i xs em
      cases e
      obtain ⟨_, vs, e1, _⟩ := rh.lst em hp
      exact .base (.lst e1)
    · rename_i xs em
      cases e
      obtain ⟨_, vs, f, _⟩ := rh.at_ _ _ _ em hp
      rcases f with ⟨o, f⟩ | ⟨o, its, n, f1, f2, _⟩
      · exact .base (.frz f)
      · exact .kList f1 f2
    · rename_i xs em
      cases e
      obtain ⟨_, vs, e1, _⟩ := rh.dK em hp
      exact .base (.dK e1)
    · rename_i xs em
      cases e
      obtain ⟨_, vs, e1, _⟩ := rh.dT em hp
      exact .base (.dT e1)
    · cases e
/-! ### methods -/
def rM (X : Cx) (f : Mf) : V → List V → Hp → VK → Prop := fun x vs H Q => ∃ (W : WX) (σ : L2.St) (β : List Addr) (h : MH) (d : Dt) (ds : List Dt), RepH X.K X.mg β h H ∧ RepV β H d x ∧ RepVs β H ds vs ∧ Post (rc X) W σ β H RepV Q (f d ds h)
theorem ms_append : MtR X "list.append" (rM X mAppend) := by
  intro pins s σ H x xs v us Q I rx rv ⟨W, σ', β, h, d, ds, rh, rd, rs, p⟩
  unfold mAppend at p
  split at p
  · obtain ⟨q, rfl, bq⟩ := rd.at_loc
    obtain ⟨w, rfl, rw'⟩ := rs.one
    split at p
    · rename_i ys em
      split at p
      · rename_i hl
        obtain ⟨l1, vs, e1, r1⟩ := rh.lst em bq
        refine mt_append pins s σ H _ _ v us Q I rx rv ⟨q, vs, w, rfl, rfl, e1, by rw [← r1.length]; exact hl, ?_⟩
        exact p.write rh em bq rfl (fun x => ⟨by simp; omega, _, upd_same, (r1.ext x).append (.cons (rw'.ext x) .nil)⟩) fun _ => .non
      · exact p.elim
    · exact p.elim
  · exact p.elim
theorem ms_insert : MtR X "list.insert" (rM X mInsert) := by
  intro pins s σ H x xs v us Q I rx rv ⟨W, σ', β, h, d, ds, rh, rd, rs, p⟩
  unfold mInsert at p
  split at p
  · obtain ⟨q, rfl, bq⟩ := rd.at_loc
    obtain ⟨w1, w, rfl, r0, rw'⟩ := rs.two
    cases r0
    split at p
    · rename_i ys em
      split at p
      · rename_i hl
        obtain ⟨l1, vs, e1, r1⟩ := rh.lst em bq
        have h62 := hl.2.2
        rw [lim62_eq] at h62
        refine mt_insert pins s σ H _ _ v us Q I rx rv ⟨q, vs, _, w, rfl, rfl, e1, by rw [← r1.length]; exact hl.1, hl.2.1, by omega, ?_⟩
        refine p.write rh em bq rfl (fun x => ⟨?_, _, upd_same, (((r1.ext x).take _).append (.cons (rw'.ext x) .nil)).append ((r1.ext x).drop _)⟩) fun _ => .non
        have := hl.1
        simp only [List.length_append, List.length_take, List.length_drop, List.length_cons, List.length_nil]
        omega
      · exact p.elim
    · exact p.elim
  · exact p.elim
theorem ext_tup (l b : Addr) (items items2 : Array Value) (n : Nat) (hs0 : ¬(!items.isEmpty && Builtin.List.listTooLong (items.size + items2.size)) = true) (hs1 : items.size ≤ sizeLine) (hs2 : items.size + items2.size ≤ sizeLine + 1) :
    Meets (Builtin.«list.extend» ⟨[.ref l, .ref b], []⟩) (fun _ R s => s.heap.get? l = some { cls := .type "list", dict := none, data := .seq items n, slots := #[] } ∧ IsTup s.heap b items2 ∧ R (.ok (.ret Value.none)) { s with heap := s.heap.update l (Obj.mapSeq fun x => x ++ items2), toks := s.toks }) := by
  intro prog w A R s ⟨hS, ⟨o, ho, hc, n2, hd⟩, hR⟩
  have hz' : (items ++ items2).size ≤ sizeLine + 1 := by rw [Array.size_append]; exact hs2
  show wpAny _ A.in1 (Builtin.List.listExtendWith (.ref l) (.ref b) .none) _ _ s
  unfold Builtin.List.listExtendWith
  refine wpAny_bind (wpAny_typeOf ⟨o, ho, hc⟩ ?_)
  have h1 : (Builtin.List.listSameRef (.ref l) (.ref b) || Value.type "tuple" == Value.type "list" || Value.type "tuple" == Value.type "tuple") = true := by simp
  simp only [h1, if_true]
  refine wpAny_bind ?_
  unfold Builtin.List.listItems
  refine wpAny_bind (wpAny_seqItems ho hd (wpAny_pure ?_))
  refine wpAny_bind ?_
  refine wpAny_bind (wpAny_seqItems hS rfl (wpAny_pure ?_))
  rw [if_neg hs0]
  show wpAny _ A.in1 (updateSeq l (· ++ items2) >>= fun _ => ret .none) _ _ s
  refine wpAny_bind (wpAny_updateSeq hS rfl (hz := hs1) (_hz' := hz') ?_)
  exact wpAny_pure hR
theorem mt_extendT : MtR X "list.extend" (fun x vs H Q => ∃ l b xs zs, x = .ref l ∧ vs = [.ref b] ∧ H l = some (.lst xs) ∧ SqT X.K H b zs ∧ xs.length + zs.length ≤ sizeLine ∧ Q .non (upd H l (.lst (xs ++ zs)))) := by
  intro pins s σ H x vs v us Q I rx rv h
  obtain ⟨l, b, xs, zs, rfl, rfl, hH, hB, hz, q⟩ := h
  cases rx
  rw [Vals.ref1 rv]
  obtain ⟨z, its, n, r, hl, e⟩ := I.lstM hH
  obtain ⟨its2, r2, e2, z2⟩ := I.tuple hB
  have hl2 := r2.length
  have hsz : its.toArray.size + its2.toArray.size ≤ sizeLine := by rw [List.size_toArray, List.size_toArray]; omega
  have hlong : ¬ (!its.toArray.isEmpty && Builtin.List.listTooLong (its.toArray.size + its2.toArray.size)) = true := by
    rw [notLongL hsz, Bool.and_false]
    exact Bool.false_ne_true
  refine call_meets PySem.F.slot_list_extend ⟨_, e, rfl⟩ PySem.F.entry_list_extend (PySem.F.args_list_extend_2 _ _)
    (ext_tup l b its.toArray its2.toArray n hlong (by rw [List.size_toArray]; omega) (by omega)) ⟨e, e2, ?_⟩
  refine ⟨.non, _, I.lset (its' := its ++ its2) hH e (by simp) (r.append r2) ?_, rfl, q⟩
  rw [List.length_append]
  omega
theorem ms_extend : MtR X "list.extend" (rM X mExtend) := by
  intro pins s σ H x xs v us Q I rx rv ⟨W, σ', β, h, d, ds, rh, rd, rs, p⟩
  unfold mExtend at p
  split at p
  · obtain ⟨q, rfl, bq⟩ := rd.at_loc
    obtain ⟨w, rfl, rw'⟩ := rs.one
    obtain ⟨q2, vs2, rfl, e2, sq2, r2, hl2⟩ := rw'.sqT (K := X.K)
    split at p
    · rename_i ys em
      split at p
      · rename_i hl
        obtain ⟨l1, vs, e1, r1⟩ := rh.lst em bq
        refine mt_extendT pins s σ H _ _ v us Q I rx rv ⟨q, q2, vs, vs2, rfl, rfl, e1, sq2, by rw [← r1.length, ← r2.length]; exact hl, ?_⟩
        exact p.write rh em bq rfl (fun x => ⟨by simp; omega, _, upd_same, (r1.ext x).append (r2.ext x)⟩) fun _ => .non
      · exact p.elim
    · exact p.elim
  · obtain ⟨q, rfl, bq⟩ := rd.at_loc
    obtain ⟨w, rfl, rw'⟩ := rs.one
    obtain ⟨q2, rfl, bq2⟩ := rw'.at_loc
    split at p
    · rename_i ys zs em en
      split at p
      · rename_i hl
        obtain ⟨l1, vs, e1, r1⟩ := rh.lst em bq
        obtain ⟨l2, vs2, e2, r2⟩ := rh.lst en bq2
        refine mt_extend pins s σ H _ _ v us Q I rx rv ⟨q, q2, vs, vs2, rfl, rfl, e1, e2, by rw [← r1.length, ← r2.length]; exact hl, ?_⟩
        exact p.write rh em bq rfl (fun x => ⟨by simp; omega, _, upd_same, (r1.ext x).append (r2.ext x)⟩) fun _ => .non
      · exact p.elim
    · exact p.elim
  · exact p.elim
theorem ms_pop : MtR X "list.pop" (rM X mPop) := by
  intro pins s σ H x xs v us Q I rx rv ⟨W, σ', β, h, d, ds, rh, rd, rs, p⟩
  unfold mPop at p
  split at p
  · obtain ⟨q, rfl, bq⟩ := rd.at_loc
    obtain rfl := rs.zero
    split at p
    · rename_i ys em
      split at p
      · rename_i d ed
        obtain ⟨l1, vs, e1, r1⟩ := rh.lst em bq
        obtain ⟨w, h1, h2⟩ := r1.get ed
        refine mt_pop pins s σ H _ _ v us Q I rx rv ⟨q, vs, w, rfl, rfl, e1, by rw [← r1.length]; exact h1, ?_⟩
        exact p.write rh em bq rfl (fun x => ⟨by simp; omega, _, upd_same, (r1.ext x).dropLast⟩) fun x => h2.ext x
      · exact p.elim
    · exact p.elim
  · obtain ⟨q, rfl, bq⟩ := rd.at_loc
    obtain ⟨w, rfl, rw'⟩ := rs.one
    cases rw'
    split at p
    · rename_i ys em
      split at p
      · rename_i j ej
        split at p
        · rename_i d ed
          obtain ⟨l1, vs, e1, r1⟩ := rh.lst em bq
          obtain ⟨w, h1, h2⟩ := r1.get ed
          obtain ⟨k1, k2, k3, k4⟩ := ixN_seq ej
          have hz := line63
          refine mt_popAt pins s σ H _ _ v us Q I rx rv ⟨q, vs, _, j, w, rfl, rfl, e1, by omega, by omega, by rw [← r1.length]; exact k1, h1, ?_⟩
          refine p.write rh em bq rfl (fun x => ⟨?_, _, upd_same, (r1.ext x).eraseIdx j⟩) fun x => h2.ext x
          exact Nat.le_trans (len_erase _ _) l1
        · exact p.elim
      · exact p.elim
    · exact p.elim
  · exact p.elim
theorem ms_index (hu : X.A.units + 65 < cLine) : MtR X "list.index" (rM X mIndex) := by
  intro pins s σ H x xs v us Q I rx rv ⟨W, σ', β, h, d, ds, rh, rd, rs, p⟩
  unfold mIndex at p
  split at p
  · obtain ⟨q, rfl, bq⟩ := rd.at_loc
    obtain ⟨w, rfl, rw'⟩ := rs.one
    split at p
    · rename_i ys em
      split at p
      · rename_i hk
        split at p
        · rename_i j ej
          obtain ⟨l1, vs, e1, r1⟩ := rh.lst em bq
          have pl := plain_of_eqOk hk.2
          simp only [Dt.plain] at pl
          obtain ⟨hj, z1, z2⟩ := List.findIdx?_eq_some_iff_getElem.mp ej
          refine mt_indexD hu pins s σ H _ _ v us Q I rx rv ⟨q, w, _, pys ys, j, (ys[j]).py, rfl, rfl, .lst (SqL.of e1) (r1.dp pl), rw'.dp (plain_of_eqOk hk.1), shapedL_of hk.2, shaped_of hk.1, ?_, z1, fun m z hm hz => ?_, p.here rh (.int _)⟩
          · rw [pys_get, List.getElem?_eq_getElem hj]; rfl
          · rw [pys_get, List.getElem?_eq_getElem (by omega)] at hz
            cases hz
            have := z2 m hm
            simpa [eqv] using this
        · exact p.elim
      · exact p.elim
    · exact p.elim
  · exact p.elim
end
end EP
end
section
set_option maxHeartbeats 1000000
/-! Snd4: the context of a def, expressions. -/
namespace EP
open PySem PySem.Spec PyProof.Rows L2

/-- the program's names: its defs (number, parameters), its whole numbers, its exceptions (number of __init__, fields), the built-in names that it leaves alone -/
structure Tab where
  fns : List (Str × Nat × Nat)
  nums : List (Str × Int)
  excs : List (Str × Nat × List Str)
  free : List Str
  /-- of exceptions: which is of which class, which fields they have -/
  subs : List ((Str × Str) × Bool)
  flds : Flds
  /-- exceptions that are asked of -/
  kits : List Str := []
  /-- exceptions without an __init__ of their own -/
  exc0 : List Str
def Tab.sub (t : Tab) : Sub := fun C D => t.subs.lookup (C, D)
structure Ctx where
  N : List Str
  names : List (Str × NameKind)
  /-- the names that may be stored -/
  stor : List Str
  tab : Tab
  /-- a {} here is to have tuples as keys -/
  tk : Bool
  /-- a def's own block -/
  top : Bool
/-- a def's promise, by its meaning -/
def spOf (R : Rc) (g : List Dt → M Dt) (ar : Nat) : Sp := fun vs H Q E => ∃ ds h β, ds.length = ar ∧ RepVs β H ds vs ∧ RepH R.K R.mg β h H ∧ Post R (fun c d _ H' => E c d H') [] β H RepV Q (g ds h)
structure FnAt (X : Cx) (k : Nat) (x : Str) (g : List Dt → M Dt) (ar : Nat) : Prop where
  ex : ∃ f fd ps, X.mg x = some (.ref f) ∧ PySem.W.keepIn X.K (.ref f) = true ∧ Binds X.K fd ps [] ∧ FnOk X.prog X.w X.K X.mg X.base (L2.CX X.prog X.w) k f fd ps (spOf (rc X) g ar)
/-- an exception's __init__: each parameter goes to a field; a: the new exception, d: its dict -/
def spIni (R : Rc) (Ca : Addr) (g : List Dt → M Dt) (names : List Str) : Sp := fun vs H Q E => ∃ a us ds h β es h2, vs = .ref a :: us ∧ ds.length = names.length ∧ H a = some (exo a Ca none) ∧ RepVs β H ds us ∧ RepH R.K R.mg β h H ∧ g ds h = .ok (.tup es) h2 ∧
  ∀ β' H' d gs, Ext β β' (dropH H a) (dropH (dropH H' d) a) → RepH R.K R.mg β' h2 (dropH (dropH H' d) a) → H' a = some (exo a Ca (some d)) → H' d = some (exd d gs) → dropH H a d = none → d ≠ a → RepF β' (dropH (dropH H' d) a) (names.zip es).reverse gs → Q .non H'
structure ExcAt (X : Cx) (k : Nat) (C : Str) (g : List Dt → M Dt) (names : List Str) : Prop where
  ex : ∃ Ca fI fd ps, X.mg C = some (.ref Ca) ∧ OexC X.K Ca ∧ PySem.W.findIn X.K (.ref Ca) "__init__" = some (some (.ref fI)) ∧ PySem.W.typeIn X.K (.ref fI) = some (.type "function") ∧ Binds X.K fd ps [] ∧
    FnOk X.prog X.w X.K X.mg X.base (L2.CX X.prog X.w) k fI fd ps (spIni (rc X) Ca g names)
/-- of exceptions of the class C: are they of the class D -/
def SubAt (K : PySem.W.Frag) (mg : Str → Option Value) (C D : Str) (b : Bool) : Prop := ∃ Ca Da, mg C = some (.ref Ca) ∧ mg D = some (.ref Da) ∧ PySem.W.exmOne K (.ref Ca) (.ref Da) = some b ∧ PySem.W.kitOne K (.ref Ca) (.ref Da) = some b ∧
  (PySem.W.clsIn K Ca).isSome = true ∧ PySem.W.findIn K (.ref Ca) "__getattribute__" = some (some (.builtin "BaseException.__getattribute__")) ∧ PySem.W.findIn K (.ref Ca) "__getattr__" = some none ∧
  PySem.W.subIn K (.ref Ca) (.type "BaseException") = some true ∧ PySem.W.findIn K (.ref Ca) "__class__" = some (some (.builtin "object.__class__")) ∧ PySem.W.specialIn K (.builtin "object.__class__") "__get__" = some (some (.builtin "getset_descriptor.__get__")) ∧
  PySem.W.takesIn K (.builtin "object.__class__") = some true ∧ PySem.W.mroIn K Ca (.type "object") = some true
def FldAt (K : PySem.W.Frag) (mg : Str → Option Value) (C : Str) (fl : List Str) : Prop := ∃ Ca, mg C = some (.ref Ca) ∧ XfC K Ca ∧ ∀ f ∈ fl, PySem.W.findIn K (.ref Ca) f = some none
def Exc0At (K : PySem.W.Frag) (mg : Str → Option Value) (C : Str) : Prop := ∃ Ca, mg C = some (.ref Ca) ∧ PySem.W.excIn K Ca [.type "ValueError", .type "Exception", .type "BaseException", .type "object"] "ValueError.__new__" = true ∧ PySem.W.keepIn K (.ref Ca) = true ∧
  PySem.W.subIn K (.ref Ca) (.type "BaseException") = some true ∧ PySem.W.typeIn K (.ref Ca) = some (.type "type")
structure XOk (Γ : Ctx) (G : Orc) (k : Nat) (W : WX) (X : Cx) : Prop where
  N : X.N = Γ.N
  nd : Γ.N.Nodup
  names : X.env.scope.names = Γ.names
  kind : X.env.scope.kind = .function
  calm : X.calm = true
  tk : Takes X W
  po : PassesOwn (model X.prog X.w) X.A X.env X.xe
  room : Room (k + 1) X.A
  stor : ∀ x ∈ Γ.stor, Loc X.env.scope x ∧ (X.fn x = true ∨ X.env.scope.names.lookup x = some .local)
  fns : ∀ x n ar, Γ.tab.fns.lookup x = some (n, ar) → FnAt X k x (G n) ar
  nums : ∀ x i, Γ.tab.nums.lookup x = some i → ∃ t, X.mg x = some (.int i t)
  free : ∀ x ∈ Γ.tab.free, X.mg x = none
  excs : ∀ C n names, Γ.tab.excs.lookup C = some (n, names) → ExcAt X k C (G n) names
  subs : ∀ C D b, Γ.tab.sub C D = some b → SubAt X.K X.mg C D b
  flds : ∀ C fl, Γ.tab.flds.lookup C = some fl → FldAt X.K X.mg C fl
  exc0 : ∀ C ∈ Γ.tab.exc0, Exc0At X.K X.mg C
  top : Γ.top = true → X.stack = X.env :: X.outer ∧ X.env.frame = some X.env.locals

/-- the kinds of expressions that want no care -/
def smp : Expr → Bool
  | .BoolOp .. => true | .BinOp .. => true | .UnaryOp .. => true | .IfExp .. => true | .Dict .. => true | .ListComp .. => true | .SetComp .. => true | .DictComp .. => true
  | .Compare .. => true | .Call .. => true | .JoinedStr .. => true | .Constant .. => true | .Attribute .. => true | .Subscript .. => true | .Name .. => true | .List .. => true | .Tuple .. => true
  | _ => false
theorem star_smp {e : Expr} (h : smp e = true) (es : List Expr) (env : PySem.Env) : starEach (e :: es) env = (false, eval e env) :: starEach es env := by
  cases e <;> first | rfl | exact nomatch h
theorem plainIx_smp {e : Expr} (h : smp e = true) : PlainIx e := fun o i => by
  cases e <;> first | rfl | exact nomatch h
theorem behind_smp {e : Expr} (h : smp e = true) (op : CmpOp) : behindInMarks op e = false := by
  cases e <;> first | rfl | exact nomatch h
theorem folded_smp {e : Expr} (h : smp e = true) (env : PySem.Env) (x : Value) : foldedSetIterable e env x = pure x := by
  cases e <;> first | rfl | exact nomatch h
/-- and no comprehension -/
def noComp : Expr → Bool
  | .ListComp .. => false | .SetComp .. => false | .DictComp .. => false
  | _ => true
theorem swaps_noComp {e : Expr} (h : noComp e = true) (t : Option Expr) (l : Nat) (env : PySem.Env) : swapsWith e t l env = pure false := by
  cases e <;> first | rfl | exact nomatch h
/-- a test that is a value's truth -/
def plainT : Expr → Bool
  | .UnaryOp .Not _ _ => false | .BoolOp .. => false | .IfExp .. => false | .Compare .. => false
  | _ => true
theorem isTrue_plainT {e : Expr} (h : plainT e = true) (env : PySem.Env) (whole : Sem Value) : isTrue e env whole = (do let v ← whole; standAt e.pos; holding [v] (truthy v)) := by
  cases e with
  | UnaryOp op a p => cases op <;> first | rfl | exact nomatch h
  | BoolOp a b c => exact nomatch h
  | IfExp a b c d => exact nomatch h
  | Compare a b c d => exact nomatch h
  | _ => rfl

theorem stars_none {es : List Expr} (h : es.all smp = true) (pos : Pos) (env : PySem.Env) : (backTo pos (starEach es env)).any (·.1) = false := by
  induction es with
  | nil => rfl
  | cons e es ih =>
    simp only [List.all_cons, Bool.and_eq_true] at h
    rw [star_smp h.1]
    unfold backTo at *
    simp only [List.map_cons, List.any_cons, Bool.false_or]
    exact ih h.2
section
variable {Γ : Ctx} {G : Orc} {k : Nat} {W : WX} {X : Cx} {pos : Pos}
theorem XOk.u1 (o : XOk Γ G k W X) : X.A.units + 1 < cLine := by have := o.room.un; omega
theorem XOk.u64 (o : XOk Γ G k W X) : X.A.units + 64 < cLine := by have := o.room.un; omega
theorem XOk.u65 (o : XOk Γ G k W X) : X.A.units + 65 < cLine := by have := o.room.un; omega

/-! ### names, constants -/
theorem se_var {i : Nat} {x : Str} (o : XOk Γ G k W X) (hN : Γ.N[i]? = some x) (hv : Γ.names.lookup x = some .local ∨ Γ.names.lookup x = some .cell ∨ Γ.names.lookup x = some .free)
    (hd : (x == ("__debug__" : Str)) = false) (hcd : (x == ("__classdict__" : Str)) = false) : PE X (.Name x pos) (tE X W (eVar i G)) := by
  refine PE.imp (pe_var (i := i) (by rw [o.N]; exact hN) (by unfold Vis; rw [o.names]; exact hv) hd hcd) fun σ H Q ⟨ρ, h, β, rs, rh, p⟩ => ?_
  unfold eVar at p
  split at p
  · rename_i d e
    obtain ⟨v, e1, r⟩ := rs.at_ i d e
    exact ⟨v, e1, p.here rh r⟩
  · exact p.elim
theorem se_c {e : Expr} {d : Dt} {v : V} (h : PE X e (tC v)) (r : ∀ β H, RepV β H d v) : PE X e (tE X W (eC d G)) :=
  h.imp fun σ H Q ⟨ρ, hh, β, rs, rh, p⟩ => p.here rh (r β H)
theorem se_int {i : Int} {j : Nat} : PE X (.Constant (.int i) j pos) (tE X W (eC (.int i) G)) := se_c pe_int fun _ _ => .int i
theorem se_bl {i : Bool} {j : Nat} : PE X (.Constant (.bool i) j pos) (tE X W (eC (.bl i) G)) := se_c pe_bl fun _ _ => .bl i
theorem se_non {j : Nat} : PE X (.Constant .none j pos) (tE X W (eC .non G)) := se_c pe_non fun _ _ => .non
theorem se_str {x : Str} {j : Nat} : PE X (.Constant (.str x) j pos) (tE X W (eC (.str x) G)) := se_c pe_str fun _ _ => .str x
theorem se_num {x : Str} {i : Int} (o : XOk Γ G k W X) (hg : Γ.names.lookup x = some .globalImplicit) (hi : Γ.tab.nums.lookup x = some i) (hd : (x == ("__debug__" : Str)) = false) : PE X (.Name x pos) (tE X W (eC (.int i) G)) := by
  obtain ⟨t, ht⟩ := o.nums x i hi
  refine se_c (pe_glob (v := .int i) ?_ ht ⟨t, rfl⟩ hd) fun _ _ => .int i
  unfold Gl PySem.Env.kindOf
  rw [o.names]; exact hg

/-! ### operators -/
variable {a b c : Expr} {fa fb fc : SE}
theorem r_op {f : Op2} {σ : L2.St} {H : Hp} {Q : VK} : tE X W (eOp f fa fb G) σ H Q → tOp (rS X f) (tE X W (fa G)) (tE X W (fb G)) σ H Q := fun ⟨ρ, h, β, rs, rh, p⟩ =>
  ⟨ρ, h, β, rs, rh, p.bnd fun x h1 β1 H1 v x1 rh1 rv1 p1 => ⟨ρ, h1, β1, rs.ext x1, rh1, p1.bnd fun y h2 β2 H2 w x2 rh2 rv2 p2 => ⟨W, σ, β2, h2, x, y, rh2, rv1.ext x2, rv2, p2⟩⟩⟩
theorem r_chain {f f' : Op2} {σ : L2.St} {H : Hp} {Q : VK} : tE X W (eChain f f' fa fb fc G) σ H Q → tChain (rS X f) (rS X f') (tE X W (fa G)) (tE X W (fb G)) (tE X W (fc G)) σ H Q := fun ⟨ρ, h, β, rs, rh, p⟩ =>
  ⟨ρ, h, β, rs, rh, p.bnd fun x h1 β1 H1 v x1 rh1 rv1 p1 => ⟨ρ, h1, β1, rs.ext x1, rh1, p1.bnd fun y h2 β2 H2 w x2 rh2 rv2 p2 =>
    ⟨W, σ, β2, h2, x, y, rh2, rv1.ext x2, rv2, p2.bnd fun z h3 β3 H3 u x3 rh3 rv3 p3 => by
      split at p3
      · cases rv3
        exact ⟨true, rfl, iteT ⟨ρ, h3, β3, ((rs.ext x1).ext x2).ext x3, rh3, p3.bnd fun t h4 β4 H4 s x4 rh4 rv4 p4 => ⟨W, σ, β4, h4, y, t, rh4, (rv2.ext x3).ext x4, rv4, p4⟩⟩⟩
      · cases rv3
        exact ⟨false, rfl, iteF (p3.here rh3 (.bl _))⟩
      · exact p3.elim⟩⟩⟩
theorem r_bl {σ : L2.St} {H : Hp} {Q : Bool → Hp → Prop} : tT X W (tBl fa G) σ H Q → tE X W (fa G) σ H fun x H' => ∃ t, x = .bl t ∧ Q t H' := fun ⟨ρ, h, β, rs, rh, p⟩ =>
  ⟨ρ, h, β, rs, rh, p.bnd fun x h1 β1 H1 v x1 rh1 rv1 p1 => by
    split at p1
    · cases rv1; exact ⟨_, rfl, Post.here p1 rh1 rfl⟩
    · exact p1.elim⟩
theorem se_op {op : Operator} {f : Op2} (ho : OpR X (binaryOp op) (rS X f)) (ha : PE X a (tE X W (fa G))) (hb : PE X b (tE X W (fb G))) : PE X (.BinOp a op b pos) (tE X W (eOp f fa fb G)) :=
  (pe_op ho ha hb).imp fun σ H Q => r_op
theorem se_cmp {op : CmpOp} {f : Op2} (ho : OpR X (compareOp op) (rS X f)) (ha : PE X a (tE X W (fa G))) (hb : PE X b (tE X W (fb G))) (hm : behindInMarks op b = false) : PE X (.Compare a [op] [b] pos) (tE X W (eOp f fa fb G)) :=
  (pe_cmpR ho ha hb hm).imp fun σ H Q => r_op
theorem se_chain {op op' : CmpOp} {f f' : Op2} (ho : OpR X (compareOp op) (rS X f)) (ho' : OpR X (compareOp op') (rS X f')) (ha : PE X a (tE X W (fa G))) (hb : PE X b (tE X W (fb G))) (hc : PE X c (tE X W (fc G)))
    (hm : lastMarks [op, op'] [b, c] = false) : PE X (.Compare a [op, op'] [b, c] pos) (tE X W (eChain f f' fa fb fc G)) :=
  (pe_chain ho ho' ha hb hc hm).imp fun σ H Q => r_chain
theorem se_and {rest : List Expr} (ha : PE X a (tE X W (fa G))) (hb : PE X (.BoolOp .And (b :: rest) pos) (tE X W (fb G))) : PE X (.BoolOp .And (a :: b :: rest) pos) (tE X W (eAnd fa fb G)) :=
  (pe_and ha hb).imp fun σ H Q ⟨ρ, h, β, rs, rh, p⟩ => ⟨ρ, h, β, rs, rh, p.bnd fun x h1 β1 H1 v x1 rh1 rv1 p1 => by
    split at p1
    · cases rv1; exact ⟨true, rfl, iteT ⟨ρ, h1, β1, rs.ext x1, rh1, p1⟩⟩
    · cases rv1; exact ⟨false, rfl, iteF (p1.here rh1 (.bl _))⟩
    · exact p1.elim⟩
theorem se_or {rest : List Expr} (ha : PE X a (tE X W (fa G))) (hb : PE X (.BoolOp .Or (b :: rest) pos) (tE X W (fb G))) : PE X (.BoolOp .Or (a :: b :: rest) pos) (tE X W (eOr fa fb G)) :=
  (pe_or ha hb).imp fun σ H Q ⟨ρ, h, β, rs, rh, p⟩ => ⟨ρ, h, β, rs, rh, p.bnd fun x h1 β1 H1 v x1 rh1 rv1 p1 => by
    split at p1
    · cases rv1; exact ⟨true, rfl, iteT (p1.here rh1 (.bl _))⟩
    · cases rv1; exact ⟨false, rfl, iteF ⟨ρ, h1, β1, rs.ext x1, rh1, p1⟩⟩
    · exact p1.elim⟩
theorem tru_of {β : List Addr} {h h' : MH} {H : Hp} {d : Dt} {v : V} {t : Bool} (rh : RepH X.K X.mg β h H) (r : RepV β H d v) (e : truth d h = .ok t h') : TruV X.K v H t ∧ h' = h := by
  cases r with
  | non => cases e; exact ⟨rfl, rfl⟩
  | bl b => cases e; exact ⟨rfl, rfl⟩
  | int i => cases e; exact ⟨rfl, rfl⟩
  | str x =>
    simp only [truth] at e
    split at e
    · rename_i hl; cases e; exact ⟨⟨hl, rfl⟩, rfl⟩
    · cases e
  | @tup ds p vs e1 l rv =>
    cases e
    refine ⟨.inr (.inl ⟨vs, SqT.of e1, ?_⟩), rfl⟩
    cases rv <;> rfl
  | @loc n p hp =>
    simp only [truth] at e
    split at e
    · rename_i xs em
      cases e
      obtain ⟨_, vs, e1, rv⟩ := rh.lst em hp
      refine ⟨.inl ⟨vs, SqL.of e1, ?_⟩, rfl⟩
      cases rv <;> rfl
    · rename_i xs em
      cases e
      obtain ⟨_, vs, f, rv⟩ := rh.at_ _ _ _ em hp
      refine ⟨.inl ⟨vs, f.sq, ?_⟩, rfl⟩
      cases rv <;> rfl
    · rename_i kvs em
      cases e
      obtain ⟨_, ws, e1, rv⟩ := rh.dK em hp
      refine ⟨.inr (.inr ⟨ws, e1, ?_⟩), rfl⟩
      cases rv <;> rfl
    · cases e
/-- a value's truth, then the rest -/
theorem Post.tru {α γ : Type} {Rel : List Addr → Hp → α → γ → Prop} {Q : γ → Hp → Prop} {σ : L2.St} {β : List Addr} {H : Hp} {h : MH} {d : Dt} {v : V} {f : Bool → MH → RE α} (p : Post (rc X) W σ β H Rel Q (EP.bnd (truth d h) f)) (rh : RepH X.K X.mg β h H) (r : RepV β H d v) :
    ∃ t, TruV X.K v H t ∧ Post (rc X) W σ β H Rel Q (f t h) := by
  cases e : truth d h with
  | ok t h' =>
    obtain ⟨h1, rfl⟩ := tru_of rh r e
    rw [e] at p
    exact ⟨t, h1, p⟩
  | ex C fs h' =>
    exfalso
    cases d with
    | str x => simp only [truth] at e; split at e <;> cases e
    | loc n => simp only [truth] at e; split at e <;> cases e
    | _ => cases e
  | bad => rw [e] at p; exact p.elim
theorem se_not (ha : PE X a (tE X W (fa G))) : PE X (.UnaryOp .Not a pos) (tE X W (eNot fa G)) :=
  (pe_notT ha).imp fun σ H Q ⟨ρ, h, β, rs, rh, p⟩ => ⟨ρ, h, β, rs, rh, p.bnd fun x h1 β1 H1 v x1 rh1 rv1 p1 => by
    obtain ⟨t, h2, p2⟩ := p1.tru rh1 rv1
    exact ⟨t, h2, p2.here rh1 (.bl _)⟩⟩
theorem se_neg (ha : PE X a (tE X W (fa G))) : PE X (.UnaryOp .USub a pos) (tE X W (eNeg fa G)) :=
  (pe_un un_neg ha).imp fun σ H Q ⟨ρ, h, β, rs, rh, p⟩ => ⟨ρ, h, β, rs, rh, p.bnd fun x h1 β1 H1 v x1 rh1 rv1 p1 => by
    split at p1
    · cases rv1; exact ⟨_, rfl, p1.here rh1 (.int _)⟩
    · exact p1.elim⟩
/-! ### tests -/
variable {ft ft' : ST}
theorem st_val (ha : PE X a (tE X W (fa G))) (hp : plainT a = true) : PT X a (tT X W (tVal fa G)) :=
  (pt_truth ha (isTrue_plainT hp _)).imp fun σ H Q ⟨ρ, h, β, rs, rh, p⟩ => ⟨ρ, h, β, rs, rh, p.bnd fun x h1 β1 H1 v x1 rh1 rv1 p1 => by
    have p1' : Post (rc X) W σ β1 H1 RelE Q (bnd (truth x h1) fun t h => .ok t h) := by
      have e : bnd (truth x h1) (fun t h => RE.ok t h) = truth x h1 := by cases truth x h1 <;> rfl
      rw [e]; exact p1
    obtain ⟨t, h2, p2⟩ := p1'.tru rh1 rv1
    exact ⟨t, h2, p2.here rh1 rfl⟩⟩
theorem st_cmp {op : CmpOp} {f : Op2} (ho : OpR X (compareOp op) (rS X f)) (ha : PE X a (tE X W (fa G))) (hb : PE X b (tE X W (fb G))) (hm : behindInMarks op b = false) : PT X (.Compare a [op] [b] pos) (tT X W (tBl (eOp f fa fb) G)) :=
  (pt_cmpR ho ha hb hm).imp fun σ H Q p => r_op (r_bl p)
theorem st_chain {op op' : CmpOp} {f f' : Op2} (ho : OpR X (compareOp op) (rS X f)) (ho' : OpR X (compareOp op') (rS X f')) (ha : PE X a (tE X W (fa G))) (hb : PE X b (tE X W (fb G))) (hc : PE X c (tE X W (fc G)))
    (hm : lastMarks [op, op'] [b, c] = false) : PT X (.Compare a [op, op'] [b, c] pos) (tT X W (tBl (eChain f f' fa fb fc) G)) :=
  (pt_chain ho ho' ha hb hc hm).imp fun σ H Q p => r_chain (r_bl p)
theorem st_not (ha : PT X a (tT X W (ft G))) : PT X (.UnaryOp .Not a pos) (tT X W (tNot ft G)) :=
  (pt_not ha).imp fun σ H Q ⟨ρ, h, β, rs, rh, p⟩ => ⟨ρ, h, β, rs, rh, p.bnd fun t h1 β1 H1 t' x1 rh1 e p1 => by
    have e' : t = t' := e
    subst e'
    exact p1.here rh1 rfl⟩
theorem st_and {rest : List Expr} (ha : PT X a (tT X W (ft G))) (hb : PW X (.BoolOp .And (b :: rest) pos) (tT X W (ft' G))) : PW X (.BoolOp .And (a :: b :: rest) pos) (tT X W (tAnd ft ft' G)) :=
  (pw_and ha hb).imp fun σ H Q ⟨ρ, h, β, rs, rh, p⟩ => ⟨ρ, h, β, rs, rh, p.bnd fun t h1 β1 H1 t' x1 rh1 e p1 => by
    have e' : t = t' := e
    subst e'
    cases t with
    | true => exact iteT ⟨ρ, h1, β1, rs.ext x1, rh1, p1⟩
    | false => exact iteF (Post.here p1 rh1 rfl)⟩
theorem st_or {rest : List Expr} (ha : PT X a (tT X W (ft G))) (hb : PW X (.BoolOp .Or (b :: rest) pos) (tT X W (ft' G))) : PW X (.BoolOp .Or (a :: b :: rest) pos) (tT X W (tOr ft ft' G)) :=
  (pw_or ha hb).imp fun σ H Q ⟨ρ, h, β, rs, rh, p⟩ => ⟨ρ, h, β, rs, rh, p.bnd fun t h1 β1 H1 t' x1 rh1 e p1 => by
    have e' : t = t' := e
    subst e'
    cases t with
    | true => exact iteT (Post.here p1 rh1 rfl)
    | false => exact iteF ⟨ρ, h1, β1, rs.ext x1, rh1, p1⟩⟩
theorem se_if (hc : PT X c (tT X W (ft G))) (ha : PE X a (tE X W (fa G))) (hb : PE X b (tE X W (fb G))) : PE X (.IfExp c a b pos) (tE X W (eIf ft fa fb G)) :=
  (pe_ifExp hc ha hb).imp fun σ H Q ⟨ρ, h, β, rs, rh, p⟩ => ⟨ρ, h, β, rs, rh, p.bnd fun t h1 β1 H1 t' x1 rh1 e p1 => by
    have e' : t = t' := e
    subst e'
    cases t with
    | true => exact iteT ⟨ρ, h1, β1, rs.ext x1, rh1, p1⟩
    | false => exact iteF ⟨ρ, h1, β1, rs.ext x1, rh1, p1⟩⟩
/-! ### argument lists, displays, calls -/
variable {e : Expr} {es : List Expr} {fs : SA}
theorem sa_nil : PA X [] (tA X W (aNil G)) := pa_nil.imp fun σ H Q ⟨ρ, h, β, rs, rh, p⟩ => p.here rh .nil
theorem sa_cons (he : smp e = true) (ha : PE X e (tE X W (fa G))) (hr : PA X es (tA X W (fs G))) : PA X (e :: es) (tA X W (aCons fa fs G)) :=
  (pa_cons ha hr (star_smp he _ _)).imp fun σ H Q ⟨ρ, h, β, rs, rh, p⟩ => ⟨ρ, h, β, rs, rh, p.bnd fun x h1 β1 H1 v x1 rh1 rv1 p1 => ⟨ρ, h1, β1, rs.ext x1, rh1, p1.bnd fun xs h2 β2 H2 vs x2 rh2 rv2 p2 => p2.here rh2 (.cons (rv1.ext x2) rv2)⟩⟩
theorem se_tup {j : Nat} (ha : PA X es (tA X W (fs G))) : PE X (.Tuple es j pos) (tE X W (eTup fs G)) :=
  (pe_tup ha).imp fun σ H Q ⟨ρ, h, β, rs, rh, p⟩ => ⟨ρ, h, β, rs, rh, p.bnd fun xs h1 β1 H1 vs x1 rh1 rv1 p1 => p1.newT rh1 rv1⟩
theorem se_lst (ha : PA X es (tA X W (fs G))) : PE X (.List es pos) (tE X W (eLst fs G)) :=
  (pe_lst ha).imp fun σ H Q ⟨ρ, h, β, rs, rh, p⟩ => ⟨ρ, h, β, rs, rh, p.bnd fun xs h1 β1 H1 vs x1 rh1 rv1 p1 => p1.newL rh1 rv1⟩
theorem gl_of (o : XOk Γ G k W X) {x : Str} (hg : Γ.names.lookup x = some .globalImplicit) : Gl X x := by
  unfold Gl PySem.Env.kindOf
  rw [o.names]; exact hg
theorem se_bf {x : Str} {p : Pos} {id : String} {f : Bf} (o : XOk Γ G k W X) (hc : CallR X (.builtin id) (rB X f)) (hg : Γ.names.lookup x = some .globalImplicit) (hm : x ∈ Γ.tab.free) (hv : bootBuiltins x = some (.builtin id)) (ha : PA X (e :: es) (tA X W (fs G)))
    (hn : x ≠ "__name__") (hd : (x == ("__debug__" : Str)) = false) (hs : (e :: es).all smp = true) : PE X (.Call (.Name x p) (e :: es) [] pos) (tE X W (eBf f fs G)) := by
  simp only [List.all_cons, Bool.and_eq_true] at hs
  exact (pe_callB hc (gl_of o hg) (o.free x hm) hv ha hn hd (star_smp hs.1 _ _) (stars_none hs.2 _ _)).imp fun σ H Q ⟨ρ, h, β, rs, rh, p⟩ => ⟨ρ, h, β, rs, rh, p.bnd fun xs h1 β1 H1 vs x1 rh1 rv1 p1 => ⟨W, σ, β1, h1, xs, rh1, rv1, p1⟩⟩
theorem se_ty {x : Str} {p : Pos} {T : String} {f : Bf} (o : XOk Γ G k W X) (hc : CallR X (.type T) (rB X f)) (hg : Γ.names.lookup x = some .globalImplicit) (hm : x ∈ Γ.tab.free) (hv : bootBuiltins x = some (.type T)) (ha : PA X (e :: es) (tA X W (fs G)))
    (hn : x ≠ "__name__") (hd : (x == ("__debug__" : Str)) = false) (hs : (e :: es).all smp = true) : PE X (.Call (.Name x p) (e :: es) [] pos) (tE X W (eBf f fs G)) := by
  simp only [List.all_cons, Bool.and_eq_true] at hs
  exact (pe_callTy hc (gl_of o hg) (o.free x hm) hv ha hn hd (star_smp hs.1 _ _) (stars_none hs.2 _ _)).imp fun σ H Q ⟨ρ, h, β, rs, rh, p⟩ => ⟨ρ, h, β, rs, rh, p.bnd fun xs h1 β1 H1 vs x1 rh1 rv1 p1 => ⟨W, σ, β1, h1, xs, rh1, rv1, p1⟩⟩
/-- isinstance(e, T), T a built-in type -/
theorem se_isi {x y : Str} {p p2 : Pos} {T : String} (o : XOk Γ G k W X) (hx : x = "isinstance") (hg : Γ.names.lookup x = some .globalImplicit) (hm : x ∈ Γ.tab.free) (hg2 : Γ.names.lookup y = some .globalImplicit) (hm2 : y ∈ Γ.tab.free)
    (hv : bootBuiltins y = some (.type T)) (hn : y ≠ "__name__") (hd : (y == ("__debug__" : Str)) = false) (he : smp e = true) (ha : PE X e (tE X W (fa G))) : PE X (.Call (.Name x p) [e, .Name y p2] [] pos) (tE X W (eBf (bIsi T) (aCons fa aNil) G)) := by
  subst hx
  refine (pe_callB call_isi (gl_of o hg) (o.free _ hm) boot_isinstance (pa_cons ha (pa_cons (pe_bltn (v := .ty T) (gl_of o hg2) (o.free _ hm2) hv rfl hn hd) pa_nil (by rfl)) (star_smp he _ _)) (by decide) (by decide) (star_smp he _ _) (by rfl)).imp ?_
  intro σ H Q ⟨ρ, h, β, rs, rh, p⟩
  have p' : Post (rc X) W σ β H RepV Q (EP.bnd (fa G ρ h) fun x h1 => bIsi T [x] h1) := by
    have e : eBf (bIsi T) (aCons fa aNil) G ρ h = EP.bnd (fa G ρ h) fun x h1 => bIsi T [x] h1 := by
      unfold eBf aCons aNil EP.bnd
      cases fa G ρ h <;> rfl
    rw [← e]; exact p
  refine ⟨ρ, h, β, rs, rh, p'.bnd fun x h1 β1 H1 v x1 rh1 rv1 p1 => ?_⟩
  show rIsi X.K [v, .ty T] H1 Q
  unfold bIsi at p1
  simp only at p1
  split at p1
  · rename_i t et
    obtain ⟨u, e1, e2⟩ := Option.bind_eq_some_iff.mp et
    exact ⟨v, .ty T, .type u, .type T, t, rfl, .ty T, ty_at rh1 rv1 e1, kit_ty e2, p1.here rh1 (.bl _)⟩
  · exact p1.elim
theorem se_call {x : Str} {p : Pos} {n ar : Nat} (o : XOk Γ G k W X) (hg : Γ.names.lookup x = some .globalImplicit) (hf : Γ.tab.fns.lookup x = some (n, ar)) (ha : PA X (e :: es) (tA X W (fs G))) (hl : ∀ ρ h xs h', fs G ρ h = .ok xs h' → xs.length = ar)
    (hd : (x == ("__debug__" : Str)) = false) (hs : (e :: es).all smp = true) : PE X (.Call (.Name x p) (e :: es) [] pos) (tE X W (eCall n fs G)) := by
  simp only [List.all_cons, Bool.and_eq_true] at hs
  obtain ⟨f, fd, ps, hm, hk, hb, F⟩ := (o.fns x n ar hf).ex
  refine (pe_callS F (o.room.mono (Nat.le_succ k)) (gl_of o hg) hm hk hb (fun σ => passAt o.tk σ) ha hd (star_smp hs.1 _ _) (stars_none hs.2 _ _)).imp fun σ H Q ⟨ρ, h, β, rs, rh, p⟩ => ?_
  refine ⟨ρ, h, β, rs, rh, p.bndE fun xs h1 β1 H1 vs e1 x1 rh1 rv1 p1 => ⟨xs, h1, β1, hl _ _ _ _ e1, rv1, rh1, ?_⟩⟩
  revert p1
  cases G n xs h1 with
  | ok d h2 => exact id
  | ex C fs h2 => exact id
  | bad => exact id

/-! ### subscripts, slices, methods -/
theorem se_get (o : XOk Γ G k W X) (ha : PE X a (tE X W (fa G))) (hb : PE X b (tE X W (fb G))) (hs : smp b = true) : PE X (.Subscript a b pos) (tE X W (eOp oGet fa fb G)) :=
  (pe_ix (ix_get o.u1) ha hb (plainIx_smp hs)).imp fun σ H Q => r_op
variable {lo hi : Option Expr} {fl fh : SO} {p2 : Pos}
theorem so_no : PO X none (tO X W (oNo G)) := po_none.imp fun σ H Q ⟨ρ, h, β, rs, rh, p⟩ => Post.here p rh rfl
theorem so_some (ha : PE X a (tE X W (fa G))) : PO X (some a) (tO X W (oSome fa G)) :=
  (po_some ha).imp fun σ H Q ⟨ρ, h, β, rs, rh, p⟩ => ⟨ρ, h, β, rs, rh, p.bnd fun x h1 β1 H1 v x1 rh1 rv1 p1 => by
    split at p1
    · cases rv1; exact ⟨_, rfl, Post.here p1 rh1 rfl⟩
    · exact p1.elim⟩
theorem se_cut (ha : PE X a (tE X W (fa G))) (hl : PO X lo (tO X W (fl G))) (hh : PO X hi (tO X W (fh G))) : PE X (.Subscript a (.Slice lo hi none p2) pos) (tE X W (eCut fa fl fh G)) :=
  (pe_slice sl_cut ha hl hh).imp fun σ H Q ⟨ρ, h, β, rs, rh, p⟩ => ⟨ρ, h, β, rs, rh, p.bnd fun x h1 β1 H1 v x1 rh1 rv1 p1 => ⟨ρ, h1, β1, rs.ext x1, rh1, p1.bnd fun l h2 β2 H2 l' x2 rh2 e2 p2 => by
    have e2' : l = l' := e2
    subst e2'
    exact ⟨ρ, h2, β2, (rs.ext x1).ext x2, rh2, p2.bnd fun u h3 β3 H3 u' x3 rh3 e3 p3 => by
      have e3' : u = u' := e3
      subst e3'
      exact ⟨W, σ, β3, h3, x, rh3, (rv1.ext x2).ext x3, p3⟩⟩⟩⟩
theorem isLst_ty {β : List Addr} {h : MH} {H : Hp} {d : Dt} {v : V} (rh : RepH X.K X.mg β h H) (r : RepV β H d v) (e : isLst h d = true) : tyV X.K "list" v H := by
  cases r with
  | @loc n p hp =>
    obtain ⟨xs, ex⟩ := Option.isSome_iff_exists.mp (show (getL h n).isSome = true from e)
    obtain ⟨q, vs, bq, sq, _⟩ := rh.list ex
    rw [hp] at bq; cases bq
    exact .inl ⟨rfl, vs, sq⟩
  | _ => cases e
theorem se_mf {id : String} {f : Mf} {name : Str} {apos cpos : Pos} (slot : Slot "list" name id) (hty : typeOf (.builtin id) = pure (.type "method_descriptor")) (hm : MtR X id (rM X f)) (ha : PE X a (tE X W (fa G))) (hr : PA X (e :: es) (tA X W (fs G)))
    (hn : ∀ x p q, a ≠ .Call (.Name x p) [] [] q) (hline : (apos.endLine == cpos.line) = true) (hs : (e :: es).all smp = true) (hl : (e :: es).length < 20) : PE X (.Call (.Attribute a name apos) (e :: es) [] cpos) (tE X W (eMf f fa fs G)) := by
  have hs' := hs
  simp only [List.all_cons, Bool.and_eq_true] at hs
  have hb : attributeBase a name X.env (eval a X.env) = eval a X.env := by
    unfold attributeBase
    split
    · rename_i id' q pos' ; exact absurd rfl (hn _ _ _)
    · rfl
  refine (pe_bm PySem.F.plainAttrs_list slot hty hm ha hr hb ?_ hline (star_smp hs.1 _ _) (stars_none hs.2 _ _)).imp ?_
  · have h1 : ((backTo cpos (starEach (e :: es) X.env)).all fun x => !x.1) = true := by
      have := stars_none hs' cpos X.env
      rw [List.any_eq_false] at this
      rw [List.all_eq_true]
      intro x hx
      have := this x hx
      simpa using this
    rw [h1]
    simp only [Bool.true_and, Bool.and_eq_true, decide_eq_true_eq]
    exact ⟨rfl, by simpa using Nat.lt_of_lt_of_le hl (by decide)⟩
  · intro σ H Q ⟨ρ, h, β, rs, rh, p⟩
    refine ⟨ρ, h, β, rs, rh, p.bnd fun x h1 β1 H1 v x1 rh1 rv1 p1 => ?_⟩
    split at p1
    · rename_i hx
      exact ⟨isLst_ty rh1 rv1 hx, ρ, h1, β1, rs.ext x1, rh1, p1.bnd fun xs h2 β2 H2 vs x2 rh2 rv2 p2 => ⟨W, σ, β2, h2, x, xs, rh2, rv1.ext x2, rv2, p2⟩⟩
    · exact p1.elim
theorem se_mf0 {id : String} {f : Mf} {name : Str} {apos cpos : Pos} (slot : Slot "list" name id) (hty : typeOf (.builtin id) = pure (.type "method_descriptor")) (hm : MtR X id (rM X f)) (ha : PE X a (tE X W (fa G)))
    (hn : ∀ x p q, a ≠ .Call (.Name x p) [] [] q) (hline : (apos.endLine == cpos.line) = true) : PE X (.Call (.Attribute a name apos) [] [] cpos) (tE X W (eMf f fa aNil G)) := by
  have hb : attributeBase a name X.env (eval a X.env) = eval a X.env := by
    unfold attributeBase
    split
    · rename_i id' q pos' ; exact absurd rfl (hn _ _ _)
    · rfl
  refine (pe_bm0 PySem.F.plainAttrs_list slot hty hm ha hb hline).imp ?_
  intro σ H Q ⟨ρ, h, β, rs, rh, p⟩
  refine ⟨ρ, h, β, rs, rh, p.bnd fun x h1 β1 H1 v x1 rh1 rv1 p1 => ?_⟩
  split at p1
  · rename_i hx
    exact ⟨isLst_ty rh1 rv1 hx, W, σ, β1, h1, x, [], rh1, rv1, .nil, p1⟩
  · exact p1.elim
/-! ### ranges made -/
theorem rg_rep {β : List Addr} {H : Hp} (i j : Int) : RepVs β H (rgD i j) (rgV i j) := by
  have e1 : rgD i j = ((List.range (j - i).toNat).map fun k => i + ((k : Nat) : Int)).map Dt.int := by unfold rgD; rw [List.map_map]; rfl
  have e2 : rgV i j = ((List.range (j - i).toNat).map fun k => i + ((k : Nat) : Int)).map V.int := by unfold rgV; rw [List.map_map]; rfl
  rw [e1, e2]
  exact RepVs.ints _
theorem rgD_length (i j : Int) : (rgD i j).length = (j - i).toNat := by unfold rgD; simp
theorem rg_ok {i j : Int} (h : rgOk i j = true) : RgOk i j ∧ (rgD i j).length ≤ sizeLine := by
  unfold rgOk at h
  simp only [decide_eq_true_eq] at h
  rw [lim62_eq] at h
  obtain ⟨h1, h2, h3, h4, h5⟩ := h
  refine ⟨⟨h1, h2, h3, h4, h5⟩, ?_⟩
  rw [rgD_length, sizeLine_eq]
  exact h5
def RgRel : List Addr → Hp → Int × Int → Int × Int → Prop := fun _ _ a c => a = c
def tR (X : Cx) (W : WX) (g : Env → M (Int × Int)) : L2.St → Hp → (Int → Int → Hp → Prop) → Prop := fun σ H Q => tG X W RgRel g σ H fun c H' => Q c.1 c.2 H'
structure PRG (X : Cx) (W : WX) (e : Expr) (g : Env → M (Int × Int)) : Prop where
  ex : ∃ t, PRg X e t ∧ ∀ σ H Q, tR X W g σ H Q → t σ H Q
theorem sr_1 {p : Pos} (o : XOk Γ G k W X) (hg : Γ.names.lookup ("range" : Str) = some .globalImplicit) (hm : ("range" : Str) ∈ Γ.tab.free) (ha : PE X a (tE X W (fa G))) (hs : smp a = true) : PRG X W (.Call (.Name "range" p) [a] [] pos) (rg1 fa G) :=
  ⟨_, prg_1 (gl_of o hg) (o.free _ hm) ha (star_smp hs _ _), fun σ H Q ⟨ρ, h, β, rs, rh, p⟩ => ⟨ρ, h, β, rs, rh, p.bnd fun x h1 β1 H1 v x1 rh1 rv1 p1 => by
    split at p1
    · cases rv1; exact ⟨_, rfl, p1 β1 H1 _ (Ext.refl _ _) rh1 rfl⟩
    · exact p1.elim⟩⟩
theorem sr_2 {p : Pos} (o : XOk Γ G k W X) (hg : Γ.names.lookup ("range" : Str) = some .globalImplicit) (hm : ("range" : Str) ∈ Γ.tab.free) (ha : PE X a (tE X W (fa G))) (hb : PE X b (tE X W (fb G))) (hs : smp a = true) (hs2 : smp b = true) : PRG X W (.Call (.Name "range" p) [a, b] [] pos) (rg2 fa fb G) :=
  ⟨_, prg_2 (gl_of o hg) (o.free _ hm) ha hb (star_smp hs _ _) (star_smp hs2 _ _) (stars_none (by simp [hs2]) _ _), fun σ H Q ⟨ρ, h, β, rs, rh, p⟩ => ⟨ρ, h, β, rs, rh, p.bnd fun x h1 β1 H1 v x1 rh1 rv1 p1 => ⟨ρ, h1, β1, rs.ext x1, rh1, p1.bnd fun y h2 β2 H2 w x2 rh2 rv2 p2 => by
    split at p2
    · cases rv1; cases rv2; exact ⟨_, _, rfl, rfl, p2 β2 H2 _ (Ext.refl _ _) rh2 rfl⟩
    · exact p2.elim⟩⟩⟩
theorem se_lrg {e : Expr} {g : SR} {p : Pos} (o : XOk Γ G k W X) (hg : Γ.names.lookup ("list" : Str) = some .globalImplicit) (hm : ("list" : Str) ∈ Γ.tab.free) (he : PRG X W e (g G)) (hs : smp e = true) : PE X (.Call (.Name "list" p) [e] [] pos) (tE X W (eLRg g G)) := by
  obtain ⟨t, h1, h2⟩ := he.ex
  refine (pe_listRg o.calm (gl_of o hg) (o.free _ hm) h1 (star_smp hs _ _)).imp fun σ H Q ⟨ρ, h, β, rs, rh, p⟩ => h2 _ _ _ ⟨ρ, h, β, rs, rh, p.bnd fun x h1 β1 H1 v x1 rh1 e1 p1 => ?_⟩
  have e1' : x = v := e1
  subst e1'
  split at p1
  · rename_i hk
    obtain ⟨k1, k2⟩ := rg_ok hk
    exact ⟨k1, p1.alloc rh1 (rg_rep _ _) k2⟩
  · exact p1.elim
theorem se_trg {e : Expr} {g : SR} {p : Pos} (o : XOk Γ G k W X) (hg : Γ.names.lookup ("tuple" : Str) = some .globalImplicit) (hm : ("tuple" : Str) ∈ Γ.tab.free) (he : PRG X W e (g G)) (hs : smp e = true) : PE X (.Call (.Name "tuple" p) [e] [] pos) (tE X W (eTRg g G)) := by
  obtain ⟨t, h1, h2⟩ := he.ex
  refine (pe_tupRg o.calm (gl_of o hg) (o.free _ hm) h1 (star_smp hs _ _)).imp fun σ H Q ⟨ρ, h, β, rs, rh, p⟩ => h2 _ _ _ ⟨ρ, h, β, rs, rh, p.bnd fun x h1 β1 H1 v x1 rh1 e1 p1 => ?_⟩
  have e1' : x = v := e1
  subst e1'
  split at p1
  · rename_i hk
    obtain ⟨k1, k2⟩ := rg_ok hk
    exact ⟨k1, fun q hq => p1 β1 _ _ (Ext.fresh hq) (rh1.fresh hq) (.tup upd_same k2 (rg_rep _ _))⟩
  · exact p1.elim
theorem se_dict0 (t : Bool) : PE X (.Dict [] [] pos) (tE X W (eDict0 t G)) := by
  cases t with
  | true =>
    refine pe_dnewT.imp fun σ H Q ⟨ρ, h, β, rs, rh, p⟩ => fun q hq => ?_
    refine p (β ++ [q]) _ _ (Ext.alloc hq) (rh.alloc hq ⟨Nat.zero_le _, [], upd_same, .nil⟩) (.loc ?_)
    rw [← rh.len]; simp
  | false =>
    refine pe_dnewK.imp fun σ H Q ⟨ρ, h, β, rs, rh, p⟩ => fun q hq => ?_
    refine p (β ++ [q]) _ _ (Ext.alloc hq) (rh.alloc hq ⟨Nat.zero_le _, [], upd_same, .nil⟩) (.loc ?_)
    rw [← rh.len]; simp
end
end EP
end
section
set_option maxRecDepth 100000
set_option maxHeartbeats 2000000
/-! EnumT: enumerate of a tuple. -/
namespace EP
open PySem PySem.Spec PyProof.Rows L2
open AutoSeq1 (wpAny_loadPart')
/-- enumerate(v), v told by how its iterator begins -/
theorem meets_enum1 {v : Value} {o : Obj} {H : Heap → Prop} (B : Begins v o H) :
    Meets (Builtin.«enumerate.__new__» ⟨[.type "enumerate", v], []⟩) (fun _ R s => H s.heap ∧
      R (.ok (.ret (.ref (s.heap.push o).objs.size))) { s with heap := (s.heap.push o).push { cls := .type "enumerate", data := .fields #[.none, .bool false, .ref s.heap.objs.size, rawInt 0, .none, .none] } }) :=
  .of_wp fun prog w A R s h => by
    obtain ⟨hp, g, d, tk, os⟩ := s; obtain ⟨h1, h⟩ := h
    have hsub := sub_enumerate
    have q1 : ∀ {A' : Around} {E : Value → Shared → Prop} {Q : Value → Shared → Prop}, Q (.ref hp.objs.size) ⟨hp.push o, g, d, tk, os⟩ → wpAny (model prog w) A' (pyIter v) Q E ⟨hp, g, d, tk, os⟩ :=
      fun q => B.iter prog w _ _ ⟨hp, g, d, tk, os⟩ _ h1 q
    wp_walk using q1
    refine wpAny_stack_any fun st => wpAny_pure ?_
    split
    · rename_i c _ _ _ _ _
      cases (c == Value.type "enumerate")
      · wp_walk using q1
        exact ⟨_, rfl, h⟩
      · wp_walk using q1
        exact ⟨_, rfl, h⟩
    · wp_walk using q1
      exact ⟨_, rfl, h⟩
section
variable {prog : Program} {w : World} {A : Around} {E : Value → Shared → Prop} {s : Shared}
theorem call_enum1 {v : Value} {o : Obj} {H : Heap → Prop} {Q : Value → Shared → Prop} (B : Begins v o H) (h1 : H s.heap)
    (h : ∀ h', IsEnum h' (s.heap.objs.size + 1) s.heap.objs.size 0 .none → h'.get? s.heap.objs.size = some o → h'.objs.size = s.heap.objs.size + 2 →
      (∀ b o, s.heap.get? b = some o → h'.get? b = some o) → Q (.ref (s.heap.objs.size + 1)) { s with heap := h' }) :
    wpAny (model prog w) A (call (.type "enumerate") [v]) Q E s := by
  refine callType_new F.called_enumerate (by decide) (F.typeCall_enumerate_1 _) (F.newCall_enumerate_1 _) (fun obj => F.args_object_init_2 obj _) F.entry_enumerate_new
    (meets_enum1 B) ⟨h1, ?_⟩
  have hz : (s.heap.push o).objs.size = s.heap.objs.size + 1 := Heap.size_push ..
  show _ ∧ _
  rw [hz]
  have he : IsEnum ((s.heap.push o).push { cls := .type "enumerate", data := .fields #[.none, .bool false, .ref s.heap.objs.size, rawInt 0, .none, .none] }) (s.heap.objs.size + 1) s.heap.objs.size 0 .none := by
    have := Heap.get?_push_size (s.heap.push o) (o := { cls := .type "enumerate", data := .fields #[.none, .bool false, .ref s.heap.objs.size, rawInt 0, .none, .none] }) rfl
    rw [hz] at this; exact this
  refine ⟨⟨_, he, rfl⟩, h _ he (Heap.get?_push_of_some _ (Heap.get?_push_size _ B.free)) (by rw [Heap.size_push, hz]) fun b o x => Heap.get?_push_of_some _ (Heap.get?_push_of_some _ x)⟩
theorem enumT_end {e it l : Addr} {i : Nat} {items : Array Value} {old : Value} {Q : Option Value → Shared → Prop} (hh : A.handled = none)
    (he : IsEnum s.heap e it i old) (hit : s.heap.IsTupleIter it l i) (hl : s.heap.IsTuple l items) (hx : items[i]? = none)
    (hQ : ∀ h', Heap.ExtBut it s.heap h' → Q none { s with heap := h' }) : wpAny (model prog w) A (pyNext (.ref e)) Q E s := by
  have hT : s.TypeIs (.ref e) "enumerate" := ⟨_, he, rfl⟩
  unfold pyNext
  refine wpAny_bind (wpAny_attempt (wpAny_callSpecial?_slot (name := Str.ofString "__next__") hT F.slot_enumerate_next
    (wpAny_call_entry F.slot_enumerate_next hT F.entry_enumerate_next ?_ (F.args_enumerate_next_1 _))))
  show wpAny _ _ (field (.ref e) 2 >>= _) _ _ _
  refine wpAny_bind (wpAny_field he rfl (x := .ref it) rfl ?_)
  refine wpAny_bind (wpAny_nextOf_tuple_end hh hit hl hx fun h' x he' hx' => ?_)
  obtain ⟨o, ho, hc⟩ := hx'
  refine wpAny_bind (wpAny_isInstance (T := "StopIteration") (b := true) ⟨o, ho, hc⟩ isSubtype_stop ?_)
  exact wpAny_pure (hQ _ he')
end
/-- the tuple at a, its items in new pairs -/
def IteT (K : PySem.W.Frag) (a : Addr) : It :=
  ⟨fun i H => ∃ (xs : List V) (x : V), SqT K H a xs ∧ xs[i]? = some x, fun i H v H' => ∃ T x, v = .ref T ∧ H T = none ∧ H' = upd H T (.tup [.int (i : Nat), x]) ∧ ∀ xs, SqT K H a xs → xs[i]? = some x, fun i H => ∃ xs : List V, SqT K H a xs ∧ xs.length ≤ i⟩
theorem turn_enumT {P : Program} {w : World} {K : PySem.W.Frag} {elts : List Expr} {kk : Nat} {tpos : Pos} (a e it : Addr) :
    Turn P w K (.Tuple elts kk tpos) (IteT K a) [e, it] e (fun i h => (∃ old, IsEnum h e it ((i : Nat) : Int) old) ∧ h.IsTupleIter it a i ∧ e ≠ it) where
  mem := by simp
  obj := fun i h st b hb => by
    obtain ⟨⟨old, he⟩, ⟨o, ho, hc, hd⟩, _⟩ := st
    have e' : b = e ∨ b = it := by simpa using hb
    rcases e' with z | z
    · rw [z]; exact ⟨_, he, fun v q => nomatch q⟩
    · rw [z]; exact ⟨o, ho, fun v q => by rw [hd] at q; cases q⟩
  keep := fun i h h' st k => let ⟨⟨old, he⟩, hi, hne⟩ := st; ⟨⟨old, k e (by simp) _ he⟩, hi.at fun o q => k it (by simp) o q, hne⟩
  item := by
    intro X hP hw hK hc i pins s σ H E I hf st hg
    subst hP hw hK
    obtain ⟨⟨old, he⟩, hit, hne⟩ := st
    obtain ⟨xs, x, hq, hx⟩ := hg
    obtain ⟨its, rv, p, hz⟩ := I.tuple hq
    obtain ⟨u, hu, ru⟩ := rv.get hx
    have hel : e < s.heap.objs.size := Heap.lt_size he
    have hil : it < s.heap.objs.size := by obtain ⟨_, q, _⟩ := hit; exact Heap.lt_size q
    have nit : ∀ {b : Addr} {ob : Obj}, s.heap.get? b = some ob → ob.cls = .type "tuple" → b ≠ it ∧ b ≠ e := fun {b ob} e1 e2 => by
      obtain ⟨oi, ei, ci, _⟩ := hit
      refine ⟨fun z => ?_, fun z => ?_⟩
      · rw [z, ei] at e1; cases e1; rw [ci] at e2; exact absurd (Value.type.inj e2) (by decide)
      · rw [z, he] at e1; cases e1; exact absurd (Value.type.inj e2) (by decide)
    obtain ⟨ot, et, ct, _⟩ := id p
    obtain ⟨ht1, ht2⟩ := nit et ct
    have D := Draws.tuple (prog := X.prog) (w := X.w) (A := X.A.in1) (show X.A.in1.handled = none from I.ok.hd hc) it a ht1 its.toArray
    have hlt : i < its.toArray.size := by
      have := (List.getElem?_eq_some_iff.mp hu).1
      simpa using this
    refine wpAny_pyNext_enum_itemD D he ⟨hit, p⟩ hlt hne (by simp [hne, Ne.symm ht2]) fun x' h' tk hx' ho hst' hT hsz hk => ?_
    obtain ⟨hit', _⟩ := hst'
    have ex : x' = u := by
      have hx2 : its.toArray[i]? = some x' := hx'
      rw [List.getElem?_toArray, hu] at hx2
      exact (Option.some.inj hx2).symm
    subst ex
    refine ⟨_, rfl, wpAny_letOwnedTupleGo_enum (s := { s with heap := h', toks := tk + 1 }) ho fun h'' he' sb => ?_⟩
    have hT2 : h''.get? s.heap.objs.size = some { cls := .type "tuple", data := .seq #[.int i tk, x'] } := (sb.2 _ (Nat.ne_of_gt hel)).trans hT
    have new : ObjOk X.prog X.w (upd H s.heap.objs.size (.tup [.int (i : Nat), x])) h'' s.heap.objs.size (.tup [.int (i : Nat), x]) :=
      ⟨by show 2 ≤ sizeLine; decide, [.int i tk, x'], .cons ⟨_, rfl⟩ (.cons ru .nil), ⟨_, hT2, rfl, _, rfl⟩⟩
    have I1 : Inv X pins σ (upd H s.heap.objs.size (.tup [.int (i : Nat), x])) { s with heap := h'', toks := tk + 1 } :=
      I.turnedNew (ch := [e, it]) (fun b ob hb q => (sb.2 b (fun z => hb (by simp [z]))).trans (hk b ob (fun z => hb (by simp [z])) (fun z => hb (by simp [z])) q)) hf (Nat.le_refl _) new
    refine ⟨.ref s.heap.objs.size, _, I1, rfl, ⟨_, x, rfl, I.hok.fresh (Nat.le_refl _), rfl, fun ys hy => by rw [I.tuple_inj hy hq]; exact hx⟩, ⟨⟨x', ?_⟩, hit'.at fun o q => (sb.2 it (Ne.symm hne)).trans q, hne⟩, fun b hb => ?_⟩
    · have e1 : ((i + 1 : Nat) : Int) = (i : Int) + 1 := by omega
      rw [e1]; exact he'
    · have hb' : b < s.heap.objs.size := by
        have e' : b = e ∨ b = it := by simpa using hb
        rcases e' with z | z
        · rw [z]; exact hel
        · rw [z]; exact hil
      rw [upd_ne (Nat.ne_of_lt hb')]
      exact (hf b hb).1
  done := by
    intro X hP hw hK hc i pins s σ H E I hf st hg
    subst hP hw hK
    obtain ⟨⟨old, he⟩, hit, hne⟩ := st
    obtain ⟨xs, hq, hx⟩ := hg
    obtain ⟨its, rv, p, hz⟩ := I.tuple hq
    obtain ⟨f0, f1, f2, f3, f4, f5⟩ := hf it (by simp)
    have hl := rv.length
    obtain ⟨ot, et, ct, _⟩ := id p
    have ht1 : a ≠ it := fun z => by
      obtain ⟨oi, ei, ci, _⟩ := hit
      rw [z, ei] at et; cases et; rw [ci] at ct; exact absurd (Value.type.inj ct) (by decide)
    refine enumT_end (I.ok.hd hc) he hit p (by simp; omega) fun h' eb => ⟨rfl, I.turned (t' := s.toks) (fun b o hb q => eb b o hb q) f0 f1 f3 f4 f5⟩
  self := fun A i s Q E st h => let ⟨⟨_, he⟩, _⟩ := st; wpAny_pyIter_enum he h
/-- enumerate(e), e a list or a tuple -/
def iEnumA (K : PySem.W.Frag) (ta : TA) : TI := fun σ H R => ta σ H fun vs H1 => ∃ a xs, vs = [.ref a] ∧ ((SqL K H1 a xs ∧ R (Ite K a) H1) ∨ (SqT K H1 a xs ∧ R (IteT K a) H1))
theorem pi_enumA {X : Cx} {e : Expr} {ta : TA} {p pos tpos : Pos} {elts : List Expr} {kk : Nat} (hg : Gl X "enumerate") (hm : X.mg "enumerate" = none) (ha : PA X [e] ta) (hs : starEach [e] X.env = [(false, eval e X.env)]) :
    PI X (.Tuple elts kk tpos) (.Call (.Name "enumerate" p) [e] [] pos) (iEnumA X.K ta) := by
  refine ⟨fun pins s σ H R I h => ?_⟩
  refine Call_ (ld_blt I hg hm boot_enumerate (PyProof.Rows.callWith_type1 (thn (ha.run pos pins s σ H _ I h) fun us s1 ⟨vs, H1, I1, r1, q1⟩ => ?_) hs rfl))
  obtain ⟨a, xs, ex, q⟩ := q1
  subst ex
  have fp : ∀ b ∈ [s1.heap.objs.size + 1, s1.heap.objs.size], FpOk X pins H1 b := fun b hb => by
    have e' : b = s1.heap.objs.size + 1 ∨ b = s1.heap.objs.size := by simpa using hb
    have hle : s1.heap.objs.size ≤ b := by
      rcases e' with z | z
      · rw [z]; exact Nat.le_add_right _ _
      · rw [z]; exact Nat.le_refl _
    exact I1.fpOk hle (I1.hok.fresh hle)
  cases r1 with
  | cons r rr =>
    cases rr
    cases r
    rcases q with ⟨hq, q⟩ | ⟨hq, q⟩
    · obtain ⟨its, rv, p', hz⟩ := I1.list hq
      refine call_enumerate_list p'.isList fun h' he hit hsz hk => wpAny_pyIter_enum he ?_
      have I2 : Inv X pins σ H1 { s1 with heap := h' } := I1.kept (t' := s1.toks) hk
      exact ⟨s1.heap.objs.size + 1, [s1.heap.objs.size + 1, s1.heap.objs.size], _, _, H1, rfl, I2, turn_enum a (s1.heap.objs.size + 1) s1.heap.objs.size, ⟨⟨.none, he⟩, hit, Nat.succ_ne_self _⟩, fp, q⟩
    · obtain ⟨its, rv, p', hz⟩ := I1.tuple hq
      refine call_enum1 (begins_tuple a its.toArray) (show s1.heap.IsTuple a its.toArray from p') fun h' he hit hsz hk => wpAny_pyIter_enum he ?_
      have I2 : Inv X pins σ H1 { s1 with heap := h' } := I1.kept (t' := s1.toks) hk
      exact ⟨s1.heap.objs.size + 1, [s1.heap.objs.size + 1, s1.heap.objs.size], _, _, H1, rfl, I2, turn_enumT a (s1.heap.objs.size + 1) s1.heap.objs.size, ⟨⟨.none, he⟩, ⟨_, hit, rfl, rfl⟩, Nat.succ_ne_self _⟩, fp, q⟩
/-- e, a list or a tuple -/
def iSeqA (K : PySem.W.Frag) (tl : TE) : TI := fun σ H R => tl σ H fun x H1 => ∃ a xs, x = .ref a ∧ ((SqL K H1 a xs ∧ R (Itl K a) H1) ∨ (SqT K H1 a xs ∧ R (Itt K a) H1))
theorem pi_seqA {X : Cx} {tg l : Expr} {tl : TE} (hl : PE X l tl) : PI X tg l (iSeqA X.K tl) := by
  refine ⟨fun pins s σ H R I h => ?_⟩
  refine thn (hl.run pins s σ H _ I h) fun v s1 ⟨x, H1, I1, r1, q1⟩ => ?_
  obtain ⟨a, xs, e, q⟩ := q1
  subst e
  cases r1
  have fp : ∀ b ∈ [s1.heap.objs.size], FpOk X pins H1 b := fun b hb => by
    have e : b = s1.heap.objs.size := by simpa using hb
    subst e
    exact I1.fpOk (Nat.le_refl _) (I1.hok.fresh (Nat.le_refl _))
  rcases q with ⟨hq, q⟩ | ⟨hq, q⟩
  · obtain ⟨its, rv, p, hz⟩ := I1.list hq
    refine wpAny_pyIter_list p.isList ?_
    exact ⟨s1.heap.objs.size, [s1.heap.objs.size], _, _, H1, rfl, I1.kept (t' := s1.toks) fun b o e => Heap.get?_push_of_some _ e, turn_list a _, ⟨_, Heap.get?_push_size _ rfl, rfl, rfl⟩, fp, q⟩
  · obtain ⟨its, rv, p, hz⟩ := I1.tuple hq
    refine wpAny_pyIter_tuple (show s1.heap.IsTuple a its.toArray from p) ?_
    exact ⟨s1.heap.objs.size, [s1.heap.objs.size], _, _, H1, rfl, I1.kept (t' := s1.toks) fun b o e => Heap.get?_push_of_some _ e, turn_tuple a _, ⟨_, Heap.get?_push_size _ rfl, rfl, rfl⟩, fp, q⟩
end EP
end
section
set_option maxHeartbeats 1000000
/-! Snd5: targets, walks. -/
namespace EP
open PySem PySem.Spec PyProof.Rows L2

/-! ### targets -/
mutual
def gP (K : PySem.W.Frag) : TP → TG
  | .nm i => gName i
  | .tp ps => gTup K ps.length (gPs K ps)
def gPs (K : PySem.W.Frag) : List TP → TGs
  | [] => gNil
  | p :: ps => gCons (gP K p) (gPs K ps)
end
mutual
def TP.slots : TP → List Nat
  | .nm i => [i]
  | .tp ps => slotsL ps
def slotsL : List TP → List Nat
  | [] => []
  | p :: ps => p.slots ++ slotsL ps
end
theorem wipe_get (σ : L2.St) (j : Nat) : ∀ vs : List Nat, (wipe σ vs)[j]? = if j ∈ vs then σ[j]?.map (fun _ => none) else σ[j]?
  | [] => by simp [wipe]
  | v :: vs => by
    simp only [wipe]
    by_cases h : v = j
    · subst h
      rw [List.getElem?_set]
      simp only [if_pos]
      have hl : (wipe σ vs).length = σ.length := wipe_length σ vs
      by_cases hv : v < σ.length
      · rw [if_pos (by rw [hl]; exact hv)]
        simp [hv]
      · rw [if_neg (by rw [hl]; exact hv)]
        simp [hv]
    · rw [List.getElem?_set_ne h, wipe_get σ j vs]
      simp [h, Ne.symm h]
theorem wipeE_get (ρ : Env) (j : Nat) : ∀ vs : List Nat, (wipeE ρ vs)[j]? = if j ∈ vs then ρ[j]?.map (fun _ => none) else ρ[j]?
  | [] => by simp [wipeE]
  | v :: vs => by
    have hl : ∀ vs : List Nat, (wipeE ρ vs).length = ρ.length := by
      intro vs
      induction vs with
      | nil => rfl
      | cons v vs ih => simp [wipeE, ih]
    simp only [wipeE]
    by_cases h : v = j
    · subst h
      rw [List.getElem?_set]
      simp only [if_pos]
      by_cases hv : v < ρ.length
      · rw [if_pos (by rw [hl]; exact hv)]
        simp [hv]
      · rw [if_neg (by rw [hl]; exact hv)]
        simp [hv]
    · rw [List.getElem?_set_ne h, wipeE_get ρ j vs]
      simp [h, Ne.symm h]
theorem wipe_set {σ : L2.St} {i : Nat} {x : Option V} {vs : List Nat} (h : i ∈ vs) : wipe (σ.set i x) vs = wipe σ vs := by
  refine List.ext_getElem? fun j => ?_
  rw [wipe_get, wipe_get]
  by_cases hj : j ∈ vs
  · rw [if_pos hj, if_pos hj, List.getElem?_set]
    by_cases e : i = j
    · subst e
      rw [if_pos rfl]
      by_cases hl : i < σ.length
      · simp [hl]
      · simp [hl]
    · rw [if_neg e]
  · rw [if_neg hj, if_neg hj, List.getElem?_set_ne (fun e => hj (by rw [← e]; exact h))]
theorem RepS.wipe {β : List Addr} {H : Hp} {ρ : Env} {σ : L2.St} (r : RepS β H ρ σ) (vs : List Nat) : RepS β H (wipeE ρ vs) (L2.wipe σ vs) := by
  refine ⟨?_, fun i d e => ?_⟩
  · rw [wipe_length]
    have hl : ∀ vs : List Nat, (wipeE ρ vs).length = ρ.length := by
      intro vs
      induction vs with
      | nil => rfl
      | cons v vs ih => simp [wipeE, ih]
    rw [hl, r.len]
  · rw [wipeE_get] at e
    rw [wipe_get]
    split at e
    · cases h : ρ[i]? with
      | none => rw [h] at e; cases e
      | some o => rw [h] at e; cases e
    · rename_i hn
      rw [if_neg hn]
      exact r.at_ i d e
mutual
theorem gP_run {K : PySem.W.Frag} {β : List Addr} {H : Hp} : ∀ (p : TP) {d : Dt} {v : V} {ρ ρ' : Env} {σ : L2.St}, assignP p d ρ = some ρ' → RepV β H d v → RepS β H ρ σ →
    ∃ σ', RepS β H ρ' σ' ∧ (∀ Q, Q σ' H → gP K p v σ H Q) ∧ ∀ vs : List Nat, (∀ i ∈ p.slots, i ∈ vs) → wipe σ' vs = wipe σ vs
  | .nm i, d, v, ρ, ρ', σ, e, rv, rs => by
    simp only [assignP, Option.some.injEq] at e
    subst e
    exact ⟨_, rs.set i rv, fun Q q => q, fun vs h => wipe_set (h i (by simp [TP.slots]))⟩
  | .tp ps, d, v, ρ, ρ', σ, e, rv, rs => by
    cases rv with
    | @tup ds p vs he hl r =>
      simp only [assignP] at e
      split at e
      · rename_i hlen
        obtain ⟨σ', h1, h2, h3⟩ := gPs_run (K := K) ps e r rs
        exact ⟨σ', h1, fun Q q => ⟨p, vs, rfl, SqT.of he, by rw [← r.length]; exact hlen, h2 Q q⟩, fun ws h => h3 ws (by simpa [TP.slots] using h)⟩
      · cases e
    | _ => simp only [assignP] at e; cases e
theorem gPs_run {K : PySem.W.Frag} {β : List Addr} {H : Hp} : ∀ (ps : List TP) {ds : List Dt} {vs : List V} {ρ ρ' : Env} {σ : L2.St}, assignPs ps ds ρ = some ρ' → RepVs β H ds vs → RepS β H ρ σ →
    ∃ σ', RepS β H ρ' σ' ∧ (∀ Q, Q σ' H → gPs K ps vs σ H Q) ∧ ∀ ws : List Nat, (∀ i ∈ slotsL ps, i ∈ ws) → wipe σ' ws = wipe σ ws
  | [], ds, vs, ρ, ρ', σ, e, rv, rs => by
    cases rv with
    | nil => simp only [assignPs, Option.some.injEq] at e; subst e; exact ⟨σ, rs, fun Q q => ⟨rfl, q⟩, fun _ _ => rfl⟩
    | cons _ _ => simp [assignPs] at e
  | p :: ps, ds, vs, ρ, ρ', σ, e, rv, rs => by
    cases rv with
    | nil => simp [assignPs] at e
    | cons a r =>
      simp only [assignPs] at e
      split at e
      · rename_i ρ1 e1
        obtain ⟨σ1, h1, h2, h3⟩ := gP_run (K := K) p e1 a rs
        obtain ⟨σ2, k1, k2, k3⟩ := gPs_run (K := K) ps e r h1
        exact ⟨σ2, k1, fun Q q => ⟨_, _, rfl, h2 _ (k2 Q q)⟩, fun ws h => (k3 ws fun i hi => h i (by simp [slotsL, hi])).trans (h3 ws fun i hi => h i (by simp [slotsL, hi]))⟩
      · cases e
end
theorem assignEach_smp {e : Expr} (h : smp e = true) (es : List Expr) (env : PySem.Env) : assignEach (e :: es) env = (false, assign e env) :: assignEach es env := by
  cases e <;> first | rfl | exact nomatch h
theorem assignEach_len {es : List Expr} (h : es.all smp = true) (env : PySem.Env) : (assignEach es env).length = es.length ∧ (assignEach es env).findIdx? (·.1) = none := by
  induction es with
  | nil => exact ⟨rfl, rfl⟩
  | cons e es ih =>
    simp only [List.all_cons, Bool.and_eq_true] at h
    obtain ⟨h1, h2⟩ := ih h.2
    rw [assignEach_smp h.1]
    refine ⟨by simp [h1], ?_⟩
    rw [List.findIdx?_cons]
    simp [h2]
section
variable {Γ : Ctx} {G : Orc} {k : Nat} {W : WX} {X : Cx} {pos : Pos}
theorem sg_nm {i : Nat} {x : Str} (o : XOk Γ G k W X) (hN : Γ.N[i]? = some x) (hs : x ∈ Γ.stor) : PG X (.Name x pos) (gP X.K (.nm i)) :=
  pg_name (by rw [o.N]; exact o.nd) (by rw [o.N]; exact hN) (o.stor x hs).1 (o.stor x hs).2
theorem sg_nil : PGs X [] (gPs X.K []) := pgs_nil
theorem sg_cons {e : Expr} {es : List Expr} {p : TP} {ps : List TP} (hs : smp e = true) (h1 : PG X e (gP X.K p)) (h2 : PGs X es (gPs X.K ps)) : PGs X (e :: es) (gPs X.K (p :: ps)) :=
  pgs_cons h1 h2 (by rw [assignEach_smp hs]; rfl)
theorem sg_tp {es : List Expr} {j : Nat} {ps : List TP} (o : XOk Γ G k W X) (hl : es.length = ps.length) (hs : es.all smp = true) (h : PGs X es (gPs X.K ps)) : PG X (.Tuple es j pos) (gP X.K (.tp ps)) :=
  pg_tup (n := ps.length) o.calm h (by rw [(assignEach_len hs _).1]; exact hl) (assignEach_len hs _).2
end

/-! ### walks -/
structure ItRel (R : Rc) (β0 : List Addr) (H0 : Hp) (I : Wk) (J : It) : Prop where
  go : ∀ (i : Nat) (β : List Addr) (H : Hp) (h : MH) (d : Dt), Ext β0 β H0 H → RepH R.K R.mg β h H → I.get i h = some d → J.go i H
  yld : ∀ (i : Nat) (β : List Addr) (H : Hp) (h : MH) (d : Dt) (x : V) (H' : Hp), Ext β0 β H0 H → RepH R.K R.mg β h H → I.get i h = some d → J.yld i H x H' → Ext β β H H' ∧ RepH R.K R.mg β h H' ∧ RepV β H' d x
  stop : ∀ (β : List Addr) (H : Hp) (h : MH), Ext β0 β H0 H → RepH R.K R.mg β h H → I.fin h = true → J.stop I.tot H
abbrev tIt (X : Cx) (W : WX) (g : Env → M Wk) : TI := tG X W (fun β H I J => ItRel (rc X) β H I J) g
section
variable {R : Rc} {β0 : List Addr} {H0 : Hp}
theorem rel_list {n tot : Nat} {p : Addr} (hp : β0[n]? = some p) : ItRel R β0 H0 (itL n tot) (Itl R.K p) where
  go := fun i β H h d x rh e => by
    obtain ⟨xs, e1, e2⟩ := Option.bind_eq_some_iff.mp e
    obtain ⟨q, vs, bq, sq, rv, _⟩ := rh.list e1
    rw [x.pre n p hp] at bq; cases bq
    obtain ⟨v, h1, _⟩ := rv.get e2
    exact ⟨vs, v, sq, h1⟩
  yld := fun i β H h d y H' x rh e q => by
    obtain ⟨xs, e1, e2⟩ := Option.bind_eq_some_iff.mp e
    obtain ⟨p', vs, bq, sq, rv, _⟩ := rh.list e1
    rw [x.pre n p hp] at bq; cases bq
    obtain ⟨v, h1, h2⟩ := rv.get e2
    obtain ⟨rfl, q⟩ := q
    have e3 := q vs sq
    rw [h1] at e3; cases e3
    exact ⟨Ext.refl _ _, rh, h2⟩
  stop := fun β H h x rh e => by
    have e' : (match getL h n with | some xs => decide (xs.length ≤ tot) | none => false) = true := e
    split at e'
    · rename_i xs e1
      obtain ⟨p', vs, bq, sq, rv, _⟩ := rh.list e1
      rw [x.pre n p hp] at bq; cases bq
      exact ⟨vs, sq, by rw [← rv.length]; exact of_decide_eq_true e'⟩
    · cases e'
theorem tup_at {p : Addr} {vs ws : List V} {H : Hp} {K : PySem.W.Frag} (h : H p = some (.tup vs)) (r : Rd H p (.tup ws)) : ws = vs := by
  rcases r with r | ⟨o, r⟩
  · rw [h] at r; cases r; rfl
  · rw [h] at r; cases r
/-- a tuple at p, whatever the written part says there -/
def OnlyT (K : PySem.W.Frag) (H : Hp) (p : Addr) (vs : List V) : Prop := ∀ ws, SqT K H p ws → ws = vs
theorem rel_tup {ds : List Dt} {p : Addr} {vs : List V} (hp : H0 p = some (.tup vs)) (rv : RepVs β0 H0 ds vs) : ItRel R β0 H0 (itT ds) (Itt R.K p) where
  go := fun i β H h d x rh e => by
    obtain ⟨v, h1, _⟩ := rv.get e
    exact ⟨vs, v, SqT.of (x.tup _ _ hp), h1⟩
  yld := fun i β H h d y H' x rh e q => by
    obtain ⟨v, h1, h2⟩ := rv.get e
    obtain ⟨rfl, q⟩ := q
    have e3 := q vs (SqT.of (x.tup _ _ hp))
    rw [h1] at e3; cases e3
    exact ⟨Ext.refl _ _, rh, h2.ext x⟩
  stop := fun β H h x rh e => ⟨vs, SqT.of (x.tup _ _ hp), by show vs.length ≤ ds.length; rw [← rv.length]; exact Nat.le_refl _⟩
theorem rel_rng {lo : Int} {n : Nat} : ItRel R β0 H0 (itR lo n) (Itr lo n) where
  go := fun i β H h d x rh e => by
    have e' : (if i < n then some (Dt.int (lo + (i : Nat))) else none) = some d := e
    split at e'
    · assumption
    · cases e'
  yld := fun i β H h d y H' x rh e q => by
    have e' : (if i < n then some (Dt.int (lo + (i : Nat))) else none) = some d := e
    split at e'
    · obtain ⟨rfl, rfl⟩ := q
      cases e'
      exact ⟨Ext.refl _ _, rh, .int _⟩
    · cases e'
  stop := fun β H h x rh e => Nat.le_refl _
theorem pair_new {β : List Addr} {H : Hp} {h : MH} {T : Addr} {a b : Dt} {u v : V} (rh : RepH R.K R.mg β h H) (hT : H T = none) (ra : RepV β H a u) (rb : RepV β H b v) :
    Ext β β H (upd H T (.tup [u, v])) ∧ RepH R.K R.mg β h (upd H T (.tup [u, v])) ∧ RepV β (upd H T (.tup [u, v])) (.tup [a, b]) (.ref T) :=
  ⟨Ext.fresh hT, rh.fresh hT, .tup upd_same (by show 2 ≤ sizeLine; decide) (.cons (ra.ext (Ext.fresh hT)) (.cons (rb.ext (Ext.fresh hT)) .nil))⟩
theorem rel_enumL {n tot : Nat} {p : Addr} (hp : β0[n]? = some p) : ItRel R β0 H0 (itE (itL n tot)) (Ite R.K p) where
  go := fun i β H h d x rh e => by
    obtain ⟨d', e1, _⟩ := Option.map_eq_some_iff.mp e
    exact (rel_list (R := R) (tot := tot) hp).go i β H h d' x rh e1
  yld := fun i β H h d y H' x rh e q => by
    obtain ⟨d', e0, rfl⟩ := Option.map_eq_some_iff.mp e
    obtain ⟨xs, e1, e2⟩ := Option.bind_eq_some_iff.mp e0
    obtain ⟨p', vs, bq, sq, rv, _⟩ := rh.list e1
    rw [x.pre n p hp] at bq; cases bq
    obtain ⟨v, h1, h2⟩ := rv.get e2
    obtain ⟨T, y', rfl, hT, rfl, q⟩ := q
    have e3 := q vs sq
    rw [h1] at e3; cases e3
    exact pair_new rh hT (.int _) h2
  stop := fun β H h x rh e => (rel_list (R := R) (tot := tot) hp).stop β H h x rh e
theorem rel_enumT {ds : List Dt} {p : Addr} {vs : List V} (hp : H0 p = some (.tup vs)) (rv : RepVs β0 H0 ds vs) : ItRel R β0 H0 (itE (itT ds)) (IteT R.K p) where
  go := fun i β H h d x rh e => by
    obtain ⟨d', e1, _⟩ := Option.map_eq_some_iff.mp e
    exact (rel_tup (R := R) hp rv).go i β H h d' x rh e1
  yld := fun i β H h d y H' x rh e q => by
    obtain ⟨d', e0, rfl⟩ := Option.map_eq_some_iff.mp e
    obtain ⟨v, h1, h2⟩ := rv.get (show ds[i]? = some d' from e0)
    obtain ⟨T, y', rfl, hT, rfl, q⟩ := q
    have e3 := q vs (SqT.of (x.tup _ _ hp))
    rw [h1] at e3; cases e3
    exact pair_new rh hT (.int _) (h2.ext x)
  stop := fun β H h x rh e => (rel_tup (R := R) hp rv).stop β H h x rh e
theorem rel_zipL {n m t1 t2 c : Nat} {p q : Addr} (hp : β0[n]? = some p) (hq : β0[m]? = some q) : ItRel R β0 H0 (itZ (itL n t1) (itL m t2) c) (Itz R.K p q) where
  go := fun i β H h d x rh e => by
    have e' : (match (itL n t1).get i h, (itL m t2).get i h with | some a, some b => some (Dt.tup [a, b]) | _, _ => none) = some d := e
    split at e'
    · rename_i a b e1 e2
      obtain ⟨xs, a1, a2⟩ := Option.bind_eq_some_iff.mp e1
      obtain ⟨ys, b1, b2⟩ := Option.bind_eq_some_iff.mp e2
      obtain ⟨p', vs, bq, sq, rv, _⟩ := rh.list a1
      rw [x.pre n p hp] at bq; cases bq
      obtain ⟨q', ws, bq, sq', rv', _⟩ := rh.list b1
      rw [x.pre m q hq] at bq; cases bq
      obtain ⟨v, h1, _⟩ := rv.get a2
      obtain ⟨w, h2, _⟩ := rv'.get b2
      exact ⟨vs, ws, v, w, sq, sq', h1, h2⟩
    · cases e'
  yld := fun i β H h d y H' x rh e qq => by
    have e' : (match (itL n t1).get i h, (itL m t2).get i h with | some a, some b => some (Dt.tup [a, b]) | _, _ => none) = some d := e
    split at e'
    · rename_i a b e1 e2
      cases e'
      obtain ⟨xs, a1, a2⟩ := Option.bind_eq_some_iff.mp e1
      obtain ⟨ys, b1, b2⟩ := Option.bind_eq_some_iff.mp e2
      obtain ⟨p', vs, bq, sq, rv, _⟩ := rh.list a1
      rw [x.pre n p hp] at bq; cases bq
      obtain ⟨q', ws, bq, sq', rv', _⟩ := rh.list b1
      rw [x.pre m q hq] at bq; cases bq
      obtain ⟨v, h1, g1⟩ := rv.get a2
      obtain ⟨w, h2, g2⟩ := rv'.get b2
      obtain ⟨T, x', y', rfl, hT, rfl, q1, q2⟩ := qq
      have e3 := q1 vs sq
      rw [h1] at e3; cases e3
      have e4 := q2 ws sq'
      rw [h2] at e4; cases e4
      exact pair_new rh hT g1 g2
    · cases e'
  stop := fun β H h x rh e => by
    have e' : ((itL n t1).fin h && (itL m t2).fin h && (decide (t1 ≤ c) || decide (t2 ≤ c))) = true := e
    simp only [Bool.and_eq_true, Bool.or_eq_true, decide_eq_true_eq] at e'
    obtain ⟨⟨e1, e2⟩, e3⟩ := e'
    obtain ⟨xs, a1, a2⟩ := (rel_list (R := R) (tot := t1) hp).stop β H h x rh e1
    obtain ⟨ys, b1, b2⟩ := (rel_list (R := R) (tot := t2) hq).stop β H h x rh e2
    have a2' : xs.length ≤ t1 := a2
    have b2' : ys.length ≤ t2 := b2
    exact ⟨xs, ys, a1, b1, by show xs.length ≤ c ∨ ys.length ≤ c; omega⟩
theorem rel_zipT {ds es : List Dt} {c : Nat} {p q : Addr} {vs ws : List V} (hp : H0 p = some (.tup vs)) (rv : RepVs β0 H0 ds vs) (hq : H0 q = some (.tup ws)) (rw' : RepVs β0 H0 es ws) : ItRel R β0 H0 (itZ (itT ds) (itT es) c) (RZ.ItzT R.K p q) where
  go := fun i β H h d x rh e => by
    have e' : (match ds[i]?, es[i]? with | some a, some b => some (Dt.tup [a, b]) | _, _ => none) = some d := e
    split at e'
    · rename_i a b e1 e2
      obtain ⟨v, h1, _⟩ := rv.get e1
      obtain ⟨w, h2, _⟩ := rw'.get e2
      exact ⟨vs, ws, v, w, SqT.of (x.tup _ _ hp), SqT.of (x.tup _ _ hq), h1, h2⟩
    · cases e'
  yld := fun i β H h d y H' x rh e qq => by
    have e' : (match ds[i]?, es[i]? with | some a, some b => some (Dt.tup [a, b]) | _, _ => none) = some d := e
    split at e'
    · rename_i a b e1 e2
      cases e'
      obtain ⟨v, h1, g1⟩ := rv.get e1
      obtain ⟨w, h2, g2⟩ := rw'.get e2
      obtain ⟨T, x', y', rfl, hT, rfl, q1, q2⟩ := qq
      have e3 := q1 vs (SqT.of (x.tup _ _ hp))
      rw [h1] at e3; cases e3
      have e4 := q2 ws (SqT.of (x.tup _ _ hq))
      rw [h2] at e4; cases e4
      exact pair_new rh hT (g1.ext x) (g2.ext x)
    · cases e'
  stop := fun β H h x rh e => by
    have e' : (true && true && (decide (ds.length ≤ c) || decide (es.length ≤ c))) = true := e
    simp only [Bool.and_true, Bool.true_and, Bool.or_eq_true, decide_eq_true_eq] at e'
    refine ⟨vs, ws, SqT.of (x.tup _ _ hp), SqT.of (x.tup _ _ hq), ?_⟩
    show vs.length ≤ c ∨ ws.length ≤ c
    rw [← rv.length, ← rw'.length]; exact e'
end
section
variable {Γ : Ctx} {G : Orc} {k : Nat} {W : WX} {X : Cx} {pos : Pos} {a b tg : Expr} {fa fb : SE}
/-- a list or a tuple at hand, as a walk -/
theorem itOf_at {β : List Addr} {h : MH} {H : Hp} {d : Dt} {v : V} {I : Wk} {h' : MH} (rh : RepH X.K X.mg β h H) (r : RepV β H d v) (e : itOf d h = .ok I h') : h' = h ∧ ∃ p, v = .ref p ∧
    ((∃ n xs vs, d = .loc n ∧ β[n]? = some p ∧ I = itL n xs.length ∧ SqL X.K H p vs ∧ getL h n = some xs ∧ RepVs β H xs vs) ∨ ∃ ds vs, d = .tup ds ∧ H p = some (.tup vs) ∧ RepVs β H ds vs ∧ I = itT ds) := by
  cases r with
  | @tup ds p vs he hl rv => cases e; exact ⟨rfl, p, rfl, .inr ⟨ds, vs, rfl, he, rv, rfl⟩⟩
  | @loc n p hp =>
    simp only [itOf] at e
    split at e
    · rename_i xs ex
      cases e
      obtain ⟨q, vs, bq, sq, rv, _⟩ := rh.list ex
      rw [hp] at bq; cases bq
      exact ⟨rfl, p, rfl, .inl ⟨n, xs, vs, rfl, hp, rfl, sq, ex, rv⟩⟩
    · cases e
  | _ => cases e
theorem itOf_noex {d : Dt} {h h' : MH} {C : Str} {fs : Fs} : itOf d h ≠ .ex C fs h' := fun e => by
  unfold itOf at e
  split at e
  · cases e
  · split at e <;> cases e
  · cases e
theorem si_seq (ha : PE X a (tE X W (fa G))) : PI X tg a (tIt X W (iSeq fa G)) :=
  (pi_seqA ha).imp fun σ H Q ⟨ρ, h, β, rs, rh, p⟩ => ⟨ρ, h, β, rs, rh, p.bnd fun x h1 β1 H1 v x1 rh1 rv1 p1 => by
    cases e : itOf x h1 with
    | ok I h2 =>
      rw [e] at p1
      obtain ⟨rfl, q, rfl, hq⟩ := itOf_at rh1 rv1 e
      rcases hq with ⟨n, xs, vs, rfl, bq, rfl, sq, _, _⟩ | ⟨ds, vs, rfl, hp, rv, rfl⟩
      · exact ⟨q, vs, rfl, .inl ⟨sq, Post.here p1 rh1 (rel_list bq)⟩⟩
      · exact ⟨q, vs, rfl, .inr ⟨SqT.of hp, Post.here p1 rh1 (rel_tup hp rv)⟩⟩
    | ex C fs h2 => exact absurd e itOf_noex
    | bad => rw [e] at p1; exact p1.elim⟩
theorem si_enum {p : Pos} {elts : List Expr} {kk : Nat} {tpos : Pos} (o : XOk Γ G k W X) (hg : Γ.names.lookup ("enumerate" : Str) = some .globalImplicit) (hm : ("enumerate" : Str) ∈ Γ.tab.free) (ha : PE X a (tE X W (fa G))) (hs : smp a = true) :
    PI X (.Tuple elts kk tpos) (.Call (.Name "enumerate" p) [a] [] pos) (tIt X W (iEnum fa G)) :=
  (pi_enumA (gl_of o hg) (o.free _ hm) (pa_cons ha pa_nil (star_smp hs _ _)) (star_smp hs _ _)).imp fun σ H Q ⟨ρ, h, β, rs, rh, p⟩ => ⟨ρ, h, β, rs, rh, p.bnd fun x h1 β1 H1 v x1 rh1 rv1 p1 => by
    cases e : itOf x h1 with
    | ok I h2 =>
      rw [e] at p1
      obtain ⟨rfl, q, rfl, hq⟩ := itOf_at rh1 rv1 e
      rcases hq with ⟨n, xs, vs, rfl, bq, rfl, sq, _, _⟩ | ⟨ds, vs, rfl, hp, rv, rfl⟩
      · exact ⟨q, vs, rfl, .inl ⟨sq, Post.here p1 rh1 (rel_enumL bq)⟩⟩
      · exact ⟨q, vs, rfl, .inr ⟨SqT.of hp, Post.here p1 rh1 (rel_enumT hp rv)⟩⟩
    | ex C fs h2 => exact absurd e itOf_noex
    | bad => rw [e] at p1; exact p1.elim⟩
theorem si_zip {p : Pos} {elts : List Expr} {kk : Nat} {tpos : Pos} (o : XOk Γ G k W X) (hg : Γ.names.lookup ("zip" : Str) = some .globalImplicit) (hm : ("zip" : Str) ∈ Γ.tab.free) (ha : PE X a (tE X W (fa G))) (hb : PE X b (tE X W (fb G))) (hs : smp a = true) (hs2 : smp b = true) :
    PI X (.Tuple elts kk tpos) (.Call (.Name "zip" p) [a, b] [] pos) (tIt X W (EP.iZip fa fb G)) :=
  (RZ.pi_zipA (gl_of o hg) (o.free _ hm) (pa_cons ha (pa_cons hb pa_nil (star_smp hs2 _ _)) (star_smp hs _ _)) (by rw [star_smp hs]) (stars_none (by simp [hs2]) _ _)).imp fun σ H Q ⟨ρ, h, β, rs, rh, p⟩ => ⟨ρ, h, β, rs, rh, p.bnd fun x h1 β1 H1 v x1 rh1 rv1 p1 => ⟨ρ, h1, β1, rs.ext x1, rh1, p1.bnd fun y h2 β2 H2 w x2 rh2 rv2 p2 => by
    split at p2
    · rename_i hk
      have rv1' := rv1.ext x2
      cases e1 : itOf x h2 with
      | ok I h3 =>
        rw [e1] at p2
        obtain ⟨rfl, q1, rfl, hq1⟩ := itOf_at rh2 rv1' e1
        simp only [EP.bnd] at p2
        cases e2 : itOf y h3 with
        | ok J h4 =>
          rw [e2] at p2
          obtain ⟨rfl, q2, rfl, hq2⟩ := itOf_at rh2 rv2 e2
          simp only [EP.bnd] at p2
          rcases hq1 with ⟨n, xs, vs, rfl, bq, rfl, sq, _, _⟩ | ⟨ds, vs, rfl, hp, rv, rfl⟩ <;> rcases hq2 with ⟨n', xs', vs', rfl, bq', rfl, sq', _, _⟩ | ⟨ds', vs', rfl, hp', rv', rfl⟩
          · exact ⟨q1, q2, vs, vs', rfl, .inl ⟨sq, sq', Post.here p2 rh2 (rel_zipL bq bq')⟩⟩
          · cases hk
          · cases hk
          · exact ⟨q1, q2, vs, vs', rfl, .inr ⟨SqT.of hp, SqT.of hp', Post.here p2 rh2 (rel_zipT hp rv hp' rv')⟩⟩
        | ex C fs h2 => exact absurd e2 itOf_noex
        | bad => rw [e2] at p2; exact p2.elim
      | ex C fs h2 => exact absurd e1 itOf_noex
      | bad => rw [e1] at p2; exact p2.elim
    · exact p2.elim⟩⟩
theorem si_rg1 {p : Pos} (o : XOk Γ G k W X) (hg : Γ.names.lookup ("range" : Str) = some .globalImplicit) (hm : ("range" : Str) ∈ Γ.tab.free) (ha : PE X a (tE X W (fa G))) (hs : smp a = true) :
    PI X tg (.Call (.Name "range" p) [a] [] pos) (tIt X W (iRg (rg1 fa) G)) :=
  (pi_range1 (gl_of o hg) (o.free _ hm) (pa_cons ha pa_nil (star_smp hs _ _)) (star_smp hs _ _)).imp fun σ H Q ⟨ρ, h, β, rs, rh, p⟩ => by
    have p' : Post (rc X) W σ β H (fun β H I J => ItRel (rc X) β H I J) Q (EP.bnd (fa G ρ h) fun x h1 => EP.bnd (match x with | .int i => RE.ok ((0 : Int), i) h1 | _ => .bad) fun p h1 => if -lim62 ≤ p.1 ∧ p.1 < lim62 ∧ -lim62 ≤ p.2 ∧ p.2 < lim62 then .ok (itR p.1 (p.2 - p.1).toNat) h1 else .bad) := by
      have e : iRg (rg1 fa) G ρ h = (EP.bnd (fa G ρ h) fun x h1 => EP.bnd (match x with | .int i => RE.ok ((0 : Int), i) h1 | _ => .bad) fun p h1 => if -lim62 ≤ p.1 ∧ p.1 < lim62 ∧ -lim62 ≤ p.2 ∧ p.2 < lim62 then .ok (itR p.1 (p.2 - p.1).toNat) h1 else .bad) := by
        unfold iRg rg1
        cases fa G ρ h <;> rfl
      rw [← e]; exact p
    refine ⟨ρ, h, β, rs, rh, p'.bnd fun x h1 β1 H1 v x1 rh1 rv1 p1 => ?_⟩
    cases x with
    | int i =>
      cases rv1
      simp only [EP.bnd] at p1
      split at p1
      · rename_i hk
        rw [lim62_eq] at hk
        refine ⟨i, rfl, hk.2.2.1, hk.2.2.2, ?_⟩
        have e : (i - 0).toNat = i.toNat := by rw [Int.sub_zero]
        rw [e] at p1
        exact Post.here p1 rh1 rel_rng
      · exact p1.elim
    | _ => exact p1.elim
theorem si_rg2 {p : Pos} (o : XOk Γ G k W X) (hg : Γ.names.lookup ("range" : Str) = some .globalImplicit) (hm : ("range" : Str) ∈ Γ.tab.free) (ha : PE X a (tE X W (fa G))) (hb : PE X b (tE X W (fb G))) (hs : smp a = true) (hs2 : smp b = true) :
    PI X tg (.Call (.Name "range" p) [a, b] [] pos) (tIt X W (iRg (rg2 fa fb) G)) :=
  (pi_range2 (gl_of o hg) (o.free _ hm) (pa_cons ha (pa_cons hb pa_nil (star_smp hs2 _ _)) (star_smp hs _ _)) (by rw [star_smp hs, star_smp hs2]; rfl) (star_smp hs2 _ _)).imp fun σ H Q ⟨ρ, h, β, rs, rh, p⟩ => by
    have p' : Post (rc X) W σ β H (fun β H I J => ItRel (rc X) β H I J) Q (EP.bnd (fa G ρ h) fun x h1 => EP.bnd (fb G ρ h1) fun y h2 => EP.bnd (match x, y with | .int i, .int j => RE.ok (i, j) h2 | _, _ => .bad) fun p h1 => if -lim62 ≤ p.1 ∧ p.1 < lim62 ∧ -lim62 ≤ p.2 ∧ p.2 < lim62 then .ok (itR p.1 (p.2 - p.1).toNat) h1 else .bad) := by
      have e : iRg (rg2 fa fb) G ρ h = (EP.bnd (fa G ρ h) fun x h1 => EP.bnd (fb G ρ h1) fun y h2 => EP.bnd (match x, y with | .int i, .int j => RE.ok (i, j) h2 | _, _ => .bad) fun p h1 => if -lim62 ≤ p.1 ∧ p.1 < lim62 ∧ -lim62 ≤ p.2 ∧ p.2 < lim62 then .ok (itR p.1 (p.2 - p.1).toNat) h1 else .bad) := by
        unfold iRg rg2
        cases fa G ρ h with
        | ok x h1 =>
          simp only [EP.bnd]
          cases fb G ρ h1 <;> rfl
        | _ => rfl
      rw [← e]; exact p
    refine ⟨ρ, h, β, rs, rh, p'.bnd fun x h1 β1 H1 v x1 rh1 rv1 p1 => ⟨ρ, h1, β1, rs.ext x1, rh1, p1.bnd fun y h2 β2 H2 w x2 rh2 rv2 p2 => ?_⟩⟩
    show ∃ i j : Int, [v, w] = [V.int i, V.int j] ∧ _
    cases x with
    | int i =>
      cases y with
      | int j =>
        cases rv1; cases rv2
        simp only [EP.bnd] at p2
        split at p2
        · rename_i hk
          rw [lim62_eq] at hk
          exact ⟨i, j, rfl, hk, Post.here p2 rh2 rel_rng⟩
        · exact p2.elim
      | _ => exact p2.elim
    | _ => exact p2.elim
end
end EP
end
section
set_option maxHeartbeats 1000000
/-! Snd6: comprehensions. -/
namespace EP
open PySem PySem.Spec PyProof.Rows L2
abbrev W0 : WX := fun _ _ _ _ => False
/-- a block's names, as they run -/
def relN (scn names : List (Str × NameKind)) : List (Str × NameKind) := scn.map fun (n, k) => if (k == .free && names.lookup n == some .cell) then (n, .cell) else (n, k)
def storN (scn : List (Str × NameKind)) : List Str := (scn.filter fun y => decide (scn.lookup y.1 = some .local) || decide (scn.lookup y.1 = some .cell)).map (·.1)
def Ctx.blk (Γ : Ctx) (scope : Scope) : Ctx := { Γ with names := relN scope.names Γ.names, stor := storN scope.names, top := false }
section
variable {Γ : Ctx} {G : Orc} {k : Nat} {W : WX} {X : Cx} {pos : Pos}
theorem relabel_names {scope : Scope} {env : PySem.Env} {names : List (Str × NameKind)} (hk : env.scope.kind = .function) (hn : env.scope.names = names) : (relabel scope env).names = relN scope.names names := by
  unfold relabel relN
  simp only
  refine List.map_congr_left fun y _ => ?_
  obtain ⟨n, k⟩ := y
  have e1 : env.kindOf n = names.lookup n := by unfold PySem.Env.kindOf; rw [hn]
  have e2 : (env.scope.kind == ScopeKind.function) = true := by rw [hk]; rfl
  simp only [e1, e2, Bool.and_true]
theorem stor_at {scn : List (Str × NameKind)} {x : Str} (h : x ∈ storN scn) : scn.lookup x = some .local ∨ scn.lookup x = some .cell := by
  unfold storN at h
  obtain ⟨y, hy, rfl⟩ := List.mem_map.mp h
  have := (List.mem_filter.mp hy).2
  simpa using this
theorem XOk.blk (o : XOk Γ G k W X) {scope : Scope} (hk : scope.kind = .function) (s : Shared) (H : Hp) (C : Addr) (cl : List (Str × Addr)) (fp : List Addr) : XOk (Γ.blk scope) G k W0 (X.blk s H scope (compEnvC scope cl C X.env) fp) where
  N := o.N
  nd := o.nd
  names := relabel_names o.kind o.names
  kind := hk
  calm := o.calm
  tk := takes_none5
  po := PassesOwn.never
  room := o.room
  stor := fun x hx => by
    have h := stor_at hx
    have e : (X.blk s H scope (compEnvC scope cl C X.env) fp).env.scope.names = relN scope.names Γ.names := relabel_names o.kind o.names
    have keep : ∀ {kk : NameKind}, kk ≠ .free → scope.names.lookup x = some kk → (relN scope.names Γ.names).lookup x = some kk := fun {kk} ne h => by
      have := lookup_relS_keep (sc := { scope with kind := .function, names := Γ.names }) ne h
      simpa [relN] using this
    rcases h with h | h
    · have h2 := keep (kk := .local) (fun z => nomatch z) h
      exact ⟨.inl (by rw [e]; exact h2), .inr (by rw [e]; exact h2)⟩
    · have h2 := keep (kk := .cell) (fun z => nomatch z) h
      refine ⟨.inr (by rw [e]; exact h2), .inl ?_⟩
      show (scope.names.lookup x == some NameKind.cell) = true
      rw [h]; rfl
  fns := fun x n ar h => ⟨(o.fns x n ar h).ex⟩
  nums := o.nums
  free := o.free
  excs := fun C n names h => ⟨(o.excs C n names h).ex⟩
  subs := o.subs
  flds := o.flds
  exc0 := o.exc0
  top := fun z => nomatch z
theorem XOk.blkOk (o : XOk Γ G k W X) {scope sc : Scope} {own : List (Str × Nat)} (h : blkC Γ.N { sc with names := Γ.names } scope own = true) : BlkOk X.N X.env.scope scope own := by
  have b := blkOk_by h
  refine ⟨b.kind, b.uniq, by rw [o.N]; exact b.ix, fun y hy e => ?_, fun y hy e => by rw [o.N]; exact b.own y hy e⟩
  rw [o.names]
  exact b.free y hy e
theorem Post.noEx {R : Rc} {α γ α' γ' : Type} {σ σ' : L2.St} {β : List Addr} {H : Hp} {Rel : List Addr → Hp → α → γ → Prop} {Rel' : List Addr → Hp → α' → γ' → Prop} {Q : γ' → Hp → Prop} {P : γ → Hp → Prop} {m : RE α} {f : α → MH → RE α'} (p : Post R W σ β H Rel' Q (EP.bnd (EP.noEx m) f))
    (kk : ∀ a h1 β' H' c, Ext β β' H H' → RepH R.K R.mg β' h1 H' → Rel β' H' a c → Post R W σ β' H' Rel' Q (f a h1) → P c H') : Post R W0 σ' β H Rel P m := by
  cases m with
  | ok a h => exact fun β2 H2 c x rh rc => kk a h β2 H2 c x rh rc (Post.ext x p)
  | ex C fs h => exact p.elim
  | bad => exact p.elim
theorem wipe_idem (σ : L2.St) (vs : List Nat) : wipe (wipe σ vs) vs = wipe σ vs := by
  refine List.ext_getElem? fun j => ?_
  rw [wipe_get, wipe_get]
  by_cases hj : j ∈ vs
  · rw [if_pos hj, if_pos hj]
    cases σ[j]? <;> rfl
  · rw [if_neg hj, if_neg hj]
theorem new_at {β : List Addr} {h : MH} {D : Addr} {K : PySem.W.Frag} {mg : Str → Option Value} {H : Hp} (rh : RepH K mg β h H) : (β ++ [D])[h.length]? = some D := by
  rw [← rh.len]; simp
/-! ### lists -/
theorem r_lc {fi : SI} {p : TP} {ft : ST} {fe : SE} {vs : List Nat} {Xt Xe : Cx} (kt : Xt.K = X.K ∧ Xt.mg = X.mg) (ke : Xe.K = X.K ∧ Xe.mg = X.mg) (hv : ∀ i ∈ p.slots, i ∈ vs) {σ : L2.St} {H : Hp} {Q : VK} (q : tE X W (eLc fi p ft fe vs G) σ H Q) :
    tLc (tIt X W (fi G)) (gP X.K p) (tT Xt W0 (ft G)) (tE Xe W0 (fe G)) vs σ H Q := by
  obtain ⟨ρ, h, β, rs, rh, pp⟩ := q
  refine ⟨ρ, h, β, rs, rh, pp.bnd fun I h1 β1 H1 J x1 rh1 rel p1 => fun D hD => ?_⟩
  have xa : Ext β1 (β1 ++ [D]) H1 (upd H1 D (.lst [])) := Ext.alloc hD
  have rha : RepH X.K X.mg (β1 ++ [D]) (h1 ++ [.lst []]) (upd H1 D (.lst [])) := rh1.alloc hD ⟨Nat.zero_le _, [], upd_same, .nil⟩
  have hDa : (β1 ++ [D])[h1.length]? = some D := new_at rh1
  generalize hdn : h1.length = dn at p1 hDa
  refine ⟨fun i m Hc => i + m = I.tot ∧ ∃ hc βc, Ext (β1 ++ [D]) βc (upd H1 D (.lst [])) Hc ∧ RepH X.K X.mg βc hc Hc ∧ Post (rc X) W σ βc Hc RepV Q (lcLoop I p ft fe G (wipeE ρ vs) dn m hc), ⟨I.tot, Nat.zero_add _, _, _, Ext.refl _ _, rha, Post.ext xa p1⟩, ?_⟩
  rintro i m Hc ⟨him, hc, βc, xc, rhc, pc⟩
  have x0 := xa.trans xc
  cases m with
  | zero =>
    refine .inl ?_
    unfold lcLoop at pc
    split at pc
    · rename_i hf
      have ei : i = I.tot := him
      subst ei
      exact ⟨rel.stop βc Hc hc x0 rhc hf, pc.here rhc (.loc (xc.pre _ _ hDa))⟩
    · exact pc.elim
  | succ mm =>
    refine .inr ?_
    unfold lcLoop at pc
    have ei : I.tot - (mm + 1) = i := by omega
    rw [ei] at pc
    cases hg : I.get i hc with
    | none => rw [hg] at pc; exact pc.elim
    | some d =>
      rw [hg] at pc
      simp only at pc
      refine ⟨rel.go i βc Hc hc d x0 rhc hg, fun H' => i + 1 + mm = I.tot ∧ ∃ hc βc, Ext (β1 ++ [D]) βc (upd H1 D (.lst [])) H' ∧ RepH X.K X.mg βc hc H' ∧ Post (rc X) W σ βc H' RepV Q (lcLoop I p ft fe G (wipeE ρ vs) dn mm hc), fun H' w => ⟨mm, Nat.lt_succ_self _, w⟩, fun x H' y => ?_⟩
      obtain ⟨x2, rh2, rv⟩ := rel.yld i βc Hc hc d x H' x0 rhc hg y
      cases ha : assignP p d (wipeE ρ vs) with
      | none => rw [ha] at pc; exact pc.elim
      | some ρ' =>
        rw [ha] at pc
        simp only at pc
        have rs' : RepS βc H' (wipeE ρ vs) (wipe σ vs) := RepS.wipe ((rs.ext (x1.trans x0)).ext x2) vs
        obtain ⟨σ', rs2, run, hw⟩ := gP_run (K := X.K) p ha rv rs'
        refine run _ ⟨by rw [hw vs hv, wipe_idem], ρ', hc, βc, rs2, by rw [kt.1, kt.2]; exact rh2, ?_⟩
        have pc' := Post.ext x2 pc
        show Post (rc Xt) W0 σ' βc H' RelE _ (ft G ρ' hc)
        have e1 : rc Xt = rc X := by unfold rc; rw [kt.1, kt.2]
        rw [e1]
        refine pc'.noEx fun b h3 β3 H3 b' x3 rh3 eb p3 => ?_
        have eb' : b = b' := eb
        subst eb'
        have step : ∀ {β4 : List Addr} {H4 : Hp} {h4 : MH}, Ext βc β4 H' H4 → RepH X.K X.mg β4 h4 H4 → Post (rc X) W σ β4 H4 RepV Q (lcLoop I p ft fe G (wipeE ρ vs) dn mm h4) → i + 1 + mm = I.tot ∧ ∃ hc βc, Ext (β1 ++ [D]) βc (upd H1 D (.lst [])) H4 ∧ RepH X.K X.mg βc hc H4 ∧ Post (rc X) W σ βc H4 RepV Q (lcLoop I p ft fe G (wipeE ρ vs) dn mm hc) :=
          fun {β4 H4 h4} x4 rh4 p4 => ⟨by omega, h4, β4, (xc.trans x2).trans x4, rh4, p4⟩
        cases b with
        | false =>
          rw [if_neg (by simp)]
          rw [if_neg (by simp)] at p3
          exact step x3 rh3 p3
        | true =>
          rw [if_pos rfl]
          rw [if_pos rfl] at p3
          refine ⟨ρ', h3, β3, rs2.ext x3, by rw [ke.1, ke.2]; exact rh3, ?_⟩
          have e2 : rc Xe = rc X := by unfold rc; rw [ke.1, ke.2]
          rw [e2]
          refine p3.noEx fun y h4 β4 H4 v x4 rh4 rv4 p4 => ?_
          have hD4 : β4[dn]? = some D := x4.pre _ _ (x3.pre _ _ (x2.pre _ _ (xc.pre _ _ hDa)))
          split at p4
          · rename_i acc em
            obtain ⟨hl, us, e4, r4⟩ := rh4.lst em hD4
            split at p4
            · rename_i hz
              refine ⟨us, e4, by rw [← r4.length]; exact hz, ?_⟩
              have new : Ext β4 β4 H4 (upd H4 D (.lst (us ++ [v]))) → RepO X.K X.mg β4 (upd H4 D (.lst (us ++ [v]))) D (.lst (acc ++ [y])) := fun x => ⟨by rw [List.length_append]; exact hz, _, upd_same, (r4.append (.cons rv4 .nil)).ext x⟩
              have x5 : Ext β4 β4 H4 (upd H4 D (.lst (us ++ [v]))) := Ext.write e4 trivial (List.mem_of_getElem? hD4)
              obtain ⟨rh5, _⟩ := rh4.write em hD4 rfl (new x5)
              exact step ((x3.trans x4).trans x5) rh5 (Post.ext x5 p4)
            · exact p4.elim
          · exact p4.elim
section
variable {elt tg iter : Expr} {ifs : List Expr} {scope sc : Scope} {own : List (Str × Nat)} {fi : SI} {p : TP} {ft : ST} {fe : SE}
theorem se_lc (o : XOk Γ G k W X) (hi : PI X tg iter (tIt X W (fi G))) (hb : blkC Γ.N { sc with names := Γ.names } scope own = true) (hg : ∀ X', XOk (Γ.blk scope) G k W0 X' → PG X' tg (gP X'.K p)) (ht : ∀ X', XOk (Γ.blk scope) G k W0 X' → PTs X' ifs (tT X' W0 (ft G)))
    (he : ∀ X', XOk (Γ.blk scope) G k W0 X' → PE X' elt (tE X' W0 (fe G))) (hs : smp iter = true) (hv : ∀ i ∈ p.slots, i ∈ own.map (·.2)) : PE X (.ListComp elt [⟨tg, iter, ifs, 0⟩] scope pos) (tE X W (eLc fi p ft fe (own.map (·.2)) G)) :=
  have b := o.blkOk hb
  (pe_lc (te := tE X W0 (fe G)) (tt := tT X W0 (ft G)) o.calm (by rw [o.N]; exact o.nd) hi b (fun s H C cl fp => hg _ (o.blk b.kind s H C cl fp)) (fun s H C cl fp => ht _ (o.blk b.kind s H C cl fp)) (fun s H C cl fp => he _ (o.blk b.kind s H C cl fp)) (folded_smp hs _)).imp
    fun σ H Q q => r_lc ⟨rfl, rfl⟩ ⟨rfl, rfl⟩ hv q
theorem sp_nil : PTs X [] (tT X W (EP.tYes G)) := ⟨fun pins s σ H Q I q => pts_nil.run pins s σ H Q I (by obtain ⟨ρ, h, β, rs, rh, p⟩ := q; exact Post.here p rh rfl)⟩
theorem sp_one {c : Expr} (h : PT X c (tT X W (ft G))) : PTs X [c] (tT X W (ft G)) := pts_one h
end
end
end EP
end
section
set_option maxHeartbeats 1000000
set_option maxRecDepth 100000
/-! Snd7: dict comprehensions, dict displays of one pair. -/
namespace EP
open PySem PySem.Spec PyProof.Rows L2

/-- d[k] = v by a comprehension, the key a tuple (after HandS.DictComp.d_dictSet) -/
theorem d_dictSetT {X : Cx} {pins : List (Addr × Obj)} {σ : L2.St} {H : Hp} {s : Shared} {E : Value → Shared → Prop} {D b : Addr} {kvs : List (List Key × V)} {k : List Key} {v : V} {r : Value} {Q : Unit → Shared → Prop} (hu : X.A.units < cLine) (I : Inv X pins σ H s) (hD : H D = some (.dT kvs)) (hz : kvs.length < sizeLine)
    (eb : H b = some (.tup (k.map kV))) (rv : RelV v r) (h : ∀ s', Inv X pins σ (upd H D (.dT (putK kvs k v))) s' → Q () s') : wpAny (model X.prog X.w) X.A (dictSet D (.ref b) r) Q E s := by
  obtain ⟨z, hd, xs, rel, dd⟩ := dt_of I.hok hD
  have hzv : xs.length ≤ sizeLine := by rw [← Paired.length rel]; exact z
  have hl : (putK kvs k v).length ≤ sizeLine := by have := length_putK kvs k v; omega
  refine wpAny_dictSet_heap (knd := tupleKind (mixKind X.prog X.w)) (hsz := hzv) hu (key_of I.hok eb) dd fun h' dd' hs => h _ ?_
  obtain ⟨q, es, ep, hq, h2, h3, h4, _, h5⟩ := dd'
  refine d_write I (by rw [hD]; exact True.intro) hs ⟨q, hq⟩ ⟨hl, hd, _, (rel.put k eb rv).keeps fun c ys ec => ?_, q, es, ep, hq, h2, h3, h4, h5⟩
  rw [upd_ne (ne_of ec hD (fun z => nomatch z))]
  exact ec
/-- {k: v for target in iter if ..}, keys tuples: D the new dict -/
def tDcT (wi : TI) (g : TG) (tt : TT) (tk tv : TE) (vs : List Nat) : TE := fun σ H Q => wi σ H fun J H1 => ∀ D, H1 D = none → ∃ W : Nat → Nat → Hp → Prop, (∃ m, W 0 m (upd H1 D (.dT []))) ∧ ∀ i m H, W i m H →
  (J.stop i H ∧ Q (.ref D) H) ∨ (J.go i H ∧ ∃ Nx : Hp → Prop, (∀ H', Nx H' → ∃ m', m' < m ∧ W (i + 1) m' H') ∧ ∀ x H', J.yld i H x H' → g x (wipe σ vs) H' fun σ2 H2 => wipe σ2 vs = wipe σ vs ∧ tt σ2 H2 fun b H3 =>
    if b = true then tk σ2 H3 fun y H4 => tv σ2 H4 fun z H5 => ∃ kvs k c, y = .ref c ∧ H5 c = some (.tup (k.map kV)) ∧ H5 D = some (.dT kvs) ∧ kvs.length < sizeLine ∧ Nx (upd H5 D (.dT (putK kvs k z))) else Nx H3)
section
variable {X : Cx}
theorem dcT_core {pins : List (Addr × Obj)} {s : Shared} {σ : L2.St} {H : Hp} {Q : VK} {kx vx tg iter : Expr} {ifs : List Expr} {scope : Scope} {own : List (Str × Nat)} {pos pos' : Pos} {wi : TI} {g : TG} {tt : TT} {tk tv : TE} {use : Option (Value → Sem Unit)} {Qf : Value → Shared → Prop}
    (hu : X.A.units < cLine) (hc : X.calm = true) (hN : X.N.Nodup) (I : Inv X pins σ H s) (hi : PI X tg iter wi) (ok : BlkOk X.N X.env.scope scope own)
    (hg : ∀ (s : Shared) (H : Hp) (C : Addr) (cl : List (Str × Addr)) (fp : List Addr), PG (X.blk s H scope (compEnvC scope cl C X.env) fp) tg g) (ht : ∀ (s : Shared) (H : Hp) (C : Addr) (cl : List (Str × Addr)) (fp : List Addr), PTs (X.blk s H scope (compEnvC scope cl C X.env) fp) ifs tt)
    (hk : ∀ (s : Shared) (H : Hp) (C : Addr) (cl : List (Str × Addr)) (fp : List Addr), PE (X.blk s H scope (compEnvC scope cl C X.env) fp) kx tk)
    (he : ∀ (s : Shared) (H : Hp) (C : Addr) (cl : List (Str × Addr)) (fp : List Addr), PE (X.blk s H scope (compEnvC scope cl C X.env) fp) vx tv) (hs : ∀ x, foldedSetIterable iter X.env x = pure x)
    (h : tDcT wi g tt tk tv (own.map (·.2)) σ H Q)
    (hRR : ∀ D C s' m H', Inv X pins σ H' s' → Q (.ref D) H' → s'.heap.Ns C m → FpOk X pins H' C → compPost (model X.prog X.w) X.A X.xe use Qf (.ref D) C (.ok .next) s') :
    wpAny (model X.prog X.w) X.A (comprehension (.DictComp kx vx [⟨tg, iter, ifs, 0⟩] scope pos) scope X.env pos' newDict false (eval iter X.env) use) Qf X.xe s := by
  have hfree : ∀ y ∈ scope.names, y.2 = .free → ∃ c, X.env.cells.lookup y.1 = some c := fun y hy e => by
    rcases ok.free y hy e with k | k
    · exact I.ok.has _ (.inl k)
    · exact I.ok.has _ (.inr k)
  refine wpAny_comprehension_free (use := use) rfl hs (closure_ok hfree) ok.kind (fun y hy e => by rw [ok.uniq y hy, e])
    (thn (hi.run pins s σ H _ I h) fun xv s1 hx => thn hx fun itv s2 h2 => ?_)
  obtain ⟨it, fp, tn, J, H2, e, I2, T, st2, f2, q⟩ := h2
  subst e
  refine wpAny_newObj_type (newEnv_comp ?_)
  generalize hD : s2.heap.objs.size = D
  have hDn : H2 D = none := I2.hok.fresh (Nat.le_of_eq hD)
  obtain ⟨W, ⟨m0, w0⟩, turn⟩ := q D hDn
  -- the new list
  generalize hs3 : ({ s2 with heap := s2.heap.push { cls := .type "dict", data := .dict #[] } } : Shared) = s3
  have I3 : Inv X pins σ (upd H2 D (.dT [])) s3 := by
    rw [← hs3]
    refine I2.laid (t' := s2.toks) (fun b o e => Heap.get?_push_of_some _ e) (Nat.le_of_eq hD) ?_
    rw [← hD]
    exact dt_empty s2.heap I2.big
  have h3 : s3.heap = s2.heap.push { cls := .type "dict", data := .dict #[] } := by rw [← hs3]
  have sz : ∀ b ∈ fp, b < s2.heap.objs.size := fun b hb => by
    obtain ⟨o, e, _⟩ := T.obj _ _ st2 b hb
    exact Heap.lt_size e
  have f3 : ∀ b ∈ fp, FpOk X pins (upd H2 D (.dT [])) b ∧ b < s3.heap.objs.size := fun b hb => by
    have hlt := sz b hb
    refine ⟨⟨?_, (f2 b hb).2⟩, by rw [h3, Heap.size_push]; exact Nat.lt_succ_of_lt hlt⟩
    rw [upd_ne (by rw [← hD]; exact Nat.ne_of_lt hlt)]
    exact (f2 b hb).1
  have st3 : tn 0 s3.heap := T.keep _ _ _ st2 fun b _ o e => by rw [h3]; exact Heap.get?_push_of_some _ e
  have I4 := block_start I3 ok hN f3
  have pg := hg s3 (upd H2 D (.dT [])) s3.heap.objs.size (cellsFrom (s3.heap.objs.size + 1) scope.names (cloFrom X.env.cells scope.names [])) fp
  have pt := ht s3 (upd H2 D (.dT [])) s3.heap.objs.size (cellsFrom (s3.heap.objs.size + 1) scope.names (cloFrom X.env.cells scope.names [])) fp
  have pk := hk s3 (upd H2 D (.dT [])) s3.heap.objs.size (cellsFrom (s3.heap.objs.size + 1) scope.names (cloFrom X.env.cells scope.names [])) fp
  have pe := he s3 (upd H2 D (.dT [])) s3.heap.objs.size (cellsFrom (s3.heap.objs.size + 1) scope.names (cloFrom X.env.cells scope.names [])) fp
  show codeAny _ _ (.compStart (.DictComp kx vx [⟨tg, iter, ifs, 0⟩] scope pos) 0 (.ref it) (.ref D) (compEnvC scope (cellsFrom (s3.heap.objs.size + 1) scope.names (cloFrom X.env.cells scope.names [])) s3.heap.objs.size X.env)) (compPost (model X.prog X.w) X.A X.xe use Qf (.ref D) s3.heap.objs.size) { s3 with heap := pushCells (s3.heap.push { cls := .type "dict", data := .dict #[] }) scope.names }
  have nfp : ∀ b ∈ fp, (upd H2 D (.dT [])) b = none := fun b hb => (f3 b hb).1.1
  generalize hce : compEnvC scope (cellsFrom (s3.heap.objs.size + 1) scope.names (cloFrom X.env.cells scope.names [])) s3.heap.objs.size X.env = ce at I4 pg pt pk pe ⊢
  have cL : ce.locals = s3.heap.objs.size := by subst hce; rfl
  generalize hH3 : upd H2 D (.dT []) = H3 at I3 I4 pg pt pk pe w0 nfp f3
  generalize hs4 : ({ s3 with heap := pushCells (s3.heap.push { cls := .type "dict", data := .dict #[] }) scope.names } : Shared) = s4 at I4 ⊢
  have st4 : tn 0 s4.heap := T.keep _ _ _ st3 fun b _ o e => by rw [← hs4]; exact pushCells_keeps _ _ _ _ (Heap.get?_push_of_some _ e)
  have stat : ∀ {σ' : L2.St} {H' : Hp} {s' : Shared}, Inv (X.blk s3 H3 scope ce fp) [] σ' H' s' → (∀ b ∈ fp, H' b = none) → ∀ b ∈ fp, FpOk (X.blk s3 H3 scope ce fp) [] H' b := fun {σ' H' s'} I' hn b hb =>
    ⟨hn b hb, (I'.ok.exf b hb).1, I'.ok.exfs b hb, .inl hb, fun x c e => (I'.ok.exf b hb).2 x c e, fun p hp => absurd (show p ∈ ([] : List (Addr × Obj)) ++ [] from hp) (by simp)⟩
  have loop : codeAny (model X.prog X.w) X.A (.compLoop (.DictComp kx vx [⟨tg, iter, ifs, 0⟩] scope pos) 0 (.ref it) (.ref D) ce) (compPost (model X.prog X.w) X.A X.xe use Qf (.ref D) s3.heap.objs.size) s4 := by
    refine compLoop_anyD (fun n s' => ∃ i H', Inv (X.blk s3 H3 scope ce fp) [] (wipe σ (own.map (·.2))) H' s' ∧ tn i s'.heap ∧ (∀ b ∈ fp, H' b = none) ∧ W i n H') ?_ m0 ⟨0, H3, I4, st4, nfp, w0⟩
    rintro n s5 ⟨i, H5, I5, st5, n5, w5⟩
    rcases turn i n H5 w5 with ⟨stop, qq⟩ | ⟨go, Nx, hNx, step⟩
    · have td := T.done (X.blk s3 H3 scope ce fp) rfl rfl rfl hc i [] s5 _ H5 (fun _ _ => False) I5 (stat I5 n5) st5 stop
      refine thnF td fun r s6 ⟨hr, I6⟩ => ?_
      subst hr
      -- back in the def's context
      have I7 : Inv X pins σ H5 s6 := I3.call' (ch := fp) I6.os I6.base I6.hok I6.bare fun b hb => ⟨(f3 b hb).1.2.2.2.1, (f3 b hb).1.2.1, (f3 b hb).1.2.2.2.2.1, (f3 b hb).1.2.2.2.2.2⟩
      have nC : H5 s3.heap.objs.size = none := by
        have z : H5 ce.locals = none := I6.free
        rw [cL] at z
        exact z
      obtain ⟨m, hn, _⟩ := I6.loc
      have hn : s6.heap.Ns ce.locals m := hn
      rw [cL] at hn
      exact hRR D s3.heap.objs.size s6 m H5 I7 qq hn (I3.fpOk (Nat.le_refl _) nC)
    · have ti := T.item (X.blk s3 H3 scope ce fp) rfl rfl rfl hc i [] s5 _ H5 (fun _ _ => False) I5 (stat I5 n5) st5 go
      refine thnF ti fun r s6 ⟨u, hr, h6⟩ => ?_
      subst hr
      refine thnF h6 fun _ s7 ⟨x, H7, I7, r7, y7, st7, n7⟩ => ?_
      have I7' := I7.pinned (stat I7 n7) (T.obj _ _ st7)
      refine thnF (pg.run _ s7 _ H7 x u _ I7' r7 (step x H7 y7)) fun _ s8 ⟨σ8, H8, I8, hw8, q8⟩ => ?_
      refine thnF (pt.run _ s8 σ8 H8 _ I8 q8) fun b s9 ⟨H9, I9, q9⟩ => ?_
      -- the turn's end
      have fin : ∀ {s' : Shared} {H' : Hp}, Inv (X.blk s3 H3 scope ce fp) ([] ++ pinsAt fp s7.heap) σ8 H' s' → Nx H' → ∃ m, m < n ∧ ∃ i H', Inv (X.blk s3 H3 scope ce fp) [] (wipe σ (own.map (·.2))) H' s' ∧ tn i s'.heap ∧ (∀ b ∈ fp, H' b = none) ∧ W i m H' := fun {s' H'} I' nx => by
        obtain ⟨m', hm, w'⟩ := hNx H' nx
        have pin' : ∀ b ∈ fp, ∀ o, s7.heap.get? b = some o → s'.heap.get? b = some o ∧ H' b = none := fun b hb o e =>
          let z := I'.pin (b, o) (List.mem_append_right _ (List.mem_append_right _ (mem_pinsAt hb e)))
          ⟨z.1, z.2.1⟩
        have hl : (wipe σ (own.map (·.2))).length = σ8.length := by rw [← hw8, wipe_length]
        refine ⟨m', hm, i + 1, H', (I'.unpinned (pins := [])).weak hl (fun j v e => ?_), T.keep _ _ _ st7 fun b hb o e => (pin' b hb o e).1, fun b hb => ?_, w'⟩
        · rw [← hw8] at e
          exact (wipe_some e).1
        · obtain ⟨o, e, _⟩ := T.obj _ _ st7 b hb
          exact (pin' b hb o e).2
      cases b with
      | false =>
        simp only [Bool.false_eq_true, if_false] at q9 ⊢
        exact fin I9 q9
      | true =>
        simp only [if_true] at q9 ⊢
        refine thnF (pk.run _ s9 σ8 H9 _ I9 q9) fun z s10 ⟨yk, H10, I10, r10, q10⟩ => ?_
        refine thnF (pe.run _ s10 σ8 H10 _ I10 q10) fun z2 s11 ⟨yv, H11, I11, r11, kvs, k, cc, ek, hcc, hD11, hz11, nx⟩ => ?_
        subst ek
        obtain rfl : z = Value.ref cc := r10
        exact d_dictSetT (X := X.blk s3 H3 scope ce fp) hu I11 hD11 hz11 hcc r11 fun s12 I12 => fin I12 nx
  exact codeAny_compStart_dict loop (T.self X.A 0 _ _ _ st4 loop)
/-- as a value -/
theorem pe_dcT {kx vx tg iter : Expr} {ifs : List Expr} {scope : Scope} {own : List (Str × Nat)} {pos : Pos} {wi : TI} {g : TG} {tt : TT} {tk tv : TE} (hu : X.A.units < cLine) (hc : X.calm = true) (hN : X.N.Nodup) (hi : PI X tg iter wi) (ok : BlkOk X.N X.env.scope scope own)
    (hg : ∀ (s : Shared) (H : Hp) (C : Addr) (cl : List (Str × Addr)) (fp : List Addr), PG (X.blk s H scope (compEnvC scope cl C X.env) fp) tg g) (ht : ∀ (s : Shared) (H : Hp) (C : Addr) (cl : List (Str × Addr)) (fp : List Addr), PTs (X.blk s H scope (compEnvC scope cl C X.env) fp) ifs tt)
    (hk : ∀ (s : Shared) (H : Hp) (C : Addr) (cl : List (Str × Addr)) (fp : List Addr), PE (X.blk s H scope (compEnvC scope cl C X.env) fp) kx tk)
    (he : ∀ (s : Shared) (H : Hp) (C : Addr) (cl : List (Str × Addr)) (fp : List Addr), PE (X.blk s H scope (compEnvC scope cl C X.env) fp) vx tv) (hs : ∀ x, foldedSetIterable iter X.env x = pure x := by intro _; rfl) :
    PE X (.DictComp kx vx [⟨tg, iter, ifs, 0⟩] scope pos) (tDcT wi g tt tk tv (own.map (·.2))) := by
  refine ⟨fun pins s σ H Q I h => ?_⟩
  rw [arm_eval_DictComp]
  refine dcT_core hu hc hN I hi ok hg ht hk he hs h fun D C s' m H' I' q hn f => ⟨m, hn, fun h'' sb => ?_⟩
  obtain ⟨f0, f1, f2, f3, f4, f5⟩ := f
  exact ⟨.ref D, H', I'.turned (t' := s'.toks) (fun b o hb e => (sb.2 b hb).trans e) f0 f1 f3 f4 f5, rfl, q⟩
end

section
variable {Γ : Ctx} {G : Orc} {k : Nat} {W : WX} {X : Cx} {pos : Pos}
theorem setK_length {κ : Type} [DecidableEq κ] (kvs : List (κ × Dt)) (kk : κ) (y : Dt) : (setK kvs kk y).length ≤ kvs.length + 1 := by
  unfold setK
  split
  · simp
  · simp
theorem r_dc {fi : SI} {p : TP} {ft : ST} {fk fe : SE} {vs : List Nat} {Xt Xk Xe : Cx} (kt : Xt.K = X.K ∧ Xt.mg = X.mg) (kk : Xk.K = X.K ∧ Xk.mg = X.mg) (ke : Xe.K = X.K ∧ Xe.mg = X.mg) (hv : ∀ i ∈ p.slots, i ∈ vs) {σ : L2.St} {H : Hp} {Q : VK} (q : tE X W (eDc false fi p ft fk fe vs G) σ H Q) :
    tDc (tIt X W (fi G)) (gP X.K p) (tT Xt W0 (ft G)) (tE Xk W0 (fk G)) (tE Xe W0 (fe G)) vs σ H Q := by
  obtain ⟨ρ, h, β, rs, rh, pp⟩ := q
  refine ⟨ρ, h, β, rs, rh, pp.bnd fun I h1 β1 H1 J x1 rh1 rel p1 => fun D hD => ?_⟩
  have xa : Ext β1 (β1 ++ [D]) H1 (upd H1 D (.dK [])) := Ext.alloc hD
  have rha : RepH X.K X.mg (β1 ++ [D]) (h1 ++ [.dK []]) (upd H1 D (.dK [])) := rh1.alloc hD ⟨Nat.zero_le _, [], upd_same, .nil⟩
  have hDa : (β1 ++ [D])[h1.length]? = some D := new_at rh1
  generalize hdn : h1.length = dn at p1 hDa
  refine ⟨fun i m Hc => i + m = I.tot ∧ ∃ hc βc, Ext (β1 ++ [D]) βc (upd H1 D (.dK [])) Hc ∧ RepH X.K X.mg βc hc Hc ∧ Post (rc X) W σ βc Hc RepV Q (dcLoop false I p ft fk fe G (wipeE ρ vs) dn m hc), ⟨I.tot, Nat.zero_add _, _, _, Ext.refl _ _, rha, Post.ext xa p1⟩, ?_⟩
  rintro i m Hc ⟨him, hc, βc, xc, rhc, pc⟩
  have x0 := xa.trans xc
  cases m with
  | zero =>
    refine .inl ?_
    unfold dcLoop at pc
    split at pc
    · rename_i hf
      have ei : i = I.tot := him
      subst ei
      exact ⟨rel.stop βc Hc hc x0 rhc hf, pc.here rhc (.loc (xc.pre _ _ hDa))⟩
    · exact pc.elim
  | succ mm =>
    refine .inr ?_
    unfold dcLoop at pc
    have ei : I.tot - (mm + 1) = i := by omega
    rw [ei] at pc
    cases hg : I.get i hc with
    | none => rw [hg] at pc; exact pc.elim
    | some d =>
      rw [hg] at pc
      simp only at pc
      refine ⟨rel.go i βc Hc hc d x0 rhc hg, fun H' => i + 1 + mm = I.tot ∧ ∃ hc βc, Ext (β1 ++ [D]) βc (upd H1 D (.dK [])) H' ∧ RepH X.K X.mg βc hc H' ∧ Post (rc X) W σ βc H' RepV Q (dcLoop false I p ft fk fe G (wipeE ρ vs) dn mm hc), fun H' w => ⟨mm, Nat.lt_succ_self _, w⟩, fun x H' y => ?_⟩
      obtain ⟨x2, rh2, rv⟩ := rel.yld i βc Hc hc d x H' x0 rhc hg y
      cases ha : assignP p d (wipeE ρ vs) with
      | none => rw [ha] at pc; exact pc.elim
      | some ρ' =>
        rw [ha] at pc
        simp only at pc
        have rs' : RepS βc H' (wipeE ρ vs) (wipe σ vs) := RepS.wipe ((rs.ext (x1.trans x0)).ext x2) vs
        obtain ⟨σ', rs2, run, hw⟩ := gP_run (K := X.K) p ha rv rs'
        refine run _ ⟨by rw [hw vs hv, wipe_idem], ρ', hc, βc, rs2, by rw [kt.1, kt.2]; exact rh2, ?_⟩
        have pc' := Post.ext x2 pc
        show Post (rc Xt) W0 σ' βc H' RelE _ (ft G ρ' hc)
        have e1 : rc Xt = rc X := by unfold rc; rw [kt.1, kt.2]
        rw [e1]
        refine pc'.noEx fun b h3 β3 H3 b' x3 rh3 eb p3 => ?_
        have eb' : b = b' := eb
        subst eb'
        have step : ∀ {β4 : List Addr} {H4 : Hp} {h4 : MH}, Ext βc β4 H' H4 → RepH X.K X.mg β4 h4 H4 → Post (rc X) W σ β4 H4 RepV Q (dcLoop false I p ft fk fe G (wipeE ρ vs) dn mm h4) → i + 1 + mm = I.tot ∧ ∃ hc βc, Ext (β1 ++ [D]) βc (upd H1 D (.dK [])) H4 ∧ RepH X.K X.mg βc hc H4 ∧ Post (rc X) W σ βc H4 RepV Q (dcLoop false I p ft fk fe G (wipeE ρ vs) dn mm hc) :=
          fun {β4 H4 h4} x4 rh4 p4 => ⟨by omega, h4, β4, (xc.trans x2).trans x4, rh4, p4⟩
        cases b with
        | false =>
          rw [if_neg (by simp)]
          rw [if_neg (by simp)] at p3
          exact step x3 rh3 p3
        | true =>
          rw [if_pos rfl]
          rw [if_pos rfl] at p3
          refine ⟨ρ', h3, β3, rs2.ext x3, by rw [kk.1, kk.2]; exact rh3, ?_⟩
          have e2 : rc Xk = rc X := by unfold rc; rw [kk.1, kk.2]
          rw [e2]
          refine p3.noEx fun y0 h4 β4 H4 v0 x4 rh4 rv4 p4 => ?_
          refine ⟨ρ', h4, β4, (rs2.ext x3).ext x4, by rw [ke.1, ke.2]; exact rh4, ?_⟩
          have e3 : rc Xe = rc X := by unfold rc; rw [ke.1, ke.2]
          rw [e3]
          refine p4.noEx fun y h5 β5 H5 v x5 rh5 rv5 p5 => ?_
          have hD5 : β5[dn]? = some D := x5.pre _ _ (x4.pre _ _ (x3.pre _ _ (x2.pre _ _ (xc.pre _ _ hDa))))
          split at p5
          · rename_i kvs em
            split at p5
            · rename_i kk ek
              split at p5
              · rename_i hz
                obtain ⟨hl, ws, e5, r5⟩ := rh5.dK em hD5
                refine ⟨ws, kk, key_at (rv4.ext x5) ek, e5, by rw [← r5.length]; exact hz.1, ?_⟩
                have new : Ext β5 β5 H5 (upd H5 D (.dK (putK ws kk v))) → RepO X.K X.mg β5 (upd H5 D (.dK (putK ws kk v))) D (.dK (setK kvs kk y)) := fun x => ⟨by have := setK_length kvs kk y; omega, _, upd_same, (r5.put kk rv5).ext x⟩
                have x6 : Ext β5 β5 H5 (upd H5 D (.dK (putK ws kk v))) := Ext.write e5 trivial (List.mem_of_getElem? hD5)
                obtain ⟨rh6, _⟩ := rh5.write em hD5 rfl (new x6)
                exact step (((x3.trans x4).trans x5).trans x6) rh6 (Post.ext x6 p5)
              · exact p5.elim
            · exact p5.elim
          · rename_i kvs em
            split at p5
            · rename_i kk ek
              split at p5
              · rename_i hz
                exact absurd hz.2 (by decide)
              · exact p5.elim
            · exact p5.elim
          · exact p5.elim
theorem r_dcT {fi : SI} {p : TP} {ft : ST} {fk fe : SE} {vs : List Nat} {Xt Xk Xe : Cx} (kt : Xt.K = X.K ∧ Xt.mg = X.mg) (kk : Xk.K = X.K ∧ Xk.mg = X.mg) (ke : Xe.K = X.K ∧ Xe.mg = X.mg) (hv : ∀ i ∈ p.slots, i ∈ vs) {σ : L2.St} {H : Hp} {Q : VK} (q : tE X W (eDc true fi p ft fk fe vs G) σ H Q) :
    tDcT (tIt X W (fi G)) (gP X.K p) (tT Xt W0 (ft G)) (tE Xk W0 (fk G)) (tE Xe W0 (fe G)) vs σ H Q := by
  obtain ⟨ρ, h, β, rs, rh, pp⟩ := q
  refine ⟨ρ, h, β, rs, rh, pp.bnd fun I h1 β1 H1 J x1 rh1 rel p1 => fun D hD => ?_⟩
  have xa : Ext β1 (β1 ++ [D]) H1 (upd H1 D (.dT [])) := Ext.alloc hD
  have rha : RepH X.K X.mg (β1 ++ [D]) (h1 ++ [.dT []]) (upd H1 D (.dT [])) := rh1.alloc hD ⟨Nat.zero_le _, [], upd_same, .nil⟩
  have hDa : (β1 ++ [D])[h1.length]? = some D := new_at rh1
  generalize hdn : h1.length = dn at p1 hDa
  refine ⟨fun i m Hc => i + m = I.tot ∧ ∃ hc βc, Ext (β1 ++ [D]) βc (upd H1 D (.dT [])) Hc ∧ RepH X.K X.mg βc hc Hc ∧ Post (rc X) W σ βc Hc RepV Q (dcLoop true I p ft fk fe G (wipeE ρ vs) dn m hc), ⟨I.tot, Nat.zero_add _, _, _, Ext.refl _ _, rha, Post.ext xa p1⟩, ?_⟩
  rintro i m Hc ⟨him, hc, βc, xc, rhc, pc⟩
  have x0 := xa.trans xc
  cases m with
  | zero =>
    refine .inl ?_
    unfold dcLoop at pc
    split at pc
    · rename_i hf
      have ei : i = I.tot := him
      subst ei
      exact ⟨rel.stop βc Hc hc x0 rhc hf, pc.here rhc (.loc (xc.pre _ _ hDa))⟩
    · exact pc.elim
  | succ mm =>
    refine .inr ?_
    unfold dcLoop at pc
    have ei : I.tot - (mm + 1) = i := by omega
    rw [ei] at pc
    cases hg : I.get i hc with
    | none => rw [hg] at pc; exact pc.elim
    | some d =>
      rw [hg] at pc
      simp only at pc
      refine ⟨rel.go i βc Hc hc d x0 rhc hg, fun H' => i + 1 + mm = I.tot ∧ ∃ hc βc, Ext (β1 ++ [D]) βc (upd H1 D (.dT [])) H' ∧ RepH X.K X.mg βc hc H' ∧ Post (rc X) W σ βc H' RepV Q (dcLoop true I p ft fk fe G (wipeE ρ vs) dn mm hc), fun H' w => ⟨mm, Nat.lt_succ_self _, w⟩, fun x H' y => ?_⟩
      obtain ⟨x2, rh2, rv⟩ := rel.yld i βc Hc hc d x H' x0 rhc hg y
      cases ha : assignP p d (wipeE ρ vs) with
      | none => rw [ha] at pc; exact pc.elim
      | some ρ' =>
        rw [ha] at pc
        simp only at pc
        have rs' : RepS βc H' (wipeE ρ vs) (wipe σ vs) := RepS.wipe ((rs.ext (x1.trans x0)).ext x2) vs
        obtain ⟨σ', rs2, run, hw⟩ := gP_run (K := X.K) p ha rv rs'
        refine run _ ⟨by rw [hw vs hv, wipe_idem], ρ', hc, βc, rs2, by rw [kt.1, kt.2]; exact rh2, ?_⟩
        have pc' := Post.ext x2 pc
        show Post (rc Xt) W0 σ' βc H' RelE _ (ft G ρ' hc)
        have e1 : rc Xt = rc X := by unfold rc; rw [kt.1, kt.2]
        rw [e1]
        refine pc'.noEx fun b h3 β3 H3 b' x3 rh3 eb p3 => ?_
        have eb' : b = b' := eb
        subst eb'
        have step : ∀ {β4 : List Addr} {H4 : Hp} {h4 : MH}, Ext βc β4 H' H4 → RepH X.K X.mg β4 h4 H4 → Post (rc X) W σ β4 H4 RepV Q (dcLoop true I p ft fk fe G (wipeE ρ vs) dn mm h4) → i + 1 + mm = I.tot ∧ ∃ hc βc, Ext (β1 ++ [D]) βc (upd H1 D (.dT [])) H4 ∧ RepH X.K X.mg βc hc H4 ∧ Post (rc X) W σ βc H4 RepV Q (dcLoop true I p ft fk fe G (wipeE ρ vs) dn mm hc) :=
          fun {β4 H4 h4} x4 rh4 p4 => ⟨by omega, h4, β4, (xc.trans x2).trans x4, rh4, p4⟩
        cases b with
        | false =>
          rw [if_neg (by simp)]
          rw [if_neg (by simp)] at p3
          exact step x3 rh3 p3
        | true =>
          rw [if_pos rfl]
          rw [if_pos rfl] at p3
          refine ⟨ρ', h3, β3, rs2.ext x3, by rw [kk.1, kk.2]; exact rh3, ?_⟩
          have e2 : rc Xk = rc X := by unfold rc; rw [kk.1, kk.2]
          rw [e2]
          refine p3.noEx fun y0 h4 β4 H4 v0 x4 rh4 rv4 p4 => ?_
          refine ⟨ρ', h4, β4, (rs2.ext x3).ext x4, by rw [ke.1, ke.2]; exact rh4, ?_⟩
          have e3 : rc Xe = rc X := by unfold rc; rw [ke.1, ke.2]
          rw [e3]
          refine p4.noEx fun y h5 β5 H5 v x5 rh5 rv5 p5 => ?_
          have hD5 : β5[dn]? = some D := x5.pre _ _ (x4.pre _ _ (x3.pre _ _ (x2.pre _ _ (xc.pre _ _ hDa))))
          split at p5
          · rename_i kvs em
            split at p5
            · rename_i kk ek
              split at p5
              · rename_i hz
                exact absurd hz.2 (by decide)
              · exact p5.elim
            · exact p5.elim
          · rename_i kvs em
            split at p5
            · rename_i kk ek
              split at p5
              · rename_i hz
                obtain ⟨hl, ws, e5, r5⟩ := rh5.dT em hD5
                obtain ⟨cc, e6, e7⟩ := keys_at (rv4.ext x5) ek
                refine ⟨ws, kk, cc, e6, e7, e5, by rw [← r5.length]; exact hz.1, ?_⟩
                have new : Ext β5 β5 H5 (upd H5 D (.dT (putK ws kk v))) → RepO X.K X.mg β5 (upd H5 D (.dT (putK ws kk v))) D (.dT (setK kvs kk y)) := fun x => ⟨by have := setK_length kvs kk y; omega, _, upd_same, (r5.put kk rv5).ext x⟩
                have x6 : Ext β5 β5 H5 (upd H5 D (.dT (putK ws kk v))) := Ext.write e5 trivial (List.mem_of_getElem? hD5)
                obtain ⟨rh6, _⟩ := rh5.write em hD5 rfl (new x6)
                exact step (((x3.trans x4).trans x5).trans x6) rh6 (Post.ext x6 p5)
              · exact p5.elim
            · exact p5.elim
          · exact p5.elim
section
variable {kx vx tg iter : Expr} {ifs : List Expr} {scope sc : Scope} {own : List (Str × Nat)} {fi : SI} {p : TP} {ft : ST} {fk fe : SE}
theorem se_dc (T : Bool) (o : XOk Γ G k W X) (hi : PI X tg iter (tIt X W (fi G))) (hb : blkC Γ.N { sc with names := Γ.names } scope own = true) (hg : ∀ X', XOk (Γ.blk scope) G k W0 X' → PG X' tg (gP X'.K p)) (ht : ∀ X', XOk (Γ.blk scope) G k W0 X' → PTs X' ifs (tT X' W0 (ft G)))
    (hk : ∀ X', XOk (Γ.blk scope) G k W0 X' → PE X' kx (tE X' W0 (fk G))) (he : ∀ X', XOk (Γ.blk scope) G k W0 X' → PE X' vx (tE X' W0 (fe G))) (hs : smp iter = true) (hv : ∀ i ∈ p.slots, i ∈ own.map (·.2)) : PE X (.DictComp kx vx [⟨tg, iter, ifs, 0⟩] scope pos) (tE X W (eDc T fi p ft fk fe (own.map (·.2)) G)) := by
  have b := o.blkOk hb
  cases T with
  | false =>
    exact (pe_dc (tk := tE X W0 (fk G)) (tv := tE X W0 (fe G)) (tt := tT X W0 (ft G)) o.calm (by rw [o.N]; exact o.nd) hi b (fun s H C cl fp => hg _ (o.blk b.kind s H C cl fp)) (fun s H C cl fp => ht _ (o.blk b.kind s H C cl fp)) (fun s H C cl fp => hk _ (o.blk b.kind s H C cl fp)) (fun s H C cl fp => he _ (o.blk b.kind s H C cl fp)) (folded_smp hs _)).imp
      fun σ H Q q => r_dc ⟨rfl, rfl⟩ ⟨rfl, rfl⟩ ⟨rfl, rfl⟩ hv q
  | true =>
    exact (pe_dcT (tk := tE X W0 (fk G)) (tv := tE X W0 (fe G)) (tt := tT X W0 (ft G)) (by have := o.u1; omega) o.calm (by rw [o.N]; exact o.nd) hi b (fun s H C cl fp => hg _ (o.blk b.kind s H C cl fp)) (fun s H C cl fp => ht _ (o.blk b.kind s H C cl fp)) (fun s H C cl fp => hk _ (o.blk b.kind s H C cl fp)) (fun s H C cl fp => he _ (o.blk b.kind s H C cl fp)) (folded_smp hs _)).imp
      fun σ H Q q => r_dcT ⟨rfl, rfl⟩ ⟨rfl, rfl⟩ ⟨rfl, rfl⟩ hv q
end
end
end EP
end
section
set_option maxHeartbeats 1000000
/-! Snd8: statements. -/
namespace EP
open PySem PySem.Spec PyProof.Rows L2

def PostS (R : Rc) (W : WX) (D : Ends) (β : List Addr) (H : Hp) : RS → Prop
  | .nx ρ h => ∀ β' H' σ', Ext β β' H H' → RepH R.K R.mg β' h H' → RepS β' H' ρ σ' → D.nx σ' H'
  | .rt d h => ∀ β' H' v, Ext β β' H H' → RepH R.K R.mg β' h H' → RepV β' H' d v → D.rt v H'
  | .bk ρ h => ∀ β' H' σ', Ext β β' H H' → RepH R.K R.mg β' h H' → RepS β' H' ρ σ' → D.bk σ' H'
  | .ct ρ h => ∀ β' H' σ', Ext β β' H H' → RepH R.K R.mg β' h H' → RepS β' H' ρ σ' → D.ct σ' H'
  | .ex C fs ρ h => ∀ β' H' σ' Cv od, Ext β β' H H' → RepH R.K R.mg β' h H' → RepS β' H' ρ σ' → R.mg C = some Cv → RepX β' H' fs od → W Cv od σ' H'
  | .bad => False
def tS (X : Cx) (W : WX) (g : Env → MH → RS) : TS := fun D σ H => ∃ ρ h β, RepS β H ρ σ ∧ RepH X.K X.mg β h H ∧ PostS (rc X) W D β H (g ρ h)
section
variable {R : Rc} {W : WX} {D : Ends} {β β' : List Addr} {H H' : Hp} {σ : L2.St} {ρ : Env}
theorem PostS.ext {r : RS} (x : Ext β β' H H') (p : PostS R W D β H r) : PostS R W D β' H' r := by
  cases r with
  | nx ρ h => exact fun b h s y => p b h s (x.trans y)
  | rt d h => exact fun b h s y => p b h s (x.trans y)
  | bk ρ h => exact fun b h s y => p b h s (x.trans y)
  | ct ρ h => exact fun b h s y => p b h s (x.trans y)
  | ex C fs ρ h => exact fun b h s c d y => p b h s c d (x.trans y)
  | bad => exact p
theorem PostS.bnd {α γ : Type} {Rel : List Addr → Hp → α → γ → Prop} {P : γ → Hp → Prop} {m : RE α} {f : α → MH → RS} (p : PostS R W D β H (EP.bndS ρ m f)) (rs : RepS β H ρ σ)
    (k : ∀ a h1 β' H' c, Ext β β' H H' → RepH R.K R.mg β' h1 H' → RepS β' H' ρ σ → Rel β' H' a c → PostS R W D β' H' (f a h1) → P c H') : Post R W σ β H Rel P m := by
  cases m with
  | ok a h => exact fun β2 H2 c x rh rc => k a h β2 H2 c x rh (rs.ext x) rc (PostS.ext x p)
  | ex C fs h => exact fun β2 H2 Cv od x rh e1 e2 => p β2 H2 σ Cv od x rh (rs.ext x) e1 e2
  | bad => exact p
theorem PostS.nx {h : MH} (p : PostS R W D β H (.nx ρ h)) (rs : RepS β H ρ σ) (rh : RepH R.K R.mg β h H) : D.nx σ H := p β H σ (Ext.refl _ _) rh rs
theorem PostS.rt {d : Dt} {v : V} {h : MH} (p : PostS R W D β H (.rt d h)) (rv : RepV β H d v) (rh : RepH R.K R.mg β h H) : D.rt v H := p β H v (Ext.refl _ _) rh rv
theorem PostS.bk {h : MH} (p : PostS R W D β H (.bk ρ h)) (rs : RepS β H ρ σ) (rh : RepH R.K R.mg β h H) : D.bk σ H := p β H σ (Ext.refl _ _) rh rs
theorem PostS.ct {h : MH} (p : PostS R W D β H (.ct ρ h)) (rs : RepS β H ρ σ) (rh : RepH R.K R.mg β h H) : D.ct σ H := p β H σ (Ext.refl _ _) rh rs
/-- what comes next -/
theorem PostS.seq {D' : Ends} {r : RS} {f : Env → MH → RS} (p : PostS R W D β H (match r with | .nx ρ1 h1 => f ρ1 h1 | r => r)) (hr : D'.rt = D.rt) (hb : D'.bk = D.bk) (hc : D'.ct = D.ct)
    (hn : ∀ ρ1 h1 β' H' σ', Ext β β' H H' → RepH R.K R.mg β' h1 H' → RepS β' H' ρ1 σ' → PostS R W D β' H' (f ρ1 h1) → D'.nx σ' H') : PostS R W D' β H r := by
  cases r with
  | nx ρ h => exact fun b hh s y rh rs => hn ρ h b hh s y rh rs (PostS.ext y p)
  | rt d h => unfold PostS; rw [hr]; exact p
  | bk ρ h => unfold PostS; rw [hb]; exact p
  | ct ρ h => unfold PostS; rw [hc]; exact p
  | ex C fs ρ h => exact p
  | bad => exact p
/-- a loop's body -/
theorem PostS.body {D' : Ends} {r : RS} {f : Env → MH → RS} (p : PostS R W D β H (match r with | .nx ρ2 h2 => f ρ2 h2 | .ct ρ2 h2 => f ρ2 h2 | .bk ρ2 h2 => .nx ρ2 h2 | r => r)) (hr : D'.rt = D.rt) (hb : D'.bk = D.nx)
    (hn : ∀ ρ1 h1 β' H' σ', Ext β β' H H' → RepH R.K R.mg β' h1 H' → RepS β' H' ρ1 σ' → PostS R W D β' H' (f ρ1 h1) → D'.nx σ' H') (hc : D'.ct = D'.nx) : PostS R W D' β H r := by
  cases r with
  | nx ρ h => exact fun b hh s y rh rs => hn ρ h b hh s y rh rs (PostS.ext y p)
  | rt d h => unfold PostS; rw [hr]; exact p
  | bk ρ h => unfold PostS; rw [hb]; exact p
  | ct ρ h => unfold PostS; rw [hc]; exact fun b hh s y rh rs => hn ρ h b hh s y rh rs (PostS.ext y p)
  | ex C fs ρ h => exact p
  | bad => exact p
end
section
variable {Γ : Ctx} {G : Orc} {k : Nat} {W : WX} {X : Cx} {pos : Pos} {e a b c : Expr} {fe fa fb fc : SE} {st : Stmt} {sts : List Stmt} {s s' : SS}
theorem ss_nil : PSs X [] (tS X W (sSkip G)) := pss_nil.imp fun D σ H ⟨ρ, h, β, rs, rh, p⟩ => p.nx rs rh
theorem ss_cons (h1 : PS X st (tS X W (s G))) (h2 : PSs X sts (tS X W (s' G))) : PSs X (st :: sts) (tS X W (sSeq s s' G)) :=
  (pss_cons h1 h2).imp fun D σ H ⟨ρ, h, β, rs, rh, p⟩ => ⟨ρ, h, β, rs, rh, PostS.seq (D' := { D with nx := _ }) p rfl rfl rfl fun ρ1 h1 β1 H1 σ1 x1 rh1 rs1 p1 => ⟨ρ1, h1, β1, rs1, rh1, p1⟩⟩
theorem ss_one (h1 : PS X st (tS X W (s G))) : PSs X [st] (tS X W (s G)) := (pss_one h1).imp fun D σ H q => q
theorem ss_pass : PS X (.Pass pos) (tS X W (sSkip G)) := ps_pass.imp fun D σ H ⟨ρ, h, β, rs, rh, p⟩ => p.nx rs rh
theorem ss_break : PS X (.Break pos) (tS X W (sBreak G)) := ps_break.imp fun D σ H ⟨ρ, h, β, rs, rh, p⟩ => p.bk rs rh
theorem ss_cont : PS X (.Continue pos) (tS X W (sCont G)) := ps_continue.imp fun D σ H ⟨ρ, h, β, rs, rh, p⟩ => p.ct rs rh
theorem ss_expr (he : PE X e (tE X W (fe G))) (hn : noComp e = true) : PS X (.Expr e pos) (tS X W (sExpr fe G)) :=
  (ps_expr he (swaps_noComp hn _ _ _)).imp fun D σ H ⟨ρ, h, β, rs, rh, p⟩ => ⟨ρ, h, β, rs, rh, p.bnd rs fun x h1 β1 H1 v x1 rh1 rs1 rv1 p1 => p1.nx rs1 rh1⟩
theorem ss_ret (he : PE X e (tE X W (fe G))) : PS X (.Return (some e) pos) (tS X W (sRet fe G)) :=
  (ps_ret he).imp fun D σ H ⟨ρ, h, β, rs, rh, p⟩ => ⟨ρ, h, β, rs, rh, p.bnd rs fun x h1 β1 H1 v x1 rh1 rs1 rv1 p1 => p1.rt rv1 rh1⟩
theorem ss_retN : PS X (.Return none pos) (tS X W (sRetN G)) := ps_retN.imp fun D σ H ⟨ρ, h, β, rs, rh, p⟩ => p.rt .non rh
theorem ss_if {t : ST} {u v : List Stmt} (hc : PT X c (tT X W (t G))) (ha : PSs X u (tS X W (s G))) (hb : PSs X v (tS X W (s' G))) : PS X (.If c u v pos) (tS X W (sIf t s s' G)) :=
  (ps_if hc ha hb).imp fun D σ H ⟨ρ, h, β, rs, rh, p⟩ => ⟨ρ, h, β, rs, rh, p.bnd rs fun x h1 β1 H1 x' x1 rh1 rs1 e p1 => by
    have e' : x = x' := e
    subst e'
    cases x with
    | true => rw [if_pos rfl]; exact ⟨ρ, h1, β1, rs1, rh1, p1⟩
    | false => rw [if_neg (by simp)]; exact ⟨ρ, h1, β1, rs1, rh1, p1⟩⟩
/-! ### assignments -/
/-- a value, then a target -/
theorem r_set {te : TE} {p : TP} {D : Ends} {σ : L2.St} {H : Hp} (hh : ∀ σ H Q, tE X W (fe G) σ H Q → te σ H Q) (q : tS X W (sSet p fe G) D σ H) : tAsg te (gP X.K p) D σ H := by
  obtain ⟨ρ, h, β, rs, rh, pp⟩ := q
  refine hh _ _ _ ⟨ρ, h, β, rs, rh, pp.bnd rs fun x h1 β1 H1 v x1 rh1 rs1 rv1 p1 => ?_⟩
  cases ha : assignP p x ρ with
  | none => rw [ha] at p1; exact p1.elim
  | some ρ' =>
    rw [ha] at p1
    obtain ⟨σ', rs2, run, _⟩ := gP_run (K := X.K) p ha rv1 rs1
    exact run _ (p1.nx rs2 rh1)
theorem ss_name {i : Nat} {x : Str} {pos' : Pos} (o : XOk Γ G k W X) (hi : Γ.N[i]? = some x) (hx : x ∈ Γ.stor) (he : PE X e (tE X W (fe G))) (hs : swapsWith e (some (.Name x pos')) pos.line X.env = pure false) : PS X (.Assign [.Name x pos'] e pos) (tS X W (sSet (.nm i) fe G)) :=
  (ps_set (by rw [o.N]; exact o.nd) (by rw [o.N]; exact hi) (o.stor x hx).1 he hs (o.stor x hx).2).imp fun D σ H q => r_set (fun _ _ _ z => z) q
/-- does the store of a tuple's parts go from the right? none: not known -/
def swO (names : List (Str × NameKind)) (ts vs : List Expr) : Option (Option (List Str)) :=
  if (!(ts.length == 2 || ts.length == 3) || vs.length != ts.length) = true then some none else
  if (vs.any fun | .Starred .. => true | _ => false) = true then some none else
  let line := (ts.head?.map (·.pos.line)).getD 0
  let nms := ts.filterMap fun
    | .Name id pos => if (names.lookup id == some .local && pos.line == line) = true then some id else none
    | _ => none
  if (nms.length != ts.length || nms.eraseDups.length != nms.length) = true then some none else
  if vs.all (foldedForSure 8) = true then some none else
  if vs.all (constantsAlone 8) = true then none else some (some nms)
theorem swO_ok {env : PySem.Env} {names : List (Str × NameKind)} {ts vs : List Expr} {kt k2 : Nat} {p p2 : Pos} {r : Option (List Str)} (hk : env.scope.kind = .function) (hn : env.scope.names = names) (h : swO names ts vs = some r) :
    swappedStores [.Tuple ts kt p] (.Tuple vs k2 p2) env = pure r := by
  have hb : env.blockKind = .function := by unfold PySem.Env.blockKind; rw [hk]; rfl
  have hq : ∀ x, env.kindOf x = names.lookup x := fun x => by unfold PySem.Env.kindOf; rw [hn]
  unfold swO at h
  unfold swappedStores
  simp only [hb, hq]
  split at h
  · rename_i h1
    cases h
    rw [if_pos (by simpa using h1)]
  · rename_i h1
    rw [if_neg (by simpa using h1)]
    split at h
    · rename_i h2
      cases h
      exact if_pos h2
    · rename_i h2
      refine (if_neg h2).trans ?_
      simp only at h
      split at h
      · rename_i h3
        cases h
        exact if_pos h3
      · rename_i h3
        refine (if_neg h3).trans ?_
        split at h
        · rename_i h4
          cases h
          exact if_pos h4
        · rename_i h4
          refine (if_neg h4).trans ?_
          split at h
          · cases h
          · rename_i h5
            refine (if_neg h5).trans ?_
            cases h
            rfl
end
end EP
end
section
set_option maxHeartbeats 1000000
/-! Snd9: more statements. -/
namespace EP
open PySem PySem.Spec PyProof.Rows L2
section
variable {Γ : Ctx} {G : Orc} {k : Nat} {W : WX} {X : Cx} {pos : Pos} {e a b c : Expr} {fe fa fb fc : SE} {st : Stmt} {sts : List Stmt} {s s' : SS}
/-! ### a, b, .. = e -/
theorem sole_noComp {e tg : Expr} (h : noComp e = true) (l : Nat) (env : PySem.Env) : swapsWithSole [tg] e l env = pure false := swaps_noComp h (some tg) l env
theorem ss_tup {es : List Expr} {j : Nat} {ps : List TP} {p : Pos} (hg : PG X (.Tuple es j p) (gP X.K (.tp ps))) (he : PE X e (tE X W (fe G))) (hn : noComp e = true) (hw : swappedStores [.Tuple es j p] e X.env = pure none) : PS X (.Assign [.Tuple es j p] e pos) (tS X W (sSet (.tp ps) fe G)) :=
  (ps_asg he hg (sole_noComp hn _ _) hw rfl).imp fun D σ H q => r_set (fun _ _ _ z => z) q
def noTup : Expr → Bool
  | .Tuple .. => false
  | _ => true
theorem sw_noTup {es : List Expr} {j : Nat} {p : Pos} {env : PySem.Env} (h : noTup e = true) : swappedStores [.Tuple es j p] e env = pure none := by
  cases e <;> first | rfl | exact nomatch h
theorem ss_par {i j : Nat} {x y : Str} {px py pt : Pos} {kt k2 : Nat} {pt2 : Pos} (o : XOk Γ G k W X) (hi : Γ.N[i]? = some x) (hj : Γ.N[j]? = some y) (hij : i ≠ j) (hx : Γ.names.lookup x = some .local) (hy : Γ.names.lookup y = some .local) (ha : PE X a (tE X W (fa G))) (hb : PE X b (tE X W (fb G)))
    (hs : smp a = true) (hs2 : smp b = true) (hw : swO Γ.names [.Name x px, .Name y py] [a, b] = some (some [x, y])) :
    PS X (.Assign [.Tuple [.Name x px, .Name y py] kt pt] (.Tuple [a, b] k2 pt2) pos) (tS X W (sPar i j fa fb G)) :=
  (ps_par o.calm (by rw [o.N]; exact o.nd) (by rw [o.N]; exact hi) (by rw [o.N]; exact hj) hij (by rw [o.names]; exact hx) (by rw [o.names]; exact hy) (pa_cons ha (pa_cons hb pa_nil (star_smp hs2 _ _)) (star_smp hs _ _)) (swO_ok o.kind o.names hw)).imp
    fun D σ H ⟨ρ, h, β, rs, rh, p⟩ => ⟨ρ, h, β, rs, rh, p.bnd rs fun x h1 β1 H1 v x1 rh1 rs1 rv1 p1 => ⟨ρ, h1, β1, rs1, rh1, p1.bnd rs1 fun y h2 β2 H2 w x2 rh2 rs2 rv2 p2 => ⟨v, w, rfl, p2.nx ((rs2.set i (rv1.ext x2)).set j rv2) rh2⟩⟩⟩
/-! ### o[i] = e -/
theorem ss_setI {ob ix : Expr} {fo fi : SE} {p : Pos} (o : XOk Γ G k W X) (he : PE X e (tE X W (fe G))) (ho : PE X ob (tE X W (fo G))) (hi : PE X ix (tE X W (fi G))) (hn : noComp e = true) (hs : smp ix = true) : PS X (.Assign [.Subscript ob ix p] e pos) (tS X W (sSetI fo fi fe G)) :=
  (ps_asg he (pg_sub ho hi (set_all o.u1) (fun v => by cases ix <;> first | rfl | exact nomatch hs)) (sole_noComp hn _ _) rfl rfl).imp
    fun D σ H ⟨ρ, h, β, rs, rh, p⟩ => ⟨ρ, h, β, rs, rh, p.bnd rs fun x h1 β1 H1 v x1 rh1 rs1 rv1 p1 => ⟨ρ, h1, β1, rs1, rh1, p1.bnd rs1 fun y h2 β2 H2 w x2 rh2 rs2 rv2 p2 => ⟨ρ, h2, β2, rs2, rh2, p2.bnd rs2 fun z h3 β3 H3 u x3 rh3 rs3 rv3 p3 => by
      cases hq : oSet y z x h3 with
      | none => rw [hq] at p3; exact p3.elim
      | some h4 =>
        rw [hq] at p3
        exact ⟨β3, h3, y, z, x, h4, rh3, rv2.ext x3, rv3, (rv1.ext x2).ext x3, hq, fun H4 x4 rh4 => (PostS.ext x4 p3).nx (rs3.ext x4) rh4⟩⟩⟩⟩
/-! ### x op= e -/
theorem ip_of {op : Operator} {f : Op2} (h : PIp X op (fun x y H Q => rS X f x y H Q)) : PIp X op (fun x y H Q => rS X f x y H Q) := h
theorem ips_add : PIp X .Add (fun x y H Q => rS X oAddI x y H Q) := by
  intro pins s σ H x y v u Q I rx ry ⟨W, σ', β, h, a, b, rh, ra, rb, p⟩
  unfold oAddI at p
  split at p
  · cases ra; cases rb
    exact ip_add pins s σ H _ _ v u Q I rx ry ⟨_, _, rfl, rfl, p.here rh (.int _)⟩
  · exact p.elim
theorem ips_sub : PIp X .Sub (fun x y H Q => rS X oSub x y H Q) := by
  intro pins s σ H x y v u Q I rx ry ⟨W, σ', β, h, a, b, rh, ra, rb, p⟩
  unfold oSub at p
  split at p
  · cases ra; cases rb
    exact ip_sub pins s σ H _ _ v u Q I rx ry ⟨_, _, rfl, rfl, p.here rh (.int _)⟩
  · exact p.elim
theorem ss_aug {i : Nat} {x : Str} {pos' : Pos} {op : Operator} {f : Op2} (o : XOk Γ G k W X) (hi : Γ.N[i]? = some x) (hx : x ∈ Γ.stor) (hp : PIp X op (fun x y H Q => rS X f x y H Q)) (he : PE X e (tE X W (fe G))) : PS X (.AugAssign (.Name x pos') op e pos) (tS X W (sAug i f fe G)) :=
  (ps_aug (by rw [o.N]; exact o.nd) (by rw [o.N]; exact hi) (o.stor x hx).1 he hp (o.stor x hx).2).imp fun D σ H ⟨ρ, h, β, rs, rh, p⟩ => by
    unfold sAug at p
    split at p
    · rename_i d ed
      obtain ⟨v, e1, rv⟩ := rs.at_ i d ed
      refine ⟨v, e1, ρ, h, β, rs, rh, p.bnd rs fun y h1 β1 H1 w x1 rh1 rs1 rv1 p1 => ⟨W, σ, β1, h1, d, y, rh1, rv.ext x1, rv1, p1.bnd rs1 fun z h2 β2 H2 u x2 rh2 rs2 rv2 p2 => p2.nx (rs2.set i rv2) rh2⟩⟩
    · exact p.elim
/-! ### loops -/
theorem ss_for {tg iter : Expr} {body : List Stmt} {fi : SI} {p : TP} (o : XOk Γ G k W X) (hi : PI X tg iter (tIt X W (fi G))) (hg : PG X tg (gP X.K p)) (hb : PSs X body (tS X W (s G))) (hs : smp iter = true) : PS X (.For tg iter body [] pos) (tS X W (sFor fi p s G)) :=
  (ps_for o.po o.calm hi hg hb (folded_smp hs _)).imp fun D σ H ⟨ρ, h, β, rs, rh, pp⟩ => by
    refine ⟨ρ, h, β, rs, rh, pp.bnd rs fun I h1 β1 H1 J x1 rh1 rs1 rel p1 => ?_⟩
    refine ⟨fun i m σc Hc => i + m = I.tot ∧ ∃ ρc hc βc, Ext β1 βc H1 Hc ∧ RepS βc Hc ρc σc ∧ RepH X.K X.mg βc hc Hc ∧ PostS (rc X) W D βc Hc (forLoop I p s G m ρc hc), ⟨I.tot, Nat.zero_add _, _, _, _, Ext.refl _ _, rs1, rh1, p1⟩, ?_⟩
    rintro i m σc Hc ⟨him, ρc, hc, βc, xc, rsc, rhc, pc⟩
    cases m with
    | zero =>
      refine .inl ?_
      unfold forLoop at pc
      split at pc
      · rename_i hf
        have ei : i = I.tot := him
        subst ei
        exact ⟨rel.stop βc Hc hc xc rhc hf, pc.nx rsc rhc⟩
      · exact pc.elim
    | succ mm =>
      refine .inr ?_
      unfold forLoop at pc
      have ei : I.tot - (mm + 1) = i := by omega
      rw [ei] at pc
      cases hg : I.get i hc with
      | none => rw [hg] at pc; exact pc.elim
      | some d =>
        rw [hg] at pc
        simp only at pc
        refine ⟨rel.go i βc Hc hc d xc rhc hg, fun σ' H' => i + 1 + mm = I.tot ∧ ∃ ρc hc βc, Ext β1 βc H1 H' ∧ RepS βc H' ρc σ' ∧ RepH X.K X.mg βc hc H' ∧ PostS (rc X) W D βc H' (forLoop I p s G mm ρc hc), fun σ' H' w => ⟨mm, Nat.lt_succ_self _, w⟩, fun x H' y => ?_⟩
        obtain ⟨x2, rh2, rv⟩ := rel.yld i βc Hc hc d x H' xc rhc hg y
        cases ha : assignP p d ρc with
        | none => rw [ha] at pc; exact pc.elim
        | some ρ' =>
          rw [ha] at pc
          simp only at pc
          obtain ⟨σ', rs2, run, _⟩ := gP_run (K := X.K) p ha rv (rsc.ext x2)
          refine run _ ⟨ρ', hc, βc, rs2, rh2, PostS.body (D := D) (D' := { D with nx := _, ct := _, bk := D.nx }) (PostS.ext x2 pc) rfl rfl (fun ρ1 h3 β3 H3 σ3 x3 rh3 rs3 p3 => ⟨by omega, ρ1, h3, β3, (xc.trans x2).trans x3, rs3, rh3, p3⟩) rfl⟩
theorem ss_while {body : List Stmt} {t : ST} (o : XOk Γ G k W X) (hc : PT X c (tT X W (t G))) (hb : PSs X body (tS X W (s G))) : PS X (.While c body [] pos) (tS X W (sWhile t s G)) :=
  (ps_while o.po hc hb).imp fun D σ H ⟨ρ, h, β, rs, rh, pp⟩ => by
    refine ⟨fun m σc Hc => ∃ ρc hc βc, RepS βc Hc ρc σc ∧ RepH X.K X.mg βc hc Hc ∧ PostS (rc X) W D βc Hc (whileLoop t s G m ρc hc), ⟨whileFuel, ρ, h, β, rs, rh, pp⟩, ?_⟩
    rintro m σc Hc ⟨ρc, hc, βc, rsc, rhc, pc⟩
    cases m with
    | zero => exact pc.elim
    | succ mm =>
      unfold whileLoop at pc
      refine ⟨ρc, hc, βc, rsc, rhc, pc.bnd rsc fun b h1 β1 H1 b' x1 rh1 rs1 e p1 => ?_⟩
      have e' : b = b' := e
      subst e'
      cases b with
      | false =>
        rw [if_neg (by simp)]
        rw [if_neg (by simp)] at p1
        exact p1.nx rs1 rh1
      | true =>
        rw [if_pos rfl]
        rw [if_pos rfl] at p1
        exact ⟨fun σ' H' => ∃ ρc hc βc, RepS βc H' ρc σ' ∧ RepH X.K X.mg βc hc H' ∧ PostS (rc X) W D βc H' (whileLoop t s G mm ρc hc), fun σ' H' w => ⟨mm, Nat.lt_succ_self _, w⟩, ρc, h1, β1, rs1, rh1, PostS.body (D := D) (D' := { D with nx := _, ct := _, bk := D.nx }) p1 rfl rfl (fun ρ1 h3 β3 H3 σ3 x3 rh3 rs3 p3 => ⟨ρ1, h3, β3, rs3, rh3, p3⟩) rfl⟩
end
end EP
end
section
set_option maxHeartbeats 1000000
set_option maxRecDepth 100000
/-! SndA: a name = a comprehension on one line; a dict display of one pair. -/
namespace EP
open PySem PySem.Spec PyProof.Rows L2
section
variable {X : Cx}
/-- name = {..} on one line, the name a local -/
theorem ps_setDc {i : Nat} {y : Str} {py : Pos} {kx vx tg iter : Expr} {ifs : List Expr} {scope : Scope} {own : List (Str × Nat)} {pos spos : Pos} {wi : TI} {g : TG} {tt : TT} {tk te : TE} (hc : X.calm = true) (hN : X.N.Nodup) (hy : X.N[i]? = some y) (hyl : X.env.scope.names.lookup y = some .local)
    (hsw : swapsWith (.DictComp kx vx [⟨tg, iter, ifs, 0⟩] scope pos) (some (.Name y py)) spos.line X.env = pure true) (hi : PI X tg iter wi) (ok : BlkOk X.N X.env.scope scope own)
    (hg : ∀ (s : Shared) (H : Hp) (C : Addr) (cl : List (Str × Addr)) (fp : List Addr), PG (X.blk s H scope (compEnvC scope cl C X.env) fp) tg g) (ht : ∀ (s : Shared) (H : Hp) (C : Addr) (cl : List (Str × Addr)) (fp : List Addr), PTs (X.blk s H scope (compEnvC scope cl C X.env) fp) ifs tt)
    (hkx : ∀ (s : Shared) (H : Hp) (C : Addr) (cl : List (Str × Addr)) (fp : List Addr), PE (X.blk s H scope (compEnvC scope cl C X.env) fp) kx tk)
    (he : ∀ (s : Shared) (H : Hp) (C : Addr) (cl : List (Str × Addr)) (fp : List Addr), PE (X.blk s H scope (compEnvC scope cl C X.env) fp) vx te) (hs : ∀ x, foldedSetIterable iter X.env x = pure x := by intro _; rfl) :
    PS X (.Assign [.Name y py] (.DictComp kx vx [⟨tg, iter, ifs, 0⟩] scope pos) spos) (tAsg (tDc wi g tt tk te (own.map (·.2))) (gName i)) := by
  refine ⟨fun pins s σ H D I h => ?_⟩
  rw [exec_Assign_Name_used _ _ _ _ hsw]
  refine wpAny_bind (wpAny_standAt (wpAny_bind ?_))
  show wpAny _ X.A (do let _ ← comprehension (.DictComp kx vx [⟨tg, iter, ifs, 0⟩] scope pos) scope X.env (firstIterPos [⟨tg, iter, ifs, 0⟩] pos) (newDict) false (eval iter X.env) (some (assign (.Name y py) X.env))) _ _ s
  have h : tDc wi g tt tk te (own.map (·.2)) σ H (fun x H1 => gName i x σ H1 D.nx) := h
  refine wpAny_bind (thn (dc_core (Qf := fun _ s' => SP X pins D .next s') hc hN I hi ok hg ht hkx he hs h fun L C s' m H' I' q hn f => ?_) fun _ s' hq => wpAny_pure (wpAny_pure hq))
  show wpAny _ _ (assign (.Name y py) X.env (.ref L)) _ _ _
  refine wpAny_assign_Name (store_ok2 (v := V.ref L) I' hN hy (.inl hyl) rfl (fun s2 I2 ⟨a, sb, ha⟩ => ?_) (.inr hyl))
  obtain ⟨f0, f1, f2, f3, f4, f5⟩ := f
  have haC : C ≠ a := by
    rcases ha with z | z
    · rw [z]; exact f1
    · exact fun e => f4 y a z e.symm
  refine ⟨m, hn.sameBut sb haC, fun h3 sb3 => ?_⟩
  exact ⟨_, H', I2.turned (t' := s2.toks) (fun b o hb e => (sb3.2 b hb).trans e) f0 f1 f3 f4 f5, q⟩
/-- name = {..} on one line, the name a local -/
theorem ps_setDcT {i : Nat} {y : Str} {py : Pos} {kx vx tg iter : Expr} {ifs : List Expr} {scope : Scope} {own : List (Str × Nat)} {pos spos : Pos} {wi : TI} {g : TG} {tt : TT} {tk te : TE} (hu : X.A.units < cLine) (hc : X.calm = true) (hN : X.N.Nodup) (hy : X.N[i]? = some y) (hyl : X.env.scope.names.lookup y = some .local)
    (hsw : swapsWith (.DictComp kx vx [⟨tg, iter, ifs, 0⟩] scope pos) (some (.Name y py)) spos.line X.env = pure true) (hi : PI X tg iter wi) (ok : BlkOk X.N X.env.scope scope own)
    (hg : ∀ (s : Shared) (H : Hp) (C : Addr) (cl : List (Str × Addr)) (fp : List Addr), PG (X.blk s H scope (compEnvC scope cl C X.env) fp) tg g) (ht : ∀ (s : Shared) (H : Hp) (C : Addr) (cl : List (Str × Addr)) (fp : List Addr), PTs (X.blk s H scope (compEnvC scope cl C X.env) fp) ifs tt)
    (hkx : ∀ (s : Shared) (H : Hp) (C : Addr) (cl : List (Str × Addr)) (fp : List Addr), PE (X.blk s H scope (compEnvC scope cl C X.env) fp) kx tk)
    (he : ∀ (s : Shared) (H : Hp) (C : Addr) (cl : List (Str × Addr)) (fp : List Addr), PE (X.blk s H scope (compEnvC scope cl C X.env) fp) vx te) (hs : ∀ x, foldedSetIterable iter X.env x = pure x := by intro _; rfl) :
    PS X (.Assign [.Name y py] (.DictComp kx vx [⟨tg, iter, ifs, 0⟩] scope pos) spos) (tAsg (tDcT wi g tt tk te (own.map (·.2))) (gName i)) := by
  refine ⟨fun pins s σ H D I h => ?_⟩
  rw [exec_Assign_Name_used _ _ _ _ hsw]
  refine wpAny_bind (wpAny_standAt (wpAny_bind ?_))
  show wpAny _ X.A (do let _ ← comprehension (.DictComp kx vx [⟨tg, iter, ifs, 0⟩] scope pos) scope X.env (firstIterPos [⟨tg, iter, ifs, 0⟩] pos) (newDict) false (eval iter X.env) (some (assign (.Name y py) X.env))) _ _ s
  have h : tDcT wi g tt tk te (own.map (·.2)) σ H (fun x H1 => gName i x σ H1 D.nx) := h
  refine wpAny_bind (thn (dcT_core (Qf := fun _ s' => SP X pins D .next s') hu hc hN I hi ok hg ht hkx he hs h fun L C s' m H' I' q hn f => ?_) fun _ s' hq => wpAny_pure (wpAny_pure hq))
  show wpAny _ _ (assign (.Name y py) X.env (.ref L)) _ _ _
  refine wpAny_assign_Name (store_ok2 (v := V.ref L) I' hN hy (.inl hyl) rfl (fun s2 I2 ⟨a, sb, ha⟩ => ?_) (.inr hyl))
  obtain ⟨f0, f1, f2, f3, f4, f5⟩ := f
  have haC : C ≠ a := by
    rcases ha with z | z
    · rw [z]; exact f1
    · exact fun e => f4 y a z e.symm
  refine ⟨m, hn.sameBut sb haC, fun h3 sb3 => ?_⟩
  exact ⟨_, H', I2.turned (t' := s2.toks) (fun b o hb e => (sb3.2 b hb).trans e) f0 f1 f3 f4 f5, q⟩
end
def compSc : Expr → Option Scope
  | .ListComp _ _ s _ => some s
  | .DictComp _ _ _ s _ => some s
  | _ => none
/-- is the store done within the comprehension? -/
def swN (names : List (Str × NameKind)) (scope : Scope) (y : Str) (pl el : Nat) : Bool := names.lookup y == some .local && pl == el && !(scope.names.any fun (n, k) => n == y && (k == .local || k == .cell))
theorem sw_name {e : Expr} {scope : Scope} {y : Str} {py : Pos} {l : Nat} {env : PySem.Env} {names : List (Str × NameKind)} (hk : env.scope.kind = .function) (hn : env.scope.names = names) (he : compSc e = some scope) :
    swapsWith e (some (.Name y py)) l env = pure (swN names scope y py.line e.pos.line) := by
  have hb : env.blockKind = .function := by unfold PySem.Env.blockKind; rw [hk]; rfl
  have hq : ∀ x, env.kindOf x = names.lookup x := fun x => by unfold PySem.Env.kindOf; rw [hn]
  cases e with
  | ListComp a b s p => cases he; unfold swapsWith swN; simp only [hb, hq]; rfl
  | DictComp a b c s p => cases he; unfold swapsWith swN; simp only [hb, hq]; rfl
  | _ => cases he
section
variable {Γ : Ctx} {G : Orc} {k : Nat} {W : WX} {X : Cx} {pos spos : Pos}
variable {elt kx vx tg iter : Expr} {ifs : List Expr} {scope sc : Scope} {own : List (Str × Nat)} {fi : SI} {p : TP} {ft : ST} {fk fe : SE}
theorem ss_lcN {i : Nat} {y : Str} {py : Pos} (o : XOk Γ G k W X) (hiN : Γ.N[i]? = some y) (hy : y ∈ Γ.stor) (hi : PI X tg iter (tIt X W (fi G))) (hb : blkC Γ.N { sc with names := Γ.names } scope own = true) (hg : ∀ X', XOk (Γ.blk scope) G k W0 X' → PG X' tg (gP X'.K p)) (ht : ∀ X', XOk (Γ.blk scope) G k W0 X' → PTs X' ifs (tT X' W0 (ft G)))
    (he : ∀ X', XOk (Γ.blk scope) G k W0 X' → PE X' elt (tE X' W0 (fe G))) (hs : smp iter = true) (hv : ∀ i ∈ p.slots, i ∈ own.map (·.2)) : PS X (.Assign [.Name y py] (.ListComp elt [⟨tg, iter, ifs, 0⟩] scope pos) spos) (tS X W (sSet (.nm i) (eLc fi p ft fe (own.map (·.2))) G)) := by
  have b := o.blkOk hb
  have sw := sw_name (e := .ListComp elt [⟨tg, iter, ifs, 0⟩] scope pos) (y := y) (py := py) (l := spos.line) o.kind o.names rfl
  cases q : swN Γ.names scope y py.line pos.line with
  | false =>
    have q' : swN Γ.names scope y py.line (Expr.ListComp elt [⟨tg, iter, ifs, 0⟩] scope pos).pos.line = false := q
    exact ss_name o hiN hy (se_lc o hi hb hg ht he hs hv) (by rw [sw, q'])
  | true =>
    have q' : swN Γ.names scope y py.line (Expr.ListComp elt [⟨tg, iter, ifs, 0⟩] scope pos).pos.line = true := q
    have hl : X.env.scope.names.lookup y = some .local := by
      rw [o.names]
      unfold swN at q
      simp only [Bool.and_eq_true] at q
      simpa using q.1.1
    exact (ps_setLc (te := tE X W0 (fe G)) (tt := tT X W0 (ft G)) o.calm (by rw [o.N]; exact o.nd) (by rw [o.N]; exact hiN) hl (by rw [sw, q']) hi b (fun s H C cl fp => hg _ (o.blk b.kind s H C cl fp)) (fun s H C cl fp => ht _ (o.blk b.kind s H C cl fp)) (fun s H C cl fp => he _ (o.blk b.kind s H C cl fp)) (folded_smp hs _)).imp
      fun D σ H z => r_set (p := .nm i) (fun σ H Q q => r_lc ⟨rfl, rfl⟩ ⟨rfl, rfl⟩ hv q) z
theorem ss_dcN (T : Bool) {i : Nat} {y : Str} {py : Pos} (o : XOk Γ G k W X) (hiN : Γ.N[i]? = some y) (hy : y ∈ Γ.stor) (hi : PI X tg iter (tIt X W (fi G))) (hb : blkC Γ.N { sc with names := Γ.names } scope own = true) (hg : ∀ X', XOk (Γ.blk scope) G k W0 X' → PG X' tg (gP X'.K p)) (ht : ∀ X', XOk (Γ.blk scope) G k W0 X' → PTs X' ifs (tT X' W0 (ft G)))
    (hk : ∀ X', XOk (Γ.blk scope) G k W0 X' → PE X' kx (tE X' W0 (fk G))) (he : ∀ X', XOk (Γ.blk scope) G k W0 X' → PE X' vx (tE X' W0 (fe G))) (hs : smp iter = true) (hv : ∀ i ∈ p.slots, i ∈ own.map (·.2)) : PS X (.Assign [.Name y py] (.DictComp kx vx [⟨tg, iter, ifs, 0⟩] scope pos) spos) (tS X W (sSet (.nm i) (eDc T fi p ft fk fe (own.map (·.2))) G)) := by
  have b := o.blkOk hb
  have sw := sw_name (e := .DictComp kx vx [⟨tg, iter, ifs, 0⟩] scope pos) (y := y) (py := py) (l := spos.line) o.kind o.names rfl
  cases q : swN Γ.names scope y py.line pos.line with
  | false =>
    have q' : swN Γ.names scope y py.line (Expr.DictComp kx vx [⟨tg, iter, ifs, 0⟩] scope pos).pos.line = false := q
    exact ss_name o hiN hy (se_dc T o hi hb hg ht hk he hs hv) (by rw [sw, q'])
  | true =>
    have q' : swN Γ.names scope y py.line (Expr.DictComp kx vx [⟨tg, iter, ifs, 0⟩] scope pos).pos.line = true := q
    have hl : X.env.scope.names.lookup y = some .local := by
      rw [o.names]
      unfold swN at q
      simp only [Bool.and_eq_true] at q
      simpa using q.1.1
    cases T with
    | false =>
      exact (ps_setDc (te := tE X W0 (fe G)) (tk := tE X W0 (fk G)) (tt := tT X W0 (ft G)) o.calm (by rw [o.N]; exact o.nd) (by rw [o.N]; exact hiN) hl (by rw [sw, q']) hi b (fun s H C cl fp => hg _ (o.blk b.kind s H C cl fp)) (fun s H C cl fp => ht _ (o.blk b.kind s H C cl fp)) (fun s H C cl fp => hk _ (o.blk b.kind s H C cl fp)) (fun s H C cl fp => he _ (o.blk b.kind s H C cl fp)) (folded_smp hs _)).imp
        fun D σ H z => r_set (p := .nm i) (fun σ H Q q => r_dc ⟨rfl, rfl⟩ ⟨rfl, rfl⟩ ⟨rfl, rfl⟩ hv q) z
    | true =>
      exact (ps_setDcT (te := tE X W0 (fe G)) (tk := tE X W0 (fk G)) (tt := tT X W0 (ft G)) (by have := o.u1; omega) o.calm (by rw [o.N]; exact o.nd) (by rw [o.N]; exact hiN) hl (by rw [sw, q']) hi b (fun s H C cl fp => hg _ (o.blk b.kind s H C cl fp)) (fun s H C cl fp => ht _ (o.blk b.kind s H C cl fp)) (fun s H C cl fp => hk _ (o.blk b.kind s H C cl fp)) (fun s H C cl fp => he _ (o.blk b.kind s H C cl fp)) (folded_smp hs _)).imp
        fun D σ H z => r_set (p := .nm i) (fun σ H Q q => r_dcT ⟨rfl, rfl⟩ ⟨rfl, rfl⟩ ⟨rfl, rfl⟩ hv q) z
end
/-! ### {k: v}, k a tuple -/
def tDisp1 (K : PySem.W.Frag) (tk tv : TE) : TE := fun σ H Q => ∀ p, H p = none → K.lookup p = none → tk σ (upd H p (.dT [])) fun x H2 => tv σ H2 fun y H3 => H3 p = some (.dT []) ∧ ∃ c ks, x = .ref c ∧ H3 c = some (.tup (ks.map kV)) ∧ Q (.ref p) (upd H3 p (.dT [(ks, y)]))
section
variable {X : Cx} {pos : Pos} {kx vx : Expr} {tk tv : TE}
theorem pe_disp1 (hu : X.A.units < cLine) (hk : PE X kx tk) (hv : PE X vx tv) : PE X (.Dict [some kx] [vx] pos) (tDisp1 X.K tk tv) := by
  refine ⟨fun pins s σ H Q I q => ?_⟩
  have hn := I.hok.fresh (Nat.le_refl s.heap.objs.size)
  have hK : X.K.lookup s.heap.objs.size = none := by
    cases e : X.K.lookup s.heap.objs.size with
    | none => rfl
    | some o => exact absurd (Heap.lt_size (I.kIn _ _ e)) (Nat.lt_irrefl _)
  have I1 := I.laid (a := s.heap.objs.size) (o := .dT []) (h' := s.heap.push { cls := .type "dict", data := .dict #[] }) (t' := s.toks) (fun _ _ q => Heap.get?_push_of_some _ q) (Nat.le_refl _) (dt_empty s.heap I.big)
  rw [arm_eval_Dict, zip_pairTrees [some kx] [vx] X.env pos rfl rfl, dictDisplay_pairs _ (by simp [pairTrees]) (by simp [pairTrees])]
  refine wpAny_bind (wpAny_standAt (wpAny_bind ?_))
  unfold subDict
  refine wpAny_bind (wpAny_alloc (wpAny_bind (wpAny_holding ?_)))
  rw [if_pos (by simp [pairTrees])]
  refine wpAny_bind (thn ((pps_cons hk hv pps_nil : PPs X pos [some kx] [vx] [(tk, tv)]).run pins _ σ _ (fun ps H' => match ps with
    | [(x, y)] => H' s.heap.objs.size = some (.dT []) ∧ ∃ c ks, x = .ref c ∧ H' c = some (.tup (ks.map kV)) ∧ Q (.ref s.heap.objs.size) (upd H' s.heap.objs.size (.dT [(ks, y)]))
    | _ => False) I1 (q _ hn hK)) fun ws s2 ⟨ps, H2, I2, rel, q2⟩ => ?_)
  cases rel with
  | nil => exact q2.elim
  | @cons a b as bs h t =>
    cases t with
    | cons _ _ => exact q2.elim
    | nil =>
      obtain ⟨b1, b2⟩ := b
      obtain ⟨x, y⟩ := a
      obtain ⟨eD, c, ks, ex, ec, qq⟩ := q2
      have hx : x = .ref c := ex
      subst hx
      obtain rfl : b1 = Value.ref c := h.1
      refine wpAny_holding ?_
      refine wpAny_bind ?_
      rw [List.forIn_cons]
      refine wpAny_bind (wpAny_bind (d_dictSetT (kvs := []) hu I2 eD (by show 0 < sizeLine; decide) ec h.2 fun s3 I3 => wpAny_pure ?_))
      exact wpAny_pure (wpAny_pure (wpAny_pure (wpAny_pure ⟨.ref s.heap.objs.size, _, I3, rfl, qq⟩)))
end
section
variable {Γ : Ctx} {G : Orc} {k : Nat} {W : WX} {X : Cx} {pos : Pos} {kx vx : Expr} {fk fv : SE}
theorem se_disp1 (o : XOk Γ G k W X) (hk : PE X kx (tE X W (fk G))) (hv : PE X vx (tE X W (fv G))) : PE X (.Dict [some kx] [vx] pos) (tE X W (eDict1 fk fv G)) :=
  (pe_disp1 (by have := o.u1; omega) hk hv).imp fun σ H Q ⟨ρ, h, β, rs, rh, p⟩ => fun D hD hK => by
    have hn := rh.notin hD hK
    refine ⟨ρ, h, β, rs.ext (Ext.fresh hD), rh.fresh hD, (Post.ext (Ext.fresh hD) p).bndE fun x h1 β1 H1 v q1 x1 rh1 rv1 p1 => ?_⟩
    refine ⟨ρ, h1, β1, (rs.ext (Ext.fresh hD)).ext x1, rh1, p1.bndE fun y h2 β2 H2 w q2 x2 rh2 rv2 p2 => ?_⟩
    have x12 := x1.trans x2
    have e2 : H2 D = some (.dT []) := x12.keep D _ upd_same hn
    have hn2 : D ∉ β2 := fun hm => by
      rcases x12.new D hm with z | z
      · exact hn z
      · rw [upd_same] at z; cases z
    have ht : ∀ xs, H2 D ≠ some (.tup xs) := fun xs z => by rw [e2] at z; cases z
    have hf : ∀ a b, H2 D ≠ some (.frz a b) := fun a b z => by rw [e2] at z; cases z
    cases hq : toKeys x with
    | none => rw [hq] at p2; exact p2.elim
    | some ks =>
      rw [hq] at p2
      obtain ⟨c, e6, e7⟩ := keys_at (rv1.ext x2) hq
      refine ⟨e2, c, ks, e6, e7, ?_⟩
      have p0 : Post (rc X) W σ β H RepV Q (.ok (.loc h2.length) (h2 ++ [.dT [(ks, y)]])) := by
        have e : eDict1 fk fv G ρ h = .ok (.loc h2.length) (h2 ++ [.dT [(ks, y)]]) := by
          unfold eDict1
          rw [q1]; simp only [EP.bnd]
          rw [q2]; simp only
          rw [hq]
        rw [← e]; exact p
      refine p0 (β2 ++ [D]) _ _ (Ext.adopt hD x12) (rh2.adopt hn2 ht hf ⟨by show 1 ≤ sizeLine; decide, _, upd_same, .cons (RepV.adopt ht rv2) .nil⟩) (.loc ?_)
      rw [← rh2.len]; simp
end
end EP
end
section
set_option maxHeartbeats 1000000
/-! SndB: exceptions made and raised. -/
namespace EP
open PySem PySem.Spec PyProof.Rows L2
section
variable {K : PySem.W.Frag} {mg : Str → Option Value} {β β' : List Addr} {H H' : Hp} {h : MH} {p a d : Addr}
theorem upd_self {u : HO} (e : H p = some u) : upd H p u = H := by
  funext q
  by_cases hq : q = p
  · rw [hq, upd_same, e]
  · rw [upd_ne hq]
theorem dropH_same : dropH H p p = none := if_pos rfl
theorem dropH_free (e : H p = none) : dropH H p = H := by
  funext q
  by_cases hq : q = p
  · rw [hq, dropH_same, e]
  · rw [dropH_ne hq]
theorem Ext.dropH (x : Ext β β' H H') (p : Addr) : Ext β β' (EP.dropH H p) (EP.dropH H' p) := by
  have key : ∀ {q : Addr} {o : HO}, EP.dropH H p q = some o → q ≠ p ∧ H q = some o := fun {q o} e => by
    by_cases hq : q = p
    · rw [hq, dropH_same] at e; cases e
    · rw [dropH_ne hq] at e; exact ⟨hq, e⟩
  refine ⟨x.pre, fun q o e hn => ?_, fun q o e => ?_, fun q o u e => ?_, fun q o e => ?_, fun q o e => ?_, fun q e => ?_, fun q hm => ?_⟩
  · obtain ⟨h1, h2⟩ := key e; rw [dropH_ne h1]; exact x.keep q o h2 hn
  · obtain ⟨h1, h2⟩ := key e; rw [dropH_ne h1]; exact x.tup q o h2
  · obtain ⟨h1, h2⟩ := key e; rw [dropH_ne h1]; exact x.frz q o u h2
  · obtain ⟨h1, h2⟩ := key e; rw [dropH_ne h1]; exact x.ext q o h2
  · obtain ⟨h1, h2⟩ := key e; rw [dropH_ne h1]; exact x.xd q o h2
  · by_cases hq : q = p
    · rw [hq, dropH_same]
    · rw [dropH_ne hq] at e ⊢; exact x.dom q e
  · rcases x.new q hm with z | z
    · exact .inl z
    · refine .inr ?_
      by_cases hq : q = p
      · rw [hq, dropH_same]
      · rw [dropH_ne hq]; exact z
theorem RepH.undrop {u : HO} (r : RepH K mg β h (dropH H p)) (e : H p = some u) : RepH K mg β h H := by
  have := r.fresh (p := p) (u := u) dropH_same
  rw [dropH_upd, upd_self e] at this
  exact this
theorem RepH.dropX {φ : Heap → Prop} (r : RepH K mg β h H) (ep : H p = some (.ext φ)) : RepH K mg β h (dropH H p) := by
  have ht : ∀ xs, H p ≠ some (.tup xs) := fun xs z => by rw [ep] at z; cases z
  refine ⟨r.len, fun n o q e1 e2 => ?_, r.inj⟩
  have ra := r.at_ n o q e1 e2
  have hq : ∀ {u : HO}, H q = some u → (∀ ψ, u ≠ .ext ψ) → dropH H p q = some u := fun {u} e z => by
    rw [dropH_ne fun y => ?_]; exact e
    subst y; rw [e] at ep; exact z _ (Option.some.inj ep)
  cases o with
  | lst xs => obtain ⟨l, vs, e, rv⟩ := ra; exact ⟨l, vs, (hq e fun _ z => nomatch z), rv.drop' ht⟩
  | fro xs =>
    obtain ⟨l, vs, f, rv⟩ := ra
    refine ⟨l, vs, ?_, rv.drop' ht⟩
    rcases f with ⟨ob, f⟩ | f
    · exact .inl ⟨ob, hq f fun _ z => nomatch z⟩
    · exact .inr f
  | dK xs => obtain ⟨l, vs, e, rv⟩ := ra; exact ⟨l, vs, (hq e fun _ z => nomatch z), rv.drop ht⟩
  | dT xs => obtain ⟨l, vs, e, rv⟩ := ra; exact ⟨l, vs, (hq e fun _ z => nomatch z), rv.drop ht⟩
  | set ns => obtain ⟨c, e⟩ := ra; exact ⟨c, (hq e fun _ z => nomatch z)⟩
  | ins C fs =>
    obtain ⟨Ca, dx, gs, m, e, l, rv⟩ := ra
    refine ⟨Ca, dx, gs, m, (hq e fun _ z => nomatch z), l, fun f => ?_⟩
    rcases rv f with z | ⟨d, v, h1, h2, h3⟩
    · exact .inl z
    · exact .inr ⟨d, v, h1, h2, h3.drop ht⟩
mutual
theorem RepV.mono (m : ∀ p xs, H p = some (.tup xs) → H' p = some (.tup xs)) : ∀ {d : Dt} {v : V}, RepV β H d v → RepV β H' d v
  | _, _, .non => .non
  | _, _, .bl b => .bl b
  | _, _, .int i => .int i
  | _, _, .str y => .str y
  | _, _, .tup e l r => .tup (m _ _ e) l (RepVs.mono m r)
  | _, _, .loc e => .loc e
theorem RepVs.mono (m : ∀ p xs, H p = some (.tup xs) → H' p = some (.tup xs)) : ∀ {ds : List Dt} {vs : List V}, RepVs β H ds vs → RepVs β H' ds vs
  | _, _, .nil => .nil
  | _, _, .cons a b => .cons (RepV.mono m a) (RepVs.mono m b)
end
theorem RepF.put {fs : Fs} {gs : List (Str × V)} {f : Str} {x : Dt} {v : V} (r : RepF β H fs gs) (rv : RepV β H x v) : RepF β H ((f, x) :: fs) ((f, v) :: gs) := fun g => by
  by_cases e : (g == f) = true
  · exact .inr ⟨x, v, by simp [List.lookup, e], by simp [List.lookup, e], rv⟩
  · have e' : (g == f) = false := by simpa using e
    simp only [List.lookup, e']
    exact r g
def dropO (H : Hp) (a : Addr) : Option Addr → Hp
  | none => dropH H a
  | some d => dropH (dropH H d) a
end

/-! ### raise C(..) -/
section
variable {Γ : Ctx} {G : Orc} {k : Nat} {W : WX} {X : Cx} {pos : Pos} {e : Expr} {es : List Expr} {fs : SA}
/-- C(), C an exception without an __init__ of its own -/
theorem pmk_own0 {X : Cx} {Ca : Addr} {bmB : List Value} {B newId initId : String} {x : Str} {p pos : Pos} (F : ExcBaseFacts B newId initId bmB) (q : PySem.W.excIn X.K Ca bmB newId = true) (gC : X.mg x = some (.ref Ca)) (kC : PySem.W.keepIn X.K (.ref Ca) = true) (r : Raises X (.ref Ca)) (hg : Gl X x)
    (hdb : (x == ("__debug__" : Str)) = false) : PMk X (.Call (.Name x p) [] [] pos) (fun _ H Q => Q (.ref Ca) none H) := by
  intro pins s σ H Q I h
  refine wpAny_Call_Name_kw (ld_glob I hg gC ?_ hdb)
  refine PySem.W.callWith_K0 I.kIn kC ?_
  show wpAny _ _ (call (.ref Ca) []) _ _ _
  obtain ⟨bm, N, nm, qn, bs, hdct, sn, sub, ab, col, dd, k0, k1, k2, k3, k5, mN, hC, hN, hni, T⟩ := exc_obj I.kIn q
  refine wpAny_call_exc_subT F T hC hN hni (fun h' e hm => ?_) (Nat.zero_le _)
  exact mk_of I hm r h (I.hok.gone hm.new)
theorem ss_raise0 {C : Str} {p spos : Pos} (o : XOk Γ G k W X) (hg : Γ.names.lookup C = some .globalImplicit) (hx : C ∈ Γ.tab.exc0) (hd : (C == ("__debug__" : Str)) = false) : PS X (.Raise (some (.Call (.Name C p) [] [] pos)) none spos) (tS X W (sRaise0 C G)) := by
  obtain ⟨Ca, hm, q, kC, s1, s2⟩ := o.exc0 C hx
  exact (ps_raise o.calm o.tk (pmk_own0 PySem.F.excBase_ValueError q hm kC (raises_own s1 s2) (gl_of o hg) hd)).imp fun D σ H ⟨ρ, h, β, rs, rh, pp⟩ => pp β H σ _ none (Ext.refl _ _) rh rs hm rfl
theorem ss_raise {C : Str} {n : Nat} {names : List Str} {p spos : Pos} (o : XOk Γ G k W X) (hg : Γ.names.lookup C = some .globalImplicit) (hx : Γ.tab.excs.lookup C = some (n, names)) (ha : PA X (e :: es) (tA X W (fs G))) (hl : ∀ ρ h xs h', fs G ρ h = .ok xs h' → xs.length = names.length)
    (hd : (C == ("__debug__" : Str)) = false) (hs : (e :: es).all smp = true) (hz : names.length ≤ 1000) : PS X (.Raise (some (.Call (.Name C p) (e :: es) [] pos)) none spos) (tS X W (sRaise C n names fs G)) := by
  simp only [List.all_cons, Bool.and_eq_true] at hs
  obtain ⟨Ca, fI, fd, ps, hm, T, iC, tI, hb, F⟩ := (o.excs C n names hx).ex
  refine (ps_raise o.calm o.tk (pmk_oex T iC tI F o.room hb .nil (passes_call o.tk fun _ _ _ _ z => z.elim) (gl_of o hg) hm ha hd (star_smp hs.1 _ _) (stars_none hs.2 _ _))).imp fun D σ H ⟨ρ, h, β, rs, rh, pp⟩ => ?_
  refine ⟨ρ, h, β, rs, rh, ?_⟩
  have key : ∀ xs h1 β1 H1 vs, xs.length = names.length → RepH X.K X.mg β1 h1 H1 → RepS β1 H1 ρ σ → RepVs β1 H1 xs vs → PostS (rc X) W D β1 H1 (match G n xs h1 with
      | .ok (.tup ds) h2 => if ds.length = names.length then .ex C (names.zip ds).reverse ρ h2 else .bad
      | _ => .bad) → vs.length ≤ 1000 ∧ ∀ a, H1 a = none → spIni (rc X) Ca (G n) names (.ref a :: (vs ++ [])) (upd H1 a (exo a Ca none))
        (fun v H2 => v = .non ∧ ∃ (d : Addr) (fs : List (Str × V)), H2 a = some (exo a Ca (some d)) ∧ H2 d = some (exd d fs) ∧ H1 d = none ∧ W (.ref Ca) (some d) σ (upd (del H2 a) d (.xd fs))) (fun _ _ _ => False) := by
    intro xs h1 β1 H1 vs hlen rh1 rs1 rv1 p1
    refine ⟨by rw [← rv1.length, hlen]; exact hz, fun a hna => ?_⟩
    split at p1
    · rename_i ds h2 e2
      split at p1
      · have e0 : dropH (upd H1 a (exo a Ca none)) a = H1 := by
          funext q
          by_cases hq : q = a
          · rw [hq, dropH_same, hna]
          · rw [dropH_ne hq, upd_ne hq]
        refine ⟨a, vs, xs, h1, β1, ds, h2, by rw [List.append_nil], hlen, upd_same, rv1.ext (Ext.fresh hna), rh1.fresh hna, e2, fun β2 H2 d gs x2 rh2 ea ed hd0 hda rf => ?_⟩
        rw [e0] at x2 hd0
        refine ⟨rfl, d, gs, ea, ed, hd0, ?_⟩
        have e3 : upd (del H2 a) d (.xd gs) = upd (dropH (dropH H2 d) a) d (.xd gs) := by
          funext q
          by_cases hq : q = d
          · rw [hq, upd_same, upd_same]
          · rw [upd_ne hq, upd_ne hq]
            by_cases hqa : q = a
            · rw [hqa, dropH_same]; exact if_pos rfl
            · rw [dropH_ne hqa, dropH_ne hq]; exact if_neg hqa
        have hfree : dropH (dropH H2 d) a d = none := by rw [dropH_ne hda]; exact dropH_same
        rw [e3]
        have x3 := x2.trans (Ext.fresh (u := .xd gs) hfree)
        exact p1 β2 _ σ (.ref Ca) (some d) x3 (rh2.fresh hfree) (rs1.ext x3) hm ⟨gs, upd_same, rf.ext (Ext.fresh hfree)⟩
      · exact p1.elim
    · exact p1.elim
  have pp' : PostS (rc X) W D β H (EP.bndS ρ (fs G ρ h) fun xs h1 => match G n xs h1 with
      | .ok (.tup ds) h2 => if ds.length = names.length then .ex C (names.zip ds).reverse ρ h2 else .bad
      | _ => .bad) := pp
  cases hq : fs G ρ h with
  | ok xs h1 =>
    rw [hq] at pp'
    exact fun β1 H1 vs x1 rh1 rv1 => key xs h1 β1 H1 vs (hl _ _ _ _ hq) rh1 (rs.ext x1) rv1 (PostS.ext x1 pp')
  | ex C fs h1 =>
    rw [hq] at pp'
    exact fun β2 H2 Cv od x rh e1 e2 => pp' β2 H2 σ Cv od x rh (rs.ext x) e1 e2
  | bad => rw [hq] at pp'; exact pp'
end
end EP
end
section
set_option maxHeartbeats 1000000
/-! SndC: an exception's __init__. -/
namespace EP
open PySem PySem.Spec PyProof.Rows L2
/-- the parameters, at their slots -/
def ParAt (β : List Addr) (H : Hp) (σ : L2.St) : List (Str × Nat) → List Dt → Prop
  | [], [] => True
  | (_, j) :: r, x :: xs => (∃ v, σ[j]? = some (some v) ∧ RepV β H x v) ∧ ParAt β H σ r xs
  | _, _ => False
theorem ParAt.ext {β β' : List Addr} {H H' : Hp} {σ : L2.St} (x : Ext β β' H H') : ∀ {r : List (Str × Nat)} {xs : List Dt}, ParAt β H σ r xs → ParAt β' H' σ r xs
  | [], [], _ => trivial
  | (_, _) :: _, _ :: _, ⟨⟨v, h1, h2⟩, h⟩ => ⟨⟨v, h1, h2.ext x⟩, ParAt.ext x h⟩
  | [], _ :: _, h => h.elim
  | (_, _) :: _, [], h => h.elim
theorem ParAt.mono {β : List Addr} {H H' : Hp} {σ : L2.St} (m : ∀ p xs, H p = some (.tup xs) → H' p = some (.tup xs)) : ∀ {r : List (Str × Nat)} {xs : List Dt}, ParAt β H σ r xs → ParAt β H' σ r xs
  | [], [], _ => trivial
  | (_, _) :: _, _ :: _, ⟨⟨v, h1, h2⟩, h⟩ => ⟨⟨v, h1, h2.mono m⟩, ParAt.mono m h⟩
  | [], _ :: _, h => h.elim
  | (_, _) :: _, [], h => h.elim
def OdOk (H0 H : Hp) (a : Addr) (acc : Fs) (gs : List (Str × V)) (rem : List (Str × Nat)) : Option Addr → Prop
  | none => acc = [] ∧ gs = [] ∧ rem ≠ []
  | some d => H d = some (exd d gs) ∧ d ≠ a ∧ H0 d = none
/-- what the rest of an __init__ does -/
def tI (R : Rc) (Ca : Addr) (sp : Nat) (G : Orc) (rem : List (Str × Nat)) : TS := fun D σ H => ∃ a od gs acc xs h β β0 H0 es h2, σ[0]? = some (some (.ref a)) ∧ H a = some (exo a Ca od) ∧ H0 a = none ∧ OdOk H0 H a acc gs rem od ∧ gs.length + rem.length ≤ 900 ∧
  Ext β0 β H0 (dropO H a od) ∧ RepH R.K R.mg β h (dropO H a od) ∧ RepF β (dropO H a od) acc gs ∧ ParAt β H σ rem xs ∧ initLoop sp G xs h = .ok es h2 ∧
  ∀ β' H' d gs', Ext β0 β' H0 (dropH (dropH H' d) a) → RepH R.K R.mg β' h2 (dropH (dropH H' d) a) → H' a = some (exo a Ca (some d)) → H' d = some (exd d gs') → H0 d = none → d ≠ a → RepF β' (dropH (dropH H' d) a) (((rem.map (·.1)).zip es).reverse ++ acc) gs' → D.nx σ H'
section
variable {Γ : Ctx} {G : Orc} {k : Nat} {W : WX} {X : Cx} {Ca : Addr} {sp : Nat}
theorem ti_nil : PSs X [] (tI (rc X) Ca sp G []) := pss_nil.imp fun D σ H ⟨a, od, gs, acc, xs, h, β, β0, H0, es, h2, e0, ea, ha0, hod, hl, x, rh, rf, par, hi, q⟩ => by
  cases xs with
  | cons _ _ => exact par.elim
  | nil =>
    cases hi
    cases od with
    | none => exact absurd rfl hod.2.2
    | some d => exact q β H d gs x rh ea hod.1 hod.2.2 hod.2.1 (by simpa [dropO] using rf)
theorem dropO_un {K : PySem.W.Frag} {mg : Str → Option Value} {β : List Addr} {h : MH} {H H0 : Hp} {a Ca : Addr} {acc : Fs} {gs : List (Str × V)} {rem : List (Str × Nat)} {od : Option Addr} (ea : H a = some (exo a Ca od)) (hod : OdOk H0 H a acc gs rem od) (rh : RepH K mg β h (dropO H a od)) : RepH K mg β h H := by
  cases od with
  | none => exact RepH.undrop (H := H) rh ea
  | some d =>
    have h1 : RepH K mg β h (dropH H d) := RepH.undrop (H := dropH H d) rh (by rw [dropH_ne (Ne.symm hod.2.1)]; exact ea)
    exact RepH.undrop (H := H) h1 hod.1
theorem ti_cons {f x sf : Str} {j : Nat} {sts : List Stmt} {rem : List (Str × Nat)} {p1 p2 p3 p4 p5 p6 : Pos} (o : XOk Γ G k W X) (T : OexC X.K Ca) (hno : PySem.W.findIn X.K (.ref Ca) f = some none) (h0 : Γ.N[0]? = some ("self" : Str)) (hj : Γ.N[j]? = some x)
    (hs0 : Γ.names.lookup ("self" : Str) = some .local) (hsx : Γ.names.lookup x = some .local) (hxd : (x == ("__debug__" : Str)) = false) (hxc : (x == ("__classdict__" : Str)) = false) (hf : Γ.tab.fns.lookup sf = some (sp, 1)) (hg : Γ.names.lookup sf = some .globalImplicit) (hd : (sf == ("__debug__" : Str)) = false)
    (hr : PSs X sts (tI (rc X) Ca sp G rem)) : PSs X (.Assign [.Attribute (.Name "self" p1) f p2] (.Call (.Name sf p3) [.Name x p4] [] p5) p6 :: sts) (tI (rc X) Ca sp G ((f, j) :: rem)) := by
  have he : PE X (.Call (.Name sf p3) [.Name x p4] [] p5) (tE X W (eCall sp (aCons (eVar j) aNil) G)) := se_call o hg hf (sa_cons rfl (se_var o hj (.inl hsx) hxd hxc) sa_nil) (fun ρ h xs h' e => by
    have e' : (EP.bnd (eVar j G ρ h) fun x h1 => RE.ok [x] h1) = RE.ok xs h' := e
    cases hq : eVar j G ρ h with
    | ok y h1 => rw [hq] at e'; cases e'; rfl
    | ex C fs h1 => rw [hq] at e'; cases e'
    | bad => rw [hq] at e'; cases e') hd (by rfl)
  have hself : PE X (.Name "self" p1) (tVar 0) := pe_var (i := 0) (by rw [o.N]; exact h0) (by unfold Vis; rw [o.names]; exact .inl hs0) (by decide) (by decide)
  refine (pss_cons (ps_ost hself he (swaps_noComp (e := .Call (.Name sf p3) [.Name x p4] [] p5) rfl _ _ _)) hr).imp fun D σ H ⟨a, od, gs, acc, xs, h, β, β0, H0, es, h2, e0, ea, ha0, hod, hl, x, rh, rf, par, hi, q⟩ => ?_
  cases xs with
  | nil => exact par.elim
  | cons x1 xs =>
    obtain ⟨⟨v, hv, rv⟩, par⟩ := par
    have rhH : RepH X.K X.mg β h H := dropO_un ea hod rh
    have hi' : (EP.bnd (G sp [x1] h) fun d h1 => EP.bnd (initLoop sp G xs h1) fun ds h2 => RE.ok (d :: ds) h2) = .ok es h2 := hi
    -- the value
    cases hq : G sp [x1] h with
    | ex C fs h1 => rw [hq] at hi'; cases hi'
    | bad => rw [hq] at hi'; cases hi'
    | ok y h1 =>
      rw [hq] at hi'
      simp only [EP.bnd] at hi'
      cases hq2 : initLoop sp G xs h1 with
      | ex C fs h1 => rw [hq2] at hi'; cases hi'
      | bad => rw [hq2] at hi'; cases hi'
      | ok es' h2' =>
        rw [hq2] at hi'
        simp only at hi'
        cases hi'
        have hjl : j < σ.length := (List.getElem?_eq_some_iff.mp hv).1
        have rs : RepS β H ((List.replicate σ.length none).set j (some x1)) σ := by
          refine ⟨by simp, fun i d e => ?_⟩
          by_cases hij : j = i
          · subst hij
            rw [List.getElem?_set_self (by simpa using hjl)] at e
            cases e
            exact ⟨v, hv, rv⟩
          · rw [List.getElem?_set_ne hij] at e
            have := List.mem_of_getElem? e
            have := List.eq_of_mem_replicate this
            cases this
        have ev : eVar j G ((List.replicate σ.length none).set j (some x1)) h = .ok x1 h := by
          unfold eVar
          rw [List.getElem?_set_self (by simpa using hjl)]
        have ec : eCall sp (aCons (eVar j) aNil) G ((List.replicate σ.length none).set j (some x1)) h = .ok y h1 := by
          unfold eCall aCons aNil
          rw [ev]
          simp only [EP.bnd]
          exact hq
        refine ⟨_, h, β, rs, rhH, ?_⟩
        rw [ec]
        intro β1 H1 w x1' rh1 rw1
        have ea1 : H1 a = some (exo a Ca od) := x1'.ext a _ ea
        refine ⟨.ref a, e0, a, Ca, rfl, T, hno, ?_⟩
        have hta : ∀ xs, H1 a ≠ some (.tup xs) := fun xs z => by rw [ea1] at z; cases z
        cases od with
        | none =>
          refine .inl ⟨ea1, fun dx hdx hne => ?_⟩
          have eD : dropO (upd (upd H1 dx (exd dx [(f, w)])) a (exo a Ca (some dx))) a (some dx) = dropH H1 a := by
            funext q
            show dropH (dropH _ dx) a q = _
            by_cases hqa : q = a
            · rw [hqa, dropH_same, dropH_same]
            · rw [dropH_ne hqa, dropH_ne hqa]
              by_cases hqd : q = dx
              · rw [hqd, dropH_same, hdx]
              · rw [dropH_ne hqd, upd_ne hqa, upd_ne hqd]
          have xD := x.trans (x1'.dropH a)
          have rhD : RepH X.K X.mg β1 h1 (dropH H1 a) := rh1.dropX ea1
          obtain ⟨rfl, rfl, _⟩ := hod
          have mm : ∀ p xs, H1 p = some (.tup xs) → upd (upd H1 dx (exd dx [(f, w)])) a (exo a Ca (some dx)) p = some (.tup xs) := fun p xs e => by
            rw [upd_ne (fun z => hta xs (by rw [← z]; exact e)), upd_ne (ne_of_none e hdx)]; exact e
          refine ⟨a, some dx, [(f, w)], [(f, y)], xs, h1, β1, β0, H0, es', h2, e0, upd_same, ha0, ⟨by rw [upd_ne hne]; exact upd_same, hne, xD.dom dx (by rw [dropH_ne hne]; exact hdx)⟩, by simp only [List.length_cons, List.length_nil] at hl ⊢; omega, ?_, ?_, ?_, (par.ext x1').mono mm, hq2, ?_⟩
          · rw [eD]; exact xD
          · rw [eD]; exact rhD
          · rw [eD]
            exact RepF.put (fun g => .inl ⟨rfl, rfl⟩) (rw1.drop hta)
          · intro β' H' d gs' y1 y2 y3 y4 y5 y6 y7
            refine q β' H' d gs' y1 y2 y3 y4 y5 y6 ?_
            simpa using y7
        | some d =>
          obtain ⟨ed, hda, hd0⟩ := hod
          have ed1 : H1 d = some (exd d gs) := x1'.ext d _ ed
          refine .inr ⟨d, gs, ea1, ed1, by have : gs.length + (rem.length + 1) ≤ 900 := hl; omega, ?_⟩
          have htd : ∀ xs, H1 d ≠ some (.tup xs) := fun xs z => by rw [ed1] at z; cases z
          have eD : dropO (upd H1 d (exd d ((f, w) :: gs))) a (some d) = dropH (dropH H1 d) a := by
            funext q
            show dropH (dropH _ d) a q = _
            by_cases hqa : q = a
            · rw [hqa, dropH_same, dropH_same]
            · rw [dropH_ne hqa, dropH_ne hqa]
              by_cases hqd : q = d
              · rw [hqd, dropH_same, dropH_same]
              · rw [dropH_ne hqd, dropH_ne hqd, upd_ne hqd]
          have xD := x.trans ((x1'.dropH d).dropH a)
          have ea2 : dropH H1 d a = some (exo a Ca (some d)) := by rw [dropH_ne (Ne.symm hda)]; exact ea1
          have rhD : RepH X.K X.mg β1 h1 (dropH (dropH H1 d) a) := (rh1.dropX ed1).dropX ea2
          have mm : ∀ p xs, H1 p = some (.tup xs) → upd H1 d (exd d ((f, w) :: gs)) p = some (.tup xs) := fun p xs e => by
            rw [upd_ne (fun z => htd xs (by rw [← z]; exact e))]; exact e
          refine ⟨a, some d, (f, w) :: gs, (f, y) :: acc, xs, h1, β1, β0, H0, es', h2, e0, by rw [upd_ne (Ne.symm hda)]; exact ea1, ha0, ⟨upd_same, hda, hd0⟩, by simp only [List.length_cons] at hl ⊢; omega, ?_, ?_, ?_, (par.ext x1').mono mm, hq2, ?_⟩
          · rw [eD]; exact xD
          · rw [eD]; exact rhD
          · rw [eD]
            refine RepF.put (rf.ext ((x1'.dropH d).dropH a)) ((rw1.drop htd).drop fun xs z => ?_)
            rw [ea2] at z; cases z
          · intro β' H' d' gs' y1 y2 y3 y4 y5 y6 y7
            refine q β' H' d' gs' y1 y2 y3 y4 y5 y6 ?_
            simpa using y7
end
end EP
end
section
set_option maxHeartbeats 1000000
set_option maxRecDepth 100000
/-! SndD: try, several clauses 'except C as e' (after HandS.Exc.ps_try_as and HandS.TryMany.ps_try_many). -/
namespace EP
open PySem PySem.Spec PyProof.Rows L2
structure HdS where
  c : Value
  i : Nat
  ts : Addr → Value → Option Addr → TS
def wAsM (K : PySem.W.Frag) (Wout : WX) (D : Ends) : List HdS → WX
  | [] => Wout
  | hd :: r => fun cls d σ H => ∃ b, PySem.W.exmOne K cls hd.c = some b ∧ (b = true → ∀ a, H a = none → hd.ts a cls d { nx := fun σ' H' => D.nx (σ'.set hd.i none) H', rt := D.rt, bk := fun σ' H' => D.bk (σ'.set hd.i none) H', ct := fun σ' H' => D.ct (σ'.set hd.i none) H' } (σ.set hd.i (some (.ref a))) H) ∧
    (b = false → wAsM K Wout D r cls d σ H)
inductive HdA (X : Cx) : List ExceptHandler → List HdS → Prop
  | nil : HdA X [] []
  | cons {x n : Str} {c : Value} {i : Nat} {ts : Addr → Value → Option Addr → TS} {b₀ : Stmt} {suite : List Stmt} {np pos' : Pos} {hds : List ExceptHandler} {l : List HdS} (hc : Names X x c) (hi : X.N[i]? = some n) (hln : X.env.kindOf n = some .local)
      (hsu : ∀ (a : Addr) (oe : Obj) (cls : Value) (d : Option Addr) (pn : List (Addr × Obj)), Zc cls d oe → (∃ vs, oe.data = .fields vs) → PSs (X.suite a ((a, oe) :: pn)) (b₀ :: suite) (ts a cls d)) (r : HdA X hds l) :
      HdA X (.ExceptHandler (some (.Name x np)) (some n) (b₀ :: suite) pos' :: hds) (⟨c, i, ts⟩ :: l)
section
variable {X : Cx} {body : List Stmt} {h₀ : ExceptHandler} {hds : List ExceptHandler} {l : List HdS} {pos : Pos} {tb : WX → TS} {Wout : WX}
theorem ps_try_asM (hs : X.stack = X.env :: X.outer) (hf : X.env.frame = some X.env.locals) (hN : X.N.Nodup) (tk : Takes X Wout)
    (hb : ∀ (W : WX) (pn : List (Addr × Obj)) (xe : Value → Shared → Prop), Takes (X.tr pn xe) W → PassesOwn (model X.prog X.w) X.A X.env xe → PSs (X.tr pn xe) body (tb W))
    (hh : HdA X (h₀ :: hds) l) : PS X (.Try body (h₀ :: hds) [] [] pos) (fun D σ H => tb (wAsM X.K Wout D l) D σ H) := by
  refine ⟨fun pins s σ H D I h => ?_⟩
  have ok := I.ok
  have hfr : X.A.frames = some (X.env :: X.outer) := by rw [ok.frames, hs]
  refine wpAny_Try_except ?_
  refine wpAny_mono ((hb (wAsM X.K Wout D l) (X.pn ++ pins) (fun e s₁ => wpAny (model X.prog X.w) X.A (noteFrame e X.env) (fun _ s₂ => wpAny (model X.prog X.w) X.A (setFlight e none) (fun _ s₃ =>
    wpAny (model X.prog X.w) X.A (handleBy e X.env (h₀ :: hds)) (SP X pins D) X.xe s₃) X.xe s₂) X.xe s₁) (fun u s' xx => ?_) PassesOwn.looking).run [] s σ H D (I.toTry _) h) (fun f s1 hsp => ?_) (fun e s1 he => he)
  · -- the catch
    obtain ⟨a, B, sI, pins', σ', H', cls, d, rfl, J', nb, up, sky, na, os, ag, w⟩ := xx
    have J : Inv X pins σ' H' sI := J'.ofTry ok
    have sky' : Sky B (X.env :: X.outer) a (Zc cls d) X.env.locals s'.heap := by rw [← hs]; exact sky
    show wpAny (model X.prog X.w) X.A (noteFrame (.ref a) X.env) _ _ _
    refine Sky.land Zc.steady hfr hf sky' fun h3 fl3 up3 => ?_
    have J3 : Inv X pins σ' H' { s' with heap := h3 } := J.landed nb fl3.1 (up.trans up3) os ag
    obtain ⟨oe3, vs3, he3, hz3, hd3⟩ := fl3.there
    have notFr : ∀ {h : Heap} {o : Obj} {vs : Array Value}, h.FunFrames B (X.env :: X.outer) → h.get? a = some o → o.data = .fields vs → a ∉ frs (X.env :: X.outer) := fun {h o vs} ff e dd hm => by
      obtain ⟨_, o', e', hnf⟩ := ff.mem hm
      rw [e] at e'; cases e'
      exact hnf _ dd
    have nfr := notFr fl3.2.2.1 he3 hd3
    have nL : a ≠ X.env.locals := fun z => nfr (List.mem_filterMap.mpr ⟨X.env, List.mem_cons_self, by rw [hf, z]⟩)
    have nF : a ∉ X.fs := fun hm => by
      obtain ⟨e, he, q⟩ := List.mem_filterMap.mp hm
      exact nfr (List.mem_filterMap.mpr ⟨e, List.mem_cons_of_mem _ he, q⟩)
    have S3 := J3.suite he3 hd3 na nL nF
    have go : ∀ {hds' : List ExceptHandler} {l' : List HdS}, HdA X hds' l' → wAsM X.K Wout D l' cls d σ' H' →
        wpAny (model X.prog X.w) X.A (handleBy (.ref a) X.env hds') (SP X pins D) X.xe { s' with heap := h3 } := by
      intro hds' l' hk
      induction hk with
      | nil =>
        intro w
        refine wpAny_handleBy_nil ?_
        obtain ⟨k1, k2, k3, oe, vs, T, oT, ts', he, hz, hd, h1, hr⟩ := id fl3
        unfold PySem.passOn
        refine wpAny_bind (wpAny_field he hd h1 ?_)
        rw [if_neg (show ¬ ((Value.ref T == Value.none) = true) from by simp)]
        have fin : wpAny (model X.prog X.w) X.A (setFlight (.ref a) X.env.frame) (fun _ s4 => wpAny (model X.prog X.w) X.A (throw (.ref a) : Sem Flow) (SP X pins D) X.xe s4) X.xe { s' with heap := h3 } := by
          rw [hf]
          refine HandSPX.setFlight_upZ fl3 fun h4 hh4 up4 => wpAny_throw (tk _ _ ?_)
          exact ⟨a, B, sI, pins, σ', H', cls, d, rfl, J, nb, (up.trans up3).trans up4, .inr (.inr (by rw [hs]; exact hh4)), na, os, ag, w⟩
        first
          | exact wpAny_bind (wpAny_pure (wpAny_bind fin))
          | exact wpAny_bind fin
      | @cons x n c i ts b₀ suite np pos' hds2 l2 hc hi hln hsu r ih =>
        have hloc : Loc X.env.scope n := .inl hln
        intro w
        obtain ⟨b, hb1, hyes, hno⟩ := w
        refine wpAny_handleBy_cons (codeAny_handlers_test ?_) (by intro q; cases q)
        have LT : PySem.W.Looks (model X.prog X.w) h3 (typeOf (.ref a)) cls := fun A Q E s k q => wpAny_typeOf_ref (k _ _ he3) (by rw [hz3.1]; exact q)
        have LM := PySem.W.exm_one (M := model X.prog X.w) (J3.kIn) LT hb1
        have test : ∀ {Q : Value → Shared → Prop} {E : Value → Shared → Prop}, Q c { s' with heap := h3 } → wpAny (model X.prog X.w) (X.A.mark (some (.ref a))) (eval (.Name x np) X.env) Q E { s' with heap := h3 } := fun {Q E} q => by
          obtain ⟨hg, hdbg, hm | ⟨hm, hv, hnn⟩⟩ := hc
          · exact ld_glob (X := X.suite a ((a, oe3) :: (X.pn ++ pins))) S3 hg hm q hdbg
          · exact ld_blt (X := X.suite a ((a, oe3) :: (X.pn ++ pins))) S3 hg hm hv q hnn hdbg
        refine test (LM.here ?_)
        cases b with
        | true =>
          refine codeAny_handlers_suite_as ?_
          refine HandSPX.lands_againZ fl3 fun h4 fl4 up4 => ?_
          have J4 : Inv X pins σ' H' { s' with heap := h4 } := J.landed nb fl4.1 ((up.trans up3).trans up4) os ag
          obtain ⟨oe4, vs4, he4, hz4, hd4⟩ := fl4.there
          have S4 := J4.suite he4 hd4 na nL nF
          refine store_ok (X := X.suite a ((a, oe4) :: (X.pn ++ pins))) (v := .ref a) S4 hN hi hloc rfl (fun s5 S5 => ?_) (.inr hln)
          refine wpAny_mono ((hsu a oe4 cls d (X.pn ++ pins) hz4 ⟨_, hd4⟩).run [] s5 _ H' _ S5 (hyes rfl a na)) (fun f s6 hsp => ?_) (fun _ _ z => False.elim z)
          have end_ : ∀ {σ6 : L2.St} {H6 : Hp} {Q : Shared → Prop}, Inv (X.suite a ((a, oe4) :: (X.pn ++ pins))) [] σ6 H6 s6 → (∀ s7, Inv X pins (σ6.set i none) H6 s7 → Q s7) →
              wpAny (model X.prog X.w) X.A (do bindName X.env n .none; unbindBehindTheSuite X.env n pos') (fun _ s7 => Q s7) X.xe s6 := fun {σ6 H6 Q} S6 hq => gone_ok (S6.unsuite ok) hN hi hln hq
          cases f with
          | next =>
            obtain ⟨σ6, H6, S6, q6⟩ := hsp
            exact end_ S6 fun s7 J7 => ⟨_, _, J7, q6⟩
          | brk =>
            obtain ⟨σ6, H6, S6, q6⟩ := hsp
            exact end_ S6 fun s7 J7 => ⟨_, _, J7, q6⟩
          | cont =>
            obtain ⟨σ6, H6, S6, q6⟩ := hsp
            exact end_ S6 fun s7 J7 => ⟨_, _, J7, q6⟩
          | ret u =>
            obtain ⟨v6, σ6, H6, S6, r6, q6⟩ := hsp
            exact end_ S6 fun s7 J7 => ⟨_, _, _, J7, r6, q6⟩
        | false =>
          show wpAny _ X.A (handleBy (.ref a) X.env hds2) _ _ _
          exact ih (hno rfl)
    exact go hh w
  · cases f with
    | next =>
      obtain ⟨σ', H', J', q⟩ := hsp
      exact wpAny_execs_nil ⟨σ', H', J'.ofTry ok, q⟩
    | brk =>
      obtain ⟨σ', H', J', q⟩ := hsp
      exact ⟨σ', H', J'.ofTry ok, q⟩
    | cont =>
      obtain ⟨σ', H', J', q⟩ := hsp
      exact ⟨σ', H', J'.ofTry ok, q⟩
    | ret u =>
      obtain ⟨v, σ', H', J', r, q⟩ := hsp
      exact ⟨v, σ', H', J'.ofTry ok, r, q⟩
end
end EP
end
section
set_option maxHeartbeats 1000000
/-! SndE: try. -/
namespace EP
open PySem PySem.Spec PyProof.Rows L2
/-- a suite's readings: a the exception at slot i, cls its class, d its dict -/
def tX {α γ : Type} (Y : Cx) (a : Addr) (cls : Value) (d : Option Addr) (i : Nat) (Rel : List Addr → Hp → α → γ → Prop) (g : Str → Fs → Env → M α) : L2.St → Hp → (γ → Hp → Prop) → Prop := fun σ H Q =>
  ∃ C fs ρ h β, Y.mg C = some cls ∧ RepX β H fs d ∧ σ[i]? = some (some (.ref a)) ∧ RepS β H ρ σ ∧ RepH Y.K Y.mg β h H ∧ Post (rc Y) W0 σ β H Rel Q (g C fs ρ h)
def tXS (Y : Cx) (a : Addr) (cls : Value) (d : Option Addr) (i : Nat) (g : Str → Fs → Env → MH → RS) : TS := fun D σ H =>
  ∃ C fs ρ h β, Y.mg C = some cls ∧ RepX β H fs d ∧ σ[i]? = some (some (.ref a)) ∧ RepS β H ρ σ ∧ RepH Y.K Y.mg β h H ∧ PostS (rc Y) W0 D β H (g C fs ρ h)
theorem RepX.ext {β β' : List Addr} {H H' : Hp} {fs : Fs} {d : Option Addr} (x : Ext β β' H H') (r : RepX β H fs d) : RepX β' H' fs d := by
  cases d with
  | none => exact r
  | some dd => obtain ⟨gs, h1, h2⟩ := r; exact ⟨gs, x.xd _ _ h1, h2.ext x⟩
section
variable {Γ : Ctx} {G : Orc} {k : Nat} {W : WX} {X : Cx} {pos : Pos} {a : Addr} {oe : Obj} {cls : Value} {d : Option Addr} {pn : List (Addr × Obj)} {i : Nat} {e b : Expr} {es : List Expr} {fe fb : XE} {fs : XA}
abbrev sx (X : Cx) (a : Addr) (oe : Obj) (pn : List (Addr × Obj)) : Cx := X.suite a ((a, oe) :: pn)
abbrev tXE (X : Cx) (a : Addr) (oe : Obj) (cls : Value) (d : Option Addr) (pn : List (Addr × Obj)) (i : Nat) (G : Orc) (fe : XE) : TE := tX (sx X a oe pn) a cls d i RepV fun C fs => fe C fs G
abbrev tXA (X : Cx) (a : Addr) (oe : Obj) (cls : Value) (d : Option Addr) (pn : List (Addr × Obj)) (i : Nat) (G : Orc) (fe : XA) : TA := tX (sx X a oe pn) a cls d i RepVs fun C fs => fe C fs G
abbrev tXT (X : Cx) (a : Addr) (oe : Obj) (cls : Value) (d : Option Addr) (pn : List (Addr × Obj)) (i : Nat) (G : Orc) (s : XS) : TS := tXS (sx X a oe pn) a cls d i fun C fs => s C fs G
theorem xe_var {j : Nat} {x : Str} (o : XOk Γ G k W X) (hN : Γ.N[j]? = some x) (hv : Γ.names.lookup x = some .local ∨ Γ.names.lookup x = some .cell ∨ Γ.names.lookup x = some .free)
    (hd : (x == ("__debug__" : Str)) = false) (hcd : (x == ("__classdict__" : Str)) = false) : PE (sx X a oe pn) (.Name x pos) (tXE X a oe cls d pn i G (fun _ _ => eVar j)) := by
  refine PE.imp (pe_var (i := j) (by show X.N[j]? = _; rw [o.N]; exact hN) (by show Vis X.env.scope x; unfold Vis; rw [o.names]; exact hv) hd hcd) fun σ H Q ⟨C, fs, ρ, h, β, hm, rx, hs, rs, rh, p⟩ => ?_
  change Post _ _ _ _ _ _ _ (eVar j G ρ h) at p
  unfold eVar at p
  split at p
  · rename_i d e
    obtain ⟨v, e1, r⟩ := rs.at_ j d e
    exact ⟨v, e1, p.here rh r⟩
  · exact p.elim
theorem xe_c {e : Expr} {z : Dt} {v : V} (h : PE (sx X a oe pn) e (tC v)) (r : ∀ β H, RepV β H z v) : PE (sx X a oe pn) e (tXE X a oe cls d pn i G (fun _ _ => eC z)) :=
  h.imp fun σ H Q ⟨C, fs, ρ, h, β, hm, rx, hs, rs, rh, p⟩ => p.here rh (r β H)
theorem xe_int {z : Int} {j : Nat} : PE (sx X a oe pn) (.Constant (.int z) j pos) (tXE X a oe cls d pn i G (fun _ _ => eC (.int z))) := xe_c pe_int fun _ _ => .int z
theorem xe_bl {z : Bool} {j : Nat} : PE (sx X a oe pn) (.Constant (.bool z) j pos) (tXE X a oe cls d pn i G (fun _ _ => eC (.bl z))) := xe_c pe_bl fun _ _ => .bl z
theorem xe_non {j : Nat} : PE (sx X a oe pn) (.Constant .none j pos) (tXE X a oe cls d pn i G (fun _ _ => eC .non)) := xe_c pe_non fun _ _ => .non
theorem xe_str {z : Str} {j : Nat} : PE (sx X a oe pn) (.Constant (.str z) j pos) (tXE X a oe cls d pn i G (fun _ _ => eC (.str z))) := xe_c pe_str fun _ _ => .str z
theorem xa_nil : PA (sx X a oe pn) [] (tXA X a oe cls d pn i G (fun _ _ => aNil)) := pa_nil.imp fun σ H Q ⟨C, fs, ρ, h, β, hm, rx, hs, rs, rh, p⟩ => p.here rh .nil
theorem xa_cons (he : smp e = true) (ha : PE (sx X a oe pn) e (tXE X a oe cls d pn i G fe)) (hr : PA (sx X a oe pn) es (tXA X a oe cls d pn i G fs)) : PA (sx X a oe pn) (e :: es) (tXA X a oe cls d pn i G (fun C f => aCons (fe C f) (fs C f))) :=
  (pa_cons ha hr (star_smp he _ _)).imp fun σ H Q ⟨C, f, ρ, h, β, hm, rx, hs, rs, rh, p⟩ => ⟨C, f, ρ, h, β, hm, rx, hs, rs, rh, p.bnd fun x h1 β1 H1 v x1 rh1 rv1 p1 => ⟨C, f, ρ, h1, β1, hm, rx.ext x1, hs, rs.ext x1, rh1, p1.bnd fun xs h2 β2 H2 vs x2 rh2 rv2 p2 => p2.here rh2 (.cons (rv1.ext x2) rv2)⟩⟩
theorem xe_tup {j : Nat} (ha : PA (sx X a oe pn) es (tXA X a oe cls d pn i G fs)) : PE (sx X a oe pn) (.Tuple es j pos) (tXE X a oe cls d pn i G (fun C f => eTup (fs C f))) :=
  (pe_tup ha).imp fun σ H Q ⟨C, f, ρ, h, β, hm, rx, hs, rs, rh, p⟩ => ⟨C, f, ρ, h, β, hm, rx, hs, rs, rh, p.bnd fun xs h1 β1 H1 vs x1 rh1 rv1 p1 => p1.newT rh1 rv1⟩
theorem xe_or {rest : List Expr} (ha : PE (sx X a oe pn) e (tXE X a oe cls d pn i G fe)) (hb : PE (sx X a oe pn) (.BoolOp .Or (b :: rest) pos) (tXE X a oe cls d pn i G fb)) : PE (sx X a oe pn) (.BoolOp .Or (e :: b :: rest) pos) (tXE X a oe cls d pn i G (fun C f => eOr (fe C f) (fb C f))) :=
  (pe_or ha hb).imp fun σ H Q ⟨C, f, ρ, h, β, hm, rx, hs, rs, rh, p⟩ => ⟨C, f, ρ, h, β, hm, rx, hs, rs, rh, p.bnd fun x h1 β1 H1 v x1 rh1 rv1 p1 => by
    split at p1
    · cases rv1; exact ⟨true, rfl, iteT (p1.here rh1 (.bl _))⟩
    · cases rv1; exact ⟨false, rfl, iteF ⟨C, f, ρ, h1, β1, hm, rx.ext x1, hs, rs.ext x1, rh1, p1⟩⟩
    · exact p1.elim⟩
/-- e.f -/
theorem xe_fld {n f : Str} {p1 : Pos} (o : XOk Γ G k W X) (hN : Γ.N[i]? = some n) (hv : Γ.names.lookup n = some .local) (hd : (n == ("__debug__" : Str)) = false) (hcd : (n == ("__classdict__" : Str)) = false) (hz : Zc cls d oe) (hf : ∃ vs, oe.data = .fields vs) :
    PE (sx X a oe pn) (.Attribute (.Name n p1) f pos) (tXE X a oe cls d pn i G (xF Γ.tab.flds f)) := by
  have hvar : PE (sx X a oe pn) (.Name n p1) (tVar i) := pe_var (i := i) (by show X.N[i]? = _; rw [o.N]; exact hN) (by show Vis X.env.scope n; unfold Vis; rw [o.names]; exact .inl hv) hd hcd
  refine ⟨fun pins s σ H Q I q => ?_⟩
  obtain ⟨C, fs, ρ, h, β, hm, rx, hs, rs, rh, p⟩ := q
  have hm' : X.mg C = some cls := hm
  unfold xF at p
  simp only at p
  split at p
  · rename_i l el
    split at p
    · rename_i hfl
      split at p
      · rename_i dt ed
        obtain ⟨Ca, mC, T, na⟩ := o.flds C l el
        rw [hm'] at mC
        cases mC
        refine (pe_xf (X := X) (a := a) (oe := oe) (d := d) (pn := pn) T (na f (by simpa using hfl)) hz hf hvar rfl).run pins s σ H Q I ?_
        refine ⟨.ref a, hs, rfl, rfl, ?_⟩
        cases d with
        | none =>
          have e0 : fs = [] := rx
          subst e0
          cases ed
        | some dd =>
          obtain ⟨gs, h1, h2⟩ := rx
          rcases h2 f with ⟨z, _⟩ | ⟨d', v, e1, e2, e3⟩
          · rw [z] at ed; cases ed
          · rw [e1] at ed; cases ed
            exact ⟨dd, gs, v, rfl, h1, e2, p.here rh e3⟩
      · exact p.elim
    · exact p.elim
  · exact p.elim
/-- isinstance(e, T) -/
def rIsX (K : PySem.W.Frag) (Ca a : Addr) (d : Option Addr) : List V → Hp → VK → Prop := fun xs H Q => ∃ (Da : Addr) (b : Bool), xs = [.ref a, .ref Da] ∧ PySem.W.kitOne K (.ref Ca) (.ref Da) = some b ∧
  (∀ dd, d = some dd → ∃ gs, H dd = some (.xd gs)) ∧ Q (.bl b) H
theorem call_isX {C D : Str} {b0 : Bool} {Ca : Addr} (mC : X.mg C = some (.ref Ca)) (C0 : SubAt X.K X.mg C D b0) (hz : Zc (.ref Ca) d oe) (hf : ∃ vs, oe.data = .fields vs) : CallR (sx X a oe pn) (.builtin "isinstance") (rIsX X.K Ca a d) := by
  intro pins s σ H xs us Q I r h
  obtain ⟨Da, b, rfl, e, hdd, q⟩ := h
  obtain ⟨Ca', Da', m1, m2, _, _, k1, k2, k3, k4, k5, k6, k7, k8⟩ := C0
  rw [mC] at m1; cases m1
  cases r with
  | cons rx rr =>
    cases rr with
    | cons rt rr =>
      cases rr
      cases rx
      cases rt
      obtain ⟨hget, _⟩ := I.pin (a, oe) (List.mem_append.mpr (.inl List.mem_cons_self))
      obtain ⟨vs, hv⟩ := hf
      have J : ∃ od, PySem.W.InstAt s.heap a oe Ca od := by
        cases d with
        | none =>
          refine ⟨none, hget, hz.1, by unfold PySem.W.notCls; rw [hv], by rw [hz.2]; trivial⟩
        | some dd =>
          obtain ⟨gs, hgs⟩ := hdd dd rfl
          have hx : ObjOk X.prog X.w H s.heap dd (.xd gs) := I.hok dd _ hgs
          obtain ⟨mA, hns, hr⟩ := hx
          obtain ⟨od, ho, hl⟩ := lookIn_ns hns
          exact ⟨some od, hget, hz.1, by unfold PySem.W.notCls; rw [hv], by rw [hz.2]; exact ho⟩
      obtain ⟨od, J⟩ := J
      exact PySem.W.kia_one (PySem.W.kitx_exc (od := od) k1 k2 k3 k4 k5 k6 k7 k8) I.kIn J e (fun z => nomatch z) fun tk => ⟨.bl b, H, I.kept (t' := tk) fun _ _ z => z, rfl, q⟩
theorem xe_is {n T x : Str} {p1 p2 p3 : Pos} (o : XOk Γ G k W X) (hx : x = "isinstance") (hN : Γ.N[i]? = some n) (hv : Γ.names.lookup n = some .local) (hd : (n == ("__debug__" : Str)) = false) (hcd : (n == ("__classdict__" : Str)) = false) (hz : Zc cls d oe) (hf : ∃ vs, oe.data = .fields vs)
    (hg : Γ.names.lookup x = some .globalImplicit) (hm : x ∈ Γ.tab.free) (hgT : Γ.names.lookup T = some .globalImplicit) (hdT : (T == ("__debug__" : Str)) = false) :
    PE (sx X a oe pn) (.Call (.Name x p1) [.Name n p2, .Name T p3] [] pos) (tXE X a oe cls d pn i G (xIs Γ.tab.sub T)) := by
  subst hx
  have hvar : PE (sx X a oe pn) (.Name n p2) (tVar i) := pe_var (i := i) (by show X.N[i]? = _; rw [o.N]; exact hN) (by show Vis X.env.scope n; unfold Vis; rw [o.names]; exact .inl hv) hd hcd
  refine ⟨fun pins s σ H Q I q => ?_⟩
  obtain ⟨C, fs, ρ, h, β, hmC, rx, hs, rs, rh, p⟩ := q
  have hm' : X.mg C = some cls := hmC
  unfold xIs at p
  simp only at p
  split at p
  · rename_i b eb
    have S := o.subs C T b eb
    obtain ⟨Ca, Da, m1, m2, _, k0, _⟩ := id S
    rw [hm'] at m1
    cases m1
    have hgl : PE (sx X a oe pn) (.Name T p3) (tC (.ref Da)) := pe_glob (v := .ref Da) (u := .ref Da) (gl_of o hgT) m2 rfl hdT
    refine (pe_callB (call_isX hm' S hz hf) (gl_of o hg) (o.free _ hm) boot_isinstance (pa_cons hvar (pa_cons hgl pa_nil (by rfl)) (by rfl)) (by decide) (by decide) (by rfl) (by rfl)).run pins s σ H Q I ?_
    refine ⟨.ref a, hs, Da, b, rfl, k0, fun dd e => ?_, p.here rh (.bl _)⟩
    subst e
    obtain ⟨gs, h1, _⟩ := rx
    exact ⟨gs, h1⟩
  · exact p.elim
/-! ### a suite's statements -/
variable {st : Stmt} {sts : List Stmt} {s s' : XS}
theorem xs_nil : PSs (sx X a oe pn) [] (tXT X a oe cls d pn i G (fun _ _ => sSkip)) := pss_nil.imp fun D σ H ⟨C, f, ρ, h, β, hm, rx, hs, rs, rh, p⟩ => p.nx rs rh
theorem xs_ret (he : PE (sx X a oe pn) e (tXE X a oe cls d pn i G fe)) : PSs (sx X a oe pn) [.Return (some e) pos] (tXT X a oe cls d pn i G (fun C f => sRet (fe C f))) :=
  (pss_one (ps_ret he)).imp fun D σ H ⟨C, f, ρ, h, β, hm, rx, hs, rs, rh, p⟩ => ⟨C, f, ρ, h, β, hm, rx, hs, rs, rh, p.bnd rs fun x h1 β1 H1 v x1 rh1 rs1 rv1 p1 => p1.rt rv1 rh1⟩
/-- x = e, then the rest -/
theorem xs_set {j : Nat} {x : Str} {p1 : Pos} (o : XOk Γ G k W X) (hj : Γ.N[j]? = some x) (hx : Γ.names.lookup x = some .local) (hji : j ≠ i) (he : PE (sx X a oe pn) e (tXE X a oe cls d pn i G fe)) (hn : noComp e = true) (hr : PSs (sx X a oe pn) sts (tXT X a oe cls d pn i G s)) :
    PSs (sx X a oe pn) (.Assign [.Name x p1] e pos :: sts) (tXT X a oe cls d pn i G (fun C f => sSeq (sSet (.nm j) (fe C f)) (s C f))) :=
  (pss_cons (ps_set (i := j) (by show X.N.Nodup; rw [o.N]; exact o.nd) (by show X.N[j]? = _; rw [o.N]; exact hj) (.inl (by show X.env.scope.names.lookup x = _; rw [o.names]; exact hx)) he (swaps_noComp hn _ _ _) (.inr (by show X.env.scope.names.lookup x = _; rw [o.names]; exact hx))) hr).imp
    fun D σ H ⟨C, f, ρ, h, β, hm, rx, hs, rs, rh, p⟩ => by
      refine ⟨C, f, ρ, h, β, hm, rx, hs, rs, rh, ?_⟩
      have p' : PostS (rc (sx X a oe pn)) W0 D β H (EP.bndS ρ (fe C f G ρ h) fun z h1 => s C f G (ρ.set j (some z)) h1) := by
        have e : sSeq (sSet (.nm j) (fe C f)) (s C f) G ρ h = EP.bndS ρ (fe C f G ρ h) fun z h1 => s C f G (ρ.set j (some z)) h1 := by
          unfold sSeq sSet EP.bndS
          cases fe C f G ρ h <;> rfl
        rw [← e]; exact p
      exact p'.bnd rs fun x h1 β1 H1 v x1 rh1 rs1 rv1 p1 => ⟨C, f, _, h1, β1, hm, rx.ext x1, by rw [List.getElem?_set_ne hji]; exact hs, rs1.set j rv1, rh1, p1⟩
/-! ### try -/
theorem XOk.tr {W' : WX} (o : XOk Γ G k W X) {pn : List (Addr × Obj)} {xe : Value → Shared → Prop} (tk : Takes (X.tr pn xe) W') (po : PassesOwn (model X.prog X.w) X.A X.env xe) : XOk Γ G k W' (X.tr pn xe) where
  N := o.N
  nd := o.nd
  names := o.names
  kind := o.kind
  calm := o.calm
  tk := tk
  po := po
  room := o.room
  stor := o.stor
  fns := fun x n ar h => ⟨(o.fns x n ar h).ex⟩
  nums := o.nums
  free := o.free
  excs := fun C n names h => ⟨(o.excs C n names h).ex⟩
  subs := o.subs
  flds := o.flds
  exc0 := o.exc0
  top := o.top
/-- the clauses -/
inductive HdX (Γ : Ctx) (G : Orc) (k : Nat) : List ExceptHandler → List (Str × Nat × XS) → Prop
  | nil : HdX Γ G k [] []
  | cons {D n : Str} {i : Nat} {b₀ : Stmt} {suite : List Stmt} {np pos' : Pos} {hds : List ExceptHandler} {l : List (Str × Nat × XS)} {s : XS} (hg : Γ.names.lookup D = some .globalImplicit) (hd : (D == ("__debug__" : Str)) = false) (hi : Γ.N[i]? = some n) (hln : Γ.names.lookup n = some .local) (hD : ∃ C b, Γ.tab.sub C D = some b)
      (hsu : ∀ (X : Cx) (W : WX) (a : Addr) (oe : Obj) (cls : Value) (d : Option Addr) (pn : List (Addr × Obj)), XOk Γ G k W X → Zc cls d oe → (∃ vs, oe.data = .fields vs) → PSs (sx X a oe pn) (b₀ :: suite) (tXT X a oe cls d pn i G s)) (r : HdX Γ G k hds l) :
      HdX Γ G k (.ExceptHandler (some (.Name D np)) (some n) (b₀ :: suite) pos' :: hds) ((D, i, s) :: l)
theorem hdx_a (o : XOk Γ G k W X) {hds : List ExceptHandler} {l : List (Str × Nat × XS)} (hh : HdX Γ G k hds l) : ∃ l' : List HdS, HdA X hds l' ∧ ∀ (D : Ends) (C : Str) (fs : Fs) (ρ : Env) (h : MH) (β : List Addr) (H : Hp) (σ : L2.St) (Cv : Value) (od : Option Addr),
    RepS β H ρ σ → RepH X.K X.mg β h H → X.mg C = some Cv → RepX β H fs od → PostS (rc X) W D β H (runH Γ.tab.sub C fs G l ρ h) → wAsM X.K W D l' Cv od σ H := by
  induction hh with
  | nil => exact ⟨[], .nil, fun D C fs ρ h β H σ Cv od rs rh hm rx p => p β H σ Cv od (Ext.refl _ _) rh rs hm rx⟩
  | @cons D n i b₀ suite np pos' hds l s hg hd hi hln hD hsu r ih =>
    obtain ⟨l', h1, h2⟩ := ih
    obtain ⟨C0, b0, hs0⟩ := hD
    obtain ⟨_, Da, _, mD, _⟩ := o.subs _ _ _ hs0
    refine ⟨⟨.ref Da, i, fun a cls d => tXS X a cls d i fun C fs => s C fs G⟩ :: l', .cons ⟨gl_of o hg, hd, .inl mD⟩ (by rw [o.N]; exact hi) (by unfold PySem.Env.kindOf; rw [o.names]; exact hln) (fun a oe cls d pn hz hf => hsu X W a oe cls d pn o hz hf) h1, ?_⟩
    intro DD C fs ρ h β H σ Cv od rs rh hm rx p
    unfold runH at p
    cases hs : Γ.tab.sub C D with
    | none => rw [hs] at p; exact p.elim
    | some b =>
      rw [hs] at p
      obtain ⟨Ca, Da', mC, mD', kx, _⟩ := o.subs _ _ _ hs
      rw [hm] at mC
      cases mC
      rw [mD] at mD'
      cases mD'
      refine ⟨b, kx, fun e a na => ?_, fun e => ?_⟩
      · subst e
        simp only at p
        split at p
        case isFalse => exact p.elim
        rename_i hil
        refine ⟨C, fs, ρ.set i none, h, β, hm, rx, ?_, ?_, rh, ?_⟩
        · rw [List.getElem?_set_self (by rw [← rs.len]; exact hil)]
        · refine ⟨by simp [rs.len], fun j d' e => ?_⟩
          by_cases hj : i = j
          · subst hj
            by_cases hl : i < ρ.length
            · rw [List.getElem?_set_self hl] at e; cases e
            · rw [List.getElem?_eq_none (by simpa using hl)] at e; cases e
          · rw [List.getElem?_set_ne hj] at e ⊢
            exact rs.at_ j d' e
        · show PostS _ _ _ _ _ (s C fs G (ρ.set i none) h)
          cases hr : s C fs G (ρ.set i none) h with
          | nx ρ2 h2 =>
            rw [hr] at p
            intro β' H' σ' x rh' rs'
            refine p β' H' _ x rh' ⟨by simp [rs'.len], fun j d' e => ?_⟩
            by_cases hj : i = j
            · subst hj
              by_cases hl : i < ρ2.length
              · rw [List.getElem?_set_self hl] at e; cases e
              · rw [List.getElem?_eq_none (by simpa using hl)] at e; cases e
            · rw [List.getElem?_set_ne hj] at e ⊢
              exact rs'.at_ j d' e
          | rt d h2 => rw [hr] at p; exact p
          | bk ρ2 h2 => rw [hr] at p; exact p.elim
          | ct ρ2 h2 => rw [hr] at p; exact p.elim
          | ex C2 f2 ρ2 h2 => rw [hr] at p; exact p.elim
          | bad => rw [hr] at p; exact p.elim
      · subst e
        exact h2 DD C fs ρ h β H σ _ od rs rh hm rx p
theorem ss_try {body : List Stmt} {h₀ : ExceptHandler} {hds : List ExceptHandler} {l : List (Str × Nat × XS)} {sb : SS} (o : XOk Γ G k W X) (ht : Γ.top = true) (hb : ∀ X' W', XOk Γ G k W' X' → PSs X' body (tS X' W' (sb G))) (hh : HdX Γ G k (h₀ :: hds) l) : PS X (.Try body (h₀ :: hds) [] [] pos) (tS X W (sTry Γ.tab.sub sb l G)) := by
  obtain ⟨l', h1, h2⟩ := hdx_a o hh
  refine (ps_try_asM (tb := fun W' => tS X W' (sb G)) (o.top ht).1 (o.top ht).2 (by rw [o.N]; exact o.nd) o.tk (fun W' pn xe tk po => hb _ W' (o.tr tk po)) h1).imp fun D σ H ⟨ρ, h, β, rs, rh, p⟩ => ⟨ρ, h, β, rs, rh, ?_⟩
  unfold sTry at p
  cases hq : sb G ρ h with
  | ex C fs ρ1 h1 =>
    rw [hq] at p
    exact fun β' H' σ' Cv od x rh' rs' hm rx => h2 D C fs ρ1 h1 β' H' σ' Cv od rs' rh' hm rx (PostS.ext x p)
  | nx ρ1 h1 => rw [hq] at p; exact p
  | rt d h1 => rw [hq] at p; exact p
  | bk ρ1 h1 => rw [hq] at p; exact p
  | ct ρ1 h1 => rw [hq] at p; exact p
  | bad => rw [hq] at p; exact p
end
end EP
end
section
set_option maxHeartbeats 1000000
/-! Cmp: from the program's trees to their meanings; expressions. -/
namespace EP
open PySem PySem.Spec PyProof.Rows L2

def gd {α : Type} (b : Bool) (x : Option α) : Option α := if b = true then x else none
theorem gd_some {α : Type} {b : Bool} {x : Option α} {r : α} (h : gd b x = some r) : b = true ∧ x = some r := by
  unfold gd at h
  split at h
  · exact ⟨by assumption, h⟩
  · cases h
def o2 {α β γ : Type} (x : Option α) (y : Option β) (f : α → β → γ) : Option γ := x.bind fun a => y.map (f a)
theorem o2_some {α β γ : Type} {x : Option α} {y : Option β} {f : α → β → γ} {r : γ} (h : o2 x y f = some r) : ∃ a b, x = some a ∧ y = some b ∧ f a b = r := by
  unfold o2 at h
  obtain ⟨a, h1, h2⟩ := Option.bind_eq_some_iff.mp h
  obtain ⟨b, h3, h4⟩ := Option.map_eq_some_iff.mp h2
  exact ⟨a, b, h1, h3, h4⟩
def o3 {α β γ δ : Type} (x : Option α) (y : Option β) (z : Option γ) (f : α → β → γ → δ) : Option δ := x.bind fun a => o2 y z (f a)
theorem o3_some {α β γ δ : Type} {x : Option α} {y : Option β} {z : Option γ} {f : α → β → γ → δ} {r : δ} (h : o3 x y z f = some r) : ∃ a b c, x = some a ∧ y = some b ∧ z = some c ∧ f a b c = r := by
  unfold o3 at h
  obtain ⟨a, h1, h2⟩ := Option.bind_eq_some_iff.mp h
  obtain ⟨b, c, h3, h4, h5⟩ := o2_some h2
  exact ⟨a, b, c, h1, h3, h4, h5⟩

def ixOf (N : List Str) (x : Str) : Option Nat := (N.findIdx? fun y => decide (y = x)).bind fun i => gd (decide (N[i]? = some x)) (some i)
theorem ixOf_some {N : List Str} {x : Str} {i : Nat} (h : ixOf N x = some i) : N[i]? = some x := by
  unfold ixOf at h
  obtain ⟨j, _, h2⟩ := Option.bind_eq_some_iff.mp h
  obtain ⟨h3, h4⟩ := gd_some h2
  cases h4
  exact of_decide_eq_true h3
def okN (x : Str) : Bool := !(x == ("__debug__" : Str)) && !(x == ("__classdict__" : Str))
theorem okN_ok {x : Str} (h : okN x = true) : (x == ("__debug__" : Str)) = false ∧ (x == ("__classdict__" : Str)) = false := by
  unfold okN at h
  simp only [Bool.and_eq_true, Bool.not_eq_true'] at h
  exact h
def visK : NameKind → Bool
  | .local => true | .cell => true | .free => true | _ => false
def isGl (Γ : Ctx) (x : Str) : Bool := decide (Γ.names.lookup x = some .globalImplicit)
def isFr (Γ : Ctx) (x : Str) : Bool := decide (x ∈ Γ.tab.free)
def cVar (Γ : Ctx) (x : Str) : Option SE := match Γ.names.lookup x with
  | some .globalImplicit => gd (okN x) ((Γ.tab.nums.lookup x).map fun i => eC (.int i))
  | some k => gd (visK k && okN x) ((ixOf Γ.N x).map eVar)
  | none => none
theorem cVar_ok {Γ : Ctx} {x : Str} {f : SE} (h : cVar Γ x = some f) {pos : Pos} {G : Orc} {k : Nat} {W : WX} {X : Cx} (o : XOk Γ G k W X) : PE X (.Name x pos) (tE X W (f G)) := by
  unfold cVar at h
  split at h
  · rename_i hl
    obtain ⟨h1, h2⟩ := gd_some h
    obtain ⟨i, h3, rfl⟩ := Option.map_eq_some_iff.mp h2
    exact se_num o hl h3 (okN_ok h1).1
  · rename_i kk _ hl
    obtain ⟨h1, h2⟩ := gd_some h
    simp only [Bool.and_eq_true] at h1
    obtain ⟨i, h3, rfl⟩ := Option.map_eq_some_iff.mp h2
    refine se_var o (ixOf_some h3) ?_ (okN_ok h1.2).1 (okN_ok h1.2).2
    cases kk with
    | «local» => exact .inl hl
    | cell => exact .inr (.inl hl)
    | free => exact .inr (.inr hl)
    | _ => cases h1.1
  · cases h

def cOp : Operator → Option Op2
  | .Add => some oAdd | .Sub => some oSub | .Mult => some oMul | .FloorDiv => some oFdiv | .Mod => some oMod | .Pow => some oPow | _ => none
theorem cOp_ok {op : Operator} {f : Op2} (h : cOp op = some f) {X : Cx} : OpR X (binaryOp op) (rS X f) := by
  cases op <;> first | (cases h; first | exact os_add | exact os_sub | exact os_mul | exact os_fdiv | exact os_mod | exact os_pow) | cases h
def cCm : CmpOp → Op2
  | .Eq => oEq false | .NotEq => oEq true | .Lt => oLt | .LtE => oLe | .Gt => oGt | .GtE => oGe | .Is => oIs false | .IsNot => oIs true | .In => oIn false | .NotIn => oIn true
theorem cCm_ok (op : CmpOp) {Γ : Ctx} {G : Orc} {k : Nat} {W : WX} {X : Cx} (o : XOk Γ G k W X) : OpR X (compareOp op) (rS X (cCm op)) := by
  cases op with
  | Eq => exact os_eq o.u64
  | NotEq => exact os_ne o.u64
  | Lt => exact os_lt
  | LtE => exact os_le
  | Gt => exact os_gt
  | GtE => exact os_ge
  | Is => exact os_is
  | IsNot => exact os_isnot
  | In => exact os_in o.u65
  | NotIn => exact os_notin o.u65

def cBf (x : Str) : Option Bf :=
  if x = "len" then some bLen else if x = "tuple" then some bTuple else if x = "list" then some bList else if x = "int" then some bInt else if x = "abs" then some bAbs else if x = "sum" then some bSum else
  if x = "min" then some bMin else if x = "max" then some bMax else if x = "any" then some bAny else if x = "all" then some bAll else if x = "set" then some bSet else if x = "str" then some bStr else none
theorem cBf_ok {x : Str} {f : Bf} (h : cBf x = some f) : x ≠ "__name__" ∧ (x == ("__debug__" : Str)) = false ∧ ∀ X : Cx, X.calm = true → (∃ id, CallR X (.builtin id) (rB X f) ∧ bootBuiltins x = some (.builtin id)) ∨ ∃ T, CallR X (.type T) (rB X f) ∧ bootBuiltins x = some (.type T) := by
  unfold cBf at h
  split at h; · cases h; rename_i e; subst e; exact ⟨by decide, by decide, fun X _ => .inl ⟨_, cs_len, boot_len⟩⟩
  split at h; · cases h; rename_i e; subst e; exact ⟨by decide, by decide, fun X _ => .inr ⟨_, cs_tuple, boot_tuple⟩⟩
  split at h; · cases h; rename_i e; subst e; exact ⟨by decide, by decide, fun X _ => .inr ⟨_, cs_list, boot_list⟩⟩
  split at h; · cases h; rename_i e; subst e; exact ⟨by decide, by decide, fun X _ => .inr ⟨_, cs_int, boot_int⟩⟩
  split at h; · cases h; rename_i e; subst e; exact ⟨by decide, by decide, fun X _ => .inl ⟨_, cs_abs, boot_abs⟩⟩
  split at h; · cases h; rename_i e; subst e; exact ⟨by decide, by decide, fun X hc => .inl ⟨_, cs_sum hc, boot_sum⟩⟩
  split at h; · cases h; rename_i e; subst e; exact ⟨by decide, by decide, fun X hc => .inl ⟨_, cs_min hc, boot_min⟩⟩
  split at h; · cases h; rename_i e; subst e; exact ⟨by decide, by decide, fun X hc => .inl ⟨_, cs_max hc, boot_max⟩⟩
  split at h; · cases h; rename_i e; subst e; exact ⟨by decide, by decide, fun X hc => .inl ⟨_, cs_any hc, boot_any⟩⟩
  split at h; · cases h; rename_i e; subst e; exact ⟨by decide, by decide, fun X hc => .inl ⟨_, cs_all hc, boot_all⟩⟩
  split at h; · cases h; rename_i e; subst e; exact ⟨by decide, by decide, fun X hc => .inr ⟨_, cs_set hc, boot_set⟩⟩
  split at h; · cases h; rename_i e; subst e; exact ⟨by decide, by decide, fun X hc => .inr ⟨_, cs_str, boot_str⟩⟩
  cases h
def cTy (x : Str) : Option String :=
  if x = "int" then some "int" else if x = "bool" then some "bool" else if x = "str" then some "str" else if x = "list" then some "list" else if x = "tuple" then some "tuple" else if x = "dict" then some "dict" else none
theorem cTy_ok {x : Str} {T : String} (h : cTy x = some T) : bootBuiltins x = some (.type T) ∧ x ≠ "__name__" ∧ (x == ("__debug__" : Str)) = false := by
  unfold cTy at h
  split at h; · cases h; rename_i e; subst e; exact ⟨boot_int, by decide, by decide⟩
  split at h; · cases h; rename_i e; subst e; exact ⟨boot_bool, by decide, by decide⟩
  split at h; · cases h; rename_i e; subst e; exact ⟨boot_str, by decide, by decide⟩
  split at h; · cases h; rename_i e; subst e; exact ⟨boot_list, by decide, by decide⟩
  split at h; · cases h; rename_i e; subst e; exact ⟨boot_tuple, by decide, by decide⟩
  split at h; · cases h; rename_i e; subst e; exact ⟨boot_dict, by decide, by decide⟩
  cases h
def cMf (x : Str) : Option Mf := if x = "append" then some mAppend else if x = "extend" then some mExtend else if x = "pop" then some mPop else if x = "index" then some mIndex else if x = "insert" then some mInsert else none
theorem cMf_ok {x : Str} {f : Mf} (h : cMf x = some f) : ∃ id, Slot "list" x id ∧ typeOf (.builtin id) = pure (.type "method_descriptor") ∧ ∀ {Γ : Ctx} {G : Orc} {k : Nat} {W : WX} {X : Cx}, XOk Γ G k W X → MtR X id (rM X f) := by
  unfold cMf at h
  split at h; · cases h; rename_i e; subst e; exact ⟨_, PySem.F.slot_list_append, PySem.F.type_list_append, fun o => ms_append⟩
  split at h; · cases h; rename_i e; subst e; exact ⟨_, PySem.F.slot_list_extend, PySem.F.type_list_extend, fun o => ms_extend⟩
  split at h; · cases h; rename_i e; subst e; exact ⟨_, PySem.F.slot_list_pop, PySem.F.type_list_pop, fun o => ms_pop⟩
  split at h; · cases h; rename_i e; subst e; exact ⟨_, PySem.F.slot_list_index, PySem.F.type_list_index, fun o => ms_index o.u65⟩
  split at h; · cases h; rename_i e; subst e; exact ⟨_, PySem.F.slot_list_insert, PySem.F.type_list_insert, fun o => ms_insert⟩
  cases h
def noCall0 : Expr → Bool
  | .Call _ [] _ _ => false
  | _ => true

structure Cmp where
  e : Ctx → Expr → Option SE
  a : Ctx → List Expr → Option SA
  t : Ctx → Expr → Option ST
  w : Ctx → Expr → Option ST
  i : Ctx → Expr → Expr → Option SI
  p : Ctx → Expr → Option TP
  ps : Ctx → List Expr → Option (List TP)
structure CmpOk (c : Cmp) : Prop where
  e : ∀ {Γ x f}, c.e Γ x = some f → ∀ {G k W X}, XOk Γ G k W X → PE X x (tE X W (f G))
  a : ∀ {Γ x f}, c.a Γ x = some f → x.all smp = true ∧ (∀ {G ρ h xs h'}, f G ρ h = .ok xs h' → xs.length = x.length) ∧ ∀ {G k W X}, XOk Γ G k W X → PA X x (tA X W (f G))
  t : ∀ {Γ x f}, c.t Γ x = some f → ∀ {G k W X}, XOk Γ G k W X → PT X x (tT X W (f G))
  w : ∀ {Γ x f}, c.w Γ x = some f → ∀ {G k W X}, XOk Γ G k W X → PW X x (tT X W (f G))
  i : ∀ {Γ tg x f}, c.i Γ tg x = some f → ∀ {G k W X}, XOk Γ G k W X → PI X tg x (tIt X W (f G))
  p : ∀ {Γ x f}, c.p Γ x = some f → ∀ {G k W X}, XOk Γ G k W X → PG X x (gP X.K f)
  ps : ∀ {Γ x f}, c.ps Γ x = some f → x.all smp = true ∧ x.length = f.length ∧ ∀ {G k W X}, XOk Γ G k W X → PGs X x (gPs X.K f)
  an : ∀ {Γ f}, c.a Γ [] = some f → f = aNil
  n : ∀ {Γ x f}, c.e Γ x = some f → ∀ {G k W X}, XOk Γ G k W X → ∀ {i y py spos}, Γ.N[i]? = some y → y ∈ Γ.stor → PS X (.Assign [.Name y py] x spos) (tS X W (sSet (.nm i) f G))

def c0 : Cmp := ⟨fun _ _ => none, fun _ _ => none, fun _ _ => none, fun _ _ => none, fun _ _ _ => none, fun _ _ => none, fun _ _ => none⟩
theorem c0_ok : CmpOk c0 := ⟨(fun h => nomatch h), (fun h => nomatch h), (fun h => nomatch h), (fun h => nomatch h), (fun h => nomatch h), (fun h => nomatch h), (fun h => nomatch h), (fun h => nomatch h), (fun h => nomatch h)⟩
section
variable (c : Cmp) (Γ : Ctx)
def cA : List Expr → Option SA
  | [] => some aNil
  | e :: r => gd (smp e) (o2 (c.e Γ e) (c.a Γ r) aCons)
def cRgA : List Expr → Option SR
  | [a] => gd (smp a) ((c.e Γ a).map rg1)
  | [a, b] => gd (smp a && smp b) (o2 (c.e Γ a) (c.e Γ b) rg2)
  | _ => none
def cRg : Expr → Option SR
  | .Call (.Name y _) ra [] _ => gd (decide (y = "range") && isGl Γ y && isFr Γ y) (cRgA c Γ ra)
  | _ => none
def cRgO : List Expr → Option SR
  | [e] => cRg c Γ e
  | _ => none
def cIsi : List Expr → Option SE
  | [e, .Name y _] => gd (isGl Γ y && isFr Γ y && smp e) (o2 (c.e Γ e) (cTy y) fun fe T => eBf (bIsi T) (aCons fe aNil))
  | _ => none
def cBlt (x : Str) (args : List Expr) : Option SE := match cRgO c Γ args with
  | some r => if x = "list" then some (eLRg r) else if x = "tuple" then some (eTRg r) else none
  | none => if x = "isinstance" then cIsi c Γ args else gd (!args.isEmpty) (o2 (cBf x) (c.a Γ args) eBf)
def cCallN (x : Str) (args : List Expr) : Option SE := gd (okN x && isGl Γ x) (match Γ.tab.fns.lookup x with
  | some (n, ar) => gd (decide (args.length = ar) && !args.isEmpty) ((c.a Γ args).map (eCall n))
  | none => gd (isFr Γ x) (cBlt c Γ x args))
def cMeth (o : Expr) (name : Str) (apos : Pos) (args : List Expr) (cpos : Pos) : Option SE :=
  gd ((apos.endLine == cpos.line) && noCall0 o && decide (args.length < 20)) (o3 (cMf name) (c.e Γ o) (c.a Γ args) eMf)
def cO : Option Expr → Option SO
  | none => some oNo
  | some e => (c.e Γ e).map oSome
def ownN (N : List Str) (scope : Scope) : List (Str × Nat) := (N.zipIdx).filter fun y => match scope.names.lookup y.1 with
  | some .local => true
  | some .cell => true
  | _ => false
def cIf : List Expr → Option ST
  | [] => some tYes
  | [x] => c.t Γ x
  | _ => none
def inOwn (p : TP) (own : List (Str × Nat)) : Bool := p.slots.all fun i => (own.map (·.2)).contains i
def cLc (elt : Expr) (gens : List Comprehension) (scope : Scope) : Option SE := match gens with
  | [⟨tg, it, ifs, 0⟩] => gd (blkC Γ.N { scope with names := Γ.names } scope (ownN Γ.N scope) && smp it) ((c.i Γ tg it).bind fun fi => (c.p (Γ.blk scope) tg).bind fun p => gd (inOwn p (ownN Γ.N scope)) (o2 (cIf c (Γ.blk scope) ifs) (c.e (Γ.blk scope) elt) fun ft fe => eLc fi p ft fe ((ownN Γ.N scope).map (·.2))))
  | _ => none
def cDc (kx vx : Expr) (gens : List Comprehension) (scope : Scope) : Option SE := match gens with
  | [⟨tg, it, ifs, 0⟩] => gd (blkC Γ.N { scope with names := Γ.names } scope (ownN Γ.N scope) && smp it) ((c.i Γ tg it).bind fun fi => (c.p (Γ.blk scope) tg).bind fun p => gd (inOwn p (ownN Γ.N scope)) (o3 (cIf c (Γ.blk scope) ifs) (c.e (Γ.blk scope) kx) (c.e (Γ.blk scope) vx) fun ft fk fe => eDc Γ.tk fi p ft fk fe ((ownN Γ.N scope).map (·.2))))
  | _ => none
def cCp (a : Expr) (ops : List CmpOp) (bs : List Expr) : Option SE := match ops, bs with
  | [op], [b] => gd (smp b) (o2 (c.e Γ a) (c.e Γ b) (eOp (cCm op)))
  | [op, op'], [b, d] => gd (smp d) (o3 (c.e Γ a) (c.e Γ b) (c.e Γ d) (eChain (cCm op) (cCm op')))
  | _, _ => none
def cE : Expr → Option SE
  | .Constant k _ _ => match k with
    | .int i => some (eC (.int i))
    | .bool b => some (eC (.bl b))
    | .none => some (eC .non)
    | .str x => some (eC (.str x))
    | _ => none
  | .Name x _ => cVar Γ x
  | .BinOp a op b _ => o3 (cOp op) (c.e Γ a) (c.e Γ b) eOp
  | .UnaryOp op a _ => match op with
    | .Not => (c.e Γ a).map eNot
    | .USub => (c.e Γ a).map eNeg
    | _ => none
  | .BoolOp op es p => match op, es with
    | _, [a] => c.e Γ a
    | .And, a :: b :: r => o2 (c.e Γ a) (c.e Γ (.BoolOp .And (b :: r) p)) eAnd
    | .Or, a :: b :: r => o2 (c.e Γ a) (c.e Γ (.BoolOp .Or (b :: r) p)) eOr
    | _, _ => none
  | .Compare a ops bs _ => cCp c Γ a ops bs
  | .IfExp t a b _ => o3 (c.t Γ t) (c.e Γ a) (c.e Γ b) eIf
  | .Tuple es _ _ => (c.a Γ es).map eTup
  | .List es _ => (c.a Γ es).map eLst
  | .Subscript a s _ => match s with
    | .Slice lo hi none _ => o3 (c.e Γ a) (cO c Γ lo) (cO c Γ hi) eCut
    | b => gd (smp b) (o2 (c.e Γ a) (c.e Γ b) (eOp oGet))
  | .Call f args kws cpos => match f, kws with
    | .Name x _, [] => cCallN c Γ x args
    | .Attribute o name apos, [] => cMeth c Γ o name apos args cpos
    | _, _ => none
  | .Dict ks vs _ => match ks, vs with
    | [], [] => some (eDict0 Γ.tk)
    | [some k], [v] => o2 (c.e Γ k) (c.e Γ v) eDict1
    | _, _ => none
  | .ListComp elt gens scope _ => cLc c Γ elt gens scope
  | .DictComp kx vx gens scope _ => cDc c Γ kx vx gens scope
  | _ => none
def cT : Expr → Option ST
  | .Compare a ops bs _ => (cCp c Γ a ops bs).map tBl
  | .UnaryOp .Not a _ => (c.t Γ a).map tNot
  | .BoolOp op es p => c.w Γ (.BoolOp op es p)
  | e => gd (plainT e) ((c.e Γ e).map tVal)
def cW : Expr → Option ST
  | .BoolOp op es p => match op, es with
    | .And, [a] => c.t Γ a
    | .Or, [a] => c.t Γ a
    | .And, a :: b :: r => o2 (c.t Γ a) (c.w Γ (.BoolOp .And (b :: r) p)) tAnd
    | .Or, a :: b :: r => o2 (c.t Γ a) (c.w Γ (.BoolOp .Or (b :: r) p)) tOr
    | _, _ => none
  | _ => none
def isTupE : Expr → Bool
  | .Tuple .. => true
  | _ => false
def cI (tg : Expr) : Expr → Option SI
  | .Call f args kws p => match cRg c Γ (.Call f args kws p) with
    | some r => some (iRg r)
    | none => match f, args, kws with
      | .Name x _, [a], [] => if x = "enumerate" then gd (isGl Γ x && isFr Γ x && isTupE tg && smp a) ((c.e Γ a).map iEnum) else (c.e Γ (.Call f args kws p)).map iSeq
      | .Name x _, [a, b], [] => if x = "zip" then gd (isGl Γ x && isFr Γ x && isTupE tg && smp a && smp b) (o2 (c.e Γ a) (c.e Γ b) iZip) else (c.e Γ (.Call f args kws p)).map iSeq
      | _, _, _ => (c.e Γ (.Call f args kws p)).map iSeq
  | e => (c.e Γ e).map iSeq
def cP : Expr → Option TP
  | .Name x _ => gd (decide (x ∈ Γ.stor)) ((ixOf Γ.N x).map .nm)
  | .Tuple es _ _ => (c.ps Γ es).map .tp
  | _ => none
def cPs : List Expr → Option (List TP)
  | [] => some []
  | e :: r => gd (smp e) (o2 (c.p Γ e) (c.ps Γ r) (· :: ·))
end
def cNext (c : Cmp) : Cmp := ⟨cE c, cA c, cT c, cW c, cI c, cP c, cPs c⟩
def cmpN : Nat → Cmp
  | 0 => c0
  | n + 1 => cNext (cmpN n)
end EP
end
section
set_option maxHeartbeats 1000000
/-! CmpOk: the meanings are the program's; expressions. -/
namespace EP
open PySem PySem.Spec PyProof.Rows L2
section
variable {c : Cmp} (ok : CmpOk c) {Γ : Ctx}
include ok
theorem cA_ok {x : List Expr} {f : SA} (h : cA c Γ x = some f) : x.all smp = true ∧ (∀ {G ρ h xs h'}, f G ρ h = .ok xs h' → xs.length = x.length) ∧ ∀ {G k W X}, XOk Γ G k W X → PA X x (tA X W (f G)) := by
  cases x with
  | nil => cases h; exact ⟨rfl, fun e => by cases e; rfl, fun o => sa_nil⟩
  | cons e r =>
    unfold cA at h
    obtain ⟨h1, h2⟩ := gd_some h
    obtain ⟨fe, fr, h3, h4, rfl⟩ := o2_some h2
    obtain ⟨k1, k2, k3⟩ := ok.a h4
    refine ⟨by simp [h1, k1], fun {G ρ h xs h'} e => ?_, fun o => sa_cons h1 (ok.e h3 o) (k3 o)⟩
    unfold aCons at e
    cases q : fe G ρ h with
    | ok y h1 =>
      rw [q] at e
      simp only [EP.bnd] at e
      cases q2 : fr G ρ h1 with
      | ok ys h2 =>
        rw [q2] at e
        simp only [EP.bnd] at e
        cases e
        simp [k2 q2]
      | ex C fs h2 => rw [q2] at e; cases e
      | bad => rw [q2] at e; cases e
    | ex C fs h2 => rw [q] at e; cases e
    | bad => rw [q] at e; cases e
theorem isGl_ok {x : Str} (h : isGl Γ x = true) : Γ.names.lookup x = some .globalImplicit := of_decide_eq_true h
theorem isFr_ok {x : Str} (h : isFr Γ x = true) : x ∈ Γ.tab.free := of_decide_eq_true h
theorem cRg_ok {e : Expr} {r : SR} (h : cRg c Γ e = some r) : smp e = true ∧ (∀ {G k W X}, XOk Γ G k W X → PRG X W e (r G)) ∧ ∀ {G k W X tg}, XOk Γ G k W X → PI X tg e (tIt X W (iRg r G)) := by
  unfold cRg at h
  split at h
  · rename_i y p ra p2
    obtain ⟨h1, h2⟩ := gd_some h
    simp only [Bool.and_eq_true, decide_eq_true_eq] at h1
    obtain ⟨⟨rfl, hg⟩, hf⟩ := h1
    have hg := isGl_ok ok hg
    have hf := isFr_ok ok hf
    unfold cRgA at h2
    split at h2
    · obtain ⟨h3, h4⟩ := gd_some h2
      obtain ⟨fa, h5, rfl⟩ := Option.map_eq_some_iff.mp h4
      exact ⟨rfl, fun o => sr_1 o hg hf (ok.e h5 o) h3, fun o => si_rg1 o hg hf (ok.e h5 o) h3⟩
    · obtain ⟨h3, h4⟩ := gd_some h2
      simp only [Bool.and_eq_true] at h3
      obtain ⟨fa, fb, h5, h6, rfl⟩ := o2_some h4
      exact ⟨rfl, fun o => sr_2 o hg hf (ok.e h5 o) (ok.e h6 o) h3.1 h3.2, fun o => si_rg2 o hg hf (ok.e h5 o) (ok.e h6 o) h3.1 h3.2⟩
    · cases h2
  · cases h
theorem cBlt_ok {x : Str} {args : List Expr} {f : SE} {p cpos : Pos} (hg : Γ.names.lookup x = some .globalImplicit) (hf : x ∈ Γ.tab.free) (h : cBlt c Γ x args = some f) {G : Orc} {k : Nat} {W : WX} {X : Cx} (o : XOk Γ G k W X) :
    PE X (.Call (.Name x p) args [] cpos) (tE X W (f G)) := by
  unfold cBlt at h
  split at h
  · rename_i r hr
    unfold cRgO at hr
    split at hr
    · rename_i e
      obtain ⟨h1, h2, _⟩ := cRg_ok ok hr
      split at h
      · cases h; rename_i ex; subst ex; exact se_lrg o hg hf (h2 o) h1
      · split at h
        · cases h; rename_i ex; subst ex; exact se_trg o hg hf (h2 o) h1
        · cases h
    · cases hr
  · split at h
    · rename_i ex
      unfold cIsi at h
      split at h
      · rename_i e y p2
        obtain ⟨h1, h2⟩ := gd_some h
        simp only [Bool.and_eq_true] at h1
        obtain ⟨fe, T, h3, h4, rfl⟩ := o2_some h2
        obtain ⟨b1, b2, b3⟩ := cTy_ok h4
        exact se_isi o ex hg hf (isGl_ok ok h1.1.1) (isFr_ok ok h1.1.2) b1 b2 b3 h1.2 (ok.e h3 o)
      · cases h
    · obtain ⟨h1, h2⟩ := gd_some h
      obtain ⟨b, fa, h3, h4, rfl⟩ := o2_some h2
      obtain ⟨n1, n2, n3⟩ := cBf_ok h3
      obtain ⟨k1, _, k3⟩ := ok.a h4
      cases args with
      | nil => cases h1
      | cons e es =>
        rcases n3 X o.calm with ⟨id, hc, hv⟩ | ⟨T, hc, hv⟩
        · exact se_bf o hc hg hf hv (k3 o) n1 n2 k1
        · exact se_ty o hc hg hf hv (k3 o) n1 n2 k1
theorem cCallN_ok {x : Str} {args : List Expr} {f : SE} {p cpos : Pos} (h : cCallN c Γ x args = some f) {G : Orc} {k : Nat} {W : WX} {X : Cx} (o : XOk Γ G k W X) : PE X (.Call (.Name x p) args [] cpos) (tE X W (f G)) := by
  unfold cCallN at h
  obtain ⟨h1, h2⟩ := gd_some h
  simp only [Bool.and_eq_true] at h1
  have hg := isGl_ok ok h1.2
  split at h2
  · rename_i n ar hl
    obtain ⟨h3, h4⟩ := gd_some h2
    simp only [Bool.and_eq_true, decide_eq_true_eq] at h3
    obtain ⟨fa, h5, rfl⟩ := Option.map_eq_some_iff.mp h4
    obtain ⟨k1, k2, k3⟩ := ok.a h5
    cases args with
    | nil => cases h3.2
    | cons e es => exact se_call o hg hl (k3 o) (fun ρ h xs h' q => (k2 q).trans h3.1) (okN_ok h1.1).1 k1
  · obtain ⟨h3, h4⟩ := gd_some h2
    exact cBlt_ok ok hg (isFr_ok ok h3) h4 o
theorem noCall0_ok {o : Expr} (h : noCall0 o = true) : ∀ x p q, o ≠ .Call (.Name x p) [] [] q := fun x p q e => by subst e; cases h
theorem cMeth_ok {ob : Expr} {name : Str} {apos cpos : Pos} {args : List Expr} {f : SE} (h : cMeth c Γ ob name apos args cpos = some f) {G : Orc} {k : Nat} {W : WX} {X : Cx} (o : XOk Γ G k W X) : PE X (.Call (.Attribute ob name apos) args [] cpos) (tE X W (f G)) := by
  unfold cMeth at h
  obtain ⟨h1, h2⟩ := gd_some h
  simp only [Bool.and_eq_true, decide_eq_true_eq] at h1
  obtain ⟨m, fo, fa, h3, h4, h5, rfl⟩ := o3_some h2
  obtain ⟨id, s1, s2, s3⟩ := cMf_ok h3
  obtain ⟨k1, _, k3⟩ := ok.a h5
  cases args with
  | nil =>
    have e := ok.an h5
    subst e
    exact se_mf0 s1 s2 (s3 o) (ok.e h4 o) (noCall0_ok ok h1.1.2) h1.1.1
  | cons e es => exact se_mf s1 s2 (s3 o) (ok.e h4 o) (k3 o) (noCall0_ok ok h1.1.2) h1.1.1 k1 h1.2
theorem cO_ok {x : Option Expr} {f : SO} (h : cO c Γ x = some f) {G : Orc} {k : Nat} {W : WX} {X : Cx} (o : XOk Γ G k W X) : PO X x (tO X W (f G)) := by
  cases x with
  | none => cases h; exact so_no
  | some e =>
    obtain ⟨fe, h1, rfl⟩ := Option.map_eq_some_iff.mp (show (c.e Γ e).map oSome = some f from h)
    exact so_some (ok.e h1 o)
theorem cIf_ok {x : List Expr} {f : ST} (h : cIf c Γ x = some f) {G : Orc} {k : Nat} {W : WX} {X : Cx} (o : XOk Γ G k W X) : PTs X x (tT X W (f G)) := by
  unfold cIf at h
  split at h
  · cases h; exact sp_nil
  · exact sp_one (ok.t h o)
  · cases h
theorem inOwn_ok {p : TP} {own : List (Str × Nat)} (h : inOwn p own = true) : ∀ i ∈ p.slots, i ∈ own.map (·.2) := fun i hi => by
  unfold inOwn at h
  have := List.all_eq_true.mp h i hi
  simpa using this
theorem cLc_ok {elt : Expr} {gens : List Comprehension} {scope : Scope} {f : SE} (h : cLc c Γ elt gens scope = some f) {G : Orc} {k : Nat} {W : WX} {X : Cx} (o : XOk Γ G k W X) :
    (∀ {pos}, PE X (.ListComp elt gens scope pos) (tE X W (f G))) ∧ ∀ {i y py pos spos}, Γ.N[i]? = some y → y ∈ Γ.stor → PS X (.Assign [.Name y py] (.ListComp elt gens scope pos) spos) (tS X W (sSet (.nm i) f G)) := by
  unfold cLc at h
  split at h
  · rename_i tg it ifs
    obtain ⟨h1, h2⟩ := gd_some h
    simp only [Bool.and_eq_true] at h1
    obtain ⟨fi, h3, h4⟩ := Option.bind_eq_some_iff.mp h2
    obtain ⟨p, h5, h6⟩ := Option.bind_eq_some_iff.mp h4
    obtain ⟨h7, h8⟩ := gd_some h6
    obtain ⟨ft, fe, h9, h10, rfl⟩ := o2_some h8
    exact ⟨fun {pos} => se_lc o (ok.i h3 o) h1.1 (fun X' o' => ok.p h5 o') (fun X' o' => cIf_ok ok h9 o') (fun X' o' => ok.e h10 o') h1.2 (inOwn_ok ok h7),
      fun {i y py pos spos} hi hy => ss_lcN o hi hy (ok.i h3 o) h1.1 (fun X' o' => ok.p h5 o') (fun X' o' => cIf_ok ok h9 o') (fun X' o' => ok.e h10 o') h1.2 (inOwn_ok ok h7)⟩
  · cases h
theorem cDc_ok {kx vx : Expr} {gens : List Comprehension} {scope : Scope} {f : SE} (h : cDc c Γ kx vx gens scope = some f) {G : Orc} {k : Nat} {W : WX} {X : Cx} (o : XOk Γ G k W X) :
    (∀ {pos}, PE X (.DictComp kx vx gens scope pos) (tE X W (f G))) ∧ ∀ {i y py pos spos}, Γ.N[i]? = some y → y ∈ Γ.stor → PS X (.Assign [.Name y py] (.DictComp kx vx gens scope pos) spos) (tS X W (sSet (.nm i) f G)) := by
  unfold cDc at h
  split at h
  · rename_i tg it ifs
    obtain ⟨h1, h2⟩ := gd_some h
    simp only [Bool.and_eq_true] at h1
    obtain ⟨fi, h3, h4⟩ := Option.bind_eq_some_iff.mp h2
    obtain ⟨p, h5, h6⟩ := Option.bind_eq_some_iff.mp h4
    obtain ⟨h7, h8⟩ := gd_some h6
    obtain ⟨ft, fk, fe, h9, h10, h11, rfl⟩ := o3_some h8
    exact ⟨fun {pos} => se_dc Γ.tk o (ok.i h3 o) h1.1 (fun X' o' => ok.p h5 o') (fun X' o' => cIf_ok ok h9 o') (fun X' o' => ok.e h10 o') (fun X' o' => ok.e h11 o') h1.2 (inOwn_ok ok h7),
      fun {i y py pos spos} hi hy => ss_dcN Γ.tk o hi hy (ok.i h3 o) h1.1 (fun X' o' => ok.p h5 o') (fun X' o' => cIf_ok ok h9 o') (fun X' o' => ok.e h10 o') (fun X' o' => ok.e h11 o') h1.2 (inOwn_ok ok h7)⟩
  · cases h
theorem slice_not {s : Expr} {lo hi : Option Expr} {p2 : Pos} : smp (.Slice lo hi none p2) = false := rfl
theorem cE_ok {x : Expr} {f : SE} (h : cE c Γ x = some f) {G : Orc} {k : Nat} {W : WX} {X : Cx} (o : XOk Γ G k W X) : PE X x (tE X W (f G)) := by
  unfold cE at h
  split at h
  · split at h
    · cases h; exact se_int
    · cases h; exact se_bl
    · cases h; exact se_non
    · cases h; exact se_str
    · cases h
  · exact cVar_ok h o
  · obtain ⟨f', fa, fb, h1, h2, h3, rfl⟩ := o3_some h
    exact se_op (cOp_ok h1) (ok.e h2 o) (ok.e h3 o)
  · split at h
    · obtain ⟨fa, h1, rfl⟩ := Option.map_eq_some_iff.mp h
      exact se_not (ok.e h1 o)
    · obtain ⟨fa, h1, rfl⟩ := Option.map_eq_some_iff.mp h
      exact se_neg (ok.e h1 o)
    · cases h
  · split at h
    · exact pe_one (ok.e h o)
    · obtain ⟨fa, fb, h1, h2, rfl⟩ := o2_some h
      exact se_and (ok.e h1 o) (ok.e h2 o)
    · obtain ⟨fa, fb, h1, h2, rfl⟩ := o2_some h
      exact se_or (ok.e h1 o) (ok.e h2 o)
    · cases h
  · unfold cCp at h
    split at h
    · obtain ⟨h0, h'⟩ := gd_some h
      obtain ⟨fa, fb, h1, h2, rfl⟩ := o2_some h'
      exact se_cmp (cCm_ok _ o) (ok.e h1 o) (ok.e h2 o) (behind_smp h0 _)
    · obtain ⟨h0, h'⟩ := gd_some h
      obtain ⟨fa, fb, fd, h1, h2, h3, rfl⟩ := o3_some h'
      exact se_chain (cCm_ok _ o) (cCm_ok _ o) (ok.e h1 o) (ok.e h2 o) (ok.e h3 o) (behind_smp h0 _)
    · cases h
  · obtain ⟨ft, fa, fb, h1, h2, h3, rfl⟩ := o3_some h
    exact se_if (ok.t h1 o) (ok.e h2 o) (ok.e h3 o)
  · obtain ⟨fa, h1, rfl⟩ := Option.map_eq_some_iff.mp h
    exact se_tup ((ok.a h1).2.2 o)
  · obtain ⟨fa, h1, rfl⟩ := Option.map_eq_some_iff.mp h
    exact se_lst ((ok.a h1).2.2 o)
  · split at h
    · obtain ⟨fa, fl, fh, h1, h2, h3, rfl⟩ := o3_some h
      exact se_cut (ok.e h1 o) (cO_ok ok h2 o) (cO_ok ok h3 o)
    · obtain ⟨h0, h'⟩ := gd_some h
      obtain ⟨fa, fb, h1, h2, rfl⟩ := o2_some h'
      exact se_get o (ok.e h1 o) (ok.e h2 o) h0
  · split at h
    · exact cCallN_ok ok h o
    · exact cMeth_ok ok h o
    · cases h
  · split at h
    · cases h; exact se_dict0 _
    · obtain ⟨fa, fb, h1, h2, rfl⟩ := o2_some h
      exact se_disp1 o (ok.e h1 o) (ok.e h2 o)
    · cases h
  · exact (cLc_ok ok h o).1
  · exact (cDc_ok ok h o).1
  · cases h
theorem cN_ok {x : Expr} {f : SE} (h : cE c Γ x = some f) {G : Orc} {k : Nat} {W : WX} {X : Cx} (o : XOk Γ G k W X) {i : Nat} {y : Str} {py spos : Pos} (hi : Γ.N[i]? = some y) (hy : y ∈ Γ.stor) : PS X (.Assign [.Name y py] x spos) (tS X W (sSet (.nm i) f G)) := by
  have he := cE_ok ok h o
  by_cases hn : noComp x = true
  · exact ss_name o hi hy he (swaps_noComp hn _ _ _)
  · cases x with
    | ListComp elt gens scope p => exact (cLc_ok ok (show cLc c Γ elt gens scope = some f from h) o).2 hi hy
    | DictComp kx vx gens scope p => exact (cDc_ok ok (show cDc c Γ kx vx gens scope = some f from h) o).2 hi hy
    | SetComp elt gens scope p => cases h
    | _ => exact absurd rfl hn
theorem cT_ok {x : Expr} {f : ST} (h : cT c Γ x = some f) {G : Orc} {k : Nat} {W : WX} {X : Cx} (o : XOk Γ G k W X) : PT X x (tT X W (f G)) := by
  unfold cT at h
  split at h
  · rename_i a ops bs p
    obtain ⟨fe, h1, rfl⟩ := Option.map_eq_some_iff.mp h
    have h2 := h1
    unfold cCp at h2
    split at h2
    · obtain ⟨h0, h'⟩ := gd_some h2
      obtain ⟨fa, fb, g1, g2, rfl⟩ := o2_some h'
      exact st_cmp (cCm_ok _ o) (ok.e g1 o) (ok.e g2 o) (behind_smp h0 _)
    · obtain ⟨h0, h'⟩ := gd_some h2
      obtain ⟨fa, fb, fd, g1, g2, g3, rfl⟩ := o3_some h'
      exact st_chain (cCm_ok _ o) (cCm_ok _ o) (ok.e g1 o) (ok.e g2 o) (ok.e g3 o) (behind_smp h0 _)
    · cases h2
  · obtain ⟨fa, h1, rfl⟩ := Option.map_eq_some_iff.mp h
    exact st_not (ok.t h1 o)
  · exact (ok.w h o).pt
  · obtain ⟨h0, h'⟩ := gd_some h
    obtain ⟨fa, h1, rfl⟩ := Option.map_eq_some_iff.mp h'
    exact st_val (ok.e h1 o) h0
theorem cW_ok {x : Expr} {f : ST} (h : cW c Γ x = some f) {G : Orc} {k : Nat} {W : WX} {X : Cx} (o : XOk Γ G k W X) : PW X x (tT X W (f G)) := by
  unfold cW at h
  split at h
  · split at h
    · exact pw_and1 (ok.t h o)
    · exact pw_or1 (ok.t h o)
    · obtain ⟨fa, fb, h1, h2, rfl⟩ := o2_some h
      exact st_and (ok.t h1 o) (ok.w h2 o)
    · obtain ⟨fa, fb, h1, h2, rfl⟩ := o2_some h
      exact st_or (ok.t h1 o) (ok.w h2 o)
    · cases h
  · cases h
theorem isTupE_ok {tg : Expr} (h : isTupE tg = true) : ∃ es k p, tg = .Tuple es k p := by
  cases tg <;> first | exact ⟨_, _, _, rfl⟩ | cases h
theorem cI_ok {tg x : Expr} {f : SI} (h : cI c Γ tg x = some f) {G : Orc} {k : Nat} {W : WX} {X : Cx} (o : XOk Γ G k W X) : PI X tg x (tIt X W (f G)) := by
  unfold cI at h
  split at h
  · split at h
    · rename_i r hr
      cases h
      exact (cRg_ok ok hr).2.2 o
    · split at h
      · split at h
        · rename_i ex
          obtain ⟨h1, h2⟩ := gd_some h
          simp only [Bool.and_eq_true] at h1
          obtain ⟨fa, h3, rfl⟩ := Option.map_eq_some_iff.mp h2
          obtain ⟨es, kk, p, rfl⟩ := isTupE_ok ok h1.1.2
          subst ex
          exact si_enum o (isGl_ok ok h1.1.1.1) (isFr_ok ok h1.1.1.2) (ok.e h3 o) h1.2
        · obtain ⟨fa, h3, rfl⟩ := Option.map_eq_some_iff.mp h
          exact si_seq (ok.e h3 o)
      · split at h
        · rename_i ex
          obtain ⟨h1, h2⟩ := gd_some h
          simp only [Bool.and_eq_true] at h1
          obtain ⟨fa, fb, h3, h4, rfl⟩ := o2_some h2
          obtain ⟨es, kk, p, rfl⟩ := isTupE_ok ok h1.1.1.2
          subst ex
          exact si_zip o (isGl_ok ok h1.1.1.1.1) (isFr_ok ok h1.1.1.1.2) (ok.e h3 o) (ok.e h4 o) h1.1.2 h1.2
        · obtain ⟨fa, h3, rfl⟩ := Option.map_eq_some_iff.mp h
          exact si_seq (ok.e h3 o)
      · obtain ⟨fa, h3, rfl⟩ := Option.map_eq_some_iff.mp h
        exact si_seq (ok.e h3 o)
  · obtain ⟨fa, h3, rfl⟩ := Option.map_eq_some_iff.mp h
    exact si_seq (ok.e h3 o)
theorem cP_ok {x : Expr} {f : TP} (h : cP c Γ x = some f) {G : Orc} {k : Nat} {W : WX} {X : Cx} (o : XOk Γ G k W X) : PG X x (gP X.K f) := by
  unfold cP at h
  split at h
  · obtain ⟨h1, h2⟩ := gd_some h
    obtain ⟨i, h3, rfl⟩ := Option.map_eq_some_iff.mp h2
    exact sg_nm o (ixOf_some h3) (of_decide_eq_true h1)
  · obtain ⟨ps, h3, rfl⟩ := Option.map_eq_some_iff.mp h
    obtain ⟨k1, k2, k3⟩ := ok.ps h3
    exact sg_tp o k2 k1 (k3 o)
  · cases h
theorem cPs_ok {x : List Expr} {f : List TP} (h : cPs c Γ x = some f) : x.all smp = true ∧ x.length = f.length ∧ ∀ {G k W X}, XOk Γ G k W X → PGs X x (gPs X.K f) := by
  cases x with
  | nil => cases h; exact ⟨rfl, rfl, fun o => sg_nil⟩
  | cons e r =>
    unfold cPs at h
    obtain ⟨h1, h2⟩ := gd_some h
    obtain ⟨p, ps, h3, h4, rfl⟩ := o2_some h2
    obtain ⟨k1, k2, k3⟩ := ok.ps h4
    exact ⟨by simp [h1, k1], by simp [k2], fun o => sg_cons h1 (ok.p h3 o) (k3 o)⟩
theorem cNext_ok : CmpOk (cNext c) where
  e := fun h _ _ _ _ o => cE_ok ok h o
  a := fun h => cA_ok ok h
  t := fun h _ _ _ _ o => cT_ok ok h o
  w := fun h _ _ _ _ o => cW_ok ok h o
  i := fun h _ _ _ _ o => cI_ok ok h o
  p := fun h _ _ _ _ o => cP_ok ok h o
  ps := fun h => cPs_ok ok h
  an := fun h => by cases h; rfl
  n := fun h _ _ _ _ o _ _ _ _ hi hy => cN_ok ok h o hi hy
end
theorem cmpN_ok : ∀ n, CmpOk (cmpN n)
  | 0 => c0_ok
  | n + 1 => cNext_ok (cmpN_ok n)
end EP
end
section
set_option maxHeartbeats 1000000
/-! CmS: statements, clauses, bodies. -/
namespace EP
open PySem PySem.Spec PyProof.Rows L2
/-! ### a clause's suite: n its name, i its slot -/
structure CmX where
  e : Expr → Option XE
  a : List Expr → Option XA
section
variable (Γ : Ctx) (n : Str) (i : Nat)
structure CmXOk (c : CmX) : Prop where
  e : ∀ {x f}, c.e x = some f → ∀ {G k W X a oe cls d pn}, XOk Γ G k W X → Zc cls d oe → (∃ vs, oe.data = .fields vs) → PE (sx X a oe pn) x (tXE X a oe cls d pn i G f)
  a : ∀ {x f}, c.a x = some f → ∀ {G k W X a oe cls d pn}, XOk Γ G k W X → Zc cls d oe → (∃ vs, oe.data = .fields vs) → PA (sx X a oe pn) x (tXA X a oe cls d pn i G f)
def xVar (x : Str) : Option XE := match Γ.names.lookup x with
  | some k => gd (visK k && okN x) ((ixOf Γ.N x).map fun j => fun _ _ => eVar j)
  | none => none
def isN (e : Expr) : Bool := match e with
  | .Name y _ => decide (y = n)
  | _ => false
def xE (c : CmX) : Expr → Option XE
  | .Constant k _ _ => match k with
    | .int z => some fun _ _ => eC (.int z)
    | .bool z => some fun _ _ => eC (.bl z)
    | .none => some fun _ _ => eC .non
    | .str z => some fun _ _ => eC (.str z)
    | _ => none
  | .Name x _ => xVar Γ x
  | .Tuple es _ _ => (c.a es).map fun fa C fs => eTup (fa C fs)
  | .BoolOp op es p => match op, es with
    | .Or, [a] => c.e a
    | .Or, a :: b :: r => o2 (c.e a) (c.e (.BoolOp .Or (b :: r) p)) fun fa fb C fs => eOr (fa C fs) (fb C fs)
    | _, _ => none
  | .Attribute (.Name y _) f _ => gd (decide (y = n)) (some (xF Γ.tab.flds f))
  | .Call (.Name x _) [.Name y _, .Name T _] [] _ => gd (decide (x = "isinstance") && decide (y = n) && isGl Γ x && isFr Γ x && isGl Γ T && okN T) (some (xIs Γ.tab.sub T))
  | _ => none
def xA (c : CmX) : List Expr → Option XA
  | [] => some fun _ _ => aNil
  | e :: r => gd (smp e) (o2 (c.e e) (c.a r) fun fe fr C fs => aCons (fe C fs) (fr C fs))
def cmX : Nat → CmX
  | 0 => ⟨fun _ => none, fun _ => none⟩
  | k + 1 => ⟨xE Γ n (cmX k), xA (cmX k)⟩
variable {Γ n i}
theorem xE_ok {c : CmX} (ok : CmXOk Γ i c) (hN : Γ.N[i]? = some n) (hv : Γ.names.lookup n = some .local) (hn : okN n = true) {x : Expr} {f : XE} (h : xE Γ n c x = some f) {G k W X a oe cls d pn} (o : XOk Γ G k W X) (hz : Zc cls d oe) (hf : ∃ vs, oe.data = .fields vs) :
    PE (sx X a oe pn) x (tXE X a oe cls d pn i G f) := by
  unfold xE at h
  split at h
  · split at h
    · cases h; exact xe_int
    · cases h; exact xe_bl
    · cases h; exact xe_non
    · cases h; exact xe_str
    · cases h
  · unfold xVar at h
    split at h
    · rename_i kk hl
      obtain ⟨h1, h2⟩ := gd_some h
      simp only [Bool.and_eq_true] at h1
      obtain ⟨j, h3, rfl⟩ := Option.map_eq_some_iff.mp h2
      refine xe_var o (ixOf_some h3) ?_ (okN_ok h1.2).1 (okN_ok h1.2).2
      cases kk with
      | «local» => exact .inl hl
      | cell => exact .inr (.inl hl)
      | free => exact .inr (.inr hl)
      | _ => cases h1.1
    · cases h
  · obtain ⟨fa, h1, rfl⟩ := Option.map_eq_some_iff.mp h
    exact xe_tup (ok.a h1 o hz hf)
  · split at h
    · exact pe_one (ok.e h o hz hf)
    · obtain ⟨fa, fb, h1, h2, rfl⟩ := o2_some h
      exact xe_or (ok.e h1 o hz hf) (ok.e h2 o hz hf)
    · cases h
  · obtain ⟨h1, h2⟩ := gd_some h
    cases h2
    have e := of_decide_eq_true h1
    subst e
    exact xe_fld o hN hv (okN_ok hn).1 (okN_ok hn).2 hz hf
  · obtain ⟨h1, h2⟩ := gd_some h
    cases h2
    simp only [Bool.and_eq_true, decide_eq_true_eq] at h1
    obtain ⟨⟨⟨⟨⟨e1, e2⟩, h3⟩, h4⟩, h5⟩, h6⟩ := h1
    subst e2
    exact xe_is o e1 hN hv (okN_ok hn).1 (okN_ok hn).2 hz hf (of_decide_eq_true h3) (of_decide_eq_true h4) (of_decide_eq_true h5) (okN_ok h6).1
  · cases h
theorem xA_ok {c : CmX} (ok : CmXOk Γ i c) {x : List Expr} {f : XA} (h : xA c x = some f) {G k W X a oe cls d pn} (o : XOk Γ G k W X) (hz : Zc cls d oe) (hf : ∃ vs, oe.data = .fields vs) :
    PA (sx X a oe pn) x (tXA X a oe cls d pn i G f) := by
  cases x with
  | nil => cases h; exact xa_nil
  | cons e r =>
    unfold xA at h
    obtain ⟨h1, h2⟩ := gd_some h
    obtain ⟨fe, fr, h3, h4, rfl⟩ := o2_some h2
    exact xa_cons h1 (ok.e h3 o hz hf) (ok.a h4 o hz hf)
theorem cmX_ok (hN : Γ.N[i]? = some n) (hv : Γ.names.lookup n = some .local) (hn : okN n = true) : ∀ k, CmXOk Γ i (cmX Γ n k)
  | 0 => ⟨(fun h => nomatch h), (fun h => nomatch h)⟩
  | k + 1 => ⟨fun h _ _ _ _ _ _ _ _ _ o hz hf => xE_ok (cmX_ok hN hv hn k) hN hv hn h o hz hf, fun h _ _ _ _ _ _ _ _ _ o hz hf => xA_ok (cmX_ok hN hv hn k) h o hz hf⟩
end
def xS (Γ : Ctx) (i : Nat) (c : CmX) : List Stmt → Option XS
  | [.Return (some e) _] => (c.e e).map fun fe C fs => sRet (fe C fs)
  | .Assign [.Name x _] e _ :: r => gd (decide (Γ.names.lookup x = some .local) && noComp e) ((ixOf Γ.N x).bind fun j => gd (decide (j ≠ i)) (o2 (c.e e) (xS Γ i c r) fun fe fr C fs => sSeq (sSet (.nm j) (fe C fs)) (fr C fs)))
  | _ => none
theorem xS_ok {Γ : Ctx} {i : Nat} {c : CmX} (ok : CmXOk Γ i c) : ∀ {x : List Stmt} {f : XS}, xS Γ i c x = some f → ∀ {G k W X a oe cls d pn}, XOk Γ G k W X → Zc cls d oe → (∃ vs, oe.data = .fields vs) → PSs (sx X a oe pn) x (tXT X a oe cls d pn i G f) := by
  intro x
  induction x with
  | nil => intro f h; cases h
  | cons st r ih =>
    intro f h G k W X a oe cls d pn o hz hf
    unfold xS at h
    split at h
    · rename_i e p heq
      cases heq
      obtain ⟨fe, h1, rfl⟩ := Option.map_eq_some_iff.mp h
      exact xs_ret (ok.e h1 o hz hf)
    · rename_i x p e p2 r' heq
      cases heq
      obtain ⟨h1, h2⟩ := gd_some h
      simp only [Bool.and_eq_true, decide_eq_true_eq] at h1
      obtain ⟨j, h3, h4⟩ := Option.bind_eq_some_iff.mp h2
      obtain ⟨h5, h6⟩ := gd_some h4
      obtain ⟨fe, fr, h7, h8, rfl⟩ := o2_some h6
      exact xs_set o (ixOf_some h3) h1.1 (of_decide_eq_true h5) (ok.e h7 o hz hf) h1.2 (ih h8 o hz hf)
    · cases h
def subHas (t : Tab) (D : Str) : Bool := t.subs.any fun q => decide (q.1.2 = D)
theorem subHas_ok {t : Tab} {D : Str} (h : subHas t D = true) : ∃ C b, t.sub C D = some b := by
  unfold subHas at h
  obtain ⟨⟨⟨C, D'⟩, b⟩, h1, h2⟩ := List.any_eq_true.mp h
  have e := of_decide_eq_true h2
  dsimp only at e
  subst e
  unfold Tab.sub
  cases q : t.subs.lookup (C, D') with
  | some b' => exact ⟨C, b', q⟩
  | none =>
    have := List.lookup_eq_none_iff.mp q _ h1
    simp at this
/-- the clauses -/
def cHs (Γ : Ctx) : List ExceptHandler → Option (List (Str × Nat × XS))
  | [] => some []
  | .ExceptHandler (some (.Name D _)) (some n) body _ :: r => gd (isGl Γ D && okN D && okN n && decide (Γ.names.lookup n = some .local) && subHas Γ.tab D && !body.isEmpty) ((ixOf Γ.N n).bind fun i => o2 (xS Γ i (cmX Γ n 30) body) (cHs Γ r) fun s l => (D, i, s) :: l)
  | _ => none
theorem cHs_ok {Γ : Ctx} : ∀ {x : List ExceptHandler} {l : List (Str × Nat × XS)}, cHs Γ x = some l → ∀ {G k}, HdX Γ G k x l := by
  intro x
  induction x with
  | nil => intro l h G k; cases h; exact .nil
  | cons hd r ih =>
    intro l h G k
    unfold cHs at h
    split at h
    · rename_i heq; cases heq
    · rename_i D p1 n body p2 r' heq
      cases heq
      obtain ⟨h1, h2⟩ := gd_some h
      simp only [Bool.and_eq_true, decide_eq_true_eq] at h1
      obtain ⟨⟨⟨⟨⟨k1, k2⟩, k3⟩, k4⟩, k5⟩, k6⟩ := h1
      obtain ⟨i, h3, h4⟩ := Option.bind_eq_some_iff.mp h2
      obtain ⟨s, l', h5, h6, rfl⟩ := o2_some h4
      cases body with
      | nil => cases k6
      | cons b0 suite =>
        exact .cons (of_decide_eq_true k1) (okN_ok k2).1 (ixOf_some h3) k4 (subHas_ok k5) (fun X W a oe cls d pn o hz hf => xS_ok (cmX_ok (ixOf_some h3) k4 k3 30) h5 o hz hf) (ih h6)
    · cases h
/-! ### statements -/
structure Cms where
  s : Stmt → Option SS
  ss : List Stmt → Option SS
structure CmsOk (Γ : Ctx) (m : Cms) : Prop where
  s : ∀ {x f}, m.s x = some f → ∀ {G k W X}, XOk Γ G k W X → PS X x (tS X W (f G))
  ss : ∀ {x f}, m.ss x = some f → ∀ {G k W X}, XOk Γ G k W X → PSs X x (tS X W (f G))
section
variable (c : Cmp) (Γ : Ctx) (m : Cms)
def cTupA (es vs : List Expr) : Option SS := match es, vs with
  | [.Name x _, .Name y _], [a, b] => gd (decide (Γ.names.lookup x = some .local) && decide (Γ.names.lookup y = some .local) && smp a && smp b) ((ixOf Γ.N x).bind fun i => (ixOf Γ.N y).bind fun j => gd (decide (i ≠ j)) (o2 (c.e Γ a) (c.e Γ b) (sPar i j)))
  | _, _ => none
def cTup (es : List Expr) (k : Nat) (p : Pos) (e : Expr) : Option SS := match e with
  | .Tuple vs k2 p2 => match swO Γ.names es vs with
    | some none => o2 (c.p Γ (.Tuple es k p)) (c.e Γ (.Tuple vs k2 p2)) sSet
    | some (some nms) => match es with
      | [.Name x _, .Name y _] => gd (decide (nms = [x, y])) (cTupA c Γ es vs)
      | _ => none
    | none => none
  | e => gd (noComp e) (o2 (c.p Γ (.Tuple es k p)) (c.e Γ e) sSet)
def isTP : TP → Bool
  | .tp _ => true
  | _ => false
def cAsg (e : Expr) : Expr → Option SS
  | .Name y _ => gd (decide (y ∈ Γ.stor)) (o2 (ixOf Γ.N y) (c.e Γ e) fun i => sSet (.nm i))
  | .Tuple es k p => cTup c Γ es k p e
  | .Subscript ob ix _ => gd (noComp e && smp ix) (o3 (c.e Γ ob) (c.e Γ ix) (c.e Γ e) sSetI)
  | _ => none
def cAug : Operator → Option Op2
  | .Add => some oAddI | .Sub => some oSub | _ => none
def cRaise0 (C : Str) : Option SS := gd (isGl Γ C && okN C && decide (C ∈ Γ.tab.exc0)) (some (sRaise0 C))
def cRaise (C : Str) (args : List Expr) : Option SS := gd (isGl Γ C && okN C && !args.isEmpty) (match Γ.tab.excs.lookup C with
  | some (n, names) => gd (decide (args.length = names.length) && decide (names.length ≤ 1000)) ((c.a Γ args).map (sRaise C n names))
  | none => none)
def cS : Stmt → Option SS
  | .Pass _ => some sSkip
  | .Break _ => some sBreak
  | .Continue _ => some sCont
  | .Expr e _ => gd (noComp e) ((c.e Γ e).map sExpr)
  | .Return v _ => match v with
    | none => some sRetN
    | some e => (c.e Γ e).map sRet
  | .If t a b _ => o3 (c.t Γ t) (m.ss a) (m.ss b) sIf
  | .Assign tgs e _ => match tgs with
    | [tg] => cAsg c Γ e tg
    | _ => none
  | .AugAssign tg op e _ => match tg with
    | .Name x _ => gd (decide (x ∈ Γ.stor)) (o3 (ixOf Γ.N x) (cAug op) (c.e Γ e) sAug)
    | _ => none
  | .For tg it body els _ => match els with
    | [] => gd (smp it) (o3 (c.i Γ tg it) (c.p Γ tg) (m.ss body) sFor)
    | _ => none
  | .While t body els _ => match els with
    | [] => o2 (c.t Γ t) (m.ss body) sWhile
    | _ => none
  | .Raise v cs _ => match v, cs with
    | some (.Call (.Name C _) args [] _), none => if args.isEmpty then cRaise0 Γ C else cRaise c Γ C args
    | _, _ => none
  | .Try body hds els fin _ => match els, fin with
    | [], [] => gd (Γ.top && !hds.isEmpty) (o2 (m.ss body) (cHs Γ hds) (sTry Γ.tab.sub))
    | _, _ => none
  | _ => none
def cSs : List Stmt → Option SS
  | [] => some sSkip
  | [s] => m.s s
  | s :: r => o2 (m.s s) (m.ss r) sSeq
variable {c Γ m}
variable (ok : CmpOk c) (om : CmsOk Γ m)
include ok
theorem cTup_ok {es : List Expr} {kk : Nat} {p : Pos} {e : Expr} {f : SS} (h : cTup c Γ es kk p e = some f) {G : Orc} {k : Nat} {W : WX} {X : Cx} (o : XOk Γ G k W X) {pos : Pos} (hp : ∀ {q : TP}, c.p Γ (.Tuple es kk p) = some q → ∃ ps, q = .tp ps) : PS X (.Assign [.Tuple es kk p] e pos) (tS X W (f G)) := by
  unfold cTup at h
  split at h
  · rename_i vs k2 p2
    split at h
    · rename_i hw
      obtain ⟨q, fe, h1, h2, rfl⟩ := o2_some h
      obtain ⟨ps, rfl⟩ := hp h1
      exact ss_tup (ok.p h1 o) (ok.e h2 o) rfl (swO_ok o.kind o.names hw)
    · rename_i nms hw
      split at h
      · rename_i x px y py
        obtain ⟨h1, h2⟩ := gd_some h
        have e := of_decide_eq_true h1
        subst e
        unfold cTupA at h2
        split at h2
        · rename_i x' px' y' py' a b heq
          cases heq
          obtain ⟨h3, h4⟩ := gd_some h2
          simp only [Bool.and_eq_true, decide_eq_true_eq] at h3
          obtain ⟨i, h5, h6⟩ := Option.bind_eq_some_iff.mp h4
          obtain ⟨j, h7, h8⟩ := Option.bind_eq_some_iff.mp h6
          obtain ⟨h9, h10⟩ := gd_some h8
          obtain ⟨fa, fb, h11, h12, rfl⟩ := o2_some h10
          exact ss_par o (ixOf_some h5) (ixOf_some h7) (of_decide_eq_true h9) h3.1.1.1 h3.1.1.2 (ok.e h11 o) (ok.e h12 o) h3.1.2 h3.2 hw
        · cases h2
      · cases h
    · cases h
  · rename_i hnt
    obtain ⟨h0, h'⟩ := gd_some h
    obtain ⟨q, fe, h1, h2, rfl⟩ := o2_some h'
    obtain ⟨ps, rfl⟩ := hp h1
    exact ss_tup (ok.p h1 o) (ok.e h2 o) h0 (sw_noTup (by cases e <;> first | rfl | exact absurd rfl (hnt _ _ _)))
omit ok in
theorem cAug_ok {op : Operator} {f : Op2} (h : cAug op = some f) {X : Cx} : PIp X op (fun x y H Q => rS X f x y H Q) := by
  cases op <;> first | (cases h; first | exact ips_add | exact ips_sub) | cases h
theorem cRaise_ok {C : Str} {args : List Expr} {f : SS} (h : cRaise c Γ C args = some f) {G : Orc} {k : Nat} {W : WX} {X : Cx} (o : XOk Γ G k W X) {p p2 pos : Pos} : PS X (.Raise (some (.Call (.Name C p) args [] p2)) none pos) (tS X W (f G)) := by
  unfold cRaise at h
  obtain ⟨h0, h'⟩ := gd_some h
  simp only [Bool.and_eq_true] at h0
  split at h'
  · rename_i n names hl
    obtain ⟨h1, h2⟩ := gd_some h'
    simp only [Bool.and_eq_true, decide_eq_true_eq] at h1
    obtain ⟨fa, h3, rfl⟩ := Option.map_eq_some_iff.mp h2
    obtain ⟨k1, k2, k3⟩ := ok.a h3
    cases args with
    | nil => cases h0.2
    | cons e es => exact ss_raise o (of_decide_eq_true h0.1.1) hl (k3 o) (fun ρ h xs h' q => (k2 q).trans h1.1) (okN_ok h0.1.2).1 k1 h1.2
  · cases h'
include om
omit ok in
theorem cTry_ok {body : List Stmt} {hds : List ExceptHandler} {f : SS} (h : gd (Γ.top && !hds.isEmpty) (o2 (m.ss body) (cHs Γ hds) (sTry Γ.tab.sub)) = some f) {G : Orc} {k : Nat} {W : WX} {X : Cx} (o : XOk Γ G k W X) {pos : Pos} : PS X (.Try body hds [] [] pos) (tS X W (f G)) := by
  obtain ⟨h0, h'⟩ := gd_some h
  simp only [Bool.and_eq_true] at h0
  obtain ⟨fb, l, h1, h2, rfl⟩ := o2_some h'
  cases hds with
  | nil => cases h0.2
  | cons hd r => exact ss_try o h0.1 (fun X' W' o' => om.ss h1 o') (cHs_ok h2)
theorem cS_ok (hp : ∀ {es kk p} {q : TP}, c.p Γ (.Tuple es kk p) = some q → ∃ ps, q = .tp ps) {x : Stmt} {f : SS} (h : cS c Γ m x = some f) {G : Orc} {k : Nat} {W : WX} {X : Cx} (o : XOk Γ G k W X) : PS X x (tS X W (f G)) := by
  unfold cS at h
  split at h
  · cases h; exact ss_pass
  · cases h; exact ss_break
  · cases h; exact ss_cont
  · obtain ⟨h0, h'⟩ := gd_some h
    obtain ⟨fe, h1, rfl⟩ := Option.map_eq_some_iff.mp h'
    exact ss_expr (ok.e h1 o) h0
  · split at h
    · cases h; exact ss_retN
    · obtain ⟨fe, h1, rfl⟩ := Option.map_eq_some_iff.mp h
      exact ss_ret (ok.e h1 o)
  · obtain ⟨ft, fa, fb, h1, h2, h3, rfl⟩ := o3_some h
    exact ss_if (ok.t h1 o) (om.ss h2 o) (om.ss h3 o)
  · split at h
    · unfold cAsg at h
      split at h
      · obtain ⟨h0, h'⟩ := gd_some h
        obtain ⟨i, fe, h1, h2, rfl⟩ := o2_some h'
        exact ok.n h2 o (ixOf_some h1) (of_decide_eq_true h0)
      · exact cTup_ok ok h o hp
      · obtain ⟨h0, h'⟩ := gd_some h
        simp only [Bool.and_eq_true] at h0
        obtain ⟨fo, fi, fe, h1, h2, h3, rfl⟩ := o3_some h'
        exact ss_setI o (ok.e h3 o) (ok.e h1 o) (ok.e h2 o) h0.1 h0.2
      · cases h
    · cases h
  · split at h
    · obtain ⟨h0, h'⟩ := gd_some h
      obtain ⟨i, f2, fe, h1, h2, h3, rfl⟩ := o3_some h'
      exact ss_aug o (ixOf_some h1) (of_decide_eq_true h0) (cAug_ok h2) (ok.e h3 o)
    · cases h
  · split at h
    · obtain ⟨h0, h'⟩ := gd_some h
      obtain ⟨fi, p, fb, h1, h2, h3, rfl⟩ := o3_some h'
      exact ss_for o (ok.i h1 o) (ok.p h2 o) (om.ss h3 o) h0
    · cases h
  · split at h
    · obtain ⟨ft, fb, h1, h2, rfl⟩ := o2_some h
      exact ss_while o (ok.t h1 o) (om.ss h2 o)
    · cases h
  · split at h
    · rename_i C p0 args p1
      split at h
      · rename_i he
        unfold cRaise0 at h
        obtain ⟨h0, h'⟩ := gd_some h
        cases h'
        simp only [Bool.and_eq_true, decide_eq_true_eq] at h0
        cases args with
        | nil => exact ss_raise0 o (of_decide_eq_true h0.1.1) h0.2 (okN_ok h0.1.2).1
        | cons a r => cases he
      · exact cRaise_ok ok h o
    · cases h
  · split at h
    · exact cTry_ok om h o
    · cases h
  · cases h
omit ok in
theorem cSs_ok {x : List Stmt} {f : SS} (h : cSs m x = some f) {G : Orc} {k : Nat} {W : WX} {X : Cx} (o : XOk Γ G k W X) : PSs X x (tS X W (f G)) := by
  unfold cSs at h
  split at h
  · cases h; exact ss_nil
  · exact ss_one (om.s h o)
  · obtain ⟨f1, f2, h1, h2, rfl⟩ := o2_some h
    exact ss_cons (om.s h1 o) (om.ss h2 o)
end
def cmS (c : Cmp) (Γ : Ctx) : Nat → Cms
  | 0 => ⟨fun _ => none, fun _ => none⟩
  | k + 1 => ⟨cS c Γ (cmS c Γ k), cSs (cmS c Γ k)⟩
theorem cmS_ok {c : Cmp} {Γ : Ctx} (ok : CmpOk c) (hp : ∀ {es kk p} {q : TP}, c.p Γ (.Tuple es kk p) = some q → ∃ ps, q = .tp ps) : ∀ n, CmsOk Γ (cmS c Γ n)
  | 0 => ⟨(fun h => nomatch h), (fun h => nomatch h)⟩
  | n + 1 => ⟨fun h _ _ _ _ o => cS_ok ok (cmS_ok ok hp n) hp h o, fun h _ _ _ _ o => cSs_ok (cmS_ok ok hp n) h o⟩
theorem cmpN_tp {n : Nat} {Γ : Ctx} {es : List Expr} {kk : Nat} {p : Pos} {q : TP} (h : (cmpN n).p Γ (.Tuple es kk p) = some q) : ∃ ps, q = .tp ps := by
  cases n with
  | zero => cases h
  | succ n =>
    have h' : ((cmpN n).ps Γ es).map TP.tp = some q := h
    obtain ⟨ps, _, e⟩ := Option.map_eq_some_iff.mp h'
    exact ⟨ps, e.symm⟩
/-- a body -/
def comp (Γ : Ctx) (body : List Stmt) : Option SS := (cmS (cmpN 60) Γ 400).ss body
theorem comp_ok {Γ : Ctx} {body : List Stmt} {f : SS} (h : comp Γ body = some f) {G : Orc} {k : Nat} {W : WX} {X : Cx} (o : XOk Γ G k W X) : PSs X body (tS X W (f G)) := (cmS_ok (cmpN_ok 60) cmpN_tp 400).ss h o
end EP
end
section
set_option maxHeartbeats 1000000
/-! Prog: the program's defs keep their promises. -/
namespace EP
open PySem PySem.Spec PyProof.Rows L2
def mkΓ (N : List Str) (scope : Scope) (tab : Tab) (tk : Bool) : Ctx := ⟨N, scope.names, storN scope.names, tab, tk, true⟩
section
variable {P : Program} {w : World} {K : PySem.W.Frag} {mg : Str → Option Value} {base : Heap}
structure TabOk (P : Program) (w : World) (K : PySem.W.Frag) (mg : Str → Option Value) (base : Heap) (tab : Tab) (G : Orc) (k : Nat) : Prop where
  fns : ∀ x n ar, tab.fns.lookup x = some (n, ar) → ∃ f fd ps, mg x = some (.ref f) ∧ PySem.W.keepIn K (.ref f) = true ∧ Binds K fd ps [] ∧ FnOk P w K mg base (L2.CX P w) k f fd ps (spOf ⟨K, mg⟩ (G n) ar)
  excs : ∀ C n names, tab.excs.lookup C = some (n, names) → ∃ Ca fI fd ps, mg C = some (.ref Ca) ∧ OexC K Ca ∧ PySem.W.findIn K (.ref Ca) "__init__" = some (some (.ref fI)) ∧ PySem.W.typeIn K (.ref fI) = some (.type "function") ∧ Binds K fd ps [] ∧
    FnOk P w K mg base (L2.CX P w) k fI fd ps (spIni ⟨K, mg⟩ Ca (G n) names)
  nums : ∀ x i, tab.nums.lookup x = some i → ∃ t, mg x = some (.int i t)
  free : ∀ x ∈ tab.free, mg x = none
  subs : ∀ C D b, tab.sub C D = some b → SubAt K mg C D b
  flds : ∀ C fl, tab.flds.lookup C = some fl → FldAt K mg C fl
  exc0 : ∀ C ∈ tab.exc0, Exc0At K mg C
theorem xok_of {tab : Tab} {tk : Bool} {G : Orc} {k : Nat} {N ps : List Str} {scope : Scope} {qual : Str} {f : Addr} {cdv : Value} {A : Around} {outer : List PySem.Env} {s : Shared} {H : Hp} {E : XK} (t : TabOk P w K mg base tab G k) (S : FnScope N ps scope)
    (hr : Room (k + 1) (A.deeper (envOfC qual scope s.heap.objs.size f cdv))) : XOk (mkΓ N scope tab tk) G k (fun c d _ H => E c d H) (cxOf (L2.CX P w) P w K mg base N qual scope f cdv A outer s H E) where
  N := rfl
  nd := S.nd
  names := rfl
  kind := S.kind
  calm := rfl
  tk := takes_of rfl rfl rfl rfl
  po := passes_of rfl
  room := hr
  stor := fun x hx => ⟨stor_at hx, .inl rfl⟩
  fns := fun x n ar h => ⟨t.fns x n ar h⟩
  nums := t.nums
  free := t.free
  excs := fun C n names h => ⟨t.excs C n names h⟩
  subs := t.subs
  flds := t.flds
  exc0 := t.exc0
  top := fun _ => ⟨rfl, rfl⟩
theorem start_rep {β : List Addr} {H : Hp} {N : List Str} {ds : List Dt} {vs : List V} (r : RepVs β H ds vs) : RepS β H (ds.map some ++ List.replicate (N.length - ds.length) none) (L2.start N vs) := by
  unfold L2.start
  have hl := r.length
  refine ⟨by simp [hl], fun i d e => ?_⟩
  by_cases hi : i < ds.length
  · rw [List.getElem?_append_left (by simpa using hi), List.getElem?_map] at e
    obtain ⟨d', h1, h2⟩ := Option.map_eq_some_iff.mp e
    cases h2
    obtain ⟨v, h3, h4⟩ := r.get h1
    refine ⟨v, ?_, h4⟩
    rw [List.getElem?_append_left (by simp; omega), List.getElem?_map, h3]
    rfl
  · rw [List.getElem?_append_right (by simpa using Nat.not_lt.mp hi)] at e
    have := List.mem_of_getElem? e
    have := List.eq_of_mem_replicate this
    cases this
/-- a def -/
def gOf (md : MDef) (G : Orc) (args : List Dt) (h : MH) : RE Dt := if args.length = md.ar then runBody md.sl md.body G args h else .bad
theorem fn_ok {tab : Tab} (tk : Bool) {G : Orc} {k : Nat} {N ps : List Str} {x qual : Str} {params : Arguments} {body : List Stmt} {scope : Scope} {f : Addr} {fd : FuncData} {s : SS} (F : FunD K x qual params body scope [] [] f fd) (S : FnScope N ps scope) (t : TabOk P w K mg base tab G k)
    (hc : comp (mkΓ N scope tab tk) body = some s) : FnOk P w K mg base (L2.CX P w) (k + 2) f fd ps (spOf ⟨K, mg⟩ (gOf ⟨ps.length, N.length, s⟩ G) ps.length) := by
  refine F.ok (k := k + 1) S (fun vs H Q E ⟨ds, h, β, hl, rv, _⟩ => by rw [← rv.length]; exact hl) fun cdv A outer s0 H vs Q E hr ⟨ds, h, β, hl, rv, rh, p⟩ => ?_
  have o := xok_of (tk := tk) (qual := qual) (f := f) (cdv := cdv) (A := A) (outer := outer) (s := s0) (H := H) (E := E) t S hr
  refine ⟨_, comp_ok hc o, _, h, β, start_rep rv, rh, ?_⟩
  unfold gOf at p
  rw [if_pos hl] at p
  unfold runBody at p
  simp only at p
  show PostS _ _ _ β H (s G (ds.map some ++ List.replicate (N.length - ds.length) none) h)
  cases hq : s G (ds.map some ++ List.replicate (N.length - ds.length) none) h with
  | nx ρ h' =>
    rw [hq] at p
    exact fun β' H' σ' xx rh' rs' => p β' H' .non xx rh' .non
  | rt d h' => rw [hq] at p; exact fun β' H' v xx rh' rv' => p β' H' v xx rh' rv'
  | ex C fs ρ h' => rw [hq] at p; exact fun β' H' σ' Cv od xx rh' rs' e1 e2 => p β' H' Cv od xx rh' e1 e2
  | bk ρ h' => rw [hq] at p; exact p.elim
  | ct ρ h' => rw [hq] at p; exact p.elim
  | bad => rw [hq] at p; exact p.elim
/-! ### an exception's __init__ -/
def ini1 (Γ : Ctx) (sf f : Str) (j : Nat) : Stmt → Bool
  | .Assign [.Attribute (.Name s _) f' _] (.Call (.Name sf' _) [.Name x _] [] _) _ => decide (s = "self") && decide (f' = f) && decide (sf' = sf) && decide (Γ.N[j]? = some x) && decide (Γ.names.lookup x = some .local) && okN x
  | _ => false
def iniC (Γ : Ctx) (sf : Str) : List Str → Nat → List Stmt → Bool
  | [], _, [] => true
  | f :: fl, j, st :: r => ini1 Γ sf f j st && iniC Γ sf fl (j + 1) r
  | _, _, _ => false
theorem iniC_ok {Γ : Ctx} {G : Orc} {k : Nat} {W : WX} {X : Cx} {Ca : Addr} {sp : Nat} {sf : Str} (o : XOk Γ G k W X) (T : OexC X.K Ca) (h0 : Γ.N[0]? = some ("self" : Str)) (hs0 : Γ.names.lookup ("self" : Str) = some .local) (hf : Γ.tab.fns.lookup sf = some (sp, 1)) (hg : Γ.names.lookup sf = some .globalImplicit) (hd : (sf == ("__debug__" : Str)) = false) :
    ∀ {fl : List Str} {j : Nat} {body : List Stmt}, (∀ f ∈ fl, PySem.W.findIn X.K (.ref Ca) f = some none) → iniC Γ sf fl j body = true → PSs X body (tI (rc X) Ca sp G (fl.zipIdx j))
  | [], j, [], _, _ => ti_nil
  | [], j, _ :: _, _, h => by simp [iniC] at h
  | _ :: _, j, [], _, h => by simp [iniC] at h
  | f :: fl, j, st :: r, hno, h => by
    have h' : (ini1 Γ sf f j st && iniC Γ sf fl (j + 1) r) = true := h
    obtain ⟨h1, h2⟩ := Bool.and_eq_true_iff.mp h'
    have ih := iniC_ok o T h0 hs0 hf hg hd (fl := fl) (j := j + 1) (body := r) (fun f hf => hno f (by simp [hf])) h2
    unfold ini1 at h1
    split at h1
    · simp only [Bool.and_eq_true, decide_eq_true_eq] at h1
      obtain ⟨⟨⟨⟨⟨rfl, rfl⟩, rfl⟩, h4⟩, h5⟩, h6⟩ := h1
      rw [List.zipIdx_cons]
      exact ti_cons o T (hno _ (by simp)) h0 h4 hs0 h5 (okN_ok h6).1 (okN_ok h6).2 hf hg hd ih
    · cases h1
theorem getSome_map : ∀ ds : List Dt, getSome (ds.map some) = some ds
  | [] => rfl
  | d :: ds => by
    show (getSome (ds.map some)).map (d :: ·) = _
    rw [getSome_map ds]; rfl
theorem gOf_ini {n m sp : Nat} {G : Orc} {ds : List Dt} {h : MH} {v : Dt} {h' : MH} (e : gOf ⟨n, m, sInit sp⟩ G ds h = .ok v h') (hm : m ≤ n) : ∃ es, v = .tup es ∧ initLoop sp G ds h = .ok es h' := by
  unfold gOf at e
  split at e
  · rename_i hl
    have hl' : ds.length = n := hl
    unfold runBody sInit at e
    have : m - ds.length = 0 := by omega
    simp only [this, List.replicate_zero, List.append_nil, getSome_map] at e
    cases hq : initLoop sp G ds h with
    | ok es h1 => rw [hq] at e; simp only at e; cases e; exact ⟨es, rfl, rfl⟩
    | ex C fs h1 => rw [hq] at e; cases e
    | bad => rw [hq] at e; cases e
  · cases e
theorem parAt_start {β : List Addr} {H : Hp} : ∀ {fl : List Str} {ds : List Dt} {us : List V} {σ : L2.St} {j : Nat}, fl.length = ds.length → RepVs β H ds us → (∀ (i : Nat) (v : V), us[i]? = some v → σ[j + i]? = some (some v)) → ParAt β H σ (fl.zipIdx j) ds
  | [], [], _, _, _, _, _, _ => trivial
  | f :: fl, d :: ds, _, σ, j, hl, .cons (v := v) (vs := vs) rv rr, hs => by
    rw [List.zipIdx_cons]
    refine ⟨⟨v, hs 0 v rfl, rv⟩, parAt_start (by simpa using hl) rr fun i u hu => ?_⟩
    have := hs (i + 1) u (by simpa using hu)
    have e : j + 1 + i = j + (i + 1) := by omega
    rw [e]; exact this
  | [], _ :: _, _, _, _, hl, _, _ => by cases hl
  | _ :: _, [], _, _, _, hl, _, _ => by cases hl
theorem ini_ok {tab : Tab} {G : Orc} {k : Nat} {fl : List Str} {x qual : Str} {params : Arguments} {body : List Stmt} {scope : Scope} {f Ca : Addr} {fd : FuncData} {sp : Nat} {sf : Str} (F : FunD K x qual params body scope [] [] f fd) (S : FnScope ("self" :: fl) ("self" :: fl) scope) (t : TabOk P w K mg base tab G k)
    (T : OexC K Ca) (hno : ∀ f ∈ fl, PySem.W.findIn K (.ref Ca) f = some none) (hs0 : scope.names.lookup ("self" : Str) = some .local) (hf : tab.fns.lookup sf = some (sp, 1)) (hg : scope.names.lookup sf = some .globalImplicit) (hd : (sf == ("__debug__" : Str)) = false) (hne : fl ≠ []) (hz : fl.length ≤ 900)
    (hc : iniC (mkΓ ("self" :: fl) scope tab false) sf fl 1 body = true) : FnOk P w K mg base (L2.CX P w) (k + 2) f fd ("self" :: fl) (spIni ⟨K, mg⟩ Ca (gOf ⟨fl.length, fl.length, sInit sp⟩ G) fl) := by
  refine F.ok (k := k + 1) S (fun vs H Q E ⟨a, us, ds, h, β, es, h2, e, hl, _, rv, _⟩ => by subst e; simp only [List.length_cons]; rw [← rv.length, hl]) fun cdv A outer s0 H vs Q E hr ⟨a, us, ds, h, β, es, h2, e, hl, ea, rv, rh, eg, q⟩ => ?_
  subst e
  have o := xok_of (tk := false) (qual := qual) (f := f) (cdv := cdv) (A := A) (outer := outer) (s := s0) (H := H) (E := E) t S hr
  refine ⟨_, iniC_ok (fl := fl) (j := 1) o T rfl hs0 hf hg hd hno hc, ?_⟩
  obtain ⟨es', e1, e2⟩ := gOf_ini eg (Nat.le_refl _)
  cases e1
  have hlen := rv.length
  refine ⟨a, none, [], [], ds, h, β, β, dropH H a, es, h2, rfl, ea, dropH_same, ⟨rfl, rfl, ?_⟩, by simp; omega, Ext.refl _ _, rh.dropX ea, fun g => .inl ⟨rfl, rfl⟩, parAt_start hl.symm rv fun i v hv => ?_, e2, fun β' H' d gs' y1 y2 y3 y4 y5 y6 y7 => ?_⟩
  · cases fl with
    | nil => exact absurd rfl hne
    | cons _ _ => simp [List.zipIdx]
  · unfold L2.start
    have hi : i < us.length := (List.getElem?_eq_some_iff.mp hv).1
    rw [List.getElem?_append_left (by simp; omega), List.getElem?_map]
    have : (V.ref a :: us)[1 + i]? = some v := by rw [Nat.add_comm]; simpa using hv
    rw [this]; rfl
  · refine q β' H' d gs' y1 y2 y3 y4 y5 y6 ?_
    have e : (fl.zipIdx 1).map (·.1) = fl := by simp
    rw [e] at y7
    simpa using y7
/-! ### all defs -/
theorem tab_ok {tab : Tab} {D : List MDef} (hf : ∀ x n ar, tab.fns.lookup x = some (n, ar) → ∃ f fd ps md, mg x = some (.ref f) ∧ PySem.W.keepIn K (.ref f) = true ∧ Binds K fd ps [] ∧ D[n]? = some md ∧ md.ar = ar ∧ ∀ G k, TabOk P w K mg base tab G k → FnOk P w K mg base (L2.CX P w) (k + 2) f fd ps (spOf ⟨K, mg⟩ (gOf md G) ar))
    (he : ∀ C n names, tab.excs.lookup C = some (n, names) → ∃ Ca fI fd ps md, mg C = some (.ref Ca) ∧ OexC K Ca ∧ PySem.W.findIn K (.ref Ca) "__init__" = some (some (.ref fI)) ∧ PySem.W.typeIn K (.ref fI) = some (.type "function") ∧ Binds K fd ps [] ∧ D[n]? = some md ∧
      ∀ G k, TabOk P w K mg base tab G k → FnOk P w K mg base (L2.CX P w) (k + 2) fI fd ps (spIni ⟨K, mg⟩ Ca (gOf md G) names))
    (hn : ∀ x i, tab.nums.lookup x = some i → ∃ t, mg x = some (.int i t)) (hr : ∀ x ∈ tab.free, mg x = none) (hs : ∀ C D b, tab.sub C D = some b → SubAt K mg C D b) (hl : ∀ C fl, tab.flds.lookup C = some fl → FldAt K mg C fl) (h0 : ∀ C ∈ tab.exc0, Exc0At K mg C) :
    ∀ k, TabOk P w K mg base tab (callK D k) (2 * k)
  | 0 => by
    refine ⟨fun x n ar h => ?_, fun C n names h => ?_, hn, hr, hs, hl, h0⟩
    · obtain ⟨f, fd, ps, md, h1, h2, h3, _, _, _⟩ := hf x n ar h
      refine ⟨f, fd, ps, h1, h2, h3, ⟨fun vs H Q E ⟨ds, h, β, _, _, _, p⟩ => p.elim, fun A outer s H args us vs Q E _ _ _ _ ⟨ds, h, β, _, _, _, p⟩ => p.elim⟩⟩
    · obtain ⟨Ca, fI, fd, ps, md, h1, h2, h3, h4, h5, _, _⟩ := he C n names h
      refine ⟨Ca, fI, fd, ps, h1, h2, h3, h4, h5, ⟨(fun vs H Q E ⟨a, us, ds, h, β, es, h2, e, hl, _, rv, _, eg, _⟩ => nomatch eg), fun A outer s H args us vs Q E _ _ _ _ ⟨a, us', ds, h, β, es, h2, e, hl, _, rv, _, eg, _⟩ => nomatch eg⟩⟩
  | k + 1 => by
    have ih := tab_ok hf he hn hr hs hl h0 k
    refine ⟨fun x n ar h => ?_, fun C n names h => ?_, hn, hr, hs, hl, h0⟩
    · obtain ⟨f, fd, ps, md, h1, h2, h3, h4, h5, h6⟩ := hf x n ar h
      have e : callK D (k + 1) n = gOf md (callK D k) := by
        funext args hh
        show (match D[n]? with | some d => if args.length = d.ar then runBody d.sl d.body (callK D k) args hh else .bad | none => .bad) = _
        rw [h4]; rfl
      exact ⟨f, fd, ps, h1, h2, h3, by rw [e]; exact h6 _ _ ih⟩
    · obtain ⟨Ca, fI, fd, ps, md, h1, h2, h3, h4, h5, h6, h7⟩ := he C n names h
      have e : callK D (k + 1) n = gOf md (callK D k) := by
        funext args hh
        show (match D[n]? with | some d => if args.length = d.ar then runBody d.sl d.body (callK D k) args hh else .bad | none => .bad) = _
        rw [h6]; rfl
      exact ⟨Ca, fI, fd, ps, h1, h2, h3, h4, h5, by rw [e]; exact h7 _ _ ih⟩
end
end EP
end
section
set_option maxHeartbeats 1000000
set_option maxRecDepth 100000
/-! HeadP: what the top leaves, told of the defs and of the exceptions. -/
namespace EP
open PySem PySem.Spec PyProof.Rows L2
/-! ### exceptions -/
def oexB (K : PySem.W.Frag) (C : Addr) : Bool := match K.lookup C with
  | some ⟨.type T, _, .cls cd, sl⟩ => decide (T = "type") && (match cd.mro, sl.toList with
    | .ref C' :: bm, [_, _, _, _, some (.builtin n), _] => C' == C && n == "ValueError.__new__" && !cd.hasDel && cd.hasDict && PySem.HandSPX.refsVE bm
    | _, _ => false)
  | _ => false
theorem oexB_ok {K : PySem.W.Frag} {C : Addr} (q : oexB K C = true) : ∃ nm q N bs bm sn sub ab col dd k0 k1 k2 k3 k5, K.lookup C = some (excClassObj nm q C N bs bm true sn sub ab col dd k0 k1 k2 k3 k5 "ValueError.__new__") ∧ PySem.HandSPX.refsVE bm = true := by
  unfold oexB at q
  split at q
  · rename_i T dd cd sl ho
    have q1 := (Bool.and_eq_true_iff.mp q).1
    have q2 := (Bool.and_eq_true_iff.mp q).2
    clear q
    have eT := of_decide_eq_true q1
    subst eT
    split at q2
    · rename_i C' bm k0 k1 k2 k3 n k5 hm hs
      simp only [Bool.and_eq_true, beq_iff_eq, Bool.not_eq_true'] at q2
      obtain ⟨⟨⟨⟨e1, e2⟩, hdel⟩, hdct⟩, ht⟩ := q2
      subst e1
      subst e2
      obtain ⟨nm, bs, mro, ns, qn, hd, sn, sub, ab, col, del⟩ := cd
      dsimp only at hm hdel hdct
      subst hm
      subst hdel
      subst hdct
      have hsl : sl = #[k0, k1, k2, k3, some (.builtin "ValueError.__new__"), k5] := by
        obtain ⟨l⟩ := sl
        exact congrArg Array.mk hs
      subst hsl
      exact ⟨nm, qn, ns, bs, bm, sn, sub, ab, col, dd, k0, k1, k2, k3, k5, ho, ht⟩
    · cases q2
  · cases q
def eqB (a b : Option (Option Value)) : Bool := He.eqO a b
def clsB (K : PySem.W.Frag) (q : Str × List Str) : Bool :=
  (He.Fa.glo q.1).ok K && (oexB K (He.ga K q.1) && (He.eqO (PySem.W.findIn K (.ref (He.ga K q.1)) "__setattr__") (some (some (.builtin "object.__setattr__"))) && (decide (PySem.W.subIn K (.ref (He.ga K q.1)) (.type "BaseException") = some true) &&
    (decide (PySem.W.typeIn K (.ref (He.ga K q.1)) = some (.type "type")) && (PySem.W.keepIn K (.ref (He.ga K q.1)) && (He.eqO (PySem.W.findIn K (.ref (He.ga K q.1)) "__init__") (some (some (.ref (He.ma K (He.ga K q.1) "__init__")))) &&
    (decide (PySem.W.typeIn K (.ref (He.ma K (He.ga K q.1) "__init__")) = some (.type "function")) && (xfB K (He.ga K q.1) && q.2.all fun f => He.eqO (PySem.W.findIn K (.ref (He.ga K q.1)) f) (some none)))))))))
structure ClsF (K : PySem.W.Frag) (mg : Str → Option Value) (C : Str) (fl : List Str) : Prop where
  m : mg C = some (.ref (He.ga K C))
  oex : OexC K (He.ga K C)
  ini : PySem.W.findIn K (.ref (He.ga K C)) "__init__" = some (some (.ref (He.ma K (He.ga K C) "__init__")))
  ty : PySem.W.typeIn K (.ref (He.ma K (He.ga K C) "__init__")) = some (.type "function")
  xf : XfC K (He.ga K C)
  no : ∀ f ∈ fl, PySem.W.findIn K (.ref (He.ga K C)) f = some none
section
variable {K : PySem.W.Frag} {h : Heap} {mg : Str → Option Value}
theorem clsB_ok (X : K.In h) (G : h.Ns mainGlobals mg) {C : Str} {fl : List Str} (q : clsB K (C, fl) = true) : ClsF K mg C fl := by
  unfold clsB at q
  simp only [Bool.and_eq_true] at q
  obtain ⟨h1, h2, h3, h4, h5, h6, h7, h8, h9, h10⟩ := q
  refine ⟨He.glo_ok X G h1, ⟨oexB_ok h2, He.eqO_ok h3, of_decide_eq_true h4, of_decide_eq_true h5, h6⟩, He.eqO_ok h7, of_decide_eq_true h8, xfB_ok h9, fun f hf => ?_⟩
  exact He.eqO_ok (List.all_eq_true.mp h10 f hf)
def kitB0 (K : PySem.W.Frag) (C : Str) : Bool := (He.Fa.glo C).ok K && ((PySem.W.clsIn K (He.ga K C)).isSome && (He.eqO (PySem.W.findIn K (.ref (He.ga K C)) "__getattribute__") (some (some (.builtin "BaseException.__getattribute__"))) && (He.eqO (PySem.W.findIn K (.ref (He.ga K C)) "__getattr__") (some none) &&
  (decide (PySem.W.subIn K (.ref (He.ga K C)) (.type "BaseException") = some true) && (He.eqO (PySem.W.findIn K (.ref (He.ga K C)) "__class__") (some (some (.builtin "object.__class__"))) && (He.eqO (PySem.W.specialIn K (.builtin "object.__class__") "__get__") (some (some (.builtin "getset_descriptor.__get__"))) &&
  (decide (PySem.W.takesIn K (.builtin "object.__class__") = some true) && decide (PySem.W.mroIn K (He.ga K C) (.type "object") = some true))))))))
def subB (t : Tab) (K : PySem.W.Frag) (q : (Str × Str) × Bool) : Bool := decide (q.1.1 ∈ t.kits) && ((He.Fa.glo q.1.2).ok K && (decide (PySem.W.exmOne K (.ref (He.ga K q.1.1)) (.ref (He.ga K q.1.2)) = some q.2) && decide (PySem.W.kitOne K (.ref (He.ga K q.1.1)) (.ref (He.ga K q.1.2)) = some q.2)))
theorem subB_ok (X : K.In h) (G : h.Ns mainGlobals mg) {t : Tab} {C D : Str} {b : Bool} (q0 : t.kits.all (kitB0 K) = true) (q : subB t K ((C, D), b) = true) : SubAt K mg C D b := by
  unfold subB at q
  simp only [Bool.and_eq_true, decide_eq_true_eq] at q
  obtain ⟨k0, k1, k2, k3⟩ := q
  have q1 := List.all_eq_true.mp q0 C k0
  unfold kitB0 at q1
  simp only [Bool.and_eq_true] at q1
  obtain ⟨h1, h2, h3, h4, h5, h6, h7, h8, h9⟩ := q1
  exact ⟨He.ga K C, He.ga K D, He.glo_ok X G h1, He.glo_ok X G k1, k2, k3, h2, He.eqO_ok h3, He.eqO_ok h4, of_decide_eq_true h5, He.eqO_ok h6, He.eqO_ok h7, of_decide_eq_true h8, of_decide_eq_true h9⟩
def exc0B (K : PySem.W.Frag) (C : Str) : Bool := (He.Fa.glo C).ok K && (PySem.W.excIn K (He.ga K C) [.type "ValueError", .type "Exception", .type "BaseException", .type "object"] "ValueError.__new__" && (PySem.W.keepIn K (.ref (He.ga K C)) &&
  (decide (PySem.W.subIn K (.ref (He.ga K C)) (.type "BaseException") = some true) && decide (PySem.W.typeIn K (.ref (He.ga K C)) = some (.type "type")))))
theorem exc0B_ok (X : K.In h) (G : h.Ns mainGlobals mg) {C : Str} (q : exc0B K C = true) : Exc0At K mg C := by
  unfold exc0B at q
  simp only [Bool.and_eq_true] at q
  obtain ⟨h1, h2, h3, h4, h5⟩ := q
  exact ⟨He.ga K C, He.glo_ok X G h1, h2, h3, of_decide_eq_true h4, of_decide_eq_true h5⟩
/-- all that is told of exceptions; numbers; names that are left alone -/
def exB1 (t : Tab) (K : PySem.W.Frag) : Bool := t.flds.all (clsB K)
def exB2 (t : Tab) (K : PySem.W.Frag) : Bool := t.kits.all (kitB0 K) && (t.subs.all (subB t K) && (t.nums.all (fun q => (He.Fa.int q.1 q.2).ok K) && (t.free.all (fun x => (He.Fa.free x).ok K) && t.exc0.all (exc0B K))))
def exB (t : Tab) (K : PySem.W.Frag) : Bool := exB1 t K && exB2 t K
theorem lookup_mem {α β : Type} [BEq α] [LawfulBEq α] {x : α} {v : β} : ∀ {l : List (α × β)}, l.lookup x = some v → (x, v) ∈ l
  | [], h => nomatch h
  | (y, w) :: r, h => by
    rw [List.lookup_cons] at h
    split at h
    · rename_i e
      cases h
      have := eq_of_beq e
      subst this
      exact List.mem_cons_self
    · exact List.mem_cons_of_mem _ (lookup_mem h)
end
/-! ### the hook -/
def obsP (fa : List He.Fa) (fn : List He.DefD) (ex : PySem.W.Frag → Bool) (K : PySem.W.Frag) : He.AlD := ((He.obsD fa fn K).1 && ex K, (He.obsD fa fn K).2)
def SaysP (fa : List He.Fa) (fn : List He.DefD) (ex : PySem.W.Frag → Bool) (K : PySem.W.Frag) : Prop := He.SaysD fa fn K ∧ ex K = true
theorem saysP_of {fa : List He.Fa} {fn : List He.DefD} {ex : PySem.W.Frag → Bool} {K : PySem.W.Frag} (e : obsP fa fn ex K = He.valD fn) : SaysP fa fn ex K := by
  unfold obsP He.valD at e
  have e1 := congrArg Prod.fst e
  have e2 := congrArg Prod.snd e
  obtain ⟨h1, h2⟩ := Bool.and_eq_true_iff.mp e1
  exact ⟨Prod.ext h1 e2, h2⟩
def obsPG (n : Nat) (fa : List He.Fa) (fn : List He.DefD) (ex : PySem.W.Frag → Bool) (g : Addr → Option Obj) : He.AlD := obsP fa fn ex (He.frG g (He.asD g n))
def hookP (n : Nat) (fa : List He.Fa) (fn : List He.DefD) (ex : PySem.W.Frag → Bool) : PySem.W.Hook where
  α := He.AlD
  obs := fun s => obsPG n fa fn ex s.heap.get?
  val := fun _ => He.valD fn
  says := fun _ h => ∃ K : PySem.W.Frag, K.In h ∧ SaysP fa fn ex K
  of := fun _ _ e => ⟨_, He.frG_in, saysP_of e⟩
  keeps := fun _ _ _ ⟨K, hK, c⟩ k => ⟨K, PySem.W.Frag.In.keeps hK k, c⟩
/-- the fragment at the state that the top leaves -/
def frT (n : Nat) (s : PySem.W.SharedT) : PySem.W.Frag := He.frG (HandSHeadRun.getT s) (He.asD (HandSHeadRun.getT s) n)
theorem run_parts {σ α : Type} {o : Option σ} {f1 : σ → Bool} {f2 : σ → α} {fr : σ → PySem.W.Frag} {fa : List He.Fa} {fn : List He.DefD} {t : Tab} {v : α} (hA : o.map (fun s => (f1 s, f2 s)) = some (true, v)) (hB : o.map (fun s => (He.obsD fa fn (fr s)).1) = some true) (hB2 : o.map (fun s => (He.obsD fa fn (fr s)).2) = some (fn.map He.DefD.val)) (hC : o.map (fun s => exB1 t (fr s)) = some true) (hD : o.map (fun s => exB2 t (fr s)) = some true) :
    o.map (fun s => (f1 s, f2 s, obsP fa fn (exB t) (fr s))) = some (true, v, He.valD fn) := by
  cases o with
  | none => cases hA
  | some s =>
    simp only [Option.map_some, Option.some.injEq, Prod.mk.injEq] at *
    refine ⟨hA.1, hA.2, ?_⟩
    unfold obsP exB
    rw [hB, hB2, hC, hD]
    rfl
theorem obsPG_eq {n : Nat} {fa : List He.Fa} {fn : List He.DefD} {ex : PySem.W.Frag → Bool} {g : Addr → Option Obj} {s : Shared} (h : ∀ a, g a = s.heap.get? a) : obsPG n fa fn ex g = (hookP n fa fn ex).obs s := by
  have : g = s.heap.get? := funext h
  subst this
  rfl
/-! ### defs -/
/-- how a def binds what it is given -/
abbrev BindOk (d : He.DefD) (ps : List Str) : Prop := ∀ (kV doc pm : Value) (an : Option Addr) (cdv ct : Value) (us : List Value), us.length = ps.length → bindArgs (PySem.W.fnOf d.name d.qual d.params d.body d.scope .none kV doc pm an cdv ct) ⟨us, []⟩ = pure (ps.zip us)
def fnSc (N ps : List Str) (sc : Scope) : Bool := decide (sc.kind = .function) && (decide (sc.isCoroutine = false) && (decide (sc.isGenerator = false) && (decide N.Nodup && (decide (N.take ps.length = ps) && (ps.all (fun x => decide (sc.names.lookup x = some .local ∨ sc.names.lookup x = some .cell)) && sc.names.all fun y => decide (y.2 ≠ .free))))))
theorem fnSc_ok {N ps : List Str} {sc : Scope} (h : fnSc N ps sc = true) : FnScope N ps sc := by
  unfold fnSc at h
  simp only [Bool.and_eq_true, decide_eq_true_eq, List.all_eq_true] at h
  obtain ⟨h1, h2, h3, h4, h5, h6, h7⟩ := h
  exact ⟨h1, h2, h3, h4, h5, h6, h7⟩
/-- what is looked at in a def's text -/
def dOk (d : He.DefD) (N ps : List Str) : Bool := fnSc N ps d.scope
section
variable {P : Program} {w : World} {K : PySem.W.Frag} {mg : Str → Option Value} {base h : Heap} {tab : Tab} {Ds : List MDef} {fa : List He.Fa} {fn : List He.DefD}
def FP (P : Program) (w : World) (K : PySem.W.Frag) (mg : Str → Option Value) (base : Heap) (tab : Tab) (Ds : List MDef) (q : Str × Nat × Nat) : Prop := ∃ f fd ps md, mg q.1 = some (.ref f) ∧ PySem.W.keepIn K (.ref f) = true ∧ Binds K fd ps [] ∧ Ds[q.2.1]? = some md ∧ md.ar = q.2.2 ∧
  ∀ G k, TabOk P w K mg base tab G k → FnOk P w K mg base (L2.CX P w) (k + 2) f fd ps (spOf ⟨K, mg⟩ (gOf md G) q.2.2)
theorem fp_of {d : He.DefD} {x : Str} {n : Nat} {N ps : List Str} {s : SS} {tk : Bool} (c : He.SaysD fa fn K) (X : K.In h) (Gn : h.Ns mainGlobals mg) (ig : ∃ i : Nat, fa[i]? = some (He.Fa.glo x)) (id : fn[n]? = some d) (hat : d.at_ = (x, none)) (hd1 : d.dfl = []) (hd2 : d.kwd = []) (hb : BindOk d ps) (ok : dOk d N ps = true)
    (hc : comp (mkΓ N d.scope tab tk) d.body = some s) (hD : Ds[n]? = some ⟨ps.length, N.length, s⟩) : FP P w K mg base tab Ds (x, n, ps.length) := by
  obtain ⟨ig, ig'⟩ := ig
  obtain ⟨fd, F⟩ := c.def_ n id
  have e1 : d.dvs K = [] := by unfold He.DefD.dvs; rw [hd1]; rfl
  have e2 : d.kws K = [] := by unfold He.DefD.kws; rw [hd2]; rfl
  rw [e1, e2] at F
  have ef : He.fAd K d.at_ = He.ga K x := by rw [hat]; rfl
  rw [ef] at F
  exact ⟨_, fd, ps, _, He.glo_ok X Gn (c.fact ig (f := He.Fa.glo x) ig'), F.kp, F.bindsN hb, hD, rfl, fun G k t => fn_ok tk F (fnSc_ok ok) t hc⟩
def XP (P : Program) (w : World) (K : PySem.W.Frag) (mg : Str → Option Value) (base : Heap) (tab : Tab) (Ds : List MDef) (q : Str × Nat × List Str) : Prop := ∃ Ca fI fd ps md, mg q.1 = some (.ref Ca) ∧ OexC K Ca ∧ PySem.W.findIn K (.ref Ca) "__init__" = some (some (.ref fI)) ∧ PySem.W.typeIn K (.ref fI) = some (.type "function") ∧ Binds K fd ps [] ∧ Ds[q.2.1]? = some md ∧
  ∀ G k, TabOk P w K mg base tab G k → FnOk P w K mg base (L2.CX P w) (k + 2) fI fd ps (spIni ⟨K, mg⟩ Ca (gOf md G) q.2.2)
def iniOk (d : He.DefD) (fl : List Str) : Bool := dOk d ("self" :: fl) ("self" :: fl) && (decide (d.scope.names.lookup ("self" : Str) = some .local) && (decide (d.scope.names.lookup ("same_parts" : Str) = some .globalImplicit) && (!fl.isEmpty && decide (fl.length ≤ 900))))
theorem xp_of {d : He.DefD} {C : Str} {n sp : Nat} {fl : List Str} (c : He.SaysD fa fn K) (F0 : ClsF K mg C fl) (id : fn[n]? = some d) (hat : d.at_ = (C, some ("__init__" : Str))) (hd1 : d.dfl = []) (hd2 : d.kwd = []) (hb : BindOk d ("self" :: fl)) (ok : iniOk d fl = true) (hf : tab.fns.lookup ("same_parts" : Str) = some (sp, 1))
    (hc : iniC (mkΓ ("self" :: fl) d.scope tab false) "same_parts" fl 1 d.body = true) (hD : Ds[n]? = some ⟨fl.length, fl.length, sInit sp⟩) : XP P w K mg base tab Ds (C, n, fl) := by
  obtain ⟨fd, F⟩ := c.def_ n id
  unfold iniOk dOk at ok
  simp only [Bool.and_eq_true, decide_eq_true_eq] at ok
  obtain ⟨o2, o4, o5, o6, o7⟩ := ok
  have e1 : d.dvs K = [] := by unfold He.DefD.dvs; rw [hd1]; rfl
  have e2 : d.kws K = [] := by unfold He.DefD.kws; rw [hd2]; rfl
  rw [e1, e2] at F
  have ef : He.fAd K d.at_ = He.ma K (He.ga K C) "__init__" := by rw [hat]; rfl
  rw [ef] at F
  exact ⟨_, _, fd, _, _, F0.m, F0.oex, F0.ini, F0.ty, F.bindsN hb, hD, fun G k t => ini_ok F (fnSc_ok o2) t F0.oex F0.no o4 hf o5 (by decide) (by cases fl <;> simp at o6 ⊢) o7 hc⟩
/-- all are there -/
theorem tabOk_of {ex : PySem.W.Frag → Bool} (hex : ex = exB tab) (c : SaysP fa fn ex K) (X : K.In h) (Gn : h.Ns mainGlobals mg) (hf : ∀ q ∈ tab.fns, FP P w K mg base tab Ds q) (hx : ∀ q ∈ tab.excs, XP P w K mg base tab Ds q) : ∀ k, TabOk P w K mg base tab (callK Ds k) (2 * k) := by
  subst hex
  obtain ⟨_, c2⟩ := c
  unfold exB exB1 exB2 at c2
  simp only [Bool.and_eq_true, List.all_eq_true] at c2
  obtain ⟨h1, h0, h2, h3, h4, h5⟩ := c2
  refine tab_ok (fun x n ar hl => ?_) (fun C n names hl => ?_) (fun x i hl => He.int_ok X Gn (h3 _ (lookup_mem hl))) (fun x hm => He.free_ok X Gn (h4 x hm)) (fun C D b hl => subB_ok X Gn (List.all_eq_true.mpr h0) (h2 _ (lookup_mem hl))) (fun C fl hl => ?_) (fun C hm => exc0B_ok X Gn (h5 C hm))
  · obtain ⟨f, fd, ps, md, z⟩ := hf _ (lookup_mem hl)
    exact ⟨f, fd, ps, md, z⟩
  · obtain ⟨Ca, fI, fd, ps, md, z⟩ := hx _ (lookup_mem hl)
    exact ⟨Ca, fI, fd, ps, md, z⟩
  · have z := clsB_ok X Gn (h1 _ (lookup_mem hl))
    exact ⟨_, z.m, z.xf, z.no⟩
/-- the law's own promise -/
def spLaw (K : PySem.W.Frag) (most : Nat) : Sp := fun vs H Q _ => ∃ (a : Addr) (ns : List Int), vs = [.ref a] ∧ ns.length ≤ most ∧ FroL K H a (ns.map V.int) ∧ ∀ H', Q (.bl true) H'
theorem reps_ints {β : List Addr} {H : Hp} (ns : List Int) : RepVs β H (ns.map Dt.int) (ns.map V.int) := RepVs.ints ns
theorem law_ok {k j n most : Nat} {f : Addr} {fd : FuncData} {ps : List Str} (hm : most ≤ sizeLine) (F : FnOk P w K mg base (L2.CX P w) j f fd ps (spOf ⟨K, mg⟩ (callK Ds k n) 1)) (hT : ∀ ns : List Int, ns.length ≤ most → ∃ h', callK Ds k n [.loc 0] [.fro (ns.map Dt.int)] = .ok (.bl true) h') :
    FnOk P w K mg base (L2.CX P w) j f fd ps (spLaw K most) := by
  refine F.imp fun vs H Q E ⟨a, ns, e, hl, hS, hQ⟩ => ?_
  subst e
  obtain ⟨h', e⟩ := hT ns hl
  refine ⟨[.loc 0], [.fro (ns.map Dt.int)], [a], rfl, .cons (.loc rfl) .nil, ⟨rfl, fun i o p h1 h2 => ?_, fun i j o o' p h1 h2 h3 => ?_⟩, ?_⟩
  · cases i with
    | zero => cases h1; cases h2; exact ⟨by rw [List.length_map]; exact Nat.le_trans hl hm, _, hS, reps_ints ns⟩
    | succ i => cases h1
  · cases i with
    | zero => cases h1; cases h3
    | succ i => cases h1
  · rw [e]
    intro β' H' v _ _ rv
    cases rv
    exact hQ H'
theorem froL_of {H : Hp} {a : Addr} {vs : List V} (o : Only H) (s : SqL K H a vs) : FroL K H a vs := by
  rcases s with (e | ⟨ob, e⟩) | h
  · rcases o a with z | ⟨_, _, z⟩
    · rw [z] at e; cases e
    · rw [z] at e; cases e
  · exact .inl ⟨ob, e⟩
  · exact .inr h
theorem walk_ofP {l : PySem.W.OpenLaw} {n k : Nat} {q : Program} {loose : List Str} {XP : (Str → Option Value) → Heap → Prop} {YP : World → Heap → Prop} {d : DefRec} {x : Str}
    (hn : l.most = some n) (hn2 : n ≤ sizeLine) (hdf : d.params.defaults = []) (hr : Room k callerA)
    (F : ∀ (w : World) (mg : Str → Option Value) (fa : Addr) (h : Heap), YP w h → h.Ns mainGlobals mg → mg d.name = some (.ref fa) →
      ∃ (K : PySem.W.Frag) (fd : FuncData) (sp : Sp), K.In h ∧ (∀ (s : Shared) (u : Value), BindsTo s fd ⟨[u], []⟩ [(x, u)]) ∧
        (∀ (H : Hp) (a : Addr) (ns : List Int), ns.length ≤ n → Only H → SqL K H a (ns.map V.int) → sp [.ref a] H (fun v _ => v = .bl true) fun _ _ _ => False) ∧
        ∀ base : Heap, K.In base → base.Ns mainGlobals mg → FnOk l.prog w K mg base (L2.CX l.prog w) k fa fd [x] sp) :
    PySem.W.WalkO q loose XP YP l.row.toRowW d [] (fun f vs => PySem.call f vs) := by
  refine Att.attach_call hn hdf fun w s₀ s₁ mg mb fa o pm cd doc a vs ns G Y ho hd hcd hmg hobj hints hlen hg => ?_
  obtain ⟨K, fd, sp, KX, hb, hsp, hF⟩ := F w mg fa _ Y G.T.g hmg
  exact law_call KX G.T.g G.T.b G.T.builtins G.T.nolimit hg hobj hints (Nat.le_trans hlen hn2) hr hF hb (fun H hO hS => hsp H a ns hlen hO hS) fun H e s' hc => by
    obtain ⟨_, _, _, _, _, _, _, _, _, _, _, _, hE⟩ := hc
    exact hE
end
end EP
end
section
/-! MidL: the meanings run, in plain Lean. -/
namespace EP
open PySem L2

/-! ### what grows -/
theorem pre_get {h h' : MH} {n : Nat} {o : MO} (p : h <+: h') (e : h[n]? = some o) : h'[n]? = some o := by
  obtain ⟨t, rfl⟩ := p
  rw [List.getElem?_append_left (List.getElem?_eq_some_iff.mp e).1]; exact e
theorem pre_set {h h' : MH} {n : Nat} {o : MO} (p : h <+: h') (l : h.length ≤ n) : h <+: h'.set n o := by
  obtain ⟨t, rfl⟩ := p
  rw [List.set_append_right _ _ l]
  exact ⟨_, rfl⟩
theorem pre_app (h : MH) (t : MH) : h <+: h ++ t := ⟨t, rfl⟩
theorem pre_len {h h' : MH} (p : h <+: h') : h.length ≤ h'.length := p.length_le
theorem new_get (h : MH) (o : MO) : (h ++ [o])[h.length]? = some o := by simp
theorem pre_refl (h : MH) : h <+: h := List.prefix_refl h
theorem pre_trans {a b c : MH} (x : a <+: b) (y : b <+: c) : a <+: c := x.trans y
theorem lt_of_get {h : MH} {n : Nat} {o : MO} (e : h[n]? = some o) : n < h.length := (List.getElem?_eq_some_iff.mp e).1
theorem set_get {h : MH} {n : Nat} {o o' : MO} (e : h[n]? = some o) : (h.set n o')[n]? = some o' := List.getElem?_set_self (lt_of_get e)

/-! ### calls -/
theorem call_eq {D : List MDef} {k n : Nat} {md : MDef} {args : List Dt} {h : MH} (e : D[n]? = some md) (l : args.length = md.ar) : callK D (k + 1) n args h = runBody md.sl md.body (callK D k) args h := by
  show (match D[n]? with | some d => if args.length = d.ar then runBody d.sl d.body (callK D k) args h else .bad | none => .bad) = _
  rw [e]
  exact if_pos l

/-! ### steps -/
def andK (d : Dt) (r : RE Dt) (h : MH) : RE Dt := match d with
  | .bl true => r
  | .bl false => .ok (.bl false) h
  | _ => .bad
def orK (d : Dt) (r : RE Dt) (h : MH) : RE Dt := match d with
  | .bl true => .ok (.bl true) h
  | .bl false => r
  | _ => .bad
@[simp] theorem andK_bl {b : Bool} {r : RE Dt} {h : MH} : andK (.bl b) r h = if b = true then r else .ok (.bl false) h := by cases b <;> rfl
@[simp] theorem orK_bl {b : Bool} {r : RE Dt} {h : MH} : orK (.bl b) r h = if b = true then .ok (.bl true) h else r := by cases b <;> rfl
theorem if_ok {c : Prop} [Decidable c] {b : Bool} {h : MH} : (if c then RE.ok (Dt.bl b) h else RE.ok (Dt.bl false) h) = RE.ok (Dt.bl (decide c && b)) h := by by_cases hc : c <;> simp [hc]
theorem if_ok2 {c : Prop} [Decidable c] {b : Bool} {h : MH} : (if c then RE.ok (Dt.bl true) h else RE.ok (Dt.bl b) h) = RE.ok (Dt.bl (decide c || b)) h := by by_cases hc : c <;> simp [hc]
section
variable {α β : Type} {a : α} {h h1 : MH} {G : Orc} {ρ : Env} {C : Str} {fs : Fs}
@[simp] theorem bnd_ok {f : α → MH → RE β} : bnd (.ok a h) f = f a h := (rfl)
@[simp] theorem bnd_ex {f : α → MH → RE β} : bnd (.ex C fs h) f = .ex C fs h := (rfl)
@[simp] theorem bndS_ok {f : α → MH → RS} : bndS ρ (.ok a h) f = f a h := (rfl)
@[simp] theorem bndS_ex {f : α → MH → RS} : bndS ρ (.ex C fs h) f = .ex C fs ρ h := (rfl)
@[simp] theorem eVar_s {i : Nat} : eVar i G ρ h = match ρ[i]? with | some (some d) => .ok d h | _ => .bad := (rfl)
@[simp] theorem eC_s {d : Dt} : eC d G ρ h = .ok d h := (rfl)
@[simp] theorem eOp_s {o : Op2} {x y : SE} : eOp o x y G ρ h = bnd (x G ρ h) fun x h1 => bnd (y G ρ h1) fun y h2 => o x y h2 := (rfl)
@[simp] theorem eNeg_s {x : SE} : eNeg x G ρ h = bnd (x G ρ h) fun x h1 => match x with | .int i => .ok (.int (-i)) h1 | _ => .bad := (rfl)
@[simp] theorem eChain_s {o o' : Op2} {x y z : SE} : eChain o o' x y z G ρ h = bnd (x G ρ h) fun x h1 => bnd (y G ρ h1) fun y h2 => bnd (o x y h2) fun z' h3 => andK z' (bnd (z G ρ h3) fun u h4 => o' y u h4) h3 := (rfl)
@[simp] theorem eAnd_s {x y : SE} : eAnd x y G ρ h = bnd (x G ρ h) fun x h1 => andK x (y G ρ h1) h1 := (rfl)
@[simp] theorem eOr_s {x y : SE} : eOr x y G ρ h = bnd (x G ρ h) fun x h1 => orK x (y G ρ h1) h1 := (rfl)
@[simp] theorem eNot_s {x : SE} : eNot x G ρ h = bnd (x G ρ h) fun x h1 => bnd (truth x h1) fun k h2 => .ok (.bl (!k)) h2 := (rfl)
@[simp] theorem eIf_s {t : ST} {x y : SE} : eIf t x y G ρ h = bnd (t G ρ h) fun k h1 => if k = true then x G ρ h1 else y G ρ h1 := (rfl)
@[simp] theorem aNil_s : aNil G ρ h = .ok [] h := (rfl)
@[simp] theorem aCons_s {x : SE} {r : SA} : aCons x r G ρ h = bnd (x G ρ h) fun x h1 => bnd (r G ρ h1) fun xs h2 => .ok (x :: xs) h2 := (rfl)
@[simp] theorem eTup_s {r : SA} : eTup r G ρ h = bnd (r G ρ h) fun xs h1 => newT xs h1 := (rfl)
@[simp] theorem eLst_s {r : SA} : eLst r G ρ h = bnd (r G ρ h) fun xs h1 => newL xs h1 := (rfl)
@[simp] theorem eBf_s {f : Bf} {r : SA} : eBf f r G ρ h = bnd (r G ρ h) fun xs h1 => f xs h1 := (rfl)
@[simp] theorem eMf_s {f : Mf} {o : SE} {r : SA} : eMf f o r G ρ h = bnd (o G ρ h) fun x h1 => if isLst h1 x = true then bnd (r G ρ h1) fun xs h2 => f x xs h2 else .bad := (rfl)
@[simp] theorem eCall_s {n : Nat} {r : SA} : eCall n r G ρ h = bnd (r G ρ h) fun xs h1 => G n xs h1 := (rfl)
@[simp] theorem oNo_s : oNo G ρ h = .ok none h := (rfl)
@[simp] theorem oSome_s {x : SE} : oSome x G ρ h = bnd (x G ρ h) fun x h1 => match x with | .int i => .ok (some i) h1 | _ => .bad := (rfl)
@[simp] theorem eCut_s {x : SE} {lo hi : SO} : eCut x lo hi G ρ h = bnd (x G ρ h) fun x h1 => bnd (lo G ρ h1) fun l h2 => bnd (hi G ρ h2) fun u h3 => oCut x l u h3 := (rfl)
@[simp] theorem rg1_s {x : SE} : rg1 x G ρ h = bnd (x G ρ h) fun x h1 => match x with | .int i => .ok ((0 : Int), i) h1 | _ => .bad := (rfl)
@[simp] theorem rg2_s {x y : SE} : rg2 x y G ρ h = bnd (x G ρ h) fun x h1 => bnd (y G ρ h1) fun y h2 => match x, y with | .int i, .int j => .ok (i, j) h2 | _, _ => .bad := (rfl)
@[simp] theorem eLRg_s {r : SR} : eLRg r G ρ h = bnd (r G ρ h) fun p h1 => if rgOk p.1 p.2 = true then .ok (.loc h1.length) (h1 ++ [.lst (rgD p.1 p.2)]) else .bad := (rfl)
@[simp] theorem eTRg_s {r : SR} : eTRg r G ρ h = bnd (r G ρ h) fun p h1 => if rgOk p.1 p.2 = true then .ok (.tup (rgD p.1 p.2)) h1 else .bad := (rfl)
@[simp] theorem eDict0_s {t : Bool} : eDict0 t G ρ h = .ok (.loc h.length) (h ++ [if t then .dT [] else .dK []]) := (rfl)
@[simp] theorem eDict1_s {x y : SE} : eDict1 x y G ρ h = bnd (x G ρ h) fun x h1 => bnd (y G ρ h1) fun y h2 => match toKeys x with | some ks => .ok (.loc h2.length) (h2 ++ [.dT [(ks, y)]]) | none => .bad := (rfl)
@[simp] theorem tVal_s {x : SE} : tVal x G ρ h = bnd (x G ρ h) fun x h1 => truth x h1 := (rfl)
@[simp] theorem tBl_s {x : SE} : tBl x G ρ h = bnd (x G ρ h) fun x h1 => match x with | .bl t => .ok t h1 | _ => .bad := (rfl)
@[simp] theorem tNot_s {t : ST} : tNot t G ρ h = bnd (t G ρ h) fun k h1 => .ok (!k) h1 := (rfl)
@[simp] theorem tAnd_s {t u : ST} : tAnd t u G ρ h = bnd (t G ρ h) fun k h1 => if k = true then u G ρ h1 else .ok false h1 := (rfl)
@[simp] theorem tOr_s {t u : ST} : tOr t u G ρ h = bnd (t G ρ h) fun k h1 => if k = true then .ok true h1 else u G ρ h1 := (rfl)
@[simp] theorem tYes_s : EP.tYes G ρ h = .ok true h := (rfl)
@[simp] theorem truth_bl {b : Bool} : truth (.bl b) h = .ok b h := (rfl)
@[simp] theorem truth_tup {ds : List Dt} : truth (.tup ds) h = .ok (!ds.isEmpty) h := (rfl)
@[simp] theorem truth_int {i : Int} : truth (.int i) h = .ok (i != 0) h := (rfl)
@[simp] theorem truth_lst {n : Nat} {xs : List Dt} (e : h[n]? = some (.lst xs)) : truth (.loc n) h = .ok (!xs.isEmpty) h := by simp [truth, e]
@[simp] theorem sSkip_s : sSkip G ρ h = .nx ρ h := (rfl)
@[simp] theorem sBreak_s : sBreak G ρ h = .bk ρ h := (rfl)
@[simp] theorem sCont_s : sCont G ρ h = .ct ρ h := (rfl)
theorem sSeq_s {a b : SS} : sSeq a b G ρ h = match a G ρ h with | .nx ρ1 h1 => b G ρ1 h1 | r => r := (rfl)
@[simp] theorem sExpr_s {x : SE} : sExpr x G ρ h = bndS ρ (x G ρ h) fun _ h1 => .nx ρ h1 := (rfl)
@[simp] theorem sRet_s {x : SE} : sRet x G ρ h = bndS ρ (x G ρ h) fun d h1 => .rt d h1 := (rfl)
@[simp] theorem sRetN_s : sRetN G ρ h = .rt .non h := (rfl)
@[simp] theorem sSet_s {p : TP} {x : SE} : sSet p x G ρ h = bndS ρ (x G ρ h) fun d h1 => match assignP p d ρ with | some ρ' => .nx ρ' h1 | none => .bad := (rfl)
@[simp] theorem sPar_s {i j : Nat} {x y : SE} : sPar i j x y G ρ h = bndS ρ (x G ρ h) fun x h1 => bndS ρ (y G ρ h1) fun y h2 => .nx ((ρ.set i (some x)).set j (some y)) h2 := (rfl)
@[simp] theorem sSetI_s {o i x : SE} : sSetI o i x G ρ h = bndS ρ (x G ρ h) fun v h1 => bndS ρ (o G ρ h1) fun x h2 => bndS ρ (i G ρ h2) fun y h3 => match oSet x y v h3 with | some h4 => .nx ρ h4 | none => .bad := (rfl)
@[simp] theorem sIf_s {t : ST} {a b : SS} : sIf t a b G ρ h = bndS ρ (t G ρ h) fun k h1 => if k = true then a G ρ h1 else b G ρ h1 := (rfl)
@[simp] theorem sAug_s {i : Nat} {o : Op2} {x : SE} : sAug i o x G ρ h = match ρ[i]? with | some (some d) => bndS ρ (x G ρ h) fun y h1 => bndS ρ (o d y h1) fun z h2 => .nx (ρ.set i (some z)) h2 | _ => .bad := (rfl)
theorem sFor_s {i : SI} {p : TP} {b : SS} : sFor i p b G ρ h = bndS ρ (i G ρ h) fun I h1 => forLoop I p b G I.tot ρ h1 := (rfl)
theorem sWhile_s {t : ST} {b : SS} : sWhile t b G ρ h = whileLoop t b G whileFuel ρ h := (rfl)
@[simp] theorem assign_nm {i : Nat} {d : Dt} : assignP (.nm i) d ρ = some (ρ.set i (some d)) := (rfl)
@[simp] theorem assign_tp {ps : List TP} {ds : List Dt} : assignP (.tp ps) (.tup ds) ρ = if ds.length = ps.length then assignPs ps ds ρ else none := by simp [assignP]
@[simp] theorem assigns_nil : assignPs [] [] ρ = some ρ := by simp [assignPs]
@[simp] theorem assigns_cons {p : TP} {ps : List TP} {d : Dt} {ds : List Dt} : assignPs (p :: ps) (d :: ds) ρ = match assignP p d ρ with | some ρ' => assignPs ps ds ρ' | none => none := by rw [assignPs] <;> rfl
@[simp] theorem iSeq_s {x : SE} : iSeq x G ρ h = bnd (x G ρ h) itOf := (rfl)
@[simp] theorem iEnum_s {x : SE} : iEnum x G ρ h = bnd (x G ρ h) fun x h1 => bnd (itOf x h1) fun I h2 => .ok (itE I) h2 := (rfl)
@[simp] theorem iRg_s {r : SR} : iRg r G ρ h = bnd (r G ρ h) fun p h1 => if -lim62 ≤ p.1 ∧ p.1 < lim62 ∧ -lim62 ≤ p.2 ∧ p.2 < lim62 then .ok (itR p.1 (p.2 - p.1).toNat) h1 else .bad := (rfl)
@[simp] theorem iZip_s {x y : SE} : iZip x y G ρ h = bnd (x G ρ h) fun x h1 => bnd (y G ρ h1) fun y h2 => if sameKind x y = true then bnd (itOf x h2) fun I h3 => bnd (itOf y h3) fun J h4 => .ok (itZ I J (min I.tot J.tot)) h4 else .bad := (rfl)
@[simp] theorem itOf_tup {xs : List Dt} : itOf (.tup xs) h = .ok (itT xs) h := (rfl)
theorem itOf_lst {n : Nat} {xs : List Dt} (e : h[n]? = some (.lst xs)) : itOf (.loc n) h = .ok (itL n xs.length) h := by simp [itOf, getL, e]
theorem eLc_s {i : SI} {p : TP} {t : ST} {x : SE} {vs : List Nat} : eLc i p t x vs G ρ h = bnd (i G ρ h) fun I h1 => lcLoop I p t x G (wipeE ρ vs) h1.length I.tot (h1 ++ [.lst []]) := (rfl)
theorem eDc_s {T : Bool} {i : SI} {p : TP} {t : ST} {k x : SE} {vs : List Nat} : eDc T i p t k x vs G ρ h = bnd (i G ρ h) fun I h1 => dcLoop T I p t k x G (wipeE ρ vs) h1.length I.tot (h1 ++ [if T then .dT [] else .dK []]) := (rfl)
@[simp] theorem wipe_nil : wipeE ρ [] = ρ := (rfl)
@[simp] theorem wipe_cons {v : Nat} {vs : List Nat} : wipeE ρ (v :: vs) = (wipeE ρ vs).set v none := (rfl)
theorem run_s {n : Nat} {b : SS} {args : List Dt} : runBody n b G args h = match b G (args.map some ++ List.replicate (n - args.length) none) h with | .nx _ h' => .ok .non h' | .rt d h' => .ok d h' | .ex C fs _ h' => .ex C fs h' | _ => .bad := (rfl)
/-! ### operators -/
@[simp] theorem add_int {i j : Int} : oAdd (.int i) (.int j) h = .ok (.int (i + j)) h := (rfl)
@[simp] theorem add_tup {x y : List Dt} : oAdd (.tup x) (.tup y) h = newT (x ++ y) h := (rfl)
@[simp] theorem addI_int {i j : Int} : oAddI (.int i) (.int j) h = .ok (.int (i + j)) h := (rfl)
@[simp] theorem sub_int {i j : Int} : oSub (.int i) (.int j) h = .ok (.int (i - j)) h := (rfl)
@[simp] theorem lt_int {i j : Int} : oLt (.int i) (.int j) h = .ok (.bl (decide (i < j))) h := (rfl)
@[simp] theorem le_int {i j : Int} : oLe (.int i) (.int j) h = .ok (.bl (decide (i ≤ j))) h := (rfl)
@[simp] theorem gt_int {i j : Int} : oGt (.int i) (.int j) h = .ok (.bl (decide (j < i))) h := (rfl)
@[simp] theorem ge_int {i j : Int} : oGe (.int i) (.int j) h = .ok (.bl (decide (j ≤ i))) h := (rfl)
@[simp] theorem eqv_int {i j : Int} : eqv (.int i) (.int j) = decide (i = j) := by
  simp only [eqv, Dt.py, PyData.eqv]
  by_cases h : i = j <;> simp [h]
@[simp] theorem eqOk_int {i : Int} : (Dt.int i).eqOk = true := (rfl)
@[simp] theorem eq_int {n : Bool} {i j : Int} : oEq n (.int i) (.int j) h = .ok (.bl (if n then !decide (i = j) else decide (i = j))) h := by
  simp [oEq]
@[simp] theorem is_non_int {n : Bool} {i : Int} : oIs n (.int i) .non h = .ok (.bl n) h := (rfl)
@[simp] theorem is_non_non {n : Bool} : oIs n .non .non h = .ok (.bl (!n)) h := (rfl)
@[simp] theorem is_non_tup {n : Bool} {x : List Dt} : oIs n (.tup x) .non h = .ok (.bl n) h := (rfl)
@[simp] theorem len_tup {x : List Dt} : bLen [.tup x] h = .ok (.int x.length) h := (rfl)
@[simp] theorem len_lst {n : Nat} {xs : List Dt} (e : h[n]? = some (.lst xs)) : bLen [.loc n] h = .ok (.int xs.length) h := by simp [bLen, e]
@[simp] theorem tuple_tup {x : List Dt} : bTuple [.tup x] h = .ok (.tup x) h := (rfl)
@[simp] theorem tuple_lst {n : Nat} {xs : List Dt} (e : h[n]? = some (.lst xs)) : bTuple [.loc n] h = .ok (.tup xs) h := by simp [bTuple, getL, e]
@[simp] theorem int_int {i : Int} : bInt [.int i] h = .ok (.int i) h := (rfl)
@[simp] theorem int_bl {b : Bool} : bInt [.bl b] h = .ok (.int (if b then 1 else 0)) h := (rfl)
@[simp] theorem isi_int_bool {i : Int} : bIsi "bool" [.int i] h = .ok (.bl false) h := (rfl)
@[simp] theorem isi_int_int {i : Int} : bIsi "int" [.int i] h = .ok (.bl true) h := (rfl)
theorem get_tup {x : List Dt} {i : Int} {d : Dt} (e : atI x i = some d) : oGet (.tup x) (.int i) h = .ok d h := by simp [oGet, e]
end
end EP
end
section
/-! MidW: walks and loops. -/
namespace EP
open PySem L2
/-- I gives the items xs, whatever is laid behind h -/
structure Its (I : Wk) (h : MH) (xs : List Dt) : Prop where
  tot : I.tot = xs.length
  get : ∀ (h' : MH), h <+: h' → ∀ i, i < xs.length → I.get i h' = xs[i]?
  fin : ∀ (h' : MH), h <+: h' → I.fin h' = true
theorem its_tup {h : MH} {xs : List Dt} : Its (itT xs) h xs := ⟨rfl, fun _ _ _ _ => rfl, fun _ _ => rfl⟩
theorem its_lst {h : MH} {n : Nat} {xs : List Dt} (e : h[n]? = some (.lst xs)) : Its (itL n xs.length) h xs :=
  ⟨rfl, fun h' p i _ => by simp [itL, getL, pre_get p e], fun h' p => by simp [itL, getL, pre_get p e]⟩
theorem its_rng {h : MH} {lo : Int} {n : Nat} : Its (itR lo n) h ((List.range n).map fun i => Dt.int (lo + (i : Nat))) :=
  ⟨by simp [itR], fun h' p i hi => by
    have hi' : i < n := by simpa using hi
    simp [itR, hi'], fun h' p => rfl⟩
theorem its_enum {I : Wk} {h : MH} {xs : List Dt} (t : Its I h xs) : Its (itE I) h (xs.zipIdx.map fun q => .tup [.int (q.2 : Nat), q.1]) :=
  ⟨by simp [itE, t.tot], fun h' p i hi => by
    have hi' : i < xs.length := by simpa using hi
    simp [itE, t.get h' p i hi', hi'], fun h' p => t.fin h' p⟩
theorem its_zip {I J : Wk} {h : MH} {xs ys : List Dt} (t : Its I h xs) (u : Its J h ys) : Its (itZ I J (min I.tot J.tot)) h ((xs.zip ys).map fun q => .tup [q.1, q.2]) :=
  ⟨by simp [itZ, t.tot, u.tot], fun h' p i hi => by
    have hi' : i < xs.length ∧ i < ys.length := by simpa [Nat.lt_min] using hi
    simp [itZ, t.get h' p i hi'.1, u.get h' p i hi'.2, hi'.1, hi'.2, List.getElem?_zip_eq_some, List.zip, List.getElem?_zipWith], fun h' p => by
    simp only [itZ, t.fin h' p, u.fin h' p, t.tot, u.tot, Bool.true_and, Bool.or_eq_true, decide_eq_true_eq]
    omega⟩
theorem Its.mono {I : Wk} {h h' : MH} {xs : List Dt} (t : Its I h xs) (p : h <+: h') : Its I h' xs := ⟨t.tot, fun h2 q => t.get h2 (p.trans q), fun h2 q => t.fin h2 (p.trans q)⟩

/-! ### list comprehensions -/
section
variable {I : Wk} {p : TP} {t : ST} {e : SE} {G : Orc} {ρ : Env} {D : Nat}
theorem lc_inv (Inv : Nat → List Dt → MH → Prop)
    (step : ∀ i acc h, i < I.tot → Inv i acc h → h[D]? = some (.lst acc) → ∃ d ρ', I.get i h = some d ∧ assignP p d ρ = some ρ' ∧ ∃ b h1, t G ρ' h = .ok b h1 ∧
      (b = true → ∃ y h2, e G ρ' h1 = .ok y h2 ∧ h2[D]? = some (.lst acc) ∧ acc.length < sizeLine ∧ Inv (i + 1) (acc ++ [y]) (h2.set D (.lst (acc ++ [y])))) ∧ (b = false → h1[D]? = some (.lst acc) ∧ Inv (i + 1) acc h1))
    (fin : ∀ acc h, Inv I.tot acc h → I.fin h = true) : ∀ (m i : Nat) (acc : List Dt) (h : MH), i + m = I.tot → h[D]? = some (.lst acc) → Inv i acc h →
      ∃ acc' h', lcLoop I p t e G ρ D m h = .ok (.loc D) h' ∧ h'[D]? = some (.lst acc') ∧ Inv I.tot acc' h'
  | 0, i, acc, h, hm, hD, inv => by
    have hi : i = I.tot := hm
    subst hi
    exact ⟨acc, h, by unfold lcLoop; rw [if_pos (fin acc h inv)], hD, inv⟩
  | m + 1, i, acc, h, hm, hD, inv => by
    obtain ⟨d, ρ', e1, e2, b, h1, e3, k1, k2⟩ := step i acc h (by omega) inv hD
    have ei : I.tot - (m + 1) = i := by omega
    cases b with
    | true =>
      obtain ⟨y, h2, e4, e5, e6, inv'⟩ := k1 rfl
      obtain ⟨acc', h', r1, r2, r3⟩ := lc_inv Inv step fin m (i + 1) (acc ++ [y]) (h2.set D (.lst (acc ++ [y]))) (by omega) (set_get e5) inv'
      refine ⟨acc', h', ?_, r2, r3⟩
      unfold lcLoop
      rw [ei, e1]
      simp only [e2, e3, noEx, bnd_ok, if_true, e4, e5, e6, r1]
    | false =>
      obtain ⟨e5, inv'⟩ := k2 rfl
      obtain ⟨acc', h', r1, r2, r3⟩ := lc_inv Inv step fin m (i + 1) acc h1 (by omega) e5 inv'
      refine ⟨acc', h', ?_, r2, r3⟩
      unfold lcLoop
      rw [ei, e1]
      simp only [e2, e3, noEx, bnd_ok, Bool.false_eq_true, if_false, r1]
end
/-- a test, an expression that only lays new things -/
def PvT (t : ST) (G : Orc) (ρ : Env) (h : MH) (b : Bool) : Prop := ∃ h', t G ρ h = .ok b h' ∧ h <+: h'
def Pv (e : SE) (G : Orc) (ρ : Env) (h : MH) (d : Dt) : Prop := ∃ h', e G ρ h = .ok d h' ∧ h <+: h'
theorem PvT.now {t : ST} {G : Orc} {ρ : Env} {h : MH} {b : Bool} (e : t G ρ h = .ok b h) : PvT t G ρ h b := ⟨h, e, pre_refl h⟩
theorem Pv.now {t : SE} {G : Orc} {ρ : Env} {h : MH} {b : Dt} (e : t G ρ h = .ok b h) : Pv t G ρ h b := ⟨h, e, pre_refl h⟩
/-- [e for p in i if t], nothing but new things laid: the chosen items -/
theorem lc_pure {i : SI} {p : TP} {t : ST} {e : SE} {vs : List Nat} {G : Orc} {ρ : Env} {h h1 : MH} {I : Wk} {xs : List Dt} (hi : i G ρ h = .ok I h1) (its : Its I h1 xs) (b : Dt → Bool) (f : Dt → Dt) (hz : xs.length ≤ sizeLine)
    (hx : ∀ x ∈ xs, ∃ ρ', assignP p x (wipeE ρ vs) = some ρ' ∧ ∀ h', h1 <+: h' → PvT t G ρ' h' (b x) ∧ (b x = true → Pv e G ρ' h' (f x))) :
    ∃ h', eLc i p t e vs G ρ h = .ok (.loc h1.length) h' ∧ h1 <+: h' ∧ h'[h1.length]? = some (.lst ((xs.filter b).map f)) := by
  rw [eLc_s, hi, bnd_ok]
  have L := lc_inv (I := I) (p := p) (t := t) (e := e) (G := G) (ρ := wipeE ρ vs) (D := h1.length)
    (fun i acc h => h1 <+: h ∧ acc = ((xs.take i).filter b).map f) ?_ (fun acc h q => its.fin h q.1) I.tot 0 [] (h1 ++ [.lst []]) (Nat.zero_add _) (by simp) ⟨pre_app _ _, by simp⟩
  · obtain ⟨acc', h', r1, r2, r3, r4⟩ := L
    refine ⟨h', r1, r3, ?_⟩
    rw [r2, r4, its.tot, List.take_length]
  · rintro i acc h hlt ⟨pr, rfl⟩ hD
    have hl : i < xs.length := by rw [← its.tot]; exact hlt
    obtain ⟨ρ', e1, e2⟩ := hx xs[i] (List.getElem_mem hl)
    obtain ⟨⟨h2, k1, k2⟩, k3⟩ := e2 h pr
    refine ⟨xs[i], ρ', by rw [its.get h pr i hl]; exact List.getElem?_eq_getElem hl, e1, b xs[i], h2, k1, fun hb => ?_, fun hb => ?_⟩
    · obtain ⟨h3, q1, q2⟩ := (e2 h2 (pr.trans k2)).2 hb
      have hD3 := pre_get q2 (pre_get k2 hD)
      have hlen : (((xs.take i).filter b).map f).length < sizeLine := by
        rw [List.length_map]
        have := List.length_filter_le b (xs.take i)
        rw [List.length_take] at this
        omega
      refine ⟨f xs[i], h3, q1, hD3, hlen, pre_set (pr.trans (k2.trans q2)) (Nat.le_refl _), ?_⟩
      rw [List.take_succ, List.getElem?_eq_getElem hl, Option.toList_some, List.filter_append, List.map_append]
      simp [hb]
    · refine ⟨pre_get k2 hD, pr.trans k2, ?_⟩
      rw [List.take_succ, List.getElem?_eq_getElem hl, Option.toList_some, List.filter_append, List.map_append]
      simp [hb]
/-- .. for every item -/
theorem lc_map {i : SI} {p : TP} {e : SE} {vs : List Nat} {G : Orc} {ρ : Env} {h h1 : MH} {I : Wk} {xs : List Dt} (hi : i G ρ h = .ok I h1) (its : Its I h1 xs) (f : Dt → Dt) (hz : xs.length ≤ sizeLine)
    (hx : ∀ x ∈ xs, ∃ ρ', assignP p x (wipeE ρ vs) = some ρ' ∧ ∀ h', h1 <+: h' → Pv e G ρ' h' (f x)) :
    ∃ h', eLc i p EP.tYes e vs G ρ h = .ok (.loc h1.length) h' ∧ h1 <+: h' ∧ h'[h1.length]? = some (.lst (xs.map f)) := by
  have := lc_pure (t := EP.tYes) (e := e) hi its (fun _ => true) f hz fun x hm => by
    obtain ⟨ρ', e1, e2⟩ := hx x hm
    exact ⟨ρ', e1, fun h' p => ⟨.now rfl, fun _ => e2 h' p⟩⟩
  have e : xs.filter (fun _ => true) = xs := List.filter_eq_self.mpr (fun _ _ => rfl)
  rw [e] at this
  exact this
theorem lc_pureA {α : Type} {g : α → Dt} {i : SI} {p : TP} {t : ST} {e : SE} {vs : List Nat} {G : Orc} {ρ : Env} {h h1 : MH} {I : Wk} {xs : List α} (hi : i G ρ h = .ok I h1) (its : Its I h1 (xs.map g)) (b : α → Bool) (f : α → Dt) (hz : xs.length ≤ sizeLine)
    (hx : ∀ x ∈ xs, ∃ ρ', assignP p (g x) (wipeE ρ vs) = some ρ' ∧ ∀ h', h1 <+: h' → PvT t G ρ' h' (b x) ∧ (b x = true → Pv e G ρ' h' (f x))) :
    ∃ h', eLc i p t e vs G ρ h = .ok (.loc h1.length) h' ∧ h1 <+: h' ∧ h'[h1.length]? = some (.lst ((xs.filter b).map f)) := by
  rw [eLc_s, hi, bnd_ok]
  have htot : I.tot = xs.length := by rw [its.tot, List.length_map]
  have L := lc_inv (I := I) (p := p) (t := t) (e := e) (G := G) (ρ := wipeE ρ vs) (D := h1.length)
    (fun i acc h => h1 <+: h ∧ acc = ((xs.take i).filter b).map f) ?_ (fun acc h q => its.fin h q.1) I.tot 0 [] (h1 ++ [.lst []]) (Nat.zero_add _) (by simp) ⟨pre_app _ _, by simp⟩
  · obtain ⟨acc', h', r1, r2, r3, r4⟩ := L
    refine ⟨h', r1, r3, ?_⟩
    rw [r2, r4, htot, List.take_length]
  · rintro i acc h hlt ⟨pr, rfl⟩ hD
    have hl : i < xs.length := by rw [← htot]; exact hlt
    obtain ⟨ρ', e1, e2⟩ := hx xs[i] (List.getElem_mem hl)
    obtain ⟨⟨h2, k1, k2⟩, k3⟩ := e2 h pr
    refine ⟨g xs[i], ρ', by rw [its.get h pr i (by simpa using hl), List.getElem?_map, List.getElem?_eq_getElem hl]; rfl, e1, b xs[i], h2, k1, fun hb => ?_, fun hb => ?_⟩
    · obtain ⟨h3, q1, q2⟩ := (e2 h2 (pr.trans k2)).2 hb
      have hD3 := pre_get q2 (pre_get k2 hD)
      have hlen : (((xs.take i).filter b).map f).length < sizeLine := by
        rw [List.length_map]
        have := List.length_filter_le b (xs.take i)
        rw [List.length_take] at this
        omega
      refine ⟨f xs[i], h3, q1, hD3, hlen, pre_set (pr.trans (k2.trans q2)) (Nat.le_refl _), ?_⟩
      rw [List.take_succ, List.getElem?_eq_getElem hl, Option.toList_some, List.filter_append, List.map_append]
      simp [hb]
    · refine ⟨pre_get k2 hD, pr.trans k2, ?_⟩
      rw [List.take_succ, List.getElem?_eq_getElem hl, Option.toList_some, List.filter_append, List.map_append]
      simp [hb]
theorem lc_mapA {α : Type} {g : α → Dt} {i : SI} {p : TP} {e : SE} {vs : List Nat} {G : Orc} {ρ : Env} {h h1 : MH} {I : Wk} {xs : List α} (hi : i G ρ h = .ok I h1) (its : Its I h1 (xs.map g)) (f : α → Dt) (hz : xs.length ≤ sizeLine)
    (hx : ∀ x ∈ xs, ∃ ρ', assignP p (g x) (wipeE ρ vs) = some ρ' ∧ ∀ h', h1 <+: h' → Pv e G ρ' h' (f x)) :
    ∃ h', eLc i p EP.tYes e vs G ρ h = .ok (.loc h1.length) h' ∧ h1 <+: h' ∧ h'[h1.length]? = some (.lst (xs.map f)) := by
  have := lc_pureA (t := EP.tYes) (e := e) hi its (fun _ => true) f hz fun x hm => by
    obtain ⟨ρ', e1, e2⟩ := hx x hm
    exact ⟨ρ', e1, fun h' p => ⟨.now rfl, fun _ => e2 h' p⟩⟩
  have e : xs.filter (fun _ => true) = xs := List.filter_eq_self.mpr (fun _ _ => rfl)
  rw [e] at this
  exact this
theorem its_lstA {α : Type} {g : α → Dt} {xs : List α} {h : MH} {n : Nat} (e : h[n]? = some (.lst (xs.map g))) : Its (itL n (xs.map g).length) h (xs.map g) := its_lst e
theorem its_enumA {α : Type} {g : α → Dt} {xs : List α} {I : Wk} {h : MH} (t : Its I h (xs.map g)) : Its (itE I) h (xs.zipIdx.map fun q => .tup [.int (q.2 : Nat), g q.1]) := by
  have := its_enum t
  have e : ((xs.map g).zipIdx.map fun q => Dt.tup [.int (q.2 : Nat), q.1]) = xs.zipIdx.map fun q => Dt.tup [.int (q.2 : Nat), g q.1] := by
    rw [List.zipIdx_map, List.map_map]
    rfl
  rw [e] at this
  exact this
theorem intsOf_map : ∀ ns : List Int, intsOf (ns.map Dt.int) = some ns
  | [] => rfl
  | n :: ns => by
    show (intsOf (ns.map Dt.int)).map (n :: ·) = _
    rw [intsOf_map ns]; rfl
theorem sum_lst {h : MH} {n : Nat} {ns : List Int} (e : h[n]? = some (.lst (ns.map Dt.int))) : bSum [.loc n] h = .ok (.int ns.sum) h := by
  simp [bSum, getL, e, intsOf_map]
/-! ### for -/
theorem for_inv {I : Wk} {p : TP} {b : SS} {G : Orc} (Inv : Nat → Env → MH → Prop) (Out : RS → Prop)
    (step : ∀ i ρ h, i < I.tot → Inv i ρ h → ∃ d ρ', I.get i h = some d ∧ assignP p d ρ = some ρ' ∧ match b G ρ' h with
      | .nx ρ2 h2 => Inv (i + 1) ρ2 h2
      | .ct ρ2 h2 => Inv (i + 1) ρ2 h2
      | .bk ρ2 h2 => Out (.nx ρ2 h2)
      | r => Out r)
    (fin : ∀ ρ h, Inv I.tot ρ h → I.fin h = true ∧ Out (.nx ρ h)) : ∀ (m i : Nat) (ρ : Env) (h : MH), i + m = I.tot → Inv i ρ h → Out (forLoop I p b G m ρ h)
  | 0, i, ρ, h, hm, inv => by
    have hi : i = I.tot := hm
    subst hi
    unfold forLoop
    rw [if_pos (fin ρ h inv).1]
    exact (fin ρ h inv).2
  | m + 1, i, ρ, h, hm, inv => by
    obtain ⟨d, ρ', e1, e2, k⟩ := step i ρ h (by omega) inv
    have ei : I.tot - (m + 1) = i := by omega
    unfold forLoop
    rw [ei, e1]
    simp only [e2]
    cases hb : b G ρ' h with
    | nx ρ2 h2 => rw [hb] at k; exact for_inv Inv Out step fin m (i + 1) ρ2 h2 (by omega) k
    | ct ρ2 h2 => rw [hb] at k; exact for_inv Inv Out step fin m (i + 1) ρ2 h2 (by omega) k
    | bk ρ2 h2 => rw [hb] at k; exact k
    | rt d h2 => rw [hb] at k; exact k
    | ex C fs ρ2 h2 => rw [hb] at k; exact k
    | bad => rw [hb] at k; exact k
/-- the whole of a for -/
theorem for_run {I : Wk} {p : TP} {b : SS} {G : Orc} {ρ : Env} {h : MH} (Inv : Nat → Env → MH → Prop) (Out : RS → Prop) (h0 : Inv 0 ρ h)
    (step : ∀ i ρ h, i < I.tot → Inv i ρ h → ∃ d ρ', I.get i h = some d ∧ assignP p d ρ = some ρ' ∧ match b G ρ' h with
      | .nx ρ2 h2 => Inv (i + 1) ρ2 h2
      | .ct ρ2 h2 => Inv (i + 1) ρ2 h2
      | .bk ρ2 h2 => Out (.nx ρ2 h2)
      | r => Out r)
    (fin : ∀ ρ h, Inv I.tot ρ h → I.fin h = true ∧ Out (.nx ρ h)) : Out (forLoop I p b G I.tot ρ h) := for_inv Inv Out step fin I.tot 0 ρ h (Nat.zero_add _) h0
/-- while, by a measure -/
theorem while_run {t : ST} {b : SS} {G : Orc} (Inv : Nat → Env → MH → Prop) (Out : RS → Prop)
    (step : ∀ m ρ h, Inv m ρ h → ∃ c h1, t G ρ h = .ok c h1 ∧ (c = false → Out (.nx ρ h1)) ∧ (c = true → match b G ρ h1 with
      | .nx ρ2 h2 => ∃ m', m' < m ∧ Inv m' ρ2 h2
      | .ct ρ2 h2 => ∃ m', m' < m ∧ Inv m' ρ2 h2
      | .bk ρ2 h2 => Out (.nx ρ2 h2)
      | r => Out r)) : ∀ (F m : Nat) (ρ : Env) (h : MH), m < F → Inv m ρ h → Out (whileLoop t b G F ρ h)
  | 0, m, _, _, hm, _ => absurd hm (Nat.not_lt_zero _)
  | F + 1, m, ρ, h, hm, inv => by
    obtain ⟨c, h1, e, k0, k1⟩ := step m ρ h inv
    unfold whileLoop
    rw [e, bndS_ok]
    cases c with
    | false => rw [if_neg (by simp)]; exact k0 rfl
    | true =>
      rw [if_pos rfl]
      have k := k1 rfl
      cases hb : b G ρ h1 with
      | nx ρ2 h2 => rw [hb] at k; obtain ⟨m', l, inv'⟩ := k; exact while_run Inv Out step F m' ρ2 h2 (by omega) inv'
      | ct ρ2 h2 => rw [hb] at k; obtain ⟨m', l, inv'⟩ := k; exact while_run Inv Out step F m' ρ2 h2 (by omega) inv'
      | bk ρ2 h2 => rw [hb] at k; exact k
      | rt d h2 => rw [hb] at k; exact k
      | ex C fs ρ2 h2 => rw [hb] at k; exact k
      | bad => rw [hb] at k; exact k
end EP
end
section
/-! MidR: bodies run, what is left kept as a pile. -/
namespace EP
open PySem L2
structure Out where
  N : Env → MH → Prop
  Q : Dt → MH → Prop
  B : Env → MH → Prop := fun _ _ => False
  C : Env → MH → Prop := fun _ _ => False
  X : Str → Fs → Env → MH → Prop := fun _ _ _ _ => False
def Out.of (O : Out) : RS → Prop
  | .nx ρ h => O.N ρ h
  | .rt d h => O.Q d h
  | .bk ρ h => O.B ρ h
  | .ct ρ h => O.C ρ h
  | .ex c fs ρ h => O.X c fs ρ h
  | .bad => False
def Run0 (G : Orc) (O : Out) : List SS → RS → Prop
  | [], r => O.of r
  | s :: ks, .nx ρ h => Run0 G O ks (s G ρ h)
  | _ :: _, r => O.of r
/-- what is left of a body, run, ends well -/
@[irreducible] def Run (G : Orc) (O : Out) (ks : List SS) (r : RS) : Prop := Run0 G O ks r
section
variable {G : Orc} {O : Out} {ks : List SS} {ρ : Env} {h : MH}
theorem run_eq {r : RS} : Run G O ks r = Run0 G O ks r := by unfold Run; rfl
@[simp] theorem run_seq {a b : SS} : Run G O ks (sSeq a b G ρ h) = Run G O (b :: ks) (a G ρ h) := by
  rw [run_eq, run_eq, sSeq_s]
  cases a G ρ h with
  | nx ρ1 h1 => rfl
  | _ => cases ks <;> rfl
@[simp] theorem run_nx {s : SS} : Run G O (s :: ks) (.nx ρ h) = Run G O ks (s G ρ h) := by rw [run_eq, run_eq]; rfl
@[simp] theorem run_nx0 : Run G O [] (.nx ρ h) = O.N ρ h := by rw [run_eq]; rfl
@[simp] theorem run_rt {d : Dt} : Run G O ks (.rt d h) = O.Q d h := by rw [run_eq]; cases ks <;> rfl
@[simp] theorem run_bk : Run G O ks (.bk ρ h) = O.B ρ h := by rw [run_eq]; cases ks <;> rfl
@[simp] theorem run_ct : Run G O ks (.ct ρ h) = O.C ρ h := by rw [run_eq]; cases ks <;> rfl
@[simp] theorem run_ex {c : Str} {fs : Fs} : Run G O ks (.ex c fs ρ h) = O.X c fs ρ h := by rw [run_eq]; cases ks <;> rfl
@[simp] theorem run_bad : Run G O ks .bad = False := by rw [run_eq]; cases ks <;> rfl
/-- what a loop's body is to reach -/
structure ToB (O' : Out) (O : Out) (G : Orc) (ks : List SS) (Nx : Env → MH → Prop) : Prop where
  N : ∀ ρ h, Nx ρ h → O'.N ρ h
  C : ∀ ρ h, Nx ρ h → O'.C ρ h
  B : ∀ ρ h, Run G O ks (.nx ρ h) → O'.B ρ h
  Q : ∀ d h, O.Q d h → O'.Q d h
  X : ∀ c fs ρ h, O.X c fs ρ h → O'.X c fs ρ h
theorem ToB.self (O : Out) (G : Orc) (ks : List SS) (Nx : Env → MH → Prop) : ToB { N := Nx, C := Nx, B := fun ρ h => Run G O ks (.nx ρ h), Q := O.Q, X := O.X } O G ks Nx := ⟨fun _ _ h => h, fun _ _ h => h, fun _ _ h => h, fun _ _ h => h, fun _ _ _ _ h => h⟩
theorem run_for {i : SI} {p : TP} {b : SS} {I : Wk} {h1 : MH} (hi : i G ρ h = .ok I h1) (Inv : Nat → Env → MH → Prop) (h0 : Inv 0 ρ h1)
    (step : ∀ i ρ h, i < I.tot → Inv i ρ h → ∃ d ρ', I.get i h = some d ∧ assignP p d ρ = some ρ' ∧ ∀ O', ToB O' O G ks (Inv (i + 1)) → Run G O' [] (b G ρ' h))
    (fin : ∀ ρ h, Inv I.tot ρ h → I.fin h = true ∧ Run G O ks (.nx ρ h)) : Run G O ks (sFor i p b G ρ h) := by
  rw [sFor_s, hi, bndS_ok]
  refine for_run Inv (fun r => Run G O ks r) h0 (fun i ρ h hlt inv => ?_) fin
  obtain ⟨d, ρ', e1, e2, k⟩ := step i ρ h hlt inv
  have k := k _ (ToB.self O G ks (Inv (i + 1)))
  refine ⟨d, ρ', e1, e2, ?_⟩
  cases hb : b G ρ' h with
  | nx ρ2 h2 => rw [hb, run_nx0] at k; exact k
  | ct ρ2 h2 => rw [hb, run_ct] at k; exact k
  | bk ρ2 h2 => rw [hb, run_bk] at k; exact k
  | rt d h2 => rw [hb, run_rt] at k; show Run G O ks (.rt d h2); rw [run_rt]; exact k
  | ex C fs ρ2 h2 => rw [hb, run_ex] at k; show Run G O ks (.ex C fs ρ2 h2); rw [run_ex]; exact k
  | bad => rw [hb, run_bad] at k; exact k.elim
/-- a for over given items, nothing but new things laid by what is walked -/
theorem run_forI {α : Type} {f : α → Dt} {i : SI} {p : TP} {b : SS} {I : Wk} {h1 : MH} {xs : List α} (its : Its I h1 (xs.map f)) (hi : i G ρ h = .ok I h1) (Inv : Nat → Env → MH → Prop) (h0 : Inv 0 ρ h1) (up : ∀ i ρ h, Inv i ρ h → h1 <+: h)
    (step : ∀ i x ρ h, xs[i]? = some x → Inv i ρ h → ∃ ρ', assignP p (f x) ρ = some ρ' ∧ ∀ O', ToB O' O G ks (Inv (i + 1)) → Run G O' [] (b G ρ' h))
    (fin : ∀ ρ h, Inv xs.length ρ h → Run G O ks (.nx ρ h)) : Run G O ks (sFor i p b G ρ h) := by
  refine run_for hi Inv h0 (fun i ρ h hlt inv => ?_) fun ρ h inv => ?_
  · have hl : i < xs.length := by rw [its.tot, List.length_map] at hlt; exact hlt
    obtain ⟨ρ', e1, e2⟩ := step i xs[i] ρ h (List.getElem?_eq_getElem hl) inv
    exact ⟨f xs[i], ρ', by rw [its.get h (up _ _ _ inv) i (by simpa using hl), List.getElem?_map, List.getElem?_eq_getElem hl]; rfl, e1, e2⟩
  · rw [its.tot, List.length_map] at inv
    exact ⟨its.fin h (up _ _ _ inv), fin ρ h inv⟩
theorem run_while {t : ST} {b : SS} (Inv : Nat → Env → MH → Prop) {m : Nat} (hm : m < whileFuel) (h0 : Inv m ρ h)
    (step : ∀ m ρ h, Inv m ρ h → ∃ c h1, t G ρ h = .ok c h1 ∧ (c = false → Run G O ks (.nx ρ h1)) ∧ (c = true → ∀ O', ToB O' O G ks (fun ρ h => ∃ m', m' < m ∧ Inv m' ρ h) → Run G O' [] (b G ρ h1))) :
    Run G O ks (sWhile t b G ρ h) := by
  rw [sWhile_s]
  refine while_run Inv (fun r => Run G O ks r) (fun m ρ h inv => ?_) whileFuel m ρ h hm h0
  obtain ⟨c, h1, e, k0, k1⟩ := step m ρ h inv
  refine ⟨c, h1, e, k0, fun hc => ?_⟩
  have k := k1 hc _ (ToB.self O G ks _)
  cases hb : b G ρ h1 with
  | nx ρ2 h2 => rw [hb, run_nx0] at k; exact k
  | ct ρ2 h2 => rw [hb, run_ct] at k; exact k
  | bk ρ2 h2 => rw [hb, run_bk] at k; exact k
  | rt d h2 => rw [hb, run_rt] at k; show Run G O ks (.rt d h2); rw [run_rt]; exact k
  | ex C fs ρ2 h2 => rw [hb, run_ex] at k; show Run G O ks (.ex C fs ρ2 h2); rw [run_ex]; exact k
  | bad => rw [hb, run_bad] at k; exact k.elim
end
/-- a def's answer -/
def Ans (Q : Dt → MH → Prop) (X : Str → Fs → MH → Prop) : RE Dt → Prop
  | .ok d h => Q d h
  | .ex C fs h => X C fs h
  | .bad => False
theorem call_run {D : List MDef} {k n : Nat} {md : MDef} {args : List Dt} {h : MH} {Q : Dt → MH → Prop} {X : Str → Fs → MH → Prop} (e : D[n]? = some md) (l : args.length = md.ar)
    (r : ∀ O : Out, (∀ ρ h, Q .non h → O.N ρ h) → (∀ d h, Q d h → O.Q d h) → (∀ C fs ρ h, X C fs h → O.X C fs ρ h) → Run (callK D k) O [] (md.body (callK D k) (args.map some ++ List.replicate (md.sl - args.length) none) h)) : Ans Q X (callK D (k + 1) n args h) := by
  have r := r { N := fun _ h => Q .non h, Q := Q, X := fun C fs _ h => X C fs h } (fun _ _ h => h) (fun _ _ h => h) (fun _ _ _ _ h => h)
  rw [call_eq e l, run_s]
  revert r
  cases md.body (callK D k) (args.map some ++ List.replicate (md.sl - args.length) none) h with
  | nx ρ h' => rw [run_nx0]; exact id
  | rt d h' => rw [run_rt]; exact id
  | bk ρ h' => rw [run_bk]; exact id
  | ct ρ h' => rw [run_ct]; exact id
  | ex C fs ρ h' => rw [run_ex]; exact id
  | bad => rw [run_bad]; exact id
theorem Ans.ok {Q : Dt → MH → Prop} {r : RE Dt} (a : Ans Q (fun _ _ _ => False) r) : ∃ d h, r = .ok d h ∧ Q d h := by
  cases r with
  | ok d h => exact ⟨d, h, rfl, a⟩
  | ex C fs h => exact a.elim
  | bad => exact a.elim
theorem Ans.val {v : Dt} {P : MH → Prop} {r : RE Dt} (a : Ans (fun d h => d = v ∧ P h) (fun _ _ _ => False) r) : ∃ h, r = .ok v h ∧ P h := by
  obtain ⟨d, h, e, rfl, p⟩ := a.ok
  exact ⟨h, e, p⟩
end EP
namespace EP
open PySem L2
/-- items that hang on no heap -/
structure HF (I : Wk) (xs : List Dt) : Prop where
  tot : I.tot = xs.length
  get : ∀ h i, i < xs.length → I.get i h = xs[i]?
  fin : ∀ h, I.fin h = true
theorem hf_tup {xs : List Dt} : HF (itT xs) xs := ⟨rfl, fun _ _ _ => rfl, fun _ => rfl⟩
theorem hf_rng {lo : Int} {n : Nat} : HF (itR lo n) ((List.range n).map fun i => Dt.int (lo + (i : Nat))) :=
  ⟨by simp [itR], fun h i hi => by
    have hi' : i < n := by simpa using hi
    simp [itR, hi'], fun h => rfl⟩
theorem hf_enum {I : Wk} {xs : List Dt} (t : HF I xs) : HF (itE I) (xs.zipIdx.map fun q => .tup [.int (q.2 : Nat), q.1]) :=
  ⟨by simp [itE, t.tot], fun h i hi => by
    have hi' : i < xs.length := by simpa using hi
    simp [itE, t.get h i hi', hi'], fun h => t.fin h⟩
section
variable {G : Orc} {O : Out} {ks : List SS} {ρ : Env} {h : MH}
theorem run_forH {α : Type} {f : α → Dt} {i : SI} {p : TP} {b : SS} {I : Wk} {h1 : MH} {xs : List α} (hf : HF I (xs.map f)) (hi : i G ρ h = .ok I h1) (Inv : Nat → Env → MH → Prop) (h0 : Inv 0 ρ h1)
    (step : ∀ i x ρ h, xs[i]? = some x → Inv i ρ h → ∃ ρ', assignP p (f x) ρ = some ρ' ∧ ∀ O', ToB O' O G ks (Inv (i + 1)) → Run G O' [] (b G ρ' h))
    (fin : ∀ ρ h, Inv xs.length ρ h → Run G O ks (.nx ρ h)) : Run G O ks (sFor i p b G ρ h) := by
  refine run_for hi Inv h0 (fun i ρ h hlt inv => ?_) fun ρ h inv => ?_
  · have hl : i < xs.length := by rw [hf.tot, List.length_map] at hlt; exact hlt
    obtain ⟨ρ', e1, e2⟩ := step i xs[i] ρ h (List.getElem?_eq_getElem hl) inv
    exact ⟨f xs[i], ρ', by rw [hf.get h i (by simpa using hl), List.getElem?_map, List.getElem?_eq_getElem hl]; rfl, e1, e2⟩
  · rw [hf.tot, List.length_map] at inv
    exact ⟨hf.fin h, fin ρ h inv⟩
theorem in_dT {a b : Int} {n : Nat} {ng : Bool} {kvs : List (List Key × Dt)} (e : h[n]? = some (.dT kvs)) : oIn ng (.tup [.int a, .int b]) (.loc n) h = .ok (.bl (if ng then !(kvs.any fun kv => decide (kv.1 = [.inl a, .inl b])) else kvs.any fun kv => decide (kv.1 = [.inl a, .inl b]))) h := by
  simp [oIn, e, toKeys, toKeyL, toKey]
theorem set_dT {a b : Int} {n : Nat} {v : Dt} {kvs : List (List Key × Dt)} (e : h[n]? = some (.dT kvs)) (l : kvs.length < sizeLine) : oSet (.loc n) (.tup [.int a, .int b]) v h = some (h.set n (.dT (setK kvs [.inl a, .inl b] v))) := by
  simp [oSet, e, toKeys, toKeyL, toKey, l]
theorem app_lst {n : Nat} {xs : List Dt} {v : Dt} (e : h[n]? = some (.lst xs)) (l : xs.length < sizeLine) : mAppend (.loc n) [v] h = .ok .non (h.set n (.lst (xs ++ [v]))) := by
  simp [mAppend, e, l]
theorem isLst_lst {n : Nat} {xs : List Dt} (e : h[n]? = some (.lst xs)) : isLst h (.loc n) = true := by simp [isLst, getL, e]
theorem set_ne {n m : Nat} {o o' : MO} (e : h[m]? = some o) (ne : n ≠ m) : (h.set n o')[m]? = some o := by rw [List.getElem?_set_ne ne]; exact e
end
/-! ### pigeons -/
theorem nodup_lt : ∀ (n : Nat) (l : List Nat), l.Nodup → (∀ x ∈ l, x < n) → l.length ≤ n
  | 0, l, _, hb => by
    cases l with
    | nil => simp
    | cons a r => exact absurd (hb a (by simp)) (Nat.not_lt_zero _)
  | n + 1, l, hn, hb => by
    by_cases hm : n ∈ l
    · have h1 : (l.erase n).length = l.length - 1 := List.length_erase_of_mem hm
      have h2 := nodup_lt n (l.erase n) (hn.erase n) fun x hx => by
        have := (List.Nodup.mem_erase_iff hn).mp hx
        have := hb x this.2
        omega
      omega
    · have := nodup_lt n l hn fun x hx => by
        have h1 := hb x hx
        have h2 : x ≠ n := fun e => hm (e ▸ hx)
        omega
      omega
end EP
namespace EP
open PySem L2
/-- the object at n is now o -/
structure Up (n : Nat) (h h' : MH) (o : MO) : Prop where
  at_ : h'[n]? = some o
  ne : ∀ m, m ≠ n → h'[m]? = h[m]?
  pre : ∀ {h0 : MH}, h0 <+: h → h0.length ≤ n → h0 <+: h'
  len : h'.length = h.length
theorem Up.of {n : Nat} {h : MH} {o o' : MO} (e : h[n]? = some o) : Up n h (h.set n o') o' :=
  ⟨set_get e, fun m hm => List.getElem?_set_ne (Ne.symm hm), fun p l => pre_set p l, by simp⟩
theorem Up.get {n m : Nat} {h h' : MH} {o o' : MO} (u : Up n h h' o) (ne : m ≠ n) (e : h[m]? = some o') : h'[m]? = some o' := (u.ne m ne).trans e
section
variable {h : MH}
theorem app_ex {n : Nat} {xs : List Dt} {v : Dt} (e : h[n]? = some (.lst xs)) (l : xs.length < sizeLine) : ∃ h', mAppend (.loc n) [v] h = .ok .non h' ∧ Up n h h' (.lst (xs ++ [v])) := ⟨_, app_lst e l, Up.of e⟩
theorem setT_ex {a b : Int} {n : Nat} {v : Dt} {kvs : List (List Key × Dt)} (e : h[n]? = some (.dT kvs)) (l : kvs.length < sizeLine) : ∃ h', oSet (.loc n) (.tup [.int a, .int b]) v h = some h' ∧ Up n h h' (.dT (setK kvs [.inl a, .inl b] v)) := ⟨_, set_dT e l, Up.of e⟩
theorem setL_ex {n : Nat} {i : Int} {v : Dt} {xs : List Dt} (e : h[n]? = some (.lst xs)) (h0 : 0 ≤ i) (l : i < xs.length) : ∃ h', oSet (.loc n) (.int i) v h = some h' ∧ Up n h h' (.lst (xs.set i.toNat v)) :=
  ⟨_, by simp [oSet, e, ixN, h0, l], Up.of e⟩
end
end EP
namespace EP
open PySem L2
section
variable {G : Orc} {O : Out} {ks : List SS} {ρ : Env} {h : MH}
/-- a list that stays as it is while it is walked -/
theorem run_forL {α : Type} {f : α → Dt} {i : SI} {p : TP} {b : SS} {n : Nat} {h1 : MH} {xs : List α} (hi : i G ρ h = .ok (itL n (xs.map f).length) h1) (Inv : Nat → Env → MH → Prop) (h0 : Inv 0 ρ h1) (st : ∀ i ρ h, Inv i ρ h → h[n]? = some (.lst (xs.map f)))
    (step : ∀ i x ρ h, xs[i]? = some x → Inv i ρ h → ∃ ρ', assignP p (f x) ρ = some ρ' ∧ ∀ O', ToB O' O G ks (Inv (i + 1)) → Run G O' [] (b G ρ' h))
    (fin : ∀ ρ h, Inv xs.length ρ h → Run G O ks (.nx ρ h)) : Run G O ks (sFor i p b G ρ h) := by
  refine run_for hi Inv h0 (fun i ρ h hlt inv => ?_) fun ρ h inv => ?_
  · have hl : i < xs.length := by simpa [itL] using hlt
    obtain ⟨ρ', e1, e2⟩ := step i xs[i] ρ h (List.getElem?_eq_getElem hl) inv
    exact ⟨f xs[i], ρ', by simp [itL, getL, st _ _ _ inv, hl], e1, e2⟩
  · have inv' : Inv xs.length ρ h := by simpa [itL] using inv
    exact ⟨by simp [itL, getL, st _ _ _ inv], fin ρ h inv'⟩
theorem run_forE {α : Type} {f : α → Dt} {i : SI} {p : TP} {b : SS} {n : Nat} {h1 : MH} {xs : List α} (hi : i G ρ h = .ok (itE (itL n (xs.map f).length)) h1) (Inv : Nat → Env → MH → Prop) (h0 : Inv 0 ρ h1) (st : ∀ i ρ h, Inv i ρ h → h[n]? = some (.lst (xs.map f)))
    (step : ∀ (i : Nat) x ρ h, xs[i]? = some x → Inv i ρ h → ∃ ρ', assignP p (.tup [.int (i : Nat), f x]) ρ = some ρ' ∧ ∀ O', ToB O' O G ks (Inv (i + 1)) → Run G O' [] (b G ρ' h))
    (fin : ∀ ρ h, Inv xs.length ρ h → Run G O ks (.nx ρ h)) : Run G O ks (sFor i p b G ρ h) := by
  refine run_for hi Inv h0 (fun i ρ h hlt inv => ?_) fun ρ h inv => ?_
  · have hl : i < xs.length := by simpa [itL, itE] using hlt
    obtain ⟨ρ', e1, e2⟩ := step i xs[i] ρ h (List.getElem?_eq_getElem hl) inv
    exact ⟨.tup [.int (i : Nat), f xs[i]], ρ', by simp [itL, itE, getL, st _ _ _ inv, hl], e1, e2⟩
  · have inv' : Inv xs.length ρ h := by simpa [itL, itE] using inv
    exact ⟨by simp [itL, itE, getL, st _ _ _ inv], fin ρ h inv'⟩
/-- .. a tuple's, numbered -/
theorem run_forET {α : Type} {f : α → Dt} {i : SI} {p : TP} {b : SS} {h1 : MH} {xs : List α} (hi : i G ρ h = .ok (itE (itT (xs.map f))) h1) (Inv : Nat → Env → MH → Prop) (h0 : Inv 0 ρ h1)
    (step : ∀ (i : Nat) x ρ h, xs[i]? = some x → Inv i ρ h → ∃ ρ', assignP p (.tup [.int (i : Nat), f x]) ρ = some ρ' ∧ ∀ O', ToB O' O G ks (Inv (i + 1)) → Run G O' [] (b G ρ' h))
    (fin : ∀ ρ h, Inv xs.length ρ h → Run G O ks (.nx ρ h)) : Run G O ks (sFor i p b G ρ h) := by
  refine run_for hi Inv h0 (fun i ρ h hlt inv => ?_) fun ρ h inv => ?_
  · have hl : i < xs.length := by simpa [itT, itE] using hlt
    obtain ⟨ρ', e1, e2⟩ := step i xs[i] ρ h (List.getElem?_eq_getElem hl) inv
    exact ⟨.tup [.int (i : Nat), f xs[i]], ρ', by simp [itT, itE, hl], e1, e2⟩
  · have inv' : Inv xs.length ρ h := by simpa [itT, itE] using inv
    exact ⟨by simp [itT, itE], fin ρ h inv'⟩
end
end EP
end
section
/-! MathA: a search. -/
namespace EP
section
variable {α : Type} [DecidableEq α]
def addAll (P cs : List α) : List α := cs.foldl (fun P c => if c ∈ P then P else P ++ [c]) P
theorem addAll_nil {P : List α} : addAll P [] = P := rfl
theorem addAll_app {P a b : List α} : addAll P (a ++ b) = addAll (addAll P a) b := by simp [addAll, List.foldl_append]
theorem addAll_one {P : List α} {c : α} : addAll P [c] = if c ∈ P then P else P ++ [c] := rfl
theorem addAll_cons {P : List α} {c : α} {r : List α} : addAll P (c :: r) = addAll (addAll P [c]) r := rfl
theorem mem_addAll {x : α} : ∀ {cs P : List α}, x ∈ addAll P cs ↔ x ∈ P ∨ x ∈ cs
  | [], P => by simp [addAll_nil]
  | c :: r, P => by
    rw [addAll_cons, mem_addAll, addAll_one]
    split
    · rename_i h
      simp only [List.mem_cons]
      constructor
      · rintro (h1 | h1)
        · exact .inl h1
        · exact .inr (.inr h1)
      · rintro (h1 | rfl | h1)
        · exact .inl h1
        · exact .inl h
        · exact .inr h1
    · simp only [List.mem_append, List.mem_cons, List.not_mem_nil, or_false]
      constructor
      · rintro ((h1 | h1) | h1)
        · exact .inl h1
        · exact .inr (.inl h1)
        · exact .inr (.inr h1)
      · rintro (h1 | h1 | h1)
        · exact .inl (.inl h1)
        · exact .inl (.inr h1)
        · exact .inr h1
theorem nodup_addAll : ∀ {cs P : List α}, P.Nodup → (addAll P cs).Nodup
  | [], P, h => h
  | c :: r, P, h => by
    rw [addAll_cons]
    refine nodup_addAll ?_
    rw [addAll_one]
    split
    · exact h
    · rename_i hc
      rw [List.nodup_append]
      exact ⟨h, by simp, by rintro a ha b hb rfl; simp at hb; exact hc (hb ▸ ha)⟩
theorem pre_addAll : ∀ {cs P : List α}, P <+: addAll P cs
  | [], P => List.prefix_refl P
  | c :: r, P => by
    rw [addAll_cons]
    refine List.IsPrefix.trans ?_ pre_addAll
    rw [addAll_one]
    split
    · exact List.prefix_refl P
    · exact ⟨_, rfl⟩
def bfs (c : α → List α) : Nat → Nat → List α → List α
  | 0, _, P => P
  | f + 1, i, P => match P[i]? with
    | none => P
    | some q => bfs c f (i + 1) (addAll P (c q))
theorem bfs_done {c : α → List α} {f i : Nat} {P : List α} (h : P.length ≤ i) : bfs c f i P = P := by
  cases f with
  | zero => rfl
  | succ f =>
    unfold bfs
    rw [List.getElem?_eq_none h]
theorem bfs_step {c : α → List α} {f i : Nat} {P : List α} {q : α} (h : P[i]? = some q) : bfs c (f + 1) i P = bfs c f (i + 1) (addAll P (c q)) := by
  conv => lhs; unfold bfs
  rw [h]
/-- what the search finds, if there are at most B things -/
theorem bfs_spec {c : α → List α} (V : α → Prop) (B : Nat) (hB : ∀ P : List α, P.Nodup → (∀ x ∈ P, V x) → P.length ≤ B) (hV : ∀ x, V x → ∀ y ∈ c x, V y) : ∀ (f i : Nat) (P : List α), P.Nodup → (∀ x ∈ P, V x) → i ≤ P.length → B + 1 ≤ f + i →
    (∀ j x, j < i → P[j]? = some x → ∀ y ∈ c x, y ∈ P) → (bfs c f i P).Nodup ∧ (∀ x ∈ bfs c f i P, V x) ∧ (∀ x ∈ bfs c f i P, ∀ y ∈ c x, y ∈ bfs c f i P) ∧ P <+: bfs c f i P
  | 0, i, P, hn, hv, hi, hf, _ => by
    have := hB P hn hv
    omega
  | f + 1, i, P, hn, hv, hi, hf, hc => by
    cases hq : P[i]? with
    | none =>
      have hl : P.length ≤ i := List.getElem?_eq_none_iff.mp hq
      rw [bfs_done hl]
      refine ⟨hn, hv, fun x hx y hy => ?_, List.prefix_refl P⟩
      obtain ⟨j, hj, e⟩ := List.getElem_of_mem hx
      exact hc j x (by omega) (by rw [List.getElem?_eq_getElem hj, e]) y hy
    | some q =>
      rw [bfs_step hq]
      have hqm : q ∈ P := List.mem_of_getElem? hq
      have hl : i < P.length := (List.getElem?_eq_some_iff.mp hq).1
      have pre : P <+: addAll P (c q) := pre_addAll
      have hle := pre.length_le
      obtain ⟨r1, r2, r3, r4⟩ := bfs_spec V B hB hV f (i + 1) (addAll P (c q)) (nodup_addAll hn) (fun x hx => by
        rcases mem_addAll.mp hx with h1 | h1
        · exact hv x h1
        · exact hV q (hv q hqm) x h1) (by omega) (by omega) (fun j x hj hx y hy => by
        by_cases hji : j = i
        · subst hji
          have e : P[j]? = some x := by
            obtain ⟨t, ht⟩ := pre
            rw [← ht, List.getElem?_append_left hl] at hx
            exact hx
          rw [hq] at e
          cases e
          exact mem_addAll.mpr (.inr hy)
        · have e : P[j]? = some x := by
            obtain ⟨t, ht⟩ := pre
            rw [← ht, List.getElem?_append_left (by omega)] at hx
            exact hx
          exact mem_addAll.mpr (.inl (hc j x (by omega) e y hy)))
      exact ⟨r1, r2, r3, pre.trans r4⟩
end
/-- pairs of small numbers -/
theorem pairs_le {a b : Nat} (hb : b ≤ 12) (ha : a ≤ 12) {P : List (Int × Int)} (hn : P.Nodup) (hv : ∀ x ∈ P, 0 ≤ x.1 ∧ x.1 < a ∧ 0 ≤ x.2 ∧ x.2 < b) : P.length ≤ 144 := by
  have h1 := nodup_lt 144 (P.map fun x => x.1.toNat * 12 + x.2.toNat) (by
    rw [List.nodup_iff_pairwise_ne, List.pairwise_map]
    refine List.Pairwise.imp_of_mem ?_ hn
    rintro x y hx hy ne e
    have h1 := hv x hx
    have h2 := hv y hy
    apply ne
    have e1 : x.1 = y.1 := by omega
    have e2 : x.2 = y.2 := by omega
    exact Prod.ext e1 e2) (by
    intro n hn'
    obtain ⟨x, hx, rfl⟩ := List.mem_map.mp hn'
    have := hv x hx
    omega)
  simpa using h1
end EP
end
section
/-! MidD: dict comprehensions run. -/
namespace EP
open PySem L2

theorem dcT_loop {I : Wk} {p : TP} {t : ST} {k e : SE} {G : Orc} {ρ : Env} {D : Nat} {h1 : MH} {α : Type} {g : α → Dt} {xs : List α} (its : Its I h1 (xs.map g)) (hD : h1.length ≤ D) (b : α → Bool) (kf : α → List Key) (vf : α → Dt) (hz : xs.length ≤ sizeLine)
    (hx : ∀ x ∈ xs, ∃ ρ', assignP p (g x) ρ = some ρ' ∧ ∀ h', h1 <+: h' → PvT t G ρ' h' (b x) ∧ (b x = true → ∃ kd, Pv k G ρ' h' kd ∧ toKeys kd = some (kf x) ∧ ∀ h', h1 <+: h' → Pv e G ρ' h' (vf x))) :
    ∀ (m i : Nat) (acc : List (List Key × Dt)) (h : MH), i + m = I.tot → acc.length ≤ i → h1 <+: h → h[D]? = some (.dT acc) →
      ∃ h', dcLoop true I p t k e G ρ D m h = .ok (.loc D) h' ∧ h1 <+: h' ∧ h'[D]? = some (.dT (((xs.drop i).filter b).foldl (fun acc x => setK acc (kf x) (vf x)) acc))
  | 0, i, acc, h, hm, hl, pr, e1 => by
    refine ⟨h, ?_, pr, ?_⟩
    · unfold dcLoop; rw [if_pos (its.fin h pr)]
    · have : xs.length ≤ i := by have := its.tot; rw [List.length_map] at this; omega
      rw [List.drop_eq_nil_of_le this]; exact e1
  | m + 1, i, acc, h, hm, hl, pr, e1 => by
    have hi : i < xs.length := by have := its.tot; rw [List.length_map] at this; omega
    have ei : I.tot - (m + 1) = i := by omega
    obtain ⟨ρ', a1, a2⟩ := hx xs[i] (List.getElem_mem hi)
    obtain ⟨⟨h2, k1, k2⟩, k3⟩ := a2 h pr
    have hdrop : xs.drop i = xs[i] :: xs.drop (i + 1) := (List.drop_eq_getElem_cons hi)
    have hg : I.get i h = some (g xs[i]) := by rw [its.get h pr i (by simpa using hi), List.getElem?_map, List.getElem?_eq_getElem hi]; rfl
    cases hb : b xs[i] with
    | true =>
      obtain ⟨kd, ⟨h3, q1, q2⟩, q3, q4⟩ := (a2 h2 (pr.trans k2)).2 hb
      obtain ⟨h4, r1, r2⟩ := q4 h3 (pr.trans (k2.trans q2))
      have e4 := pre_get r2 (pre_get q2 (pre_get k2 e1))
      have hlen : acc.length < sizeLine := by omega
      have hs : (setK acc (kf xs[i]) (vf xs[i])).length ≤ acc.length + 1 := by
        unfold setK
        split <;> simp
      obtain ⟨h', s1, s2, s3⟩ := dcT_loop its hD b kf vf hz hx m (i + 1) (setK acc (kf xs[i]) (vf xs[i])) (h4.set D (.dT (setK acc (kf xs[i]) (vf xs[i])))) (by omega) (by omega) (pre_set (pr.trans (k2.trans (q2.trans r2))) hD) (set_get e4)
      refine ⟨h', ?_, s2, ?_⟩
      · unfold dcLoop
        rw [ei, hg]
        simp only [a1, k1, hb, noEx, bnd_ok, if_true, q1, r1, e4, q3, hlen, and_self, s1]
      · rw [hdrop, List.filter_cons, hb, if_pos rfl]; exact s3
    | false =>
      rw [hb] at k1
      obtain ⟨h', s1, s2, s3⟩ := dcT_loop its hD b kf vf hz hx m (i + 1) acc h2 (by omega) (by omega) (pr.trans k2) (pre_get k2 e1)
      refine ⟨h', ?_, s2, ?_⟩
      · unfold dcLoop
        rw [ei, hg]
        simp only [a1, k1, noEx, bnd_ok, Bool.false_eq_true, if_false, s1]
      · rw [hdrop, List.filter_cons, hb, if_neg (by simp)]; exact s3
theorem dcT_run {i : SI} {p : TP} {k e : SE} {vs : List Nat} {G : Orc} {ρ : Env} {h h1 : MH} {I : Wk} {α : Type} {g : α → Dt} {xs : List α} (hi : i G ρ h = .ok I h1) (its : Its I h1 (xs.map g)) (kf : α → List Key) (vf : α → Dt) (hz : xs.length ≤ sizeLine)
    (hx : ∀ x ∈ xs, ∃ ρ', assignP p (g x) (wipeE ρ vs) = some ρ' ∧ ∀ h', h1 <+: h' → ∃ kd, Pv k G ρ' h' kd ∧ toKeys kd = some (kf x) ∧ ∀ h', h1 <+: h' → Pv e G ρ' h' (vf x)) :
    ∃ h', eDc true i p EP.tYes k e vs G ρ h = .ok (.loc h1.length) h' ∧ h1 <+: h' ∧ h'[h1.length]? = some (.dT (xs.foldl (fun acc x => setK acc (kf x) (vf x)) [])) := by
  rw [eDc_s, hi, bnd_ok]
  have := dcT_loop (t := EP.tYes) (k := k) (e := e) (G := G) (p := p) (ρ := wipeE ρ vs) (D := h1.length) its (Nat.le_refl _) (fun _ => true) kf vf hz (fun x hm => by
    obtain ⟨ρ', e1, e2⟩ := hx x hm
    exact ⟨ρ', e1, fun h' pr => ⟨.now rfl, fun _ => e2 h' pr⟩⟩) I.tot 0 [] (h1 ++ [.dT []]) (Nat.zero_add _) (Nat.le_refl _) (pre_app _ _) (by simp)
  obtain ⟨h', r1, r2, r3⟩ := this
  refine ⟨h', r1, r2, ?_⟩
  rw [r3, List.drop_zero, List.filter_eq_self.mpr (fun _ _ => rfl)]

theorem dcK_loop {I : Wk} {p : TP} {t : ST} {k e : SE} {G : Orc} {ρ : Env} {D : Nat} {h1 : MH} {α : Type} {g : α → Dt} {xs : List α} (its : Its I h1 (xs.map g)) (hD : h1.length ≤ D) (b : α → Bool) (kf : α → Key) (vf : α → Dt) (hz : xs.length ≤ sizeLine)
    (hx : ∀ x ∈ xs, ∃ ρ', assignP p (g x) ρ = some ρ' ∧ ∀ h', h1 <+: h' → PvT t G ρ' h' (b x) ∧ (b x = true → ∃ kd, Pv k G ρ' h' kd ∧ toKey kd = some (kf x) ∧ ∀ h', h1 <+: h' → Pv e G ρ' h' (vf x))) :
    ∀ (m i : Nat) (acc : List (Key × Dt)) (h : MH), i + m = I.tot → acc.length ≤ i → h1 <+: h → h[D]? = some (.dK acc) →
      ∃ h', dcLoop false I p t k e G ρ D m h = .ok (.loc D) h' ∧ h1 <+: h' ∧ h'[D]? = some (.dK (((xs.drop i).filter b).foldl (fun acc x => setK acc (kf x) (vf x)) acc))
  | 0, i, acc, h, hm, hl, pr, e1 => by
    refine ⟨h, ?_, pr, ?_⟩
    · unfold dcLoop; rw [if_pos (its.fin h pr)]
    · have : xs.length ≤ i := by have := its.tot; rw [List.length_map] at this; omega
      rw [List.drop_eq_nil_of_le this]; exact e1
  | m + 1, i, acc, h, hm, hl, pr, e1 => by
    have hi : i < xs.length := by have := its.tot; rw [List.length_map] at this; omega
    have ei : I.tot - (m + 1) = i := by omega
    obtain ⟨ρ', a1, a2⟩ := hx xs[i] (List.getElem_mem hi)
    obtain ⟨⟨h2, k1, k2⟩, k3⟩ := a2 h pr
    have hdrop : xs.drop i = xs[i] :: xs.drop (i + 1) := (List.drop_eq_getElem_cons hi)
    have hg : I.get i h = some (g xs[i]) := by rw [its.get h pr i (by simpa using hi), List.getElem?_map, List.getElem?_eq_getElem hi]; rfl
    cases hb : b xs[i] with
    | true =>
      obtain ⟨kd, ⟨h3, q1, q2⟩, q3, q4⟩ := (a2 h2 (pr.trans k2)).2 hb
      obtain ⟨h4, r1, r2⟩ := q4 h3 (pr.trans (k2.trans q2))
      have e4 := pre_get r2 (pre_get q2 (pre_get k2 e1))
      have hlen : acc.length < sizeLine := by omega
      have hs : (setK acc (kf xs[i]) (vf xs[i])).length ≤ acc.length + 1 := by
        unfold setK
        split <;> simp
      obtain ⟨h', s1, s2, s3⟩ := dcK_loop its hD b kf vf hz hx m (i + 1) (setK acc (kf xs[i]) (vf xs[i])) (h4.set D (.dK (setK acc (kf xs[i]) (vf xs[i])))) (by omega) (by omega) (pre_set (pr.trans (k2.trans (q2.trans r2))) hD) (set_get e4)
      refine ⟨h', ?_, s2, ?_⟩
      · unfold dcLoop
        rw [ei, hg]
        simp only [a1, k1, hb, noEx, bnd_ok, if_true, q1, r1, e4, q3, hlen, and_self, s1]
      · rw [hdrop, List.filter_cons, hb, if_pos rfl]; exact s3
    | false =>
      rw [hb] at k1
      obtain ⟨h', s1, s2, s3⟩ := dcK_loop its hD b kf vf hz hx m (i + 1) acc h2 (by omega) (by omega) (pr.trans k2) (pre_get k2 e1)
      refine ⟨h', ?_, s2, ?_⟩
      · unfold dcLoop
        rw [ei, hg]
        simp only [a1, k1, noEx, bnd_ok, Bool.false_eq_true, if_false, s1]
      · rw [hdrop, List.filter_cons, hb, if_neg (by simp)]; exact s3
theorem dcK_run {i : SI} {p : TP} {k e : SE} {vs : List Nat} {G : Orc} {ρ : Env} {h h1 : MH} {I : Wk} {α : Type} {g : α → Dt} {xs : List α} (hi : i G ρ h = .ok I h1) (its : Its I h1 (xs.map g)) (kf : α → Key) (vf : α → Dt) (hz : xs.length ≤ sizeLine)
    (hx : ∀ x ∈ xs, ∃ ρ', assignP p (g x) (wipeE ρ vs) = some ρ' ∧ ∀ h', h1 <+: h' → ∃ kd, Pv k G ρ' h' kd ∧ toKey kd = some (kf x) ∧ ∀ h', h1 <+: h' → Pv e G ρ' h' (vf x)) :
    ∃ h', eDc false i p EP.tYes k e vs G ρ h = .ok (.loc h1.length) h' ∧ h1 <+: h' ∧ h'[h1.length]? = some (.dK (xs.foldl (fun acc x => setK acc (kf x) (vf x)) [])) := by
  rw [eDc_s, hi, bnd_ok]
  have := dcK_loop (t := EP.tYes) (k := k) (e := e) (G := G) (p := p) (ρ := wipeE ρ vs) (D := h1.length) its (Nat.le_refl _) (fun _ => true) kf vf hz (fun x hm => by
    obtain ⟨ρ', e1, e2⟩ := hx x hm
    exact ⟨ρ', e1, fun h' pr => ⟨.now rfl, fun _ => e2 h' pr⟩⟩) I.tot 0 [] (h1 ++ [.dK []]) (Nat.zero_add _) (Nat.le_refl _) (pre_app _ _) (by simp)
  obtain ⟨h', r1, r2, r3⟩ := this
  refine ⟨h', r1, r2, ?_⟩
  rw [r3, List.drop_zero, List.filter_eq_self.mpr (fun _ _ => rfl)]

/-- keys that differ are laid one behind another -/
theorem foldl_setK {κ α : Type} [DecidableEq κ] (kf : α → κ) (vf : α → Dt) : ∀ (xs : List α) (acc : List (κ × Dt)), (xs.map kf).Nodup → (∀ x ∈ xs, kf x ∉ acc.map (·.1)) → xs.foldl (fun acc x => setK acc (kf x) (vf x)) acc = acc ++ xs.map fun x => (kf x, vf x)
  | [], acc, _, _ => by simp
  | x :: r, acc, hn, ha => by
    have h1 : (acc.any fun kv => decide (kv.1 = kf x)) = false := by
      rw [List.any_eq_false]
      intro kv hkv
      simp
      intro e
      exact ha x (by simp) (e ▸ List.mem_map.mpr ⟨kv, hkv, rfl⟩)
    rw [List.foldl_cons, setK, h1, if_neg (by simp)]
    rw [List.map_cons, List.nodup_cons] at hn
    rw [foldl_setK kf vf r (acc ++ [(kf x, vf x)]) hn.2 (fun y hy hm => by
      rw [List.map_append, List.mem_append] at hm
      rcases hm with hm | hm
      · exact ha y (by simp [hy]) hm
      · simp at hm
        exact hn.1 (hm ▸ List.mem_map.mpr ⟨y, hy, rfl⟩))]
    simp
end EP
end
section
/-! Data: words, rows, plans, limits as data. -/
namespace EP
open PySem L2
section
variable {h : MH}
/-! ### data -/
abbrev Word := List Int
abbrev Row := List (Word × Int)
abbrev Plan := Int × List Row
abbrev Lim := Int × Row
abbrev wD (ws : Word) : Dt := .tup (ws.map .int)
abbrev eD (e : Word × Int) : Dt := .tup [wD e.1, .int e.2]
abbrev sD (s : Row) : Dt := .tup (s.map eD)
abbrev pD (p : Plan) : Dt := .tup [.int p.1, .tup (p.2.map sD)]
abbrev lD (l : Lim) : Dt := .tup [.int l.1, sD l.2]
abbrev qD (q : Int × Int) : Dt := .tup [.int q.1, .int q.2]
theorem zz : (2 : Nat) ≤ sizeLine ∧ (1 : Nat) ≤ sizeLine ∧ (0 : Nat) ≤ sizeLine ∧ (3 : Nat) ≤ sizeLine ∧ (4 : Nat) ≤ sizeLine ∧ (5 : Nat) ≤ sizeLine := by rw [sizeLine_eq]; omega
@[simp] theorem newT_le {xs : List Dt} (l : xs.length ≤ sizeLine) : newT xs h = .ok (.tup xs) h := if_pos l
@[simp] theorem newL_le {xs : List Dt} (l : xs.length ≤ sizeLine) : newL xs h = .ok (.loc h.length) (h ++ [.lst xs]) := if_pos l
@[simp] theorem newT1 {a : Dt} : newT [a] h = .ok (.tup [a]) h := newT_le (by rw [sizeLine_eq]; simp)
@[simp] theorem newT2 {a b : Dt} : newT [a, b] h = .ok (.tup [a, b]) h := newT_le (by rw [sizeLine_eq]; simp)
@[simp] theorem newT3 {a b c : Dt} : newT [a, b, c] h = .ok (.tup [a, b, c]) h := newT_le (by rw [sizeLine_eq]; simp)
@[simp] theorem newT4 {a b c d : Dt} : newT [a, b, c, d] h = .ok (.tup [a, b, c, d]) h := newT_le (by rw [sizeLine_eq]; simp)
@[simp] theorem newT5 {a b c d e : Dt} : newT [a, b, c, d, e] h = .ok (.tup [a, b, c, d, e]) h := newT_le (by rw [sizeLine_eq]; simp)
@[simp] theorem newT0 : newT [] h = .ok (.tup []) h := newT_le (by simp)
@[simp] theorem newL0 : newL [] h = .ok (.loc h.length) (h ++ [.lst []]) := newL_le (by simp)
@[simp] theorem newL1 {a : Dt} : newL [a] h = .ok (.loc h.length) (h ++ [.lst [a]]) := newL_le (by rw [sizeLine_eq]; simp)
@[simp] theorem newL2 {a b : Dt} : newL [a, b] h = .ok (.loc h.length) (h ++ [.lst [a, b]]) := newL_le (by rw [sizeLine_eq]; simp)
@[simp] theorem get0 {a : Dt} {r : List Dt} : oGet (.tup (a :: r)) (.int 0) h = .ok a h := by simp [oGet, atI, ixN]
@[simp] theorem get1 {a b : Dt} {r : List Dt} : oGet (.tup (a :: b :: r)) (.int 1) h = .ok b h := by
  have : (1 : Int) < ((a :: b :: r).length : Int) := by simp only [List.length_cons]; omega
  simp only [oGet, atI, ixN, if_pos this]
  rfl
theorem get_nat {ds : List Dt} {i : Nat} {d : Dt} (e : ds[i]? = some d) : oGet (.tup ds) (.int (i : Nat)) h = .ok d h := by
  obtain ⟨hl, rfl⟩ := List.getElem?_eq_some_iff.mp e
  simp [oGet, atI, ixN, hl]
theorem get_int {ds : List Dt} {i : Int} {d : Dt} (h0 : 0 ≤ i) (e : ds[i.toNat]? = some d) : oGet (.tup ds) (.int i) h = .ok d h := by
  have := get_nat (h := h) e
  rwa [Int.toNat_of_nonneg h0] at this
theorem get_lst {n : Nat} {ds : List Dt} {i : Int} {d : Dt} (e0 : h[n]? = some (.lst ds)) (h0 : 0 ≤ i) (e : ds[i.toNat]? = some d) : oGet (.loc n) (.int i) h = .ok d h := by
  obtain ⟨hl, rfl⟩ := List.getElem?_eq_some_iff.mp e
  have h1 : i < ds.length := by omega
  simp [oGet, e0, getL, atI, ixN, h0, h1]
@[simp] theorem sRaise_s {C : Str} {n : Nat} {names : List Str} {a : SA} {G : Orc} {ρ : Env} : sRaise C n names a G ρ h = bndS ρ (a G ρ h) fun xs h1 => match G n xs h1 with
  | .ok (.tup ds) h2 => if ds.length = names.length then .ex C (names.zip ds).reverse ρ h2 else .bad
  | _ => .bad := (rfl)
@[simp] theorem isi_int_list {i : Int} : bIsi "list" [.int i] h = .ok (.bl false) h := (rfl)
@[simp] theorem isi_int_tuple {i : Int} : bIsi "tuple" [.int i] h = .ok (.bl false) h := (rfl)
@[simp] theorem isi_str_list {i : Str} : bIsi "list" [.str i] h = .ok (.bl false) h := (rfl)
@[simp] theorem isi_str_tuple {i : Str} : bIsi "tuple" [.str i] h = .ok (.bl false) h := (rfl)

theorem nowL {n : Nat} {xs : List Dt} (e : h[n]? = some (.lst xs)) : getL h n = some xs := by simp [getL, e]
end
/-! ### plans -/
def Asc (ws : Word) : Prop := ws.Pairwise (· < ·)
structure Wf (p : Plan) : Prop where
  n1 : 1 ≤ p.1
  n64 : p.1 ≤ 64
  c1 : p.2 ≠ []
  c12 : p.2.length ≤ 12
  row : ∀ r ∈ p.2, r ≠ [] ∧ r.length ≤ 64 ∧ ∀ e ∈ r, 0 ≤ e.2 ∧ e.2 < p.2.length ∧ Asc e.1 ∧ (∀ w ∈ e.1, 0 ≤ w ∧ w < p.1) ∧ e.1.length ≤ 64
def rowAt (p : Plan) (i : Int) : Row := p.2.getD i.toNat []
theorem rowAt_get {p : Plan} {i : Int} (h0 : 0 ≤ i) (h1 : i < p.2.length) : p.2[i.toNat]? = some (rowAt p i) := by
  unfold rowAt
  rw [List.getD_eq_getElem?_getD]
  have : i.toNat < p.2.length := by omega
  rw [List.getElem?_eq_getElem this]; rfl
theorem rowAt_mem {p : Plan} {i : Int} (h0 : 0 ≤ i) (h1 : i < p.2.length) : rowAt p i ∈ p.2 := List.mem_of_getElem? (rowAt_get h0 h1)
/-- where two words lead -/
def cand (p q : Plan) (x : Int × Int) : List (Int × Int) := (rowAt p x.1).flatMap fun l => (rowAt q x.2).map fun r => (l.2, r.2)
def VP (p q : Plan) (x : Int × Int) : Prop := 0 ≤ x.1 ∧ x.1 < p.2.length ∧ 0 ≤ x.2 ∧ x.2 < q.2.length
def met (p q : Plan) : List (Int × Int) := bfs (cand p q) 145 0 [(0, 0)]
theorem cand_ok {p q : Plan} (wp : Wf p) (wq : Wf q) (x : Int × Int) (v : VP p q x) : ∀ y ∈ cand p q x, VP p q y := by
  intro y hy
  obtain ⟨l, hl, hy⟩ := List.mem_flatMap.mp hy
  obtain ⟨r, hr, rfl⟩ := List.mem_map.mp hy
  have h1 := (wp.row _ (rowAt_mem v.1 v.2.1)).2.2 l hl
  have h2 := (wq.row _ (rowAt_mem v.2.2.1 v.2.2.2)).2.2 r hr
  exact ⟨h1.1, h1.2.1, h2.1, h2.2.1⟩
theorem vp_le {p q : Plan} (wp : Wf p) (wq : Wf q) (P : List (Int × Int)) (hn : P.Nodup) (hv : ∀ x ∈ P, VP p q x) : P.length ≤ 144 := pairs_le wq.c12 wp.c12 hn hv
theorem vp0 {p q : Plan} (wp : Wf p) (wq : Wf q) : VP p q (0, 0) := by
  have h1 := wp.c1
  have h2 := wq.c1
  have h1 := List.length_pos_iff.mpr h1
  have h2 := List.length_pos_iff.mpr h2
  exact ⟨by simp, by show (0 : Int) < _; omega, by simp, by show (0 : Int) < _; omega⟩
theorem met_spec {p q : Plan} (wp : Wf p) (wq : Wf q) : (met p q).Nodup ∧ (∀ x ∈ met p q, VP p q x) ∧ (∀ x ∈ met p q, ∀ y ∈ cand p q x, y ∈ met p q) ∧ [(0, 0)] <+: met p q :=
  bfs_spec (VP p q) 144 (vp_le wp wq) (cand_ok wp wq) 145 0 [(0, 0)] (by simp) (by simpa using vp0 wp wq) (by simp) (by omega) (fun j x hj => absurd hj (Nat.not_lt_zero _))
/-! ### what is made of two -/
def idx (R : List (Int × Int)) (c : Int × Int) : Int := (R.idxOf c : Nat)
def numD (R : List (Int × Int)) : List (List Key × Dt) := R.zipIdx.map fun q => ([.inl q.1.1, .inl q.1.2], .int (q.2 : Nat))
def joinW (n : Int) (a b : Word) : Word := a ++ b.map (· + n)
def sideRow (p q : Plan) (R : List (Int × Int)) (x : Int × Int) : Row := (rowAt p x.1).flatMap fun l => (rowAt q x.2).map fun r => (joinW p.1 l.1 r.1, idx R (l.2, r.2))
def sideP (p q : Plan) : Plan := (p.1 + q.1, (met p q).map (sideRow p q (met p q)))
def limP (a b : Lim) : Lim := (a.1 + b.1, a.2 ++ b.2.map fun c => (joinW a.1 [] c.1, c.2))
def wordsIn (p q : Plan) : Int := ((met p q).map fun x => ((rowAt p x.1).length : Int) * ((rowAt q x.2).length : Int)).sum
theorem num_get {R : List (Int × Int)} {c : Int × Int} (hm : c ∈ R) : getK (numD R) [Sum.inl c.1, Sum.inl c.2] = some (.int (idx R c)) := by
  unfold getK numD idx
  have key : ∀ (R : List (Int × Int)) (n : Nat), c ∈ R → (((R.zipIdx n).map fun q => (([Sum.inl q.1.1, Sum.inl q.1.2] : List Key), Dt.int (q.2 : Nat))).find? fun kv => decide (kv.1 = [Sum.inl c.1, Sum.inl c.2])).map (·.2) = some (.int ((R.idxOf c + n : Nat) : Int)) := by
    intro R
    induction R with
    | nil => intro n h; cases h
    | cons a r ih =>
      intro n h
      rw [List.zipIdx_cons, List.map_cons, List.find?_cons]
      by_cases e : a = c
      · subst e
        simp
      · have e2 : ([Sum.inl a.1, Sum.inl a.2] : List Key) ≠ [Sum.inl c.1, Sum.inl c.2] := fun z => by
          simp at z
          exact e (Prod.ext z.1 z.2)
        have hm' : c ∈ r := by
          rcases List.mem_cons.mp h with z | z
          · exact absurd z.symm e
          · exact z
        simp only [decide_eq_false e2]
        rw [ih (n + 1) hm', List.idxOf_cons]
        have e3 : (a == c) = false := by simpa using e
        rw [e3]
        simp only [cond_false]
        congr 2
        omega
  have := key R 0 hm
  simpa using this
/-! ### differences -/
def tabK (w : Word) : List (Key × Dt) := w.map fun x => (Sum.inl x, .bl true)
def less (a b : Word) : Word := a.filter fun x => !decide (x ∈ b)
def wpairs (ws : List Word) : List (Nat × Nat × Word) := ws.zipIdx.flatMap fun l => (ws.zipIdx.filter fun t => !decide (l.2 = t.2)).map fun t => (l.2, t.2, less l.1 t.1)
def ppairs (p : Plan) : List (Nat × Nat × Nat × Word) := p.2.zipIdx.flatMap fun r => (wpairs (r.1.map (·.1))).map fun t => (r.2, t.1, t.2.1, t.2.2)
abbrev tD (t : Nat × Nat × Word) : Dt := .tup [.int (t.1 : Nat), .int (t.2.1 : Nat), wD t.2.2]
abbrev t4D (t : Nat × Nat × Nat × Word) : Dt := .tup [.int (t.1 : Nat), .int (t.2.1 : Nat), .int (t.2.2.1 : Nat), wD t.2.2.2]
/-- what is asked of a plan whose differences are taken -/
structure Pw (p : Plan) : Prop where
  len : p.2.length ≤ 12
  row : ∀ r ∈ p.2, r.length ≤ 64 ∧ ∀ e ∈ r, e.1.Nodup ∧ e.1.length ≤ 200
theorem tab_any {w : Word} {x : Int} : ((tabK w).any fun kv => decide (kv.1 = Sum.inl x)) = decide (x ∈ w) := by
  unfold tabK
  rw [List.any_map, Bool.eq_iff_iff, List.any_eq_true, decide_eq_true_eq]
  constructor
  · rintro ⟨q, hq, e⟩
    simp at e
    exact e ▸ hq
  · intro hm
    exact ⟨x, hm, by simp⟩
theorem in_tab {h : MH} {ng : Bool} {w : Word} {x : Int} {n : Nat} (e : h[n]? = some (.dK (tabK w))) : oIn ng (.int x) (.loc n) h = .ok (.bl (if ng then !decide (x ∈ w) else decide (x ∈ w))) h := by
  simp only [oIn, e, toKey, tab_any]
theorem tab_make {w : Word} (hn : w.Nodup) : w.foldl (fun acc x => setK acc (Sum.inl x : Key) (.bl true)) [] = tabK w := by
  rw [foldl_setK (fun x => (Sum.inl x : Key)) (fun _ => .bl true) w [] (by
    rw [List.nodup_iff_pairwise_ne, List.pairwise_map]
    exact List.Pairwise.imp (fun ne z => ne (by simpa using z)) hn) (fun _ _ => by simp)]
  simp [tabK]
structure WfL (n : Int) (l : Lim) : Prop where
  eq : l.1 = n
  len : l.2.length ≤ 64
  row : ∀ c ∈ l.2, Asc c.1 ∧ (∀ w ∈ c.1, 0 ≤ w ∧ w < n) ∧ c.1.length ≤ 64 ∧ 0 ≤ c.2
def bookRow (p : Plan) : Row := p.2.headD []
def pairP (p q : Plan) : Plan := (p.1 + q.1, [((bookRow p).zip (bookRow q)).map fun z => (joinW p.1 z.1.1 z.2.1, 0)])
theorem met_len {p q : Plan} (wp : Wf p) (wq : Wf q) : (met p q).length ≤ 144 := vp_le wp wq _ (met_spec wp wq).1 (met_spec wp wq).2.1
end EP
end
section
set_option maxRecDepth 100000
set_option maxHeartbeats 0
namespace K77
open PySem PySem.Spec PyProof.Rows L2 EP
def top (i : Nat) : Stmt := PySem.Challenge.pw_earlypulses_k77_spelled_books.main.body.getD i (.Pass ⟨0, 0, 0, 0⟩)
def tab : Tab where
  fns := [((Str.ofString "same_parts"), 0, 1),
  ((Str.ofString "whole_within"), 12, 3),
  ((Str.ofString "less"), 13, 2),
  ((Str.ofString "moved"), 14, 2),
  ((Str.ofString "is_whole"), 15, 1),
  ((Str.ofString "is_index"), 16, 2),
  ((Str.ofString "copied"), 17, 1),
  ((Str.ofString "check_state"), 18, 2),
  ((Str.ofString "is_book"), 19, 1),
  ((Str.ofString "words_of"), 20, 2),
  ((Str.ofString "book_words"), 21, 1),
  ((Str.ofString "is_below"), 22, 2),
  ((Str.ofString "check_book"), 23, 1),
  ((Str.ofString "check_total"), 24, 1),
  ((Str.ofString "book_made"), 25, 2),
  ((Str.ofString "check_ahead"), 26, 1),
  ((Str.ofString "check_n"), 27, 1),
  ((Str.ofString "check_spellings"), 28, 2),
  ((Str.ofString "check_places"), 29, 2),
  ((Str.ofString "spelled"), 30, 3),
  ((Str.ofString "letters"), 31, 2),
  ((Str.ofString "least_between"), 32, 2),
  ((Str.ofString "even_of"), 33, 2),
  ((Str.ofString "distance"), 34, 1),
  ((Str.ofString "lanes_limit"), 35, 4),
  ((Str.ofString "check_fit"), 36, 2),
  ((Str.ofString "wire_table"), 37, 1),
  ((Str.ofString "count_in"), 38, 2),
  ((Str.ofString "clause_tables"), 39, 1),
  ((Str.ofString "first_beyond"), 40, 2),
  ((Str.ofString "word_pairs"), 41, 1),
  ((Str.ofString "plan_pairs"), 42, 1),
  ((Str.ofString "least_gap"), 43, 1),
  ((Str.ofString "first_bar"), 44, 2),
  ((Str.ofString "is_right"), 45, 2),
  ((Str.ofString "greatest_even"), 46, 1),
  ((Str.ofString "_law_mixed"), 47, 2),
  ((Str.ofString "_law_store"), 48, 1),
  ((Str.ofString "_law_take"), 49, 2),
  ((Str.ofString "_law_great"), 50, 1),
  ((Str.ofString "_law_no_number"), 51, 1),
  ((Str.ofString "_law_outside"), 52, 3),
  ((Str.ofString "_law_unlike"), 53, 3),
  ((Str.ofString "_law_power"), 54, 2),
  ((Str.ofString "_law_kind"), 55, 1),
  ((Str.ofString "_law_is_whole"), 56, 1),
  ((Str.ofString "_law_mask_word"), 57, 2),
  ((Str.ofString "_law_masks"), 58, 3),
  ((Str.ofString "_law_words"), 59, 3),
  ((Str.ofString "_law_pruned"), 60, 1),
  ((Str.ofString "_law_book"), 61, 2),
  ((Str.ofString "_law_less"), 62, 2),
  ((Str.ofString "_law_equal"), 63, 3),
  ((Str.ofString "_law_holds"), 64, 2),
  ((Str.ofString "_law_refused"), 65, 2),
  ((Str.ofString "_law_first_wrong"), 66, 2),
  ((Str.ofString "_law_least"), 67, 3),
  ((Str.ofString "_law_due"), 68, 3),
  ((Str.ofString "_law_due_lanes"), 69, 4),
  ((Str.ofString "_law_ask"), 70, 3),
  ((Str.ofString "_law_ask_lanes"), 71, 4),
  ((Str.ofString "_law_spelled"), 72, 4),
  ((Str.ofString "_law_bent_rows"), 73, 3),
  ((Str.ofString "_law_all_hold"), 74, 2),
  ((Str.ofString "_law_lanes_hold"), 75, 4),
  ((Str.ofString "_law_drawn"), 76, 1),
  ((Str.ofString "_law_right_places"), 77, 4),
  ((Str.ofString "_law_book_holds"), 78, 4),
  ((Str.ofString "law"), 79, 1)]
  nums := [((Str.ofString "MOST_WIRES"), 40),
  ((Str.ofString "MOST_SPELLINGS"), 64),
  ((Str.ofString "MOST_LENGTH"), 8),
  ((Str.ofString "MOST_AHEAD"), 60),
  ((Str.ofString "MOST_N"), 40)]
  excs := [((Str.ofString "BadSize"), 1, [(Str.ofString "size")]),
  ((Str.ofString "NoWire"), 2, [(Str.ofString "wire")]),
  ((Str.ofString "Twice"), 3, [(Str.ofString "wire")]),
  ((Str.ofString "NotBook"), 4, [(Str.ofString "states")]),
  ((Str.ofString "BadState"), 5, [(Str.ofString "value")]),
  ((Str.ofString "BadNumber"), 6, [(Str.ofString "place")]),
  ((Str.ofString "BadAhead"), 7, [(Str.ofString "value")]),
  ((Str.ofString "NoPlace"), 8, [(Str.ofString "place")]),
  ((Str.ofString "BadSpelling"), 9, [(Str.ofString "place")]),
  ((Str.ofString "BadFit"), 10, [(Str.ofString "left"), (Str.ofString "right")]),
  ((Str.ofString "TooMany"), 11, [(Str.ofString "what"), (Str.ofString "most")])]
  free := [(Str.ofString "len"),
  (Str.ofString "tuple"),
  (Str.ofString "list"),
  (Str.ofString "int"),
  (Str.ofString "abs"),
  (Str.ofString "sum"),
  (Str.ofString "min"),
  (Str.ofString "max"),
  (Str.ofString "set"),
  (Str.ofString "str"),
  (Str.ofString "range"),
  (Str.ofString "enumerate"),
  (Str.ofString "zip"),
  (Str.ofString "isinstance"),
  (Str.ofString "bool")]
  subs := [(((Str.ofString "BadSize"), (Str.ofString "NotBook")), false),
  (((Str.ofString "BadSize"), (Str.ofString "NoSpelling")), false),
  (((Str.ofString "BadSize"), (Str.ofString "TooMany")), false),
  (((Str.ofString "BadSize"), (Str.ofString "BadSpelling")), false),
  (((Str.ofString "BadSize"), (Str.ofString "BadNumber")), false),
  (((Str.ofString "BadSize"), (Str.ofString "BadSize")), true),
  (((Str.ofString "BadSize"), (Str.ofString "PulseError")), true),
  (((Str.ofString "BadState"), (Str.ofString "NotBook")), false),
  (((Str.ofString "BadState"), (Str.ofString "NoSpelling")), false),
  (((Str.ofString "BadState"), (Str.ofString "TooMany")), false),
  (((Str.ofString "BadState"), (Str.ofString "BadSpelling")), false),
  (((Str.ofString "BadState"), (Str.ofString "BadNumber")), false),
  (((Str.ofString "BadState"), (Str.ofString "BadSize")), false),
  (((Str.ofString "NotBook"), (Str.ofString "NotBook")), true),
  (((Str.ofString "NotBook"), (Str.ofString "PulseError")), true),
  (((Str.ofString "NotBook"), (Str.ofString "BadNumber")), false),
  (((Str.ofString "NoSpelling"), (Str.ofString "NotBook")), false),
  (((Str.ofString "NoSpelling"), (Str.ofString "NoSpelling")), true),
  (((Str.ofString "NoSpelling"), (Str.ofString "PulseError")), true),
  (((Str.ofString "NoSpelling"), (Str.ofString "BadSpelling")), false),
  (((Str.ofString "TooMany"), (Str.ofString "NotBook")), false),
  (((Str.ofString "TooMany"), (Str.ofString "NoSpelling")), false),
  (((Str.ofString "TooMany"), (Str.ofString "TooMany")), true),
  (((Str.ofString "TooMany"), (Str.ofString "PulseError")), true),
  (((Str.ofString "TooMany"), (Str.ofString "BadSpelling")), false),
  (((Str.ofString "NoWire"), (Str.ofString "NotBook")), false),
  (((Str.ofString "NoWire"), (Str.ofString "NoSpelling")), false),
  (((Str.ofString "NoWire"), (Str.ofString "TooMany")), false),
  (((Str.ofString "NoWire"), (Str.ofString "BadSpelling")), false),
  (((Str.ofString "NoWire"), (Str.ofString "BadNumber")), false),
  (((Str.ofString "NoWire"), (Str.ofString "BadSize")), false),
  (((Str.ofString "BadSpelling"), (Str.ofString "NotBook")), false),
  (((Str.ofString "BadSpelling"), (Str.ofString "NoSpelling")), false),
  (((Str.ofString "BadSpelling"), (Str.ofString "TooMany")), false),
  (((Str.ofString "BadSpelling"), (Str.ofString "BadSpelling")), true),
  (((Str.ofString "BadSpelling"), (Str.ofString "PulseError")), true),
  (((Str.ofString "BadSpelling"), (Str.ofString "BadNumber")), false),
  (((Str.ofString "BadNumber"), (Str.ofString "NotBook")), false),
  (((Str.ofString "BadNumber"), (Str.ofString "NoSpelling")), false),
  (((Str.ofString "BadNumber"), (Str.ofString "TooMany")), false),
  (((Str.ofString "BadNumber"), (Str.ofString "BadSpelling")), false),
  (((Str.ofString "BadNumber"), (Str.ofString "BadNumber")), true),
  (((Str.ofString "BadNumber"), (Str.ofString "PulseError")), true),
  (((Str.ofString "BadNumber"), (Str.ofString "BadSize")), false),
  (((Str.ofString "BadSize"), (Str.ofString "NoPlace")), false),
  (((Str.ofString "BadAhead"), (Str.ofString "BadSize")), false),
  (((Str.ofString "BadAhead"), (Str.ofString "NoPlace")), false),
  (((Str.ofString "BadAhead"), (Str.ofString "Twice")), false),
  (((Str.ofString "BadAhead"), (Str.ofString "BadAhead")), true),
  (((Str.ofString "BadAhead"), (Str.ofString "PulseError")), true),
  (((Str.ofString "NoPlace"), (Str.ofString "BadSize")), false),
  (((Str.ofString "NoPlace"), (Str.ofString "NoPlace")), true),
  (((Str.ofString "NoPlace"), (Str.ofString "PulseError")), true),
  (((Str.ofString "NoPlace"), (Str.ofString "Twice")), false),
  (((Str.ofString "Twice"), (Str.ofString "BadSize")), false),
  (((Str.ofString "Twice"), (Str.ofString "NoPlace")), false),
  (((Str.ofString "Twice"), (Str.ofString "Twice")), true),
  (((Str.ofString "Twice"), (Str.ofString "PulseError")), true),
  (((Str.ofString "Twice"), (Str.ofString "BadAhead")), false)]
  flds := [((Str.ofString "BadSize"), [(Str.ofString "size")]),
  ((Str.ofString "BadState"), [(Str.ofString "value")]),
  ((Str.ofString "NotBook"), [(Str.ofString "states")]),
  ((Str.ofString "BadAhead"), [(Str.ofString "value")]),
  ((Str.ofString "TooMany"), [(Str.ofString "what"), (Str.ofString "most")]),
  ((Str.ofString "BadFit"), [(Str.ofString "left"), (Str.ofString "right")]),
  ((Str.ofString "NoWire"), [(Str.ofString "wire")]),
  ((Str.ofString "BadSpelling"), [(Str.ofString "place")]),
  ((Str.ofString "NoPlace"), [(Str.ofString "place")]),
  ((Str.ofString "Twice"), [(Str.ofString "wire")]),
  ((Str.ofString "BadNumber"), [(Str.ofString "place")])]
  kits := [(Str.ofString "BadSize"),
  (Str.ofString "BadState"),
  (Str.ofString "NotBook"),
  (Str.ofString "NoSpelling"),
  (Str.ofString "TooMany"),
  (Str.ofString "NoWire"),
  (Str.ofString "BadSpelling"),
  (Str.ofString "BadNumber"),
  (Str.ofString "BadAhead"),
  (Str.ofString "NoPlace"),
  (Str.ofString "Twice")]
  exc0 := [(Str.ofString "NoSpelling")]
abbrev i_same_parts : Nat := 0
abbrev i_BadSize : Nat := 1
abbrev i_NoWire : Nat := 2
abbrev i_Twice : Nat := 3
abbrev i_NotBook : Nat := 4
abbrev i_BadState : Nat := 5
abbrev i_BadNumber : Nat := 6
abbrev i_BadAhead : Nat := 7
abbrev i_NoPlace : Nat := 8
abbrev i_BadSpelling : Nat := 9
abbrev i_BadFit : Nat := 10
abbrev i_TooMany : Nat := 11
abbrev i_whole_within : Nat := 12
abbrev i_less : Nat := 13
abbrev i_moved : Nat := 14
abbrev i_is_whole : Nat := 15
abbrev i_is_index : Nat := 16
abbrev i_copied : Nat := 17
abbrev i_check_state : Nat := 18
abbrev i_is_book : Nat := 19
abbrev i_words_of : Nat := 20
abbrev i_book_words : Nat := 21
abbrev i_is_below : Nat := 22
abbrev i_check_book : Nat := 23
abbrev i_check_total : Nat := 24
abbrev i_book_made : Nat := 25
abbrev i_check_ahead : Nat := 26
abbrev i_check_n : Nat := 27
abbrev i_check_spellings : Nat := 28
abbrev i_check_places : Nat := 29
abbrev i_spelled : Nat := 30
abbrev i_letters : Nat := 31
abbrev i_least_between : Nat := 32
abbrev i_even_of : Nat := 33
abbrev i_distance : Nat := 34
abbrev i_lanes_limit : Nat := 35
abbrev i_check_fit : Nat := 36
abbrev i_wire_table : Nat := 37
abbrev i_count_in : Nat := 38
abbrev i_clause_tables : Nat := 39
abbrev i_first_beyond : Nat := 40
abbrev i_word_pairs : Nat := 41
abbrev i_plan_pairs : Nat := 42
abbrev i_least_gap : Nat := 43
abbrev i_first_bar : Nat := 44
abbrev i_is_right : Nat := 45
abbrev i_greatest_even : Nat := 46
abbrev i_law_mixed : Nat := 47
abbrev i_law_store : Nat := 48
abbrev i_law_take : Nat := 49
abbrev i_law_great : Nat := 50
abbrev i_law_no_number : Nat := 51
abbrev i_law_outside : Nat := 52
abbrev i_law_unlike : Nat := 53
abbrev i_law_power : Nat := 54
abbrev i_law_kind : Nat := 55
abbrev i_law_is_whole : Nat := 56
abbrev i_law_mask_word : Nat := 57
abbrev i_law_masks : Nat := 58
abbrev i_law_words : Nat := 59
abbrev i_law_pruned : Nat := 60
abbrev i_law_book : Nat := 61
abbrev i_law_less : Nat := 62
abbrev i_law_equal : Nat := 63
abbrev i_law_holds : Nat := 64
abbrev i_law_refused : Nat := 65
abbrev i_law_first_wrong : Nat := 66
abbrev i_law_least : Nat := 67
abbrev i_law_due : Nat := 68
abbrev i_law_due_lanes : Nat := 69
abbrev i_law_ask : Nat := 70
abbrev i_law_ask_lanes : Nat := 71
abbrev i_law_spelled : Nat := 72
abbrev i_law_bent_rows : Nat := 73
abbrev i_law_all_hold : Nat := 74
abbrev i_law_lanes_hold : Nat := 75
abbrev i_law_drawn : Nat := 76
abbrev i_law_right_places : Nat := 77
abbrev i_law_book_holds : Nat := 78
abbrev i_law : Nat := 79
/-- same_parts(value); 0=value 1=part -/
def m_same_parts : SS := (sSeq (sIf (tVal (eBf (bIsi "list") (aCons (eVar 0) aNil))) (sRet (eLc (iSeq (eVar 0)) (.nm 1) tYes (eCall i_same_parts (aCons (eVar 1) aNil)) [1])) sSkip)
  (sSeq (sIf (tVal (eBf (bIsi "tuple") (aCons (eVar 0) aNil))) (sRet (eBf bTuple (aCons (eLc (iSeq (eVar 0)) (.nm 1) tYes (eCall i_same_parts (aCons (eVar 1) aNil)) [1]) aNil))) sSkip)
  (sRet (eVar 0))))
abbrev D_same_parts : MDef := ⟨1, 2, m_same_parts⟩
abbrev D_BadSize : MDef := ⟨1, 1, sInit 0⟩
abbrev D_NoWire : MDef := ⟨1, 1, sInit 0⟩
abbrev D_Twice : MDef := ⟨1, 1, sInit 0⟩
abbrev D_NotBook : MDef := ⟨1, 1, sInit 0⟩
abbrev D_BadState : MDef := ⟨1, 1, sInit 0⟩
abbrev D_BadNumber : MDef := ⟨1, 1, sInit 0⟩
abbrev D_BadAhead : MDef := ⟨1, 1, sInit 0⟩
abbrev D_NoPlace : MDef := ⟨1, 1, sInit 0⟩
abbrev D_BadSpelling : MDef := ⟨1, 1, sInit 0⟩
abbrev D_BadFit : MDef := ⟨2, 2, sInit 0⟩
abbrev D_TooMany : MDef := ⟨2, 2, sInit 0⟩
/-- whole_within(value, least, most); 0=value 1=least 2=most -/
def m_whole_within : SS := (sSeq (sIf (tOr (tVal (eBf (bIsi "bool") (aCons (eVar 0) aNil))) (tNot (tVal (eBf (bIsi "int") (aCons (eVar 0) aNil))))) (sRet (eC (.bl false))) sSkip)
  (sRet (eChain oLe oLe (eVar 1) (eVar 0) (eVar 2))))
abbrev D_whole_within : MDef := ⟨3, 3, m_whole_within⟩
/-- less(left, right); 0=left 1=right 2=gone 3=wire -/
def m_less : SS := (sSeq (sSet (.nm 2) (eBf bSet (aCons (eVar 1) aNil)))
  (sRet (eBf bTuple (aCons (eLc (iSeq (eVar 0)) (.nm 3) (tBl (eOp (oIn true) (eVar 3) (eVar 2))) (eVar 3) [3]) aNil))))
abbrev D_less : MDef := ⟨2, 4, m_less⟩
/-- moved(wires, by); 0=wires 1=by 2=wire -/
def m_moved : SS := (sSeq (sIf (tNot (tVal (eCall i_whole_within (aCons (eVar 1) (aCons (eC (.int 0)) (aCons (eC (.int 39)) aNil)))))) (sRaise "BadSize" i_BadSize ["size"] (aCons (eVar 1) aNil)) sSkip)
  (sSeq (sFor (iSeq (eVar 0)) (.nm 2) (sIf (tBl (eOp oGt (eOp oAdd (eVar 2) (eVar 1)) (eC (.int 39)))) (sRaise "NoWire" i_NoWire ["wire"] (aCons (eOp oAdd (eVar 2) (eVar 1)) aNil)) sSkip))
  (sRet (eBf bTuple (aCons (eLc (iSeq (eVar 0)) (.nm 2) tYes (eOp oAdd (eVar 2) (eVar 1)) [2]) aNil)))))
abbrev D_moved : MDef := ⟨2, 3, m_moved⟩
/-- is_whole(value); 0=value -/
def m_is_whole : SS := (sRet (eAnd (eBf (bIsi "int") (aCons (eVar 0) aNil)) (eNot (eBf (bIsi "bool") (aCons (eVar 0) aNil)))))
abbrev D_is_whole : MDef := ⟨1, 1, m_is_whole⟩
/-- is_index(value, many); 0=value 1=many -/
def m_is_index : SS := (sRet (eAnd (eCall i_is_whole (aCons (eVar 0) aNil)) (eChain oLe oLt (eC (.int 0)) (eVar 0) (eVar 1))))
abbrev D_is_index : MDef := ⟨2, 2, m_is_index⟩
/-- copied(value); 0=value 1=part -/
def m_copied : SS := (sSeq (sIf (tVal (eBf (bIsi "list") (aCons (eVar 0) aNil))) (sRet (eLc (iSeq (eVar 0)) (.nm 1) tYes (eCall i_copied (aCons (eVar 1) aNil)) [1])) sSkip)
  (sSeq (sIf (tVal (eBf (bIsi "tuple") (aCons (eVar 0) aNil))) (sRet (eBf bTuple (aCons (eLc (iSeq (eVar 0)) (.nm 1) tYes (eCall i_copied (aCons (eVar 1) aNil)) [1]) aNil))) sSkip)
  (sRet (eVar 0))))
abbrev D_copied : MDef := ⟨1, 2, m_copied⟩
/-- check_state(plan, state); 0=plan 1=state -/
def m_check_state : SS := (sIf (tNot (tVal (eCall i_is_index (aCons (eVar 1) (aCons (eBf bLen (aCons (eOp oGet (eVar 0) (eC (.int 1))) aNil)) aNil))))) (sRaise "BadState" i_BadState ["value"] (aCons (eCall i_copied (aCons (eVar 1) aNil)) aNil)) sSkip)
abbrev D_check_state : MDef := ⟨2, 2, m_check_state⟩
/-- is_book(plan); 0=plan -/
def m_is_book : SS := (sRet (eOp (oEq false) (eBf bLen (aCons (eOp oGet (eVar 0) (eC (.int 1))) aNil)) (eC (.int 1))))
abbrev D_is_book : MDef := ⟨1, 1, m_is_book⟩
/-- words_of(plan, state); 0=plan 1=state 2=word 3=spare -/
def m_words_of : SS := (sSeq (sExpr (eCall i_check_state (aCons (eVar 0) (aCons (eVar 1) aNil))))
  (sRet (eBf bTuple (aCons (eLc (iSeq (eOp oGet (eOp oGet (eVar 0) (eC (.int 1))) (eVar 1))) (.tp [(.nm 2), (.nm 3)]) tYes (eVar 2) [2, 3]) aNil))))
abbrev D_words_of : MDef := ⟨2, 4, m_words_of⟩
/-- book_words(book); 0=book -/
def m_book_words : SS := (sSeq (sIf (tBl (eOp (oEq true) (eBf bLen (aCons (eOp oGet (eVar 0) (eC (.int 1))) aNil)) (eC (.int 1)))) (sRaise "NotBook" i_NotBook ["states"] (aCons (eBf bLen (aCons (eOp oGet (eVar 0) (eC (.int 1))) aNil)) aNil)) sSkip)
  (sRet (eCall i_words_of (aCons (eVar 0) (aCons (eC (.int 0)) aNil)))))
abbrev D_book_words : MDef := ⟨1, 1, m_book_words⟩
/-- is_below(value, end); 0=value 1=end -/
def m_is_below : SS := (sRet (eAnd (eBf (bIsi "int") (aCons (eVar 0) aNil)) (eAnd (eNot (eBf (bIsi "bool") (aCons (eVar 0) aNil))) (eChain oLe oLt (eC (.int 0)) (eVar 0) (eVar 1)))))
abbrev D_is_below : MDef := ⟨2, 2, m_is_below⟩
/-- check_book(book); 0=book -/
def m_check_book : SS := (sIf (tNot (tVal (eCall i_is_book (aCons (eVar 0) aNil)))) (sRaise "NotBook" i_NotBook ["states"] (aCons (eBf bLen (aCons (eOp oGet (eVar 0) (eC (.int 1))) aNil)) aNil)) sSkip)
abbrev D_check_book : MDef := ⟨1, 1, m_check_book⟩
/-- check_total(many); 0=many -/
def m_check_total : SS := (sIf (tBl (eOp oGt (eVar 0) (eC (.int 40)))) (sRaise "BadSize" i_BadSize ["size"] (aCons (eVar 0) aNil)) sSkip)
abbrev D_check_total : MDef := ⟨1, 1, m_check_total⟩
/-- book_made(n, words); 0=n 1=words 2=word -/
def m_book_made : SS := (sRet (eTup (aCons (eVar 0) (aCons (eTup (aCons (eBf bTuple (aCons (eLc (iSeq (eVar 1)) (.nm 2) tYes (eTup (aCons (eVar 2) (aCons (eC (.int 0)) aNil))) [2]) aNil)) aNil)) aNil))))
abbrev D_book_made : MDef := ⟨2, 3, m_book_made⟩
/-- check_ahead(ahead); 0=ahead -/
def m_check_ahead : SS := (sIf (tNot (tVal (eCall i_is_below (aCons (eVar 0) (aCons (eOp oAdd (eC (.int 60)) (eC (.int 1))) aNil))))) (sRaise "BadAhead" i_BadAhead ["value"] (aCons (eVar 0) aNil)) sSkip)
abbrev D_check_ahead : MDef := ⟨1, 1, m_check_ahead⟩
/-- check_n(n); 0=n -/
def m_check_n : SS := (sIf (tOr (tNot (tVal (eCall i_is_below (aCons (eVar 0) (aCons (eOp oAdd (eC (.int 40)) (eC (.int 1))) aNil))))) (tBl (eOp (oEq false) (eVar 0) (eC (.int 0))))) (sRaise "BadSize" i_BadSize ["size"] (aCons (eVar 0) aNil)) sSkip)
abbrev D_check_n : MDef := ⟨1, 1, m_check_n⟩
/-- check_spellings(many, spellings); 0=many 1=spellings 2=seen 3=place 4=spelling 5=at 6=number -/
def m_check_spellings : SS := (sSeq (sIf (tBl (eOp (oEq false) (eBf bLen (aCons (eVar 1) aNil)) (eC (.int 0)))) (sRaise0 "NoSpelling") sSkip)
  (sSeq (sIf (tBl (eOp oGt (eBf bLen (aCons (eVar 1) aNil)) (eC (.int 64)))) (sRaise "TooMany" i_TooMany ["what", "most"] (aCons (eC (.str "spellings")) (aCons (eC (.int 64)) aNil))) sSkip)
  (sSeq (sSet (.nm 2) (eDict0 true))
  (sFor (iEnum (eVar 1)) (.tp [(.nm 3), (.nm 4)]) (sSeq (sIf (tOr (tNot (tBl (eChain oLe oLe (eC (.int 1)) (eBf bLen (aCons (eVar 4) aNil)) (eC (.int 8))))) (tBl (eOp (oEq true) (eBf bLen (aCons (eVar 4) aNil)) (eBf bLen (aCons (eOp oGet (eVar 1) (eC (.int 0))) aNil))))) (sRaise "BadSpelling" i_BadSpelling ["place"] (aCons (eVar 3) aNil)) sSkip)
  (sSeq (sFor (iEnum (eVar 4)) (.tp [(.nm 5), (.nm 6)]) (sIf (tNot (tVal (eCall i_is_below (aCons (eVar 6) (aCons (eVar 0) aNil))))) (sRaise "BadNumber" i_BadNumber ["place"] (aCons (eVar 5) aNil)) sSkip))
  (sSeq (sIf (tBl (eOp (oIn false) (eBf bTuple (aCons (eVar 4) aNil)) (eVar 2))) (sRaise "BadSpelling" i_BadSpelling ["place"] (aCons (eVar 3) aNil)) sSkip)
  (sSetI (eVar 2) (eBf bTuple (aCons (eVar 4) aNil)) (eC (.bl true))))))))))
abbrev D_check_spellings : MDef := ⟨2, 7, m_check_spellings⟩
/-- check_places(lanes, places); 0=lanes 1=places 2=seen 3=value -/
def m_check_places : SS := (sSeq (sSet (.nm 2) (eDict0 false))
  (sFor (iSeq (eVar 1)) (.nm 3) (sSeq (sIf (tNot (tVal (eCall i_is_below (aCons (eVar 3) (aCons (eVar 0) aNil))))) (sRaise "NoPlace" i_NoPlace ["place"] (aCons (eVar 3) aNil)) sSkip)
  (sSeq (sIf (tBl (eOp (oIn false) (eVar 3) (eVar 2))) (sRaise "Twice" i_Twice ["wire"] (aCons (eVar 3) aNil)) sSkip)
  (sSetI (eVar 2) (eVar 3) (eC (.bl true)))))))
abbrev D_check_places : MDef := ⟨2, 4, m_check_places⟩
/-- spelled(n, words, spelling); 0=n 1=words 2=spelling 3=wires 4=at 5=number -/
def m_spelled : SS := (sSeq (sSet (.nm 3) (eLst aNil))
  (sSeq (sFor (iEnum (eVar 2)) (.tp [(.nm 4), (.nm 5)]) (sExpr (eMf mExtend (eVar 3) (aCons (eCall i_moved (aCons (eOp oGet (eVar 1) (eVar 5)) (aCons (eOp oMul (eVar 0) (eVar 4)) aNil))) aNil))))
  (sRet (eBf bTuple (aCons (eVar 3) aNil)))))
abbrev D_spelled : MDef := ⟨3, 6, m_spelled⟩
/-- letters(book, spellings); 0=book 1=spellings 2=words 3=many 4=spelling -/
def m_letters : SS := (sSeq (sExpr (eCall i_check_book (aCons (eVar 0) aNil)))
  (sSeq (sSet (.nm 2) (eCall i_book_words (aCons (eVar 0) aNil)))
  (sSeq (sExpr (eCall i_check_spellings (aCons (eBf bLen (aCons (eVar 2) aNil)) (aCons (eVar 1) aNil))))
  (sSeq (sSet (.nm 3) (eOp oMul (eOp oGet (eVar 0) (eC (.int 0))) (eBf bLen (aCons (eOp oGet (eVar 1) (eC (.int 0))) aNil))))
  (sSeq (sExpr (eCall i_check_total (aCons (eVar 3) aNil)))
  (sRet (eCall i_book_made (aCons (eVar 3) (aCons (eLc (iSeq (eVar 1)) (.nm 4) tYes (eCall i_spelled (aCons (eOp oGet (eVar 0) (eC (.int 0))) (aCons (eVar 2) (aCons (eVar 4) aNil)))) [4]) aNil)))))))))
abbrev D_letters : MDef := ⟨2, 5, m_letters⟩
/-- least_between(spellings, sizes); 0=spellings 1=sizes 2=least 3=place 4=left 5=other 6=right 7=found 8=one 9=two -/
def m_least_between : SS := (sSeq (sSet (.nm 2) (eC .non))
  (sSeq (sFor (iEnum (eVar 0)) (.tp [(.nm 3), (.nm 4)]) (sFor (iEnum (eVar 0)) (.tp [(.nm 5), (.nm 6)]) (sSeq (sIf (tBl (eOp (oEq false) (eVar 3) (eVar 5))) sCont sSkip)
  (sSeq (sSet (.nm 7) (eBf bSum (aCons (eLc (iZip (eVar 4) (eVar 6)) (.tp [(.nm 8), (.nm 9)]) tYes (eOp oGet (eOp oGet (eVar 1) (eVar 8)) (eVar 9)) [8, 9]) aNil)))
  (sIf (tOr (tBl (eOp (oIs false) (eVar 2) (eC .non))) (tBl (eOp oLt (eVar 7) (eVar 2)))) (sSet (.nm 2) (eVar 7)) sSkip)))))
  (sRet (eVar 2))))
abbrev D_least_between : MDef := ⟨2, 10, m_least_between⟩
/-- even_of(book, spellings); 0=book 1=spellings 2=words 3=sizes 4=right 5=left 6=least -/
def m_even_of : SS := (sSeq (sExpr (eCall i_check_book (aCons (eVar 0) aNil)))
  (sSeq (sSet (.nm 2) (eCall i_book_words (aCons (eVar 0) aNil)))
  (sSeq (sExpr (eCall i_check_spellings (aCons (eBf bLen (aCons (eVar 2) aNil)) (aCons (eVar 1) aNil))))
  (sSeq (sSet (.nm 3) (eLc (iSeq (eVar 2)) (.nm 5) tYes (eLc (iSeq (eVar 2)) (.nm 4) tYes (eBf bLen (aCons (eCall i_less (aCons (eVar 5) (aCons (eVar 4) aNil))) aNil)) [4]) [5]))
  (sSeq (sSet (.nm 6) (eCall i_least_between (aCons (eVar 1) (aCons (eVar 3) aNil))))
  (sSeq (sIf (tBl (eOp (oIs false) (eVar 6) (eC .non))) (sRet (eC .non)) sSkip)
  (sRet (eOp oSub (eVar 6) (eC (.int 1))))))))))
abbrev D_even_of : MDef := ⟨2, 7, m_even_of⟩
/-- distance(spellings); 0=spellings 1=sizes 2=two 3=one -/
def m_distance : SS := (sSeq (sExpr (eCall i_check_spellings (aCons (eC (.int 64)) (aCons (eVar 0) aNil))))
  (sSeq (sSet (.nm 1) (eLc (iRg (rg1 (eC (.int 64)))) (.nm 3) tYes (eLc (iRg (rg1 (eC (.int 64)))) (.nm 2) tYes (eIf (tBl (eOp (oEq false) (eVar 3) (eVar 2))) (eC (.int 0)) (eC (.int 1))) [2]) [3]))
  (sRet (eCall i_least_between (aCons (eVar 0) (aCons (eVar 1) aNil))))))
abbrev D_distance : MDef := ⟨1, 4, m_distance⟩
/-- lanes_limit(n, lanes, places, ahead); 0=n 1=lanes 2=places 3=ahead 4=clauses 5=place -/
def m_lanes_limit : SS := (sSeq (sExpr (eCall i_check_n (aCons (eVar 0) aNil)))
  (sSeq (sIf (tOr (tNot (tVal (eCall i_is_below (aCons (eVar 1) (aCons (eOp oAdd (eC (.int 8)) (eC (.int 1))) aNil))))) (tBl (eOp (oEq false) (eVar 1) (eC (.int 0))))) (sRaise "BadSize" i_BadSize ["size"] (aCons (eVar 1) aNil)) sSkip)
  (sSeq (sExpr (eCall i_check_places (aCons (eVar 1) (aCons (eVar 2) aNil))))
  (sSeq (sExpr (eCall i_check_ahead (aCons (eVar 3) aNil)))
  (sSeq (sExpr (eCall i_check_total (aCons (eOp oMul (eVar 0) (eVar 1)) aNil)))
  (sSeq (sSet (.nm 4) (eLc (iSeq (eVar 2)) (.nm 5) tYes (eTup (aCons (eTRg (rg2 (eOp oMul (eVar 0) (eVar 5)) (eOp oAdd (eOp oMul (eVar 0) (eVar 5)) (eVar 0)))) (aCons (eVar 3) aNil))) [5]))
  (sRet (eTup (aCons (eOp oMul (eVar 0) (eVar 1)) (aCons (eBf bTuple (aCons (eVar 4) aNil)) aNil))))))))))
abbrev D_lanes_limit : MDef := ⟨4, 6, m_lanes_limit⟩
/-- check_fit(left, right); 0=left 1=right -/
def m_check_fit : SS := (sIf (tBl (eOp (oEq true) (eVar 0) (eVar 1))) (sRaise "BadFit" i_BadFit ["left", "right"] (aCons (eVar 0) (aCons (eVar 1) aNil))) sSkip)
abbrev D_check_fit : MDef := ⟨2, 2, m_check_fit⟩
/-- wire_table(wires); 0=wires 1=wire -/
def m_wire_table : SS := (sRet (eDc false (iSeq (eVar 0)) (.nm 1) tYes (eVar 1) (eC (.bl true)) [1]))
abbrev D_wire_table : MDef := ⟨1, 2, m_wire_table⟩
/-- count_in(table, wires); 0=table 1=wires 2=wire -/
def m_count_in : SS := (sRet (eBf bLen (aCons (eLc (iSeq (eVar 1)) (.nm 2) (tBl (eOp (oIn false) (eVar 2) (eVar 0))) (eVar 2) [2]) aNil)))
abbrev D_count_in : MDef := ⟨2, 3, m_count_in⟩
/-- clause_tables(limit); 0=limit 1=wires 2=bound -/
def m_clause_tables : SS := (sRet (eLc (iSeq (eOp oGet (eVar 0) (eC (.int 1)))) (.tp [(.nm 1), (.nm 2)]) tYes (eTup (aCons (eCall i_wire_table (aCons (eVar 1) aNil)) (aCons (eVar 2) aNil))) [1, 2]))
abbrev D_clause_tables : MDef := ⟨1, 3, m_clause_tables⟩
/-- first_beyond(tables, wires); 0=tables 1=wires 2=place 3=table 4=bound -/
def m_first_beyond : SS := (sSeq (sFor (iEnum (eVar 0)) (.tp [(.nm 2), (.tp [(.nm 3), (.nm 4)])]) (sIf (tBl (eOp oGt (eCall i_count_in (aCons (eVar 3) (aCons (eVar 1) aNil))) (eVar 4))) (sRet (eVar 2)) sSkip))
  (sRet (eC .non)))
abbrev D_first_beyond : MDef := ⟨2, 5, m_first_beyond⟩
/-- word_pairs(words); 0=words 1=tables 2=word 3=found 4=i 5=left 6=j 7=table 8=wire -/
def m_word_pairs : SS := (sSeq (sSet (.nm 1) (eLc (iSeq (eVar 0)) (.nm 2) tYes (eCall i_wire_table (aCons (eVar 2) aNil)) [2]))
  (sSeq (sSet (.nm 3) (eLst aNil))
  (sSeq (sFor (iEnum (eVar 0)) (.tp [(.nm 4), (.nm 5)]) (sFor (iEnum (eVar 1)) (.tp [(.nm 6), (.nm 7)]) (sIf (tBl (eOp (oEq true) (eVar 4) (eVar 6))) (sExpr (eMf mAppend (eVar 3) (aCons (eTup (aCons (eVar 4) (aCons (eVar 6) (aCons (eBf bTuple (aCons (eLc (iSeq (eVar 5)) (.nm 8) (tBl (eOp (oIn true) (eVar 8) (eVar 7))) (eVar 8) [8]) aNil)) aNil)))) aNil))) sSkip)))
  (sRet (eVar 3)))))
abbrev D_word_pairs : MDef := ⟨1, 9, m_word_pairs⟩
/-- plan_pairs(plan); 0=plan 1=found 2=state 3=entries 4=i 5=j 6=wires 7=entry -/
def m_plan_pairs : SS := (sSeq (sSet (.nm 1) (eLst aNil))
  (sSeq (sFor (iEnum (eOp oGet (eVar 0) (eC (.int 1)))) (.tp [(.nm 2), (.nm 3)]) (sFor (iSeq (eCall i_word_pairs (aCons (eLc (iSeq (eVar 3)) (.nm 7) tYes (eOp oGet (eVar 7) (eC (.int 0))) [7]) aNil))) (.tp [(.nm 4), (.nm 5), (.nm 6)]) (sExpr (eMf mAppend (eVar 1) (aCons (eTup (aCons (eVar 2) (aCons (eVar 4) (aCons (eVar 5) (aCons (eVar 6) aNil))))) aNil)))))
  (sRet (eVar 1))))
abbrev D_plan_pairs : MDef := ⟨1, 8, m_plan_pairs⟩
/-- least_gap(pairs); 0=pairs 1=sizes 2=pair -/
def m_least_gap : SS := (sSeq (sSet (.nm 1) (eLc (iSeq (eVar 0)) (.nm 2) tYes (eBf bLen (aCons (eOp oGet (eVar 2) (eNeg (eC (.int 1)))) aNil)) [2]))
  (sSeq (sIf (tNot (tVal (eVar 1))) (sRet (eC .non)) sSkip)
  (sRet (eOp oSub (eBf bMin (aCons (eVar 1) aNil)) (eC (.int 1))))))
abbrev D_least_gap : MDef := ⟨1, 3, m_least_gap⟩
/-- first_bar(plan, limit); 0=plan 1=limit 2=tables 3=pair -/
def m_first_bar : SS := (sSeq (sExpr (eCall i_check_fit (aCons (eOp oGet (eVar 0) (eC (.int 0))) (aCons (eOp oGet (eVar 1) (eC (.int 0))) aNil))))
  (sSeq (sSet (.nm 2) (eCall i_clause_tables (aCons (eVar 1) aNil)))
  (sSeq (sFor (iSeq (eCall i_plan_pairs (aCons (eVar 0) aNil))) (.nm 3) (sIf (tBl (eOp (oIs false) (eCall i_first_beyond (aCons (eVar 2) (aCons (eOp oGet (eVar 3) (eC (.int 3))) aNil))) (eC .non))) (sRet (eCut (eVar 3) oNo (oSome (eC (.int 3))))) sSkip))
  (sRet (eC .non)))))
abbrev D_first_bar : MDef := ⟨2, 4, m_first_bar⟩
/-- is_right(plan, limit); 0=plan 1=limit -/
def m_is_right : SS := (sRet (eOp (oIs false) (eCall i_first_bar (aCons (eVar 0) (aCons (eVar 1) aNil))) (eC .non)))
abbrev D_is_right : MDef := ⟨2, 2, m_is_right⟩
/-- greatest_even(plan); 0=plan -/
def m_greatest_even : SS := (sRet (eCall i_least_gap (aCons (eCall i_plan_pairs (aCons (eVar 0) aNil)) aNil)))
abbrev D_greatest_even : MDef := ⟨1, 1, m_greatest_even⟩
/-- _law_mixed(number, step); 0=number 1=step 2=one 3=two 4=three -/
def m_law_mixed : SS := (sSeq (sSet (.nm 2) (eOp oMod (eBf bInt (aCons (eOp oAdd (eOp oAdd (eOp oMul (eVar 0) (eC (.int 48271))) (eOp oMul (eVar 1) (eC (.int 69621)))) (eC (.int 12345))) aNil)) (eC (.int 2147483647))))
  (sSeq (sSet (.nm 3) (eOp oMod (eBf bInt (aCons (eOp oAdd (eOp oAdd (eOp oAdd (eOp oMul (eVar 2) (eVar 2)) (eOp oMul (eVar 1) (eC (.int 16807)))) (eOp oFdiv (eVar 2) (eC (.int 65536)))) (eC (.int 7))) aNil)) (eC (.int 2147483629))))
  (sSeq (sSet (.nm 4) (eOp oMod (eBf bInt (aCons (eOp oAdd (eOp oAdd (eOp oAdd (eOp oMul (eVar 3) (eVar 3)) (eOp oFdiv (eVar 3) (eC (.int 8192)))) (eVar 2)) (eVar 1)) aNil)) (eC (.int 2147483399))))
  (sRet (eOp oAdd (eOp oMul (eVar 4) (eC (.int 2147483629))) (eVar 3))))))
abbrev D_law_mixed : MDef := ⟨2, 5, m_law_mixed⟩
/-- _law_store(script); 0=script 1=cells 2=seed 3=cell -/
def m_law_store : SS := (sSeq (sSet (.nm 1) (eLst aNil))
  (sSeq (sSet (.nm 2) (eC (.int 77)))
  (sSeq (sFor (iSeq (eCut (eVar 0) oNo (oSome (eC (.int 63))))) (.nm 3) (sSeq (sIf (tBl (eChain oLt oLt (eNeg (eOp oPow (eC (.int 10)) (eC (.int 18)))) (eVar 3) (eOp oPow (eC (.int 10)) (eC (.int 18))))) (sExpr (eMf mAppend (eVar 1) (aCons (eLst (aCons (eC (.int 0)) (aCons (eOp oMod (eBf bInt (aCons (eVar 3) aNil)) (eC (.int 2147483647))) aNil))) aNil))) (sExpr (eMf mAppend (eVar 1) (aCons (eLst (aCons (eC (.int 1)) (aCons (eOp oMod (eBf bInt (aCons (eBf bAbs (aCons (eVar 3) aNil)) aNil)) (eOp oPow (eC (.int 10)) (eC (.int 60)))) aNil))) aNil))))
  (sSet (.nm 2) (eOp oMod (eBf bInt (aCons (eOp oAdd (eOp oAdd (eOp oMul (eVar 2) (eC (.int 48271))) (eOp oGet (eOp oGet (eVar 1) (eNeg (eC (.int 1)))) (eC (.int 1)))) (eC (.int 13))) aNil)) (eC (.int 2147483647))))))
  (sRet (eLst (aCons (eVar 1) (aCons (eC (.int 0)) (aCons (eC (.int 0)) (aCons (eVar 2) (aCons (eC (.int 0)) aNil))))))))))
abbrev D_law_store : MDef := ⟨1, 4, m_law_store⟩
/-- _law_take(store, count); 0=store 1=count 2=cells 3=at 4=cell 5=found -/
def m_law_take : SS := (sSeq (sSet (.nm 2) (eOp oGet (eVar 0) (eC (.int 0))))
  (sSeq (sSetI (eVar 0) (eC (.int 4)) (eOp oAdd (eOp oGet (eVar 0) (eC (.int 4))) (eC (.int 1))))
  (sSeq (sIf (tBl (eOp oLt (eVar 1) (eC (.int 2)))) (sRet (eC (.int 0))) sSkip)
  (sSeq (sFor (iRg (rg2 (eOp oGet (eVar 0) (eC (.int 1))) (eBf bLen (aCons (eVar 2) aNil)))) (.nm 3) (sSeq (sSet (.nm 4) (eOp oGet (eVar 2) (eVar 3)))
  (sSeq (sSetI (eVar 0) (eC (.int 1)) (eVar 3))
  (sSeq (sIf (tAnd (tBl (eOp (oEq false) (eOp oGet (eVar 4) (eC (.int 0))) (eC (.int 1)))) (tBl (eOp oGt (eOp oGet (eVar 4) (eC (.int 1))) (eC (.int 0))))) (sSeq (sSet (.nm 5) (eOp oMod (eBf bInt (aCons (eOp oGet (eVar 4) (eC (.int 1))) aNil)) (eVar 1)))
  (sSeq (sSetI (eVar 4) (eC (.int 1)) (eOp oFdiv (eOp oGet (eVar 4) (eC (.int 1))) (eVar 1)))
  (sRet (eVar 5)))) sSkip)
  (sSeq (sIf (tAnd (tBl (eOp (oEq false) (eOp oGet (eVar 4) (eC (.int 0))) (eC (.int 0)))) (tBl (eOp oLt (eOp oGet (eVar 0) (eC (.int 2))) (eC (.int 4))))) (sSeq (sSetI (eVar 0) (eC (.int 2)) (eOp oAdd (eOp oGet (eVar 0) (eC (.int 2))) (eC (.int 1))))
  (sRet (eOp oMod (eBf bInt (aCons (eCall i_law_mixed (aCons (eOp oAdd (eOp oGet (eVar 4) (eC (.int 1))) (eOp oMul (eVar 3) (eC (.int 7919)))) (aCons (eOp oGet (eVar 0) (eC (.int 2))) aNil))) aNil)) (eVar 1)))) sSkip)
  (sSetI (eVar 0) (eC (.int 2)) (eC (.int 0))))))))
  (sSeq (sSetI (eVar 0) (eC (.int 1)) (eBf bLen (aCons (eVar 2) aNil)))
  (sRet (eOp oMod (eBf bInt (aCons (eCall i_law_mixed (aCons (eOp oGet (eVar 0) (eC (.int 3))) (aCons (eOp oGet (eVar 0) (eC (.int 4))) aNil))) aNil)) (eVar 1))))))))
abbrev D_law_take : MDef := ⟨2, 6, m_law_take⟩
/-- _law_great(store); 0=store 1=number 2=step -/
def m_law_great : SS := (sSeq (sSet (.nm 1) (eOp oSub (eOp oMul (eOp oPow (eC (.int 10)) (eC (.int 60))) (eOp oPow (eC (.int 10)) (eC (.int 60)))) (eC (.int 1))))
  (sSeq (sIf (tBl (eOp oGt (eCall i_law_take (aCons (eVar 0) (aCons (eC (.int 6)) aNil))) (eC (.int 1)))) (sSeq (sSet (.nm 1) (eOp oAdd (eC (.int 1)) (eCall i_law_take (aCons (eVar 0) (aCons (eC (.int 999999999)) aNil)))))
  (sFor (iRg (rg1 (eCall i_law_take (aCons (eVar 0) (aCons (eC (.int 13)) aNil))))) (.nm 2) (sSet (.nm 1) (eOp oAdd (eOp oMul (eVar 1) (eC (.int 1000000000))) (eCall i_law_take (aCons (eVar 0) (aCons (eC (.int 1000000000)) aNil))))))) sSkip)
  (sSeq (sIf (tBl (eOp (oEq false) (eCall i_law_take (aCons (eVar 0) (aCons (eC (.int 2)) aNil))) (eC (.int 1)))) (sRet (eOp oSub (eC (.int 0)) (eVar 1))) sSkip)
  (sRet (eVar 1)))))
abbrev D_law_great : MDef := ⟨1, 3, m_law_great⟩
/-- _law_no_number(store); 0=store 1=number 2=menu -/
def m_law_no_number : SS := (sSeq (sSet (.nm 1) (eCall i_law_take (aCons (eVar 0) (aCons (eC (.int 5)) aNil))))
  (sSeq (sSet (.nm 2) (eLst (aCons (eC (.bl true)) (aCons (eC (.bl false)) (aCons (eC .non) (aCons (eC (.str "")) (aCons (eBf bStr (aCons (eVar 1) aNil)) (aCons (eLst aNil) (aCons (eTup aNil) (aCons (eLst (aCons (eVar 1) aNil)) (aCons (eTup (aCons (eVar 1) aNil)) (aCons (eC (.str "a")) (aCons (eLst (aCons (eLst (aCons (eVar 1) aNil)) aNil)) (aCons (eTup (aCons (eC (.bl true)) (aCons (eC .non) aNil))) aNil))))))))))))))
  (sRet (eOp oGet (eVar 2) (eCall i_law_take (aCons (eVar 0) (aCons (eBf bLen (aCons (eVar 2) aNil)) aNil)))))))
abbrev D_law_no_number : MDef := ⟨1, 3, m_law_no_number⟩
/-- _law_outside(store, least, high); 0=store 1=least 2=high 3=share 4=value -/
def m_law_outside : SS := (sSeq (sSet (.nm 3) (eCall i_law_take (aCons (eVar 0) (aCons (eC (.int 8)) aNil))))
  (sSeq (sIf (tBl (eOp oLt (eVar 3) (eC (.int 2)))) (sRet (eOp oSub (eVar 1) (eC (.int 1)))) sSkip)
  (sSeq (sIf (tBl (eOp oLt (eVar 3) (eC (.int 4)))) (sRet (eOp oAdd (eVar 2) (eC (.int 1)))) sSkip)
  (sSeq (sIf (tBl (eOp (oEq false) (eVar 3) (eC (.int 4)))) (sRet (eOp oAdd (eOp oAdd (eVar 2) (eC (.int 1))) (eCall i_law_take (aCons (eVar 0) (aCons (eC (.int 1000)) aNil))))) sSkip)
  (sSeq (sIf (tBl (eOp (oEq false) (eVar 3) (eC (.int 5)))) (sSeq (sSet (.nm 4) (eCall i_law_great (aCons (eVar 0) aNil)))
  (sSeq (sIf (tOr (tBl (eOp oLt (eVar 4) (eVar 1))) (tBl (eOp oGt (eVar 4) (eVar 2)))) (sRet (eVar 4)) sSkip)
  (sRet (eOp oAdd (eVar 2) (eC (.int 2)))))) sSkip)
  (sRet (eCall i_law_no_number (aCons (eVar 0) aNil))))))))
abbrev D_law_outside : MDef := ⟨3, 5, m_law_outside⟩
/-- _law_unlike(store, high, count); 0=store 1=high 2=count 3=found 4=step 5=number 6=move -/
def m_law_unlike : SS := (sSeq (sSet (.nm 3) (eLst aNil))
  (sSeq (sFor (iRg (rg1 (eBf bMin (aCons (eVar 2) (aCons (eVar 1) aNil))))) (.nm 4) (sSeq (sSet (.nm 5) (eCall i_law_take (aCons (eVar 0) (aCons (eVar 1) aNil))))
  (sSeq (sFor (iRg (rg1 (eBf bLen (aCons (eVar 3) aNil)))) (.nm 6) (sSeq (sIf (tBl (eOp (oIn true) (eVar 5) (eVar 3))) sBreak sSkip)
  (sSet (.nm 5) (eOp oMod (eBf bInt (aCons (eOp oAdd (eVar 5) (eC (.int 1))) aNil)) (eVar 1)))))
  (sExpr (eMf mAppend (eVar 3) (aCons (eVar 5) aNil))))))
  (sRet (eVar 3))))
abbrev D_law_unlike : MDef := ⟨3, 7, m_law_unlike⟩
/-- _law_power(base, count); 0=base 1=count 2=number 3=step -/
def m_law_power : SS := (sSeq (sSet (.nm 2) (eC (.int 1)))
  (sSeq (sFor (iRg (rg1 (eVar 1))) (.nm 3) (sSet (.nm 2) (eOp oMul (eVar 2) (eVar 0))))
  (sRet (eVar 2))))
abbrev D_law_power : MDef := ⟨2, 4, m_law_power⟩
/-- _law_kind(value); 0=value -/
def m_law_kind : SS := (sSeq (sIf (tBl (eOp (oIs false) (eVar 0) (eC .non))) (sRet (eC (.int 0))) sSkip)
  (sSeq (sIf (tVal (eBf (bIsi "bool") (aCons (eVar 0) aNil))) (sRet (eC (.int 1))) sSkip)
  (sSeq (sIf (tVal (eBf (bIsi "int") (aCons (eVar 0) aNil))) (sRet (eC (.int 2))) sSkip)
  (sSeq (sIf (tVal (eBf (bIsi "str") (aCons (eVar 0) aNil))) (sRet (eC (.int 3))) sSkip)
  (sSeq (sIf (tVal (eBf (bIsi "tuple") (aCons (eVar 0) aNil))) (sRet (eC (.int 4))) sSkip)
  (sSeq (sIf (tVal (eBf (bIsi "list") (aCons (eVar 0) aNil))) (sRet (eC (.int 5))) sSkip)
  (sRet (eC (.int 6)))))))))
abbrev D_law_kind : MDef := ⟨1, 1, m_law_kind⟩
/-- _law_is_whole(value); 0=value -/
def m_law_is_whole : SS := (sRet (eAnd (eBf (bIsi "int") (aCons (eVar 0) aNil)) (eNot (eBf (bIsi "bool") (aCons (eVar 0) aNil)))))
abbrev D_law_is_whole : MDef := ⟨1, 1, m_law_is_whole⟩
/-- _law_mask_word(mask, n); 0=mask 1=n 2=wires 3=rest 4=wire -/
def m_law_mask_word : SS := (sSeq (sSet (.nm 2) (eLst aNil))
  (sSeq (sSet (.nm 3) (eVar 0))
  (sSeq (sFor (iRg (rg1 (eVar 1))) (.nm 4) (sSeq (sIf (tBl (eOp (oEq false) (eOp oMod (eBf bInt (aCons (eVar 3) aNil)) (eC (.int 2))) (eC (.int 1)))) (sExpr (eMf mAppend (eVar 2) (aCons (eVar 4) aNil))) sSkip)
  (sSet (.nm 3) (eOp oFdiv (eVar 3) (eC (.int 2))))))
  (sRet (eBf bTuple (aCons (eVar 2) aNil))))))
abbrev D_law_mask_word : MDef := ⟨2, 5, m_law_mask_word⟩
/-- _law_masks(store, n, count); 0=store 1=n 2=count 3=high 4=thin 5=found 6=step 7=one 8=two 9=mask 10=move -/
def m_law_masks : SS := (sSeq (sSet (.nm 3) (eOp oSub (eCall i_law_power (aCons (eC (.int 2)) (aCons (eVar 1) aNil))) (eC (.int 1))))
  (sSeq (sSet (.nm 4) (eAnd (eOp (oEq false) (eCall i_law_take (aCons (eVar 0) (aCons (eC (.int 3)) aNil))) (eC (.int 0))) (eOp oGt (eVar 1) (eC (.int 3)))))
  (sSeq (sSet (.nm 5) (eLst aNil))
  (sSeq (sFor (iRg (rg1 (eBf bMin (aCons (eVar 2) (aCons (eVar 3) aNil))))) (.nm 6) (sSeq (sIf (tVal (eVar 4)) (sSeq (sSet (.nm 7) (eCall i_law_power (aCons (eC (.int 2)) (aCons (eCall i_law_take (aCons (eVar 0) (aCons (eVar 1) aNil))) aNil))))
  (sSeq (sSet (.nm 8) (eCall i_law_power (aCons (eC (.int 2)) (aCons (eCall i_law_take (aCons (eVar 0) (aCons (eVar 1) aNil))) aNil))))
  (sSeq (sSet (.nm 9) (eBf bMax (aCons (eVar 7) (aCons (eVar 8) aNil))))
  (sIf (tBl (eOp (oEq true) (eVar 7) (eVar 8))) (sSet (.nm 9) (eOp oAdd (eVar 7) (eVar 8))) sSkip)))) (sSet (.nm 9) (eOp oAdd (eC (.int 1)) (eCall i_law_take (aCons (eVar 0) (aCons (eVar 3) aNil))))))
  (sSeq (sFor (iRg (rg1 (eBf bLen (aCons (eVar 5) aNil)))) (.nm 10) (sSeq (sIf (tBl (eOp (oIn true) (eVar 9) (eVar 5))) sBreak sSkip)
  (sSet (.nm 9) (eOp oAdd (eOp oMod (eBf bInt (aCons (eVar 9) aNil)) (eVar 3)) (eC (.int 1))))))
  (sExpr (eMf mAppend (eVar 5) (aCons (eVar 9) aNil))))))
  (sRet (eVar 5))))))
abbrev D_law_masks : MDef := ⟨3, 11, m_law_masks⟩
/-- _law_words(store, n, count); 0=store 1=n 2=count 3=mask -/
def m_law_words : SS := (sRet (eLc (iSeq (eCall i_law_masks (aCons (eVar 0) (aCons (eVar 1) (aCons (eVar 2) aNil))))) (.nm 3) tYes (eCall i_law_mask_word (aCons (eVar 3) (aCons (eVar 1) aNil))) [3]))
abbrev D_law_words : MDef := ⟨3, 4, m_law_words⟩
/-- _law_pruned(words); 0=words 1=kept 2=word 3=fine 4=other -/
def m_law_pruned : SS := (sSeq (sSet (.nm 1) (eLst aNil))
  (sSeq (sFor (iSeq (eVar 0)) (.nm 2) (sSeq (sSet (.nm 3) (eC (.bl true)))
  (sSeq (sFor (iSeq (eVar 1)) (.nm 4) (sIf (tOr (tBl (eOp (oEq false) (eBf bLen (aCons (eCall i_law_less (aCons (eVar 2) (aCons (eVar 4) aNil))) aNil)) (eC (.int 0)))) (tBl (eOp (oEq false) (eBf bLen (aCons (eCall i_law_less (aCons (eVar 4) (aCons (eVar 2) aNil))) aNil)) (eC (.int 0))))) (sSet (.nm 3) (eC (.bl false))) sSkip))
  (sIf (tVal (eVar 3)) (sExpr (eMf mAppend (eVar 1) (aCons (eVar 2) aNil))) sSkip))))
  (sRet (eVar 1))))
abbrev D_law_pruned : MDef := ⟨1, 5, m_law_pruned⟩
/-- _law_book(n, words); 0=n 1=words 2=word -/
def m_law_book : SS := (sRet (eTup (aCons (eVar 0) (aCons (eTup (aCons (eBf bTuple (aCons (eLc (iSeq (eVar 1)) (.nm 2) tYes (eTup (aCons (eVar 2) (aCons (eC (.int 0)) aNil))) [2]) aNil)) aNil)) aNil))))
abbrev D_law_book : MDef := ⟨2, 3, m_law_book⟩
/-- _law_less(left, right); 0=left 1=right 2=wire -/
def m_law_less : SS := (sRet (eBf bTuple (aCons (eLc (iSeq (eVar 0)) (.nm 2) (tBl (eOp (oIn true) (eVar 2) (eVar 1))) (eVar 2) [2]) aNil)))
abbrev D_law_less : MDef := ⟨2, 3, m_law_less⟩
/-- _law_equal(left, right, loose); 0=left 1=right 2=loose 3=pairs 4=one 5=two 6=kind 7=kin 8=at -/
def m_law_equal : SS := (sSeq (sSet (.nm 3) (eLst (aCons (eTup (aCons (eVar 0) (aCons (eVar 1) aNil))) aNil)))
  (sSeq (sWhile (tBl (eOp oGt (eBf bLen (aCons (eVar 3) aNil)) (eC (.int 0)))) (sSeq (sSet (.tp [(.nm 4), (.nm 5)]) (eMf mPop (eVar 3) aNil))
  (sSeq (sPar 6 7 (eCall i_law_kind (aCons (eVar 4) aNil)) (eCall i_law_kind (aCons (eVar 5) aNil)))
  (sSeq (sIf (tAnd (tVal (eVar 2)) (tAnd (tBl (eOp oGt (eVar 6) (eC (.int 3)))) (tBl (eOp oGt (eVar 7) (eC (.int 3)))))) (sPar 6 7 (eBf bMax (aCons (eVar 6) (aCons (eVar 7) (aCons (eC (.int 5)) aNil)))) (eBf bMax (aCons (eVar 6) (aCons (eVar 7) (aCons (eC (.int 5)) aNil))))) sSkip)
  (sSeq (sIf (tOr (tBl (eOp (oEq false) (eVar 6) (eC (.int 6)))) (tBl (eOp (oEq true) (eVar 6) (eVar 7)))) (sRet (eC (.bl false))) sSkip)
  (sIf (tBl (eOp oLt (eVar 6) (eC (.int 4)))) (sIf (tBl (eOp (oEq true) (eVar 4) (eVar 5))) (sRet (eC (.bl false))) sSkip) (sIf (tBl (eOp (oEq true) (eBf bLen (aCons (eVar 4) aNil)) (eBf bLen (aCons (eVar 5) aNil)))) (sRet (eC (.bl false))) (sFor (iRg (rg1 (eBf bLen (aCons (eVar 4) aNil)))) (.nm 8) (sExpr (eMf mAppend (eVar 3) (aCons (eTup (aCons (eOp oGet (eVar 4) (eVar 8)) (aCons (eOp oGet (eVar 5) (eVar 8)) aNil))) aNil)))))))))))
  (sRet (eC (.bl true)))))
abbrev D_law_equal : MDef := ⟨3, 9, m_law_equal⟩
/-- _law_holds(found, due); 0=found 1=due -/
def m_law_holds : SS := (sRet (eCall i_law_equal (aCons (eVar 0) (aCons (eVar 1) (aCons (eOp (oEq false) (eOp oGet (eVar 1) (eC (.int 0))) (eC (.str "refused"))) aNil)))))
abbrev D_law_holds : MDef := ⟨2, 2, m_law_holds⟩
/-- _law_refused(name, value); 0=name 1=value -/
def m_law_refused : SS := (sRet (eTup (aCons (eC (.str "refused")) (aCons (eVar 0) (aCons (eVar 1) (aCons (eC (.bl true)) (aCons (eC (.bl false)) aNil)))))))
abbrev D_law_refused : MDef := ⟨2, 2, m_law_refused⟩
/-- _law_first_wrong(base, rows); 0=base 1=rows 2=seen 3=at 4=row 5=place -/
def m_law_first_wrong : SS := (sSeq (sIf (tBl (eOp (oEq false) (eBf bLen (aCons (eVar 1) aNil)) (eC (.int 0)))) (sRet (eCall i_law_refused (aCons (eC (.str "NoSpelling")) (aCons (eC .non) aNil)))) sSkip)
  (sSeq (sIf (tBl (eOp oGt (eBf bLen (aCons (eVar 1) aNil)) (eC (.int 64)))) (sRet (eCall i_law_refused (aCons (eC (.str "TooMany")) (aCons (eTup (aCons (eC (.str "spellings")) (aCons (eC (.int 64)) aNil))) aNil)))) sSkip)
  (sSeq (sSet (.nm 2) (eLst aNil))
  (sSeq (sFor (iRg (rg1 (eBf bLen (aCons (eVar 1) aNil)))) (.nm 3) (sSeq (sSet (.nm 4) (eOp oGet (eVar 1) (eVar 3)))
  (sSeq (sIf (tOr (tNot (tBl (eChain oLe oLe (eC (.int 1)) (eBf bLen (aCons (eVar 4) aNil)) (eC (.int 8))))) (tBl (eOp (oEq true) (eBf bLen (aCons (eVar 4) aNil)) (eBf bLen (aCons (eOp oGet (eVar 1) (eC (.int 0))) aNil))))) (sRet (eCall i_law_refused (aCons (eC (.str "BadSpelling")) (aCons (eVar 3) aNil)))) sSkip)
  (sSeq (sFor (iRg (rg1 (eBf bLen (aCons (eVar 4) aNil)))) (.nm 5) (sIf (tOr (tNot (tVal (eCall i_law_is_whole (aCons (eOp oGet (eVar 4) (eVar 5)) aNil)))) (tNot (tBl (eChain oLe oLt (eC (.int 0)) (eOp oGet (eVar 4) (eVar 5)) (eVar 0))))) (sRet (eCall i_law_refused (aCons (eC (.str "BadNumber")) (aCons (eVar 5) aNil)))) sSkip))
  (sSeq (sIf (tBl (eOp (oIn false) (eBf bTuple (aCons (eVar 4) aNil)) (eVar 2))) (sRet (eCall i_law_refused (aCons (eC (.str "BadSpelling")) (aCons (eVar 3) aNil)))) sSkip)
  (sExpr (eMf mAppend (eVar 2) (aCons (eBf bTuple (aCons (eVar 4) aNil)) aNil))))))))
  (sRet (eC .non))))))
abbrev D_law_first_wrong : MDef := ⟨2, 6, m_law_first_wrong⟩
/-- _law_least(words, rows, share); 0=words 1=rows 2=share 3=table 4=two 5=one 6=sums 7=at -/
def m_law_least : SS := (sSeq (sSet (.nm 3) (eLc (iSeq (eVar 0)) (.nm 5) tYes (eLc (iSeq (eVar 0)) (.nm 4) tYes (eBf bLen (aCons (eCall i_law_less (aCons (eVar 5) (aCons (eVar 4) aNil))) aNil)) [4]) [5]))
  (sSeq (sSet (.nm 6) (eLst aNil))
  (sSeq (sFor (iSeq (eVar 1)) (.nm 5) (sFor (iSeq (eVar 1)) (.nm 4) (sIf (tBl (eOp (oEq true) (eVar 5) (eVar 4))) (sIf (tBl (eOp (oEq false) (eVar 2) (eC (.str "distance")))) (sExpr (eMf mAppend (eVar 6) (aCons (eBf bSum (aCons (eLc (iRg (rg1 (eBf bLen (aCons (eVar 5) aNil)))) (.nm 7) tYes (eBf bInt (aCons (eOp (oEq true) (eOp oGet (eVar 5) (eVar 7)) (eOp oGet (eVar 4) (eVar 7))) aNil)) [7]) aNil)) aNil))) (sExpr (eMf mAppend (eVar 6) (aCons (eOp oSub (eBf bSum (aCons (eLc (iRg (rg1 (eBf bLen (aCons (eVar 5) aNil)))) (.nm 7) tYes (eOp oGet (eOp oGet (eVar 3) (eOp oGet (eVar 5) (eVar 7))) (eOp oGet (eVar 4) (eVar 7))) [7]) aNil)) (eC (.int 1))) aNil)))) sSkip)))
  (sSeq (sIf (tBl (eOp (oEq false) (eBf bLen (aCons (eVar 6) aNil)) (eC (.int 0)))) (sRet (eC .non)) sSkip)
  (sRet (eBf bMin (aCons (eVar 6) aNil)))))))
abbrev D_law_least : MDef := ⟨3, 8, m_law_least⟩
/-- _law_due(deed, plan, rows); 0=deed 1=plan 2=rows 3=base 4=wrong 5=words 6=pair 7=row 8=n 9=found 10=wires 11=place 12=wire -/
def m_law_due : SS := (sSeq (sSet (.nm 3) (eC (.int 64)))
  (sSeq (sIf (tBl (eOp (oEq true) (eVar 0) (eC (.str "distance")))) (sSeq (sIf (tBl (eOp oGt (eBf bLen (aCons (eOp oGet (eVar 1) (eC (.int 1))) aNil)) (eC (.int 1)))) (sRet (eCall i_law_refused (aCons (eC (.str "NotBook")) (aCons (eBf bLen (aCons (eOp oGet (eVar 1) (eC (.int 1))) aNil)) aNil)))) sSkip)
  (sSet (.nm 3) (eBf bLen (aCons (eOp oGet (eOp oGet (eVar 1) (eC (.int 1))) (eC (.int 0))) aNil)))) sSkip)
  (sSeq (sSet (.nm 4) (eCall i_law_first_wrong (aCons (eVar 3) (aCons (eVar 2) aNil))))
  (sSeq (sIf (tBl (eOp (oIs true) (eVar 4) (eC .non))) (sRet (eVar 4)) sSkip)
  (sSeq (sSet (.nm 5) (eLc (iSeq (eOp oGet (eOp oGet (eVar 1) (eC (.int 1))) (eC (.int 0)))) (.nm 6) tYes (eOp oGet (eVar 6) (eC (.int 0))) [6]))
  (sSeq (sIf (tBl (eOp (oEq true) (eVar 0) (eC (.str "letters")))) (sSeq (sIf (tBl (eOp (oEq false) (eVar 0) (eC (.str "distance")))) (sSet (.nm 5) (eLst aNil)) sSkip)
  (sRet (eTup (aCons (eC (.str "given")) (aCons (eCall i_law_least (aCons (eVar 5) (aCons (eLc (iSeq (eVar 2)) (.nm 7) tYes (eBf bTuple (aCons (eVar 7) aNil)) [7]) (aCons (eVar 0) aNil)))) aNil))))) sSkip)
  (sSeq (sSet (.nm 8) (eOp oGet (eVar 1) (eC (.int 0))))
  (sSeq (sIf (tBl (eOp oGt (eOp oMul (eVar 8) (eBf bLen (aCons (eOp oGet (eVar 2) (eC (.int 0))) aNil))) (eC (.int 40)))) (sRet (eCall i_law_refused (aCons (eC (.str "BadSize")) (aCons (eOp oMul (eVar 8) (eBf bLen (aCons (eOp oGet (eVar 2) (eC (.int 0))) aNil))) aNil)))) sSkip)
  (sSeq (sSet (.nm 9) (eLst aNil))
  (sSeq (sFor (iSeq (eVar 2)) (.nm 7) (sSeq (sSet (.nm 10) (eLst aNil))
  (sSeq (sFor (iRg (rg1 (eBf bLen (aCons (eVar 7) aNil)))) (.nm 11) (sExpr (eMf mExtend (eVar 10) (aCons (eLc (iSeq (eOp oGet (eVar 5) (eOp oGet (eVar 7) (eVar 11)))) (.nm 12) tYes (eOp oAdd (eOp oMul (eVar 11) (eVar 8)) (eVar 12)) [12]) aNil))))
  (sExpr (eMf mAppend (eVar 9) (aCons (eBf bTuple (aCons (eVar 10) aNil)) aNil))))))
  (sRet (eTup (aCons (eC (.str "given")) (aCons (eCall i_law_book (aCons (eOp oMul (eVar 8) (eBf bLen (aCons (eOp oGet (eVar 2) (eC (.int 0))) aNil))) (aCons (eVar 9) aNil))) aNil))))))))))))))
abbrev D_law_due : MDef := ⟨3, 13, m_law_due⟩
/-- _law_due_lanes(n, count, rows, bound); 0=n 1=count 2=rows 3=bound 4=at 5=clauses 6=lane -/
def m_law_due_lanes : SS := (sSeq (sIf (tOr (tNot (tVal (eCall i_law_is_whole (aCons (eVar 0) aNil)))) (tNot (tBl (eChain oLe oLe (eC (.int 1)) (eVar 0) (eC (.int 40)))))) (sRet (eCall i_law_refused (aCons (eC (.str "BadSize")) (aCons (eVar 0) aNil)))) sSkip)
  (sSeq (sIf (tOr (tNot (tVal (eCall i_law_is_whole (aCons (eVar 1) aNil)))) (tNot (tBl (eChain oLe oLe (eC (.int 1)) (eVar 1) (eC (.int 8)))))) (sRet (eCall i_law_refused (aCons (eC (.str "BadSize")) (aCons (eVar 1) aNil)))) sSkip)
  (sSeq (sFor (iRg (rg1 (eBf bLen (aCons (eVar 2) aNil)))) (.nm 4) (sSeq (sIf (tOr (tNot (tVal (eCall i_law_is_whole (aCons (eOp oGet (eVar 2) (eVar 4)) aNil)))) (tNot (tBl (eChain oLe oLt (eC (.int 0)) (eOp oGet (eVar 2) (eVar 4)) (eVar 1))))) (sRet (eCall i_law_refused (aCons (eC (.str "NoPlace")) (aCons (eOp oGet (eVar 2) (eVar 4)) aNil)))) sSkip)
  (sIf (tBl (eOp (oIn false) (eOp oGet (eVar 2) (eVar 4)) (eCut (eVar 2) oNo (oSome (eVar 4))))) (sRet (eCall i_law_refused (aCons (eC (.str "Twice")) (aCons (eOp oGet (eVar 2) (eVar 4)) aNil)))) sSkip)))
  (sSeq (sIf (tOr (tNot (tVal (eCall i_law_is_whole (aCons (eVar 3) aNil)))) (tNot (tBl (eChain oLe oLe (eC (.int 0)) (eVar 3) (eC (.int 60)))))) (sRet (eCall i_law_refused (aCons (eC (.str "BadAhead")) (aCons (eVar 3) aNil)))) sSkip)
  (sSeq (sIf (tBl (eOp oGt (eOp oMul (eVar 0) (eVar 1)) (eC (.int 40)))) (sRet (eCall i_law_refused (aCons (eC (.str "BadSize")) (aCons (eOp oMul (eVar 0) (eVar 1)) aNil)))) sSkip)
  (sSeq (sSet (.nm 5) (eLc (iSeq (eVar 2)) (.nm 6) tYes (eTup (aCons (eTRg (rg2 (eOp oMul (eVar 6) (eVar 0)) (eOp oAdd (eOp oMul (eVar 6) (eVar 0)) (eVar 0)))) (aCons (eVar 3) aNil))) [6]))
  (sRet (eTup (aCons (eC (.str "given")) (aCons (eTup (aCons (eOp oMul (eVar 0) (eVar 1)) (aCons (eBf bTuple (aCons (eVar 5) aNil)) aNil))) aNil))))))))))
abbrev D_law_due_lanes : MDef := ⟨4, 7, m_law_due_lanes⟩
/-- _law_ask(deed, plan, rows); 0=deed 1=plan 2=rows 3=e -/
def m_law_ask : SS := (sTry tab.sub (sSeq (sIf (tBl (eOp (oEq false) (eVar 0) (eC (.str "letters")))) (sRet (eTup (aCons (eC (.str "given")) (aCons (eCall i_letters (aCons (eVar 1) (aCons (eVar 2) aNil))) aNil)))) sSkip)
  (sSeq (sIf (tBl (eOp (oEq false) (eVar 0) (eC (.str "even")))) (sRet (eTup (aCons (eC (.str "given")) (aCons (eCall i_even_of (aCons (eVar 1) (aCons (eVar 2) aNil))) aNil)))) sSkip)
  (sRet (eTup (aCons (eC (.str "given")) (aCons (eCall i_distance (aCons (eVar 2) aNil)) aNil)))))) [("NotBook", 3, fun C fs => (sRet (eTup (aCons (eC (.str "refused")) (aCons (eC (.str "NotBook")) (aCons (xF tab.flds "states" C fs) (aCons (xIs tab.sub "PulseError" C fs) (aCons (xIs tab.sub "BadNumber" C fs) aNil)))))))),
  ("NoSpelling", 3, fun C fs => (sRet (eTup (aCons (eC (.str "refused")) (aCons (eC (.str "NoSpelling")) (aCons (eC .non) (aCons (xIs tab.sub "PulseError" C fs) (aCons (xIs tab.sub "BadSpelling" C fs) aNil)))))))),
  ("TooMany", 3, fun C fs => (sRet (eTup (aCons (eC (.str "refused")) (aCons (eC (.str "TooMany")) (aCons (eTup (aCons (xF tab.flds "what" C fs) (aCons (xF tab.flds "most" C fs) aNil))) (aCons (xIs tab.sub "PulseError" C fs) (aCons (xIs tab.sub "BadSpelling" C fs) aNil)))))))),
  ("BadSpelling", 3, fun C fs => (sRet (eTup (aCons (eC (.str "refused")) (aCons (eC (.str "BadSpelling")) (aCons (xF tab.flds "place" C fs) (aCons (xIs tab.sub "PulseError" C fs) (aCons (xIs tab.sub "BadNumber" C fs) aNil)))))))),
  ("BadNumber", 3, fun C fs => (sRet (eTup (aCons (eC (.str "refused")) (aCons (eC (.str "BadNumber")) (aCons (xF tab.flds "place" C fs) (aCons (xIs tab.sub "PulseError" C fs) (aCons (xIs tab.sub "BadSize" C fs) aNil)))))))),
  ("BadSize", 3, fun C fs => (sRet (eTup (aCons (eC (.str "refused")) (aCons (eC (.str "BadSize")) (aCons (xF tab.flds "size" C fs) (aCons (xIs tab.sub "PulseError" C fs) (aCons (eC (.bl false)) aNil))))))))])
abbrev D_law_ask : MDef := ⟨3, 4, m_law_ask⟩
/-- _law_ask_lanes(n, count, rows, bound); 0=n 1=count 2=rows 3=bound 4=e -/
def m_law_ask_lanes : SS := (sTry tab.sub (sRet (eTup (aCons (eC (.str "given")) (aCons (eCall i_lanes_limit (aCons (eVar 0) (aCons (eVar 1) (aCons (eVar 2) (aCons (eVar 3) aNil))))) aNil)))) [("BadSize", 4, fun C fs => (sRet (eTup (aCons (eC (.str "refused")) (aCons (eC (.str "BadSize")) (aCons (xF tab.flds "size" C fs) (aCons (xIs tab.sub "PulseError" C fs) (aCons (xIs tab.sub "NoPlace" C fs) aNil)))))))),
  ("NoPlace", 4, fun C fs => (sRet (eTup (aCons (eC (.str "refused")) (aCons (eC (.str "NoPlace")) (aCons (xF tab.flds "place" C fs) (aCons (xIs tab.sub "PulseError" C fs) (aCons (xIs tab.sub "Twice" C fs) aNil)))))))),
  ("Twice", 4, fun C fs => (sRet (eTup (aCons (eC (.str "refused")) (aCons (eC (.str "Twice")) (aCons (xF tab.flds "wire" C fs) (aCons (xIs tab.sub "PulseError" C fs) (aCons (xIs tab.sub "BadAhead" C fs) aNil)))))))),
  ("BadAhead", 4, fun C fs => (sRet (eTup (aCons (eC (.str "refused")) (aCons (eC (.str "BadAhead")) (aCons (xF tab.flds "value" C fs) (aCons (xIs tab.sub "PulseError" C fs) (aCons (eC (.bl false)) aNil))))))))])
abbrev D_law_ask_lanes : MDef := ⟨4, 5, m_law_ask_lanes⟩
/-- _law_spelled(store, base, size, count); 0=store 1=base 2=size 3=count 4=found 5=number 6=row 7=rest 8=step -/
def m_law_spelled : SS := (sSeq (sSet (.nm 4) (eLst aNil))
  (sSeq (sFor (iSeq (eCall i_law_unlike (aCons (eVar 0) (aCons (eCall i_law_power (aCons (eVar 1) (aCons (eVar 2) aNil))) (aCons (eVar 3) aNil))))) (.nm 5) (sSeq (sSet (.nm 6) (eLst aNil))
  (sSeq (sSet (.nm 7) (eVar 5))
  (sSeq (sFor (iRg (rg1 (eVar 2))) (.nm 8) (sSeq (sExpr (eMf mAppend (eVar 6) (aCons (eOp oMod (eBf bInt (aCons (eVar 7) aNil)) (eVar 1)) aNil)))
  (sSet (.nm 7) (eOp oFdiv (eVar 7) (eVar 1)))))
  (sExpr (eMf mAppend (eVar 4) (aCons (eVar 6) aNil)))))))
  (sRet (eVar 4))))
abbrev D_law_spelled : MDef := ⟨4, 9, m_law_spelled⟩
/-- _law_bent_rows(store, rows, base); 0=store 1=rows 2=base 3=found 4=row 5=share 6=at -/
def m_law_bent_rows : SS := (sSeq (sSet (.nm 3) (eLc (iSeq (eVar 1)) (.nm 4) tYes (eBf bList (aCons (eVar 4) aNil)) [4]))
  (sSeq (sSet (.nm 5) (eCall i_law_take (aCons (eVar 0) (aCons (eC (.int 7)) aNil))))
  (sSeq (sSet (.nm 6) (eCall i_law_take (aCons (eVar 0) (aCons (eBf bLen (aCons (eVar 3) aNil)) aNil))))
  (sSeq (sIf (tBl (eOp (oEq false) (eVar 5) (eC (.int 0)))) (sRet (eLst aNil)) sSkip)
  (sSeq (sIf (tBl (eOp (oEq false) (eVar 5) (eC (.int 1)))) (sRet (eLc (iSeq (eCut (eOp oMul (eVar 3) (eC (.int 65))) oNo (oSome (eOp oAdd (eC (.int 64)) (eCall i_law_take (aCons (eVar 0) (aCons (eC (.int 2)) aNil))))))) (.nm 4) tYes (eBf bList (aCons (eVar 4) aNil)) [4])) sSkip)
  (sSeq (sIf (tBl (eOp (oEq false) (eVar 5) (eC (.int 2)))) (sSetI (eVar 3) (eVar 6) (eCut (eOp oMul (eOp oGet (eVar 3) (eVar 6)) (eC (.int 9))) oNo (oSome (eCall i_law_take (aCons (eVar 0) (aCons (eC (.int 10)) aNil)))))) (sIf (tBl (eOp (oEq false) (eVar 5) (eC (.int 3)))) (sExpr (eMf mInsert (eVar 3) (aCons (eCall i_law_take (aCons (eVar 0) (aCons (eOp oAdd (eBf bLen (aCons (eVar 3) aNil)) (eC (.int 1))) aNil))) (aCons (eBf bList (aCons (eOp oGet (eVar 3) (eVar 6)) aNil)) aNil)))) (sIf (tBl (eOp (oEq false) (eVar 5) (eC (.int 4)))) (sSetI (eOp oGet (eVar 3) (eVar 6)) (eCall i_law_take (aCons (eVar 0) (aCons (eBf bLen (aCons (eOp oGet (eVar 3) (eVar 6)) aNil)) aNil))) (eCall i_law_take (aCons (eVar 0) (aCons (eC (.int 64)) aNil)))) (sSetI (eOp oGet (eVar 3) (eVar 6)) (eCall i_law_take (aCons (eVar 0) (aCons (eBf bLen (aCons (eOp oGet (eVar 3) (eVar 6)) aNil)) aNil))) (eCall i_law_outside (aCons (eVar 0) (aCons (eC (.int 0)) (aCons (eOp oSub (eVar 2) (eC (.int 1))) aNil))))))))
  (sRet (eVar 3))))))))
abbrev D_law_bent_rows : MDef := ⟨3, 7, m_law_bent_rows⟩
/-- _law_all_hold(plan, rows); 0=plan 1=rows 2=handed 3=row 4=deed 5=found -/
def m_law_all_hold : SS := (sSeq (sSet (.nm 2) (eLc (iSeq (eVar 1)) (.nm 3) tYes (eBf bList (aCons (eVar 3) aNil)) [3]))
  (sSeq (sFor (iSeq (eLst (aCons (eC (.str "letters")) (aCons (eC (.str "even")) (aCons (eC (.str "distance")) (aCons (eC (.str "letters")) aNil)))))) (.nm 4) (sSeq (sSet (.nm 5) (eCall i_law_ask (aCons (eVar 4) (aCons (eVar 0) (aCons (eVar 2) aNil)))))
  (sIf (tOr (tNot (tVal (eCall i_law_holds (aCons (eVar 5) (aCons (eCall i_law_due (aCons (eVar 4) (aCons (eVar 0) (aCons (eVar 1) aNil)))) aNil))))) (tNot (tVal (eCall i_law_equal (aCons (eVar 2) (aCons (eVar 1) (aCons (eC (.bl false)) aNil))))))) (sRet (eC (.bl false))) sSkip)))
  (sRet (eC (.bl true)))))
abbrev D_law_all_hold : MDef := ⟨2, 6, m_law_all_hold⟩
/-- _law_lanes_hold(n, count, rows, bound); 0=n 1=count 2=rows 3=bound -/
def m_law_lanes_hold : SS := (sRet (eCall i_law_holds (aCons (eCall i_law_ask_lanes (aCons (eVar 0) (aCons (eVar 1) (aCons (eBf bList (aCons (eVar 2) aNil)) (aCons (eVar 3) aNil))))) (aCons (eCall i_law_due_lanes (aCons (eVar 0) (aCons (eVar 1) (aCons (eVar 2) (aCons (eVar 3) aNil))))) aNil))))
abbrev D_law_lanes_hold : MDef := ⟨4, 4, m_law_lanes_hold⟩
/-- _law_drawn(store); 0=store 1=n 2=size 3=base 4=count 5=share 6=words -/
def m_law_drawn : SS := (sSeq (sPar 1 2 (eOp oAdd (eC (.int 1)) (eCall i_law_take (aCons (eVar 0) (aCons (eC (.int 5)) aNil)))) (eOp oAdd (eC (.int 1)) (eCall i_law_take (aCons (eVar 0) (aCons (eC (.int 3)) aNil)))))
  (sSeq (sPar 3 4 (eOp oAdd (eC (.int 1)) (eCall i_law_take (aCons (eVar 0) (aCons (eC (.int 5)) aNil)))) (eOp oAdd (eC (.int 1)) (eCall i_law_take (aCons (eVar 0) (aCons (eC (.int 5)) aNil)))))
  (sSeq (sSet (.nm 5) (eCall i_law_take (aCons (eVar 0) (aCons (eC (.int 24)) aNil))))
  (sSeq (sIf (tBl (eOp oLt (eVar 5) (eC (.int 2)))) (sSet (.tp [(.nm 1), (.nm 2)]) (eOp oGet (eLst (aCons (eTup (aCons (eC (.int 5)) (aCons (eC (.int 8)) aNil))) (aCons (eTup (aCons (eC (.int 10)) (aCons (eC (.int 4)) aNil))) (aCons (eTup (aCons (eC (.int 13)) (aCons (eC (.int 3)) aNil))) (aCons (eTup (aCons (eC (.int 20)) (aCons (eC (.int 2)) aNil))) (aCons (eTup (aCons (eC (.int 40)) (aCons (eC (.int 1)) aNil))) (aCons (eTup (aCons (eC (.int 14)) (aCons (eC (.int 3)) aNil))) (aCons (eTup (aCons (eC (.int 6)) (aCons (eC (.int 7)) aNil))) (aCons (eTup (aCons (eC (.int 7)) (aCons (eC (.int 6)) aNil))) (aCons (eTup (aCons (eC (.int 4)) (aCons (eC (.int 8)) aNil))) aNil)))))))))) (eCall i_law_take (aCons (eVar 0) (aCons (eC (.int 9)) aNil))))) sSkip)
  (sSeq (sIf (tBl (eOp (oEq false) (eVar 5) (eC (.int 2)))) (sSet (.tp [(.nm 1), (.nm 2), (.nm 3), (.nm 4)]) (eTup (aCons (eC (.int 7)) (aCons (eOp oAdd (eC (.int 1)) (eCall i_law_take (aCons (eVar 0) (aCons (eC (.int 6)) aNil)))) (aCons (eC (.int 64)) (aCons (eOp oAdd (eC (.int 62)) (eCall i_law_take (aCons (eVar 0) (aCons (eC (.int 3)) aNil)))) aNil)))))) sSkip)
  (sSeq (sSet (.nm 6) (eCall i_law_words (aCons (eVar 0) (aCons (eVar 1) (aCons (eVar 3) aNil)))))
  (sSeq (sIf (tBl (eOp (oEq false) (eCall i_law_take (aCons (eVar 0) (aCons (eC (.int 2)) aNil))) (eC (.int 0)))) (sSet (.nm 6) (eCall i_law_pruned (aCons (eVar 6) aNil))) sSkip)
  (sRet (eTup (aCons (eVar 1) (aCons (eVar 2) (aCons (eVar 6) (aCons (eCall i_law_spelled (aCons (eVar 0) (aCons (eBf bLen (aCons (eVar 6) aNil)) (aCons (eVar 2) (aCons (eVar 4) aNil))))) aNil)))))))))))))
abbrev D_law_drawn : MDef := ⟨1, 7, m_law_drawn⟩
/-- _law_right_places(words, rows, places, bound); 0=words 1=rows 2=places 3=bound 4=one 5=two 6=free 7=at -/
def m_law_right_places : SS := (sSeq (sFor (iSeq (eVar 1)) (.nm 4) (sFor (iSeq (eVar 1)) (.nm 5) (sSeq (sSet (.nm 6) (eLc (iSeq (eVar 2)) (.nm 7) (tBl (eOp oLe (eBf bLen (aCons (eCall i_law_less (aCons (eOp oGet (eVar 0) (eOp oGet (eVar 4) (eVar 7))) (aCons (eOp oGet (eVar 0) (eOp oGet (eVar 5) (eVar 7))) aNil))) aNil)) (eVar 3))) (eVar 7) [7]))
  (sIf (tAnd (tBl (eOp (oEq true) (eVar 4) (eVar 5))) (tBl (eOp (oEq false) (eBf bLen (aCons (eVar 6) aNil)) (eBf bLen (aCons (eVar 2) aNil))))) (sRet (eC (.bl false))) sSkip))))
  (sRet (eC (.bl true))))
abbrev D_law_right_places : MDef := ⟨4, 8, m_law_right_places⟩
/-- _law_book_holds(store, plan, rows, size); 0=store 1=plan 2=rows 3=size 4=found 5=words 6=pair 7=least 8=at 9=places 10=bound 11=right 12=far 13=limit -/
def m_law_book_holds : SS := (sSeq (sSet (.nm 4) (eCall i_law_ask (aCons (eC (.str "letters")) (aCons (eVar 1) (aCons (eVar 2) aNil)))))
  (sSeq (sSet (.nm 5) (eLc (iSeq (eOp oGet (eOp oGet (eVar 1) (eC (.int 1))) (eC (.int 0)))) (.nm 6) tYes (eOp oGet (eVar 6) (eC (.int 0))) [6]))
  (sSeq (sSet (.nm 7) (eCall i_law_least (aCons (eVar 5) (aCons (eLc (iRg (rg1 (eBf bLen (aCons (eVar 5) aNil)))) (.nm 8) tYes (eLst (aCons (eVar 8) aNil)) [8]) (aCons (eC (.str "even")) aNil)))))
  (sSeq (sSet (.nm 9) (eCall i_law_unlike (aCons (eVar 0) (aCons (eVar 3) (aCons (eCall i_law_take (aCons (eVar 0) (aCons (eOp oAdd (eVar 3) (eC (.int 1))) aNil))) aNil)))))
  (sSeq (sSet (.nm 10) (eCall i_law_take (aCons (eVar 0) (aCons (eC (.int 4)) aNil))))
  (sSeq (sIf (tAnd (tBl (eOp (oIs true) (eVar 7) (eC .non))) (tBl (eOp (oEq false) (eCall i_law_take (aCons (eVar 0) (aCons (eC (.int 2)) aNil))) (eC (.int 0))))) (sSet (.nm 10) (eBf bMax (aCons (eC (.int 0)) (aCons (eOp oAdd (eVar 7) (eCall i_law_take (aCons (eVar 0) (aCons (eC (.int 2)) aNil)))) aNil)))) sSkip)
  (sSeq (sIf (tNot (tVal (eCall i_law_lanes_hold (aCons (eOp oGet (eVar 1) (eC (.int 0))) (aCons (eVar 3) (aCons (eVar 9) (aCons (eVar 10) aNil))))))) (sRet (eC (.bl false))) sSkip)
  (sSeq (sIf (tBl (eOp (oEq false) (eOp oGet (eVar 4) (eC (.int 0))) (eC (.str "refused")))) (sRet (eC (.bl true))) sSkip)
  (sSeq (sSet (.nm 11) (eCall i_law_right_places (aCons (eVar 5) (aCons (eVar 2) (aCons (eVar 9) (aCons (eVar 10) aNil))))))
  (sSeq (sSet (.nm 12) (eCall i_law_least (aCons (eLst aNil) (aCons (eVar 2) (aCons (eC (.str "distance")) aNil)))))
  (sSeq (sIf (tAnd (tBl (eOp (oIs true) (eVar 7) (eC .non))) (tAnd (tBl (eOp oLe (eVar 10) (eVar 7))) (tAnd (tBl (eOp (oIs true) (eVar 12) (eC .non))) (tAnd (tBl (eOp oGt (eBf bLen (aCons (eVar 9) aNil)) (eOp oSub (eVar 3) (eVar 12)))) (tNot (tVal (eVar 11))))))) (sRet (eC (.bl false))) sSkip)
  (sSeq (sSet (.nm 13) (eOp oGet (eCall i_law_ask_lanes (aCons (eOp oGet (eVar 1) (eC (.int 0))) (aCons (eVar 3) (aCons (eBf bTuple (aCons (eVar 9) aNil)) (aCons (eVar 10) aNil))))) (eC (.int 1))))
  (sSeq (sIf (tNot (tVal (eCall i_law_equal (aCons (eCall i_is_right (aCons (eOp oGet (eVar 4) (eC (.int 1))) (aCons (eVar 13) aNil))) (aCons (eVar 11) (aCons (eC (.bl false)) aNil)))))) (sRet (eC (.bl false))) sSkip)
  (sRet (eCall i_law_equal (aCons (eCall i_greatest_even (aCons (eOp oGet (eVar 4) (eC (.int 1))) aNil)) (aCons (eCall i_law_least (aCons (eVar 5) (aCons (eVar 2) (aCons (eC (.str "even")) aNil)))) (aCons (eC (.bl false)) aNil))))))))))))))))))
abbrev D_law_book_holds : MDef := ⟨4, 14, m_law_book_holds⟩
/-- law(script); 0=script 1=store 2=n 3=size 4=words 5=rows 6=plan 7=state 8=word 9=wide 10=high 11=value 12=bent -/
def m_law : SS := (sSeq (sSet (.nm 1) (eCall i_law_store (aCons (eVar 0) aNil)))
  (sSeq (sSet (.tp [(.nm 2), (.nm 3), (.nm 4), (.nm 5)]) (eCall i_law_drawn (aCons (eVar 1) aNil)))
  (sSeq (sSet (.nm 6) (eCall i_law_book (aCons (eVar 2) (aCons (eVar 4) aNil))))
  (sSeq (sIf (tOr (tNot (tVal (eCall i_law_all_hold (aCons (eVar 6) (aCons (eVar 5) aNil))))) (tNot (tVal (eCall i_law_all_hold (aCons (eVar 6) (aCons (eCall i_law_bent_rows (aCons (eVar 1) (aCons (eVar 5) (aCons (eBf bLen (aCons (eVar 4) aNil)) aNil)))) aNil)))))) (sRet (eC (.bl false))) sSkip)
  (sSeq (sSet (.nm 7) (eBf bTuple (aCons (eLc (iSeq (eCut (eVar 4) oNo (oSome (eC (.int 63))))) (.nm 8) tYes (eTup (aCons (eVar 8) (aCons (eC (.int 1)) aNil))) [8]) aNil)))
  (sSeq (sIf (tNot (tVal (eCall i_law_all_hold (aCons (eTup (aCons (eVar 2) (aCons (eTup (aCons (eVar 7) (aCons (eTup (aCons (eTup (aCons (eOp oGet (eVar 4) (eC (.int 0))) (aCons (eC (.int 0)) aNil))) aNil)) aNil))) aNil))) (aCons (eCall i_law_bent_rows (aCons (eVar 1) (aCons (eVar 5) (aCons (eBf bLen (aCons (eVar 4) aNil)) aNil)))) aNil))))) (sRet (eC (.bl false))) sSkip)
  (sSeq (sIf (tNot (tVal (eCall i_law_book_holds (aCons (eVar 1) (aCons (eVar 6) (aCons (eVar 5) (aCons (eVar 3) aNil))))))) (sRet (eC (.bl false))) sSkip)
  (sSeq (sSet (.nm 9) (eOp oAdd (eC (.int 1)) (eCall i_law_take (aCons (eVar 1) (aCons (eC (.int 40)) aNil)))))
  (sSeq (sSet (.nm 10) (eOp oAdd (eC (.int 1)) (eCall i_law_take (aCons (eVar 1) (aCons (eC (.int 8)) aNil)))))
  (sSeq (sFor (iSeq (eLst (aCons (eCall i_law_outside (aCons (eVar 1) (aCons (eC (.int 0)) (aCons (eOp oSub (eVar 10) (eC (.int 1))) aNil)))) (aCons (eCall i_law_take (aCons (eVar 1) (aCons (eVar 10) aNil))) aNil)))) (.nm 11) (sSeq (sSet (.nm 12) (eCall i_law_unlike (aCons (eVar 1) (aCons (eVar 10) (aCons (eC (.int 3)) aNil)))))
  (sSeq (sExpr (eMf mInsert (eVar 12) (aCons (eCall i_law_take (aCons (eVar 1) (aCons (eOp oAdd (eBf bLen (aCons (eVar 12) aNil)) (eC (.int 1))) aNil))) (aCons (eVar 11) aNil))))
  (sIf (tNot (tVal (eCall i_law_lanes_hold (aCons (eVar 9) (aCons (eVar 10) (aCons (eVar 12) (aCons (eOp oGet (eLst (aCons (eC (.int 3)) (aCons (eCall i_law_outside (aCons (eVar 1) (aCons (eC (.int 0)) (aCons (eC (.int 60)) aNil)))) aNil))) (eCall i_law_take (aCons (eVar 1) (aCons (eC (.int 2)) aNil)))) aNil))))))) (sRet (eC (.bl false))) sSkip))))
  (sSeq (sIf (tNot (tVal (eCall i_law_lanes_hold (aCons (eCall i_law_outside (aCons (eVar 1) (aCons (eC (.int 1)) (aCons (eC (.int 40)) aNil)))) (aCons (eVar 10) (aCons (eLst (aCons (eVar 10) aNil)) (aCons (eC (.int 2)) aNil))))))) (sRet (eC (.bl false))) sSkip)
  (sRet (eAnd (eCall i_law_lanes_hold (aCons (eVar 9) (aCons (eCall i_law_outside (aCons (eVar 1) (aCons (eC (.int 1)) (aCons (eC (.int 8)) aNil)))) (aCons (eLst (aCons (eC (.int 0)) (aCons (eC (.int 0)) aNil))) (aCons (eC (.int 1)) aNil))))) (eCall i_law_lanes_hold (aCons (eVar 9) (aCons (eVar 10) (aCons (eLst aNil) (aCons (eC (.int 60)) aNil))))))))))))))))))
abbrev D_law : MDef := ⟨1, 13, m_law⟩
def Dl0 : List MDef := [D_same_parts, D_BadSize, D_NoWire, D_Twice, D_NotBook, D_BadState, D_BadNumber, D_BadAhead, D_NoPlace, D_BadSpelling, D_BadFit, D_TooMany, D_whole_within, D_less, D_moved, D_is_whole, D_is_index, D_copied, D_check_state, D_is_book, D_words_of, D_book_words, D_is_below, D_check_book, D_check_total, D_book_made, D_check_ahead, D_check_n, D_check_spellings, D_check_places]
def Dl1 : List MDef := [D_spelled, D_letters, D_least_between, D_even_of, D_distance, D_lanes_limit, D_check_fit, D_wire_table, D_count_in, D_clause_tables, D_first_beyond, D_word_pairs, D_plan_pairs, D_least_gap, D_first_bar, D_is_right, D_greatest_even, D_law_mixed, D_law_store, D_law_take, D_law_great, D_law_no_number, D_law_outside, D_law_unlike, D_law_power, D_law_kind, D_law_is_whole, D_law_mask_word, D_law_masks, D_law_words]
def Dl2 : List MDef := [D_law_pruned, D_law_book, D_law_less, D_law_equal, D_law_holds, D_law_refused, D_law_first_wrong, D_law_least, D_law_due, D_law_due_lanes, D_law_ask, D_law_ask_lanes, D_law_spelled, D_law_bent_rows, D_law_all_hold, D_law_lanes_hold, D_law_drawn, D_law_right_places, D_law_book_holds, D_law]
def D : List MDef := Dl0 ++ Dl1 ++ Dl2
end K77
end
section
set_option maxRecDepth 100000
set_option maxHeartbeats 0
namespace K77
open PySem PySem.Spec PyProof.Rows L2 EP
theorem c0 : comp (mkΓ ["value", "part"] (defScope (top 1)) tab false) (defBody (top 1)) = some m_same_parts := by kernel_rfl
theorem c1 : iniC (mkΓ ("self" :: ["size"]) (defScope (inClass (top 4) 0)) tab false) "same_parts" ["size"] 1 (defBody (inClass (top 4) 0)) = true := by kernel_rfl
theorem c2 : iniC (mkΓ ("self" :: ["wire"]) (defScope (inClass (top 5) 0)) tab false) "same_parts" ["wire"] 1 (defBody (inClass (top 5) 0)) = true := by kernel_rfl
theorem c3 : iniC (mkΓ ("self" :: ["wire"]) (defScope (inClass (top 6) 0)) tab false) "same_parts" ["wire"] 1 (defBody (inClass (top 6) 0)) = true := by kernel_rfl
theorem c4 : iniC (mkΓ ("self" :: ["states"]) (defScope (inClass (top 7) 0)) tab false) "same_parts" ["states"] 1 (defBody (inClass (top 7) 0)) = true := by kernel_rfl
theorem c5 : iniC (mkΓ ("self" :: ["value"]) (defScope (inClass (top 8) 0)) tab false) "same_parts" ["value"] 1 (defBody (inClass (top 8) 0)) = true := by kernel_rfl
theorem c6 : iniC (mkΓ ("self" :: ["place"]) (defScope (inClass (top 9) 0)) tab false) "same_parts" ["place"] 1 (defBody (inClass (top 9) 0)) = true := by kernel_rfl
theorem c7 : iniC (mkΓ ("self" :: ["value"]) (defScope (inClass (top 10) 0)) tab false) "same_parts" ["value"] 1 (defBody (inClass (top 10) 0)) = true := by kernel_rfl
theorem c8 : iniC (mkΓ ("self" :: ["place"]) (defScope (inClass (top 11) 0)) tab false) "same_parts" ["place"] 1 (defBody (inClass (top 11) 0)) = true := by kernel_rfl
theorem c9 : iniC (mkΓ ("self" :: ["place"]) (defScope (inClass (top 12) 0)) tab false) "same_parts" ["place"] 1 (defBody (inClass (top 12) 0)) = true := by kernel_rfl
theorem c10 : iniC (mkΓ ("self" :: ["left", "right"]) (defScope (inClass (top 13) 0)) tab false) "same_parts" ["left", "right"] 1 (defBody (inClass (top 13) 0)) = true := by kernel_rfl
theorem c11 : iniC (mkΓ ("self" :: ["what", "most"]) (defScope (inClass (top 14) 0)) tab false) "same_parts" ["what", "most"] 1 (defBody (inClass (top 14) 0)) = true := by kernel_rfl
theorem c12 : comp (mkΓ ["value", "least", "most"] (defScope (top 16)) tab false) (defBody (top 16)) = some m_whole_within := by kernel_rfl
theorem c13 : comp (mkΓ ["left", "right", "gone", "wire"] (defScope (top 17)) tab false) (defBody (top 17)) = some m_less := by kernel_rfl
theorem c14 : comp (mkΓ ["wires", "by", "wire"] (defScope (top 18)) tab false) (defBody (top 18)) = some m_moved := by kernel_rfl
theorem c15 : comp (mkΓ ["value"] (defScope (top 20)) tab false) (defBody (top 20)) = some m_is_whole := by kernel_rfl
theorem c16 : comp (mkΓ ["value", "many"] (defScope (top 21)) tab false) (defBody (top 21)) = some m_is_index := by kernel_rfl
theorem c17 : comp (mkΓ ["value", "part"] (defScope (top 22)) tab false) (defBody (top 22)) = some m_copied := by kernel_rfl
theorem c18 : comp (mkΓ ["plan", "state"] (defScope (top 23)) tab false) (defBody (top 23)) = some m_check_state := by kernel_rfl
theorem c19 : comp (mkΓ ["plan"] (defScope (top 24)) tab false) (defBody (top 24)) = some m_is_book := by kernel_rfl
theorem c20 : comp (mkΓ ["plan", "state", "word", "spare"] (defScope (top 25)) tab false) (defBody (top 25)) = some m_words_of := by kernel_rfl
theorem c21 : comp (mkΓ ["book"] (defScope (top 26)) tab false) (defBody (top 26)) = some m_book_words := by kernel_rfl
theorem c22 : comp (mkΓ ["value", "end"] (defScope (top 28)) tab false) (defBody (top 28)) = some m_is_below := by kernel_rfl
theorem c23 : comp (mkΓ ["book"] (defScope (top 29)) tab false) (defBody (top 29)) = some m_check_book := by kernel_rfl
theorem c24 : comp (mkΓ ["many"] (defScope (top 32)) tab false) (defBody (top 32)) = some m_check_total := by kernel_rfl
theorem c25 : comp (mkΓ ["n", "words", "word"] (defScope (top 33)) tab false) (defBody (top 33)) = some m_book_made := by kernel_rfl
theorem c26 : comp (mkΓ ["ahead"] (defScope (top 39)) tab false) (defBody (top 39)) = some m_check_ahead := by kernel_rfl
theorem c27 : comp (mkΓ ["n"] (defScope (top 40)) tab false) (defBody (top 40)) = some m_check_n := by kernel_rfl
theorem c28 : comp (mkΓ ["many", "spellings", "seen", "place", "spelling", "at", "number"] (defScope (top 41)) tab true) (defBody (top 41)) = some m_check_spellings := by kernel_rfl
theorem c29 : comp (mkΓ ["lanes", "places", "seen", "value"] (defScope (top 42)) tab false) (defBody (top 42)) = some m_check_places := by kernel_rfl
theorem c30 : comp (mkΓ ["n", "words", "spelling", "wires", "at", "number"] (defScope (top 43)) tab false) (defBody (top 43)) = some m_spelled := by kernel_rfl
theorem c31 : comp (mkΓ ["book", "spellings", "words", "many", "spelling"] (defScope (top 44)) tab false) (defBody (top 44)) = some m_letters := by kernel_rfl
theorem c32 : comp (mkΓ ["spellings", "sizes", "least", "place", "left", "other", "right", "found", "one", "two"] (defScope (top 45)) tab false) (defBody (top 45)) = some m_least_between := by kernel_rfl
theorem c33 : comp (mkΓ ["book", "spellings", "words", "sizes", "right", "left", "least"] (defScope (top 46)) tab false) (defBody (top 46)) = some m_even_of := by kernel_rfl
theorem c34 : comp (mkΓ ["spellings", "sizes", "two", "one"] (defScope (top 47)) tab false) (defBody (top 47)) = some m_distance := by kernel_rfl
theorem c35 : comp (mkΓ ["n", "lanes", "places", "ahead", "clauses", "place"] (defScope (top 48)) tab false) (defBody (top 48)) = some m_lanes_limit := by kernel_rfl
theorem c36 : comp (mkΓ ["left", "right"] (defScope (top 50)) tab false) (defBody (top 50)) = some m_check_fit := by kernel_rfl
theorem c37 : comp (mkΓ ["wires", "wire"] (defScope (top 52)) tab false) (defBody (top 52)) = some m_wire_table := by kernel_rfl
theorem c38 : comp (mkΓ ["table", "wires", "wire"] (defScope (top 53)) tab false) (defBody (top 53)) = some m_count_in := by kernel_rfl
theorem c39 : comp (mkΓ ["limit", "wires", "bound"] (defScope (top 54)) tab false) (defBody (top 54)) = some m_clause_tables := by kernel_rfl
theorem c40 : comp (mkΓ ["tables", "wires", "place", "table", "bound"] (defScope (top 55)) tab false) (defBody (top 55)) = some m_first_beyond := by kernel_rfl
theorem c41 : comp (mkΓ ["words", "tables", "word", "found", "i", "left", "j", "table", "wire"] (defScope (top 56)) tab false) (defBody (top 56)) = some m_word_pairs := by kernel_rfl
theorem c42 : comp (mkΓ ["plan", "found", "state", "entries", "i", "j", "wires", "entry"] (defScope (top 57)) tab false) (defBody (top 57)) = some m_plan_pairs := by kernel_rfl
theorem c43 : comp (mkΓ ["pairs", "sizes", "pair"] (defScope (top 58)) tab false) (defBody (top 58)) = some m_least_gap := by kernel_rfl
theorem c44 : comp (mkΓ ["plan", "limit", "tables", "pair"] (defScope (top 59)) tab false) (defBody (top 59)) = some m_first_bar := by kernel_rfl
theorem c45 : comp (mkΓ ["plan", "limit"] (defScope (top 60)) tab false) (defBody (top 60)) = some m_is_right := by kernel_rfl
theorem c46 : comp (mkΓ ["plan"] (defScope (top 61)) tab false) (defBody (top 61)) = some m_greatest_even := by kernel_rfl
theorem c47 : comp (mkΓ ["number", "step", "one", "two", "three"] (defScope (top 63)) tab false) (defBody (top 63)) = some m_law_mixed := by kernel_rfl
theorem c48 : comp (mkΓ ["script", "cells", "seed", "cell"] (defScope (top 64)) tab false) (defBody (top 64)) = some m_law_store := by kernel_rfl
theorem c49 : comp (mkΓ ["store", "count", "cells", "at", "cell", "found"] (defScope (top 65)) tab false) (defBody (top 65)) = some m_law_take := by kernel_rfl
theorem c50 : comp (mkΓ ["store", "number", "step"] (defScope (top 66)) tab false) (defBody (top 66)) = some m_law_great := by kernel_rfl
theorem c51 : comp (mkΓ ["store", "number", "menu"] (defScope (top 67)) tab false) (defBody (top 67)) = some m_law_no_number := by kernel_rfl
theorem c52 : comp (mkΓ ["store", "least", "high", "share", "value"] (defScope (top 68)) tab false) (defBody (top 68)) = some m_law_outside := by kernel_rfl
theorem c53 : comp (mkΓ ["store", "high", "count", "found", "step", "number", "move"] (defScope (top 69)) tab false) (defBody (top 69)) = some m_law_unlike := by kernel_rfl
theorem c54 : comp (mkΓ ["base", "count", "number", "step"] (defScope (top 70)) tab false) (defBody (top 70)) = some m_law_power := by kernel_rfl
theorem c55 : comp (mkΓ ["value"] (defScope (top 71)) tab false) (defBody (top 71)) = some m_law_kind := by kernel_rfl
theorem c56 : comp (mkΓ ["value"] (defScope (top 72)) tab false) (defBody (top 72)) = some m_law_is_whole := by kernel_rfl
theorem c57 : comp (mkΓ ["mask", "n", "wires", "rest", "wire"] (defScope (top 73)) tab false) (defBody (top 73)) = some m_law_mask_word := by kernel_rfl
theorem c58 : comp (mkΓ ["store", "n", "count", "high", "thin", "found", "step", "one", "two", "mask", "move"] (defScope (top 74)) tab false) (defBody (top 74)) = some m_law_masks := by kernel_rfl
theorem c59 : comp (mkΓ ["store", "n", "count", "mask"] (defScope (top 75)) tab false) (defBody (top 75)) = some m_law_words := by kernel_rfl
theorem c60 : comp (mkΓ ["words", "kept", "word", "fine", "other"] (defScope (top 76)) tab false) (defBody (top 76)) = some m_law_pruned := by kernel_rfl
theorem c61 : comp (mkΓ ["n", "words", "word"] (defScope (top 77)) tab false) (defBody (top 77)) = some m_law_book := by kernel_rfl
theorem c62 : comp (mkΓ ["left", "right", "wire"] (defScope (top 78)) tab false) (defBody (top 78)) = some m_law_less := by kernel_rfl
theorem c63 : comp (mkΓ ["left", "right", "loose", "pairs", "one", "two", "kind", "kin", "at"] (defScope (top 79)) tab false) (defBody (top 79)) = some m_law_equal := by kernel_rfl
theorem c64 : comp (mkΓ ["found", "due"] (defScope (top 80)) tab false) (defBody (top 80)) = some m_law_holds := by kernel_rfl
theorem c65 : comp (mkΓ ["name", "value"] (defScope (top 81)) tab false) (defBody (top 81)) = some m_law_refused := by kernel_rfl
theorem c66 : comp (mkΓ ["base", "rows", "seen", "at", "row", "place"] (defScope (top 82)) tab false) (defBody (top 82)) = some m_law_first_wrong := by kernel_rfl
theorem c67 : comp (mkΓ ["words", "rows", "share", "table", "two", "one", "sums", "at"] (defScope (top 83)) tab false) (defBody (top 83)) = some m_law_least := by kernel_rfl
theorem c68 : comp (mkΓ ["deed", "plan", "rows", "base", "wrong", "words", "pair", "row", "n", "found", "wires", "place", "wire"] (defScope (top 84)) tab false) (defBody (top 84)) = some m_law_due := by kernel_rfl
theorem c69 : comp (mkΓ ["n", "count", "rows", "bound", "at", "clauses", "lane"] (defScope (top 85)) tab false) (defBody (top 85)) = some m_law_due_lanes := by kernel_rfl
theorem c70 : comp (mkΓ ["deed", "plan", "rows", "e"] (defScope (top 86)) tab false) (defBody (top 86)) = some m_law_ask := by kernel_rfl
theorem c71 : comp (mkΓ ["n", "count", "rows", "bound", "e"] (defScope (top 87)) tab false) (defBody (top 87)) = some m_law_ask_lanes := by kernel_rfl
theorem c72 : comp (mkΓ ["store", "base", "size", "count", "found", "number", "row", "rest", "step"] (defScope (top 88)) tab false) (defBody (top 88)) = some m_law_spelled := by kernel_rfl
theorem c73 : comp (mkΓ ["store", "rows", "base", "found", "row", "share", "at"] (defScope (top 89)) tab false) (defBody (top 89)) = some m_law_bent_rows := by kernel_rfl
theorem c74 : comp (mkΓ ["plan", "rows", "handed", "row", "deed", "found"] (defScope (top 90)) tab false) (defBody (top 90)) = some m_law_all_hold := by kernel_rfl
theorem c75 : comp (mkΓ ["n", "count", "rows", "bound"] (defScope (top 91)) tab false) (defBody (top 91)) = some m_law_lanes_hold := by kernel_rfl
theorem c76 : comp (mkΓ ["store", "n", "size", "base", "count", "share", "words"] (defScope (top 92)) tab false) (defBody (top 92)) = some m_law_drawn := by kernel_rfl
theorem c77 : comp (mkΓ ["words", "rows", "places", "bound", "one", "two", "free", "at"] (defScope (top 93)) tab false) (defBody (top 93)) = some m_law_right_places := by kernel_rfl
theorem c78 : comp (mkΓ ["store", "plan", "rows", "size", "found", "words", "pair", "least", "at", "places", "bound", "right", "far", "limit"] (defScope (top 94)) tab false) (defBody (top 94)) = some m_law_book_holds := by kernel_rfl
theorem c79 : comp (mkΓ ["script", "store", "n", "size", "words", "rows", "plan", "state", "word", "wide", "high", "value", "bent"] (defScope (top 95)) tab false) (defBody (top 95)) = some m_law := by kernel_rfl
end K77
end
section
set_option maxRecDepth 100000
set_option maxHeartbeats 0
namespace K77
open PySem PySem.Spec PyProof.Rows L2 EP
def d0 : He.DefD := ⟨("same_parts", none), "same_parts", "same_parts", defArgs (top 1), defBody (top 1), defScope (top 1), [], []⟩
def d1 : He.DefD := ⟨("BadSize", some "__init__"), "__init__", "BadSize.__init__", defArgs (inClass (top 4) 0), defBody (inClass (top 4) 0), defScope (inClass (top 4) 0), [], []⟩
def d2 : He.DefD := ⟨("NoWire", some "__init__"), "__init__", "NoWire.__init__", defArgs (inClass (top 5) 0), defBody (inClass (top 5) 0), defScope (inClass (top 5) 0), [], []⟩
def d3 : He.DefD := ⟨("Twice", some "__init__"), "__init__", "Twice.__init__", defArgs (inClass (top 6) 0), defBody (inClass (top 6) 0), defScope (inClass (top 6) 0), [], []⟩
def d4 : He.DefD := ⟨("NotBook", some "__init__"), "__init__", "NotBook.__init__", defArgs (inClass (top 7) 0), defBody (inClass (top 7) 0), defScope (inClass (top 7) 0), [], []⟩
def d5 : He.DefD := ⟨("BadState", some "__init__"), "__init__", "BadState.__init__", defArgs (inClass (top 8) 0), defBody (inClass (top 8) 0), defScope (inClass (top 8) 0), [], []⟩
def d6 : He.DefD := ⟨("BadNumber", some "__init__"), "__init__", "BadNumber.__init__", defArgs (inClass (top 9) 0), defBody (inClass (top 9) 0), defScope (inClass (top 9) 0), [], []⟩
def d7 : He.DefD := ⟨("BadAhead", some "__init__"), "__init__", "BadAhead.__init__", defArgs (inClass (top 10) 0), defBody (inClass (top 10) 0), defScope (inClass (top 10) 0), [], []⟩
def d8 : He.DefD := ⟨("NoPlace", some "__init__"), "__init__", "NoPlace.__init__", defArgs (inClass (top 11) 0), defBody (inClass (top 11) 0), defScope (inClass (top 11) 0), [], []⟩
def d9 : He.DefD := ⟨("BadSpelling", some "__init__"), "__init__", "BadSpelling.__init__", defArgs (inClass (top 12) 0), defBody (inClass (top 12) 0), defScope (inClass (top 12) 0), [], []⟩
def d10 : He.DefD := ⟨("BadFit", some "__init__"), "__init__", "BadFit.__init__", defArgs (inClass (top 13) 0), defBody (inClass (top 13) 0), defScope (inClass (top 13) 0), [], []⟩
def d11 : He.DefD := ⟨("TooMany", some "__init__"), "__init__", "TooMany.__init__", defArgs (inClass (top 14) 0), defBody (inClass (top 14) 0), defScope (inClass (top 14) 0), [], []⟩
def d12 : He.DefD := ⟨("whole_within", none), "whole_within", "whole_within", defArgs (top 16), defBody (top 16), defScope (top 16), [], []⟩
def d13 : He.DefD := ⟨("less", none), "less", "less", defArgs (top 17), defBody (top 17), defScope (top 17), [], []⟩
def d14 : He.DefD := ⟨("moved", none), "moved", "moved", defArgs (top 18), defBody (top 18), defScope (top 18), [], []⟩
def d15 : He.DefD := ⟨("is_whole", none), "is_whole", "is_whole", defArgs (top 20), defBody (top 20), defScope (top 20), [], []⟩
def d16 : He.DefD := ⟨("is_index", none), "is_index", "is_index", defArgs (top 21), defBody (top 21), defScope (top 21), [], []⟩
def d17 : He.DefD := ⟨("copied", none), "copied", "copied", defArgs (top 22), defBody (top 22), defScope (top 22), [], []⟩
def d18 : He.DefD := ⟨("check_state", none), "check_state", "check_state", defArgs (top 23), defBody (top 23), defScope (top 23), [], []⟩
def d19 : He.DefD := ⟨("is_book", none), "is_book", "is_book", defArgs (top 24), defBody (top 24), defScope (top 24), [], []⟩
def d20 : He.DefD := ⟨("words_of", none), "words_of", "words_of", defArgs (top 25), defBody (top 25), defScope (top 25), [], []⟩
def d21 : He.DefD := ⟨("book_words", none), "book_words", "book_words", defArgs (top 26), defBody (top 26), defScope (top 26), [], []⟩
def d22 : He.DefD := ⟨("is_below", none), "is_below", "is_below", defArgs (top 28), defBody (top 28), defScope (top 28), [], []⟩
def d23 : He.DefD := ⟨("check_book", none), "check_book", "check_book", defArgs (top 29), defBody (top 29), defScope (top 29), [], []⟩
def d24 : He.DefD := ⟨("check_total", none), "check_total", "check_total", defArgs (top 32), defBody (top 32), defScope (top 32), [], []⟩
def d25 : He.DefD := ⟨("book_made", none), "book_made", "book_made", defArgs (top 33), defBody (top 33), defScope (top 33), [], []⟩
def d26 : He.DefD := ⟨("check_ahead", none), "check_ahead", "check_ahead", defArgs (top 39), defBody (top 39), defScope (top 39), [], []⟩
def d27 : He.DefD := ⟨("check_n", none), "check_n", "check_n", defArgs (top 40), defBody (top 40), defScope (top 40), [], []⟩
def d28 : He.DefD := ⟨("check_spellings", none), "check_spellings", "check_spellings", defArgs (top 41), defBody (top 41), defScope (top 41), [], []⟩
def d29 : He.DefD := ⟨("check_places", none), "check_places", "check_places", defArgs (top 42), defBody (top 42), defScope (top 42), [], []⟩
def d30 : He.DefD := ⟨("spelled", none), "spelled", "spelled", defArgs (top 43), defBody (top 43), defScope (top 43), [], []⟩
def d31 : He.DefD := ⟨("letters", none), "letters", "letters", defArgs (top 44), defBody (top 44), defScope (top 44), [], []⟩
def d32 : He.DefD := ⟨("least_between", none), "least_between", "least_between", defArgs (top 45), defBody (top 45), defScope (top 45), [], []⟩
def d33 : He.DefD := ⟨("even_of", none), "even_of", "even_of", defArgs (top 46), defBody (top 46), defScope (top 46), [], []⟩
def d34 : He.DefD := ⟨("distance", none), "distance", "distance", defArgs (top 47), defBody (top 47), defScope (top 47), [], []⟩
def d35 : He.DefD := ⟨("lanes_limit", none), "lanes_limit", "lanes_limit", defArgs (top 48), defBody (top 48), defScope (top 48), [], []⟩
def d36 : He.DefD := ⟨("check_fit", none), "check_fit", "check_fit", defArgs (top 50), defBody (top 50), defScope (top 50), [], []⟩
def d37 : He.DefD := ⟨("wire_table", none), "wire_table", "wire_table", defArgs (top 52), defBody (top 52), defScope (top 52), [], []⟩
def d38 : He.DefD := ⟨("count_in", none), "count_in", "count_in", defArgs (top 53), defBody (top 53), defScope (top 53), [], []⟩
def d39 : He.DefD := ⟨("clause_tables", none), "clause_tables", "clause_tables", defArgs (top 54), defBody (top 54), defScope (top 54), [], []⟩
def d40 : He.DefD := ⟨("first_beyond", none), "first_beyond", "first_beyond", defArgs (top 55), defBody (top 55), defScope (top 55), [], []⟩
def d41 : He.DefD := ⟨("word_pairs", none), "word_pairs", "word_pairs", defArgs (top 56), defBody (top 56), defScope (top 56), [], []⟩
def d42 : He.DefD := ⟨("plan_pairs", none), "plan_pairs", "plan_pairs", defArgs (top 57), defBody (top 57), defScope (top 57), [], []⟩
def d43 : He.DefD := ⟨("least_gap", none), "least_gap", "least_gap", defArgs (top 58), defBody (top 58), defScope (top 58), [], []⟩
def d44 : He.DefD := ⟨("first_bar", none), "first_bar", "first_bar", defArgs (top 59), defBody (top 59), defScope (top 59), [], []⟩
def d45 : He.DefD := ⟨("is_right", none), "is_right", "is_right", defArgs (top 60), defBody (top 60), defScope (top 60), [], []⟩
def d46 : He.DefD := ⟨("greatest_even", none), "greatest_even", "greatest_even", defArgs (top 61), defBody (top 61), defScope (top 61), [], []⟩
def d47 : He.DefD := ⟨("_law_mixed", none), "_law_mixed", "_law_mixed", defArgs (top 63), defBody (top 63), defScope (top 63), [], []⟩
def d48 : He.DefD := ⟨("_law_store", none), "_law_store", "_law_store", defArgs (top 64), defBody (top 64), defScope (top 64), [], []⟩
def d49 : He.DefD := ⟨("_law_take", none), "_law_take", "_law_take", defArgs (top 65), defBody (top 65), defScope (top 65), [], []⟩
def d50 : He.DefD := ⟨("_law_great", none), "_law_great", "_law_great", defArgs (top 66), defBody (top 66), defScope (top 66), [], []⟩
def d51 : He.DefD := ⟨("_law_no_number", none), "_law_no_number", "_law_no_number", defArgs (top 67), defBody (top 67), defScope (top 67), [], []⟩
def d52 : He.DefD := ⟨("_law_outside", none), "_law_outside", "_law_outside", defArgs (top 68), defBody (top 68), defScope (top 68), [], []⟩
def d53 : He.DefD := ⟨("_law_unlike", none), "_law_unlike", "_law_unlike", defArgs (top 69), defBody (top 69), defScope (top 69), [], []⟩
def d54 : He.DefD := ⟨("_law_power", none), "_law_power", "_law_power", defArgs (top 70), defBody (top 70), defScope (top 70), [], []⟩
def d55 : He.DefD := ⟨("_law_kind", none), "_law_kind", "_law_kind", defArgs (top 71), defBody (top 71), defScope (top 71), [], []⟩
def d56 : He.DefD := ⟨("_law_is_whole", none), "_law_is_whole", "_law_is_whole", defArgs (top 72), defBody (top 72), defScope (top 72), [], []⟩
def d57 : He.DefD := ⟨("_law_mask_word", none), "_law_mask_word", "_law_mask_word", defArgs (top 73), defBody (top 73), defScope (top 73), [], []⟩
def d58 : He.DefD := ⟨("_law_masks", none), "_law_masks", "_law_masks", defArgs (top 74), defBody (top 74), defScope (top 74), [], []⟩
def d59 : He.DefD := ⟨("_law_words", none), "_law_words", "_law_words", defArgs (top 75), defBody (top 75), defScope (top 75), [], []⟩
def d60 : He.DefD := ⟨("_law_pruned", none), "_law_pruned", "_law_pruned", defArgs (top 76), defBody (top 76), defScope (top 76), [], []⟩
def d61 : He.DefD := ⟨("_law_book", none), "_law_book", "_law_book", defArgs (top 77), defBody (top 77), defScope (top 77), [], []⟩
def d62 : He.DefD := ⟨("_law_less", none), "_law_less", "_law_less", defArgs (top 78), defBody (top 78), defScope (top 78), [], []⟩
def d63 : He.DefD := ⟨("_law_equal", none), "_law_equal", "_law_equal", defArgs (top 79), defBody (top 79), defScope (top 79), [], []⟩
def d64 : He.DefD := ⟨("_law_holds", none), "_law_holds", "_law_holds", defArgs (top 80), defBody (top 80), defScope (top 80), [], []⟩
def d65 : He.DefD := ⟨("_law_refused", none), "_law_refused", "_law_refused", defArgs (top 81), defBody (top 81), defScope (top 81), [], []⟩
def d66 : He.DefD := ⟨("_law_first_wrong", none), "_law_first_wrong", "_law_first_wrong", defArgs (top 82), defBody (top 82), defScope (top 82), [], []⟩
def d67 : He.DefD := ⟨("_law_least", none), "_law_least", "_law_least", defArgs (top 83), defBody (top 83), defScope (top 83), [], []⟩
def d68 : He.DefD := ⟨("_law_due", none), "_law_due", "_law_due", defArgs (top 84), defBody (top 84), defScope (top 84), [], []⟩
def d69 : He.DefD := ⟨("_law_due_lanes", none), "_law_due_lanes", "_law_due_lanes", defArgs (top 85), defBody (top 85), defScope (top 85), [], []⟩
def d70 : He.DefD := ⟨("_law_ask", none), "_law_ask", "_law_ask", defArgs (top 86), defBody (top 86), defScope (top 86), [], []⟩
def d71 : He.DefD := ⟨("_law_ask_lanes", none), "_law_ask_lanes", "_law_ask_lanes", defArgs (top 87), defBody (top 87), defScope (top 87), [], []⟩
def d72 : He.DefD := ⟨("_law_spelled", none), "_law_spelled", "_law_spelled", defArgs (top 88), defBody (top 88), defScope (top 88), [], []⟩
def d73 : He.DefD := ⟨("_law_bent_rows", none), "_law_bent_rows", "_law_bent_rows", defArgs (top 89), defBody (top 89), defScope (top 89), [], []⟩
def d74 : He.DefD := ⟨("_law_all_hold", none), "_law_all_hold", "_law_all_hold", defArgs (top 90), defBody (top 90), defScope (top 90), [], []⟩
def d75 : He.DefD := ⟨("_law_lanes_hold", none), "_law_lanes_hold", "_law_lanes_hold", defArgs (top 91), defBody (top 91), defScope (top 91), [], []⟩
def d76 : He.DefD := ⟨("_law_drawn", none), "_law_drawn", "_law_drawn", defArgs (top 92), defBody (top 92), defScope (top 92), [], []⟩
def d77 : He.DefD := ⟨("_law_right_places", none), "_law_right_places", "_law_right_places", defArgs (top 93), defBody (top 93), defScope (top 93), [], []⟩
def d78 : He.DefD := ⟨("_law_book_holds", none), "_law_book_holds", "_law_book_holds", defArgs (top 94), defBody (top 94), defScope (top 94), [], []⟩
def d79 : He.DefD := ⟨("law", none), "law", "law", defArgs (top 95), defBody (top 95), defScope (top 95), [], []⟩
def fn_0 : List He.DefD := [d0, d1, d2, d3, d4, d5, d6, d7, d8, d9, d10, d11, d12, d13, d14, d15, d16, d17, d18, d19, d20, d21, d22, d23, d24, d25, d26, d27, d28, d29]
def fn_1 : List He.DefD := [d30, d31, d32, d33, d34, d35, d36, d37, d38, d39, d40, d41, d42, d43, d44, d45, d46, d47, d48, d49, d50, d51, d52, d53, d54, d55, d56, d57, d58, d59]
def fn_2 : List He.DefD := [d60, d61, d62, d63, d64, d65, d66, d67, d68, d69, d70, d71, d72, d73, d74, d75, d76, d77, d78, d79]
def fn : List He.DefD := fn_0 ++ fn_1 ++ fn_2
def fa_0 : List He.Fa := [.glo "same_parts", .glo "whole_within", .glo "less", .glo "moved", .glo "is_whole", .glo "is_index", .glo "copied", .glo "check_state", .glo "is_book", .glo "words_of", .glo "book_words", .glo "is_below", .glo "check_book", .glo "check_total", .glo "book_made", .glo "check_ahead", .glo "check_n", .glo "check_spellings", .glo "check_places", .glo "spelled", .glo "letters", .glo "least_between", .glo "even_of", .glo "distance", .glo "lanes_limit", .glo "check_fit", .glo "wire_table", .glo "count_in", .glo "clause_tables", .glo "first_beyond"]
def fa_1 : List He.Fa := [.glo "word_pairs", .glo "plan_pairs", .glo "least_gap", .glo "first_bar", .glo "is_right", .glo "greatest_even", .glo "_law_mixed", .glo "_law_store", .glo "_law_take", .glo "_law_great", .glo "_law_no_number", .glo "_law_outside", .glo "_law_unlike", .glo "_law_power", .glo "_law_kind", .glo "_law_is_whole", .glo "_law_mask_word", .glo "_law_masks", .glo "_law_words", .glo "_law_pruned", .glo "_law_book", .glo "_law_less", .glo "_law_equal", .glo "_law_holds", .glo "_law_refused", .glo "_law_first_wrong", .glo "_law_least", .glo "_law_due", .glo "_law_due_lanes", .glo "_law_ask"]
def fa_2 : List He.Fa := [.glo "_law_ask_lanes", .glo "_law_spelled", .glo "_law_bent_rows", .glo "_law_all_hold", .glo "_law_lanes_hold", .glo "_law_drawn", .glo "_law_right_places", .glo "_law_book_holds", .glo "law"]
def fa : List He.Fa := fa_0 ++ fa_1 ++ fa_2
def loose_0 : List PySem.Str := ["same_parts", "PulseError", "NoSpelling", "BadSize", "NoWire", "Twice", "NotBook", "BadState", "BadNumber", "BadAhead", "NoPlace", "BadSpelling", "BadFit", "TooMany", "whole_within", "less", "moved", "is_whole", "is_index", "copied", "check_state", "is_book", "words_of", "book_words", "is_below", "check_book", "MOST_WIRES", "check_total", "book_made", "MOST_SPELLINGS"]
def loose_1 : List PySem.Str := ["MOST_LENGTH", "MOST_AHEAD", "MOST_N", "check_ahead", "check_n", "check_spellings", "check_places", "spelled", "letters", "least_between", "even_of", "distance", "lanes_limit", "check_fit", "wire_table", "count_in", "clause_tables", "first_beyond", "word_pairs", "plan_pairs", "least_gap", "first_bar", "is_right", "greatest_even", "_law_mixed", "_law_store", "_law_take", "_law_great", "_law_no_number", "_law_outside"]
def loose_2 : List PySem.Str := ["_law_unlike", "_law_power", "_law_kind", "_law_is_whole", "_law_mask_word", "_law_masks", "_law_words", "_law_pruned", "_law_book", "_law_less", "_law_equal", "_law_holds", "_law_refused", "_law_first_wrong", "_law_least", "_law_due", "_law_due_lanes", "_law_ask", "_law_ask_lanes", "_law_spelled", "_law_bent_rows", "_law_all_hold", "_law_lanes_hold", "_law_drawn", "_law_right_places", "_law_book_holds"]
def loose : List PySem.Str := loose_0 ++ loose_1 ++ loose_2
abbrev R : PySem.W.OpenRow := PySem.W.OpenLaw.row PySem.Challenge.rw_earlypulses_k77_spelled_books
abbrev hk : PySem.W.Hook := hookP 4 fa fn (exB tab)
def ob (s : PySem.W.SharedT) : He.AlD := obsPG 4 fa fn (exB tab) (HandSHeadRun.getT s)
theorem ob_eq (s : PySem.W.SharedT) : ob s = hk.obs s.abs := obsPG_eq (HandSHeadRun.getT_eq s)
noncomputable abbrev eF (w : World) (os : OsState) : Option PySem.W.SharedT := HandSHeadRun.endF (HandSHeadRun.stepQ (HandSHeadRun.denQ HandSHeadRun.tabQ) R.prog w) 20000 R.prog w os
open PySem.W PySem.Calls in
theorem runA (w : World) (os : OsState) : (eF w os).map (fun s => (HandSHeadRun.looksF R.prog (boot_heap w.params) s.abs, HandSHeadRun.seenQ (PySem.W.view R.prog [95]) loose (importedModules R.prog.main.body) (fun s => PySem.W.xlAt (PySem.W.view R.prog [95]) [] s && PySem.W.recOk R.toRowW.records s) s.abs)) = some (true, PySem.W.openGood (PySem.W.view R.prog [95]) loose) := by
  kernel_rfl
theorem runB1 (w : World) (os : OsState) : (eF w os).map (fun s => (He.obsD fa fn (frT 4 s)).1) = some true := by
  kernel_rfl
theorem runB2 (w : World) (os : OsState) : (eF w os).map (fun s => (He.obsD fa fn (frT 4 s)).2) = some (fn.map He.DefD.val) := by
  kernel_rfl
theorem runC (w : World) (os : OsState) : (eF w os).map (fun s => exB1 tab (frT 4 s)) = some true := by
  kernel_rfl
theorem runD (w : World) (os : OsState) : (eF w os).map (fun s => exB2 tab (frT 4 s)) = some true := by
  kernel_rfl
theorem run (w : World) : HandSHeadRun.RunEq R (PySem.W.view R.prog [95]) hk ob 20000 loose w := fun os => run_parts (runA w os) (runB1 w os) (runB2 w os) (runC w os) (runD w os)
end K77
end
section
set_option maxRecDepth 100000
set_option maxHeartbeats 0
namespace K77
open PySem PySem.Spec PyProof.Rows L2 EP
section
variable {P : Program} {w : World} {K : PySem.W.Frag} {h base : Heap} {mg : Str → Option Value}
theorem b0 : BindOk d0 ["value"] := fun _ _ _ _ _ _ us hl => match us, hl with | [_], _ => by kernel_rfl
theorem f0 (c : SaysP fa fn (exB tab) K) (X : K.In h) (Gn : h.Ns mainGlobals mg) : FP P w K mg base tab D ((Str.ofString "same_parts"), 0, 1) := fp_of (N := ["value", "part"]) (ps := ["value"]) (tk := false) c.1 X Gn ⟨0, by rfl⟩ (d := d0) (by rfl) (by rfl) (by rfl) (by rfl) b0 (by kernel_rfl) c0 (by rfl)
theorem b1 : BindOk d1 ("self" :: ["size"]) := fun _ _ _ _ _ _ us hl => match us, hl with | [_, _], _ => by kernel_rfl
theorem x1 (c : SaysP fa fn (exB tab) K) (X : K.In h) (Gn : h.Ns mainGlobals mg) (F0 : ClsF K mg "BadSize" ["size"]) : XP P w K mg base tab D ((Str.ofString "BadSize"), 1, ["size"]) := xp_of (sp := 0) c.1 F0 (d := d1) (by rfl) (by rfl) (by rfl) (by rfl) b1 (by kernel_rfl) (by kernel_rfl) c1 (by rfl)
theorem b2 : BindOk d2 ("self" :: ["wire"]) := fun _ _ _ _ _ _ us hl => match us, hl with | [_, _], _ => by kernel_rfl
theorem x2 (c : SaysP fa fn (exB tab) K) (X : K.In h) (Gn : h.Ns mainGlobals mg) (F0 : ClsF K mg "NoWire" ["wire"]) : XP P w K mg base tab D ((Str.ofString "NoWire"), 2, ["wire"]) := xp_of (sp := 0) c.1 F0 (d := d2) (by rfl) (by rfl) (by rfl) (by rfl) b2 (by kernel_rfl) (by kernel_rfl) c2 (by rfl)
theorem b3 : BindOk d3 ("self" :: ["wire"]) := fun _ _ _ _ _ _ us hl => match us, hl with | [_, _], _ => by kernel_rfl
theorem x3 (c : SaysP fa fn (exB tab) K) (X : K.In h) (Gn : h.Ns mainGlobals mg) (F0 : ClsF K mg "Twice" ["wire"]) : XP P w K mg base tab D ((Str.ofString "Twice"), 3, ["wire"]) := xp_of (sp := 0) c.1 F0 (d := d3) (by rfl) (by rfl) (by rfl) (by rfl) b3 (by kernel_rfl) (by kernel_rfl) c3 (by rfl)
theorem b4 : BindOk d4 ("self" :: ["states"]) := fun _ _ _ _ _ _ us hl => match us, hl with | [_, _], _ => by kernel_rfl
theorem x4 (c : SaysP fa fn (exB tab) K) (X : K.In h) (Gn : h.Ns mainGlobals mg) (F0 : ClsF K mg "NotBook" ["states"]) : XP P w K mg base tab D ((Str.ofString "NotBook"), 4, ["states"]) := xp_of (sp := 0) c.1 F0 (d := d4) (by rfl) (by rfl) (by rfl) (by rfl) b4 (by kernel_rfl) (by kernel_rfl) c4 (by rfl)
theorem b5 : BindOk d5 ("self" :: ["value"]) := fun _ _ _ _ _ _ us hl => match us, hl with | [_, _], _ => by kernel_rfl
theorem x5 (c : SaysP fa fn (exB tab) K) (X : K.In h) (Gn : h.Ns mainGlobals mg) (F0 : ClsF K mg "BadState" ["value"]) : XP P w K mg base tab D ((Str.ofString "BadState"), 5, ["value"]) := xp_of (sp := 0) c.1 F0 (d := d5) (by rfl) (by rfl) (by rfl) (by rfl) b5 (by kernel_rfl) (by kernel_rfl) c5 (by rfl)
theorem b6 : BindOk d6 ("self" :: ["place"]) := fun _ _ _ _ _ _ us hl => match us, hl with | [_, _], _ => by kernel_rfl
theorem x6 (c : SaysP fa fn (exB tab) K) (X : K.In h) (Gn : h.Ns mainGlobals mg) (F0 : ClsF K mg "BadNumber" ["place"]) : XP P w K mg base tab D ((Str.ofString "BadNumber"), 6, ["place"]) := xp_of (sp := 0) c.1 F0 (d := d6) (by rfl) (by rfl) (by rfl) (by rfl) b6 (by kernel_rfl) (by kernel_rfl) c6 (by rfl)
theorem b7 : BindOk d7 ("self" :: ["value"]) := fun _ _ _ _ _ _ us hl => match us, hl with | [_, _], _ => by kernel_rfl
theorem x7 (c : SaysP fa fn (exB tab) K) (X : K.In h) (Gn : h.Ns mainGlobals mg) (F0 : ClsF K mg "BadAhead" ["value"]) : XP P w K mg base tab D ((Str.ofString "BadAhead"), 7, ["value"]) := xp_of (sp := 0) c.1 F0 (d := d7) (by rfl) (by rfl) (by rfl) (by rfl) b7 (by kernel_rfl) (by kernel_rfl) c7 (by rfl)
theorem b8 : BindOk d8 ("self" :: ["place"]) := fun _ _ _ _ _ _ us hl => match us, hl with | [_, _], _ => by kernel_rfl
theorem x8 (c : SaysP fa fn (exB tab) K) (X : K.In h) (Gn : h.Ns mainGlobals mg) (F0 : ClsF K mg "NoPlace" ["place"]) : XP P w K mg base tab D ((Str.ofString "NoPlace"), 8, ["place"]) := xp_of (sp := 0) c.1 F0 (d := d8) (by rfl) (by rfl) (by rfl) (by rfl) b8 (by kernel_rfl) (by kernel_rfl) c8 (by rfl)
theorem b9 : BindOk d9 ("self" :: ["place"]) := fun _ _ _ _ _ _ us hl => match us, hl with | [_, _], _ => by kernel_rfl
theorem x9 (c : SaysP fa fn (exB tab) K) (X : K.In h) (Gn : h.Ns mainGlobals mg) (F0 : ClsF K mg "BadSpelling" ["place"]) : XP P w K mg base tab D ((Str.ofString "BadSpelling"), 9, ["place"]) := xp_of (sp := 0) c.1 F0 (d := d9) (by rfl) (by rfl) (by rfl) (by rfl) b9 (by kernel_rfl) (by kernel_rfl) c9 (by rfl)
theorem b10 : BindOk d10 ("self" :: ["left", "right"]) := fun _ _ _ _ _ _ us hl => match us, hl with | [_, _, _], _ => by kernel_rfl
theorem x10 (c : SaysP fa fn (exB tab) K) (X : K.In h) (Gn : h.Ns mainGlobals mg) (F0 : ClsF K mg "BadFit" ["left", "right"]) : XP P w K mg base tab D ((Str.ofString "BadFit"), 10, ["left", "right"]) := xp_of (sp := 0) c.1 F0 (d := d10) (by rfl) (by rfl) (by rfl) (by rfl) b10 (by kernel_rfl) (by kernel_rfl) c10 (by rfl)
theorem b11 : BindOk d11 ("self" :: ["what", "most"]) := fun _ _ _ _ _ _ us hl => match us, hl with | [_, _, _], _ => by kernel_rfl
theorem x11 (c : SaysP fa fn (exB tab) K) (X : K.In h) (Gn : h.Ns mainGlobals mg) (F0 : ClsF K mg "TooMany" ["what", "most"]) : XP P w K mg base tab D ((Str.ofString "TooMany"), 11, ["what", "most"]) := xp_of (sp := 0) c.1 F0 (d := d11) (by rfl) (by rfl) (by rfl) (by rfl) b11 (by kernel_rfl) (by kernel_rfl) c11 (by rfl)
theorem b12 : BindOk d12 ["value", "least", "most"] := fun _ _ _ _ _ _ us hl => match us, hl with | [_, _, _], _ => by kernel_rfl
theorem f12 (c : SaysP fa fn (exB tab) K) (X : K.In h) (Gn : h.Ns mainGlobals mg) : FP P w K mg base tab D ((Str.ofString "whole_within"), 12, 3) := fp_of (N := ["value", "least", "most"]) (ps := ["value", "least", "most"]) (tk := false) c.1 X Gn ⟨1, by rfl⟩ (d := d12) (by rfl) (by rfl) (by rfl) (by rfl) b12 (by kernel_rfl) c12 (by rfl)
theorem b13 : BindOk d13 ["left", "right"] := fun _ _ _ _ _ _ us hl => match us, hl with | [_, _], _ => by kernel_rfl
theorem f13 (c : SaysP fa fn (exB tab) K) (X : K.In h) (Gn : h.Ns mainGlobals mg) : FP P w K mg base tab D ((Str.ofString "less"), 13, 2) := fp_of (N := ["left", "right", "gone", "wire"]) (ps := ["left", "right"]) (tk := false) c.1 X Gn ⟨2, by rfl⟩ (d := d13) (by rfl) (by rfl) (by rfl) (by rfl) b13 (by kernel_rfl) c13 (by rfl)
theorem b14 : BindOk d14 ["wires", "by"] := fun _ _ _ _ _ _ us hl => match us, hl with | [_, _], _ => by kernel_rfl
theorem f14 (c : SaysP fa fn (exB tab) K) (X : K.In h) (Gn : h.Ns mainGlobals mg) : FP P w K mg base tab D ((Str.ofString "moved"), 14, 2) := fp_of (N := ["wires", "by", "wire"]) (ps := ["wires", "by"]) (tk := false) c.1 X Gn ⟨3, by rfl⟩ (d := d14) (by rfl) (by rfl) (by rfl) (by rfl) b14 (by kernel_rfl) c14 (by rfl)
theorem b15 : BindOk d15 ["value"] := fun _ _ _ _ _ _ us hl => match us, hl with | [_], _ => by kernel_rfl
theorem f15 (c : SaysP fa fn (exB tab) K) (X : K.In h) (Gn : h.Ns mainGlobals mg) : FP P w K mg base tab D ((Str.ofString "is_whole"), 15, 1) := fp_of (N := ["value"]) (ps := ["value"]) (tk := false) c.1 X Gn ⟨4, by rfl⟩ (d := d15) (by rfl) (by rfl) (by rfl) (by rfl) b15 (by kernel_rfl) c15 (by rfl)
theorem b16 : BindOk d16 ["value", "many"] := fun _ _ _ _ _ _ us hl => match us, hl with | [_, _], _ => by kernel_rfl
theorem f16 (c : SaysP fa fn (exB tab) K) (X : K.In h) (Gn : h.Ns mainGlobals mg) : FP P w K mg base tab D ((Str.ofString "is_index"), 16, 2) := fp_of (N := ["value", "many"]) (ps := ["value", "many"]) (tk := false) c.1 X Gn ⟨5, by rfl⟩ (d := d16) (by rfl) (by rfl) (by rfl) (by rfl) b16 (by kernel_rfl) c16 (by rfl)
theorem b17 : BindOk d17 ["value"] := fun _ _ _ _ _ _ us hl => match us, hl with | [_], _ => by kernel_rfl
theorem f17 (c : SaysP fa fn (exB tab) K) (X : K.In h) (Gn : h.Ns mainGlobals mg) : FP P w K mg base tab D ((Str.ofString "copied"), 17, 1) := fp_of (N := ["value", "part"]) (ps := ["value"]) (tk := false) c.1 X Gn ⟨6, by rfl⟩ (d := d17) (by rfl) (by rfl) (by rfl) (by rfl) b17 (by kernel_rfl) c17 (by rfl)
theorem b18 : BindOk d18 ["plan", "state"] := fun _ _ _ _ _ _ us hl => match us, hl with | [_, _], _ => by kernel_rfl
theorem f18 (c : SaysP fa fn (exB tab) K) (X : K.In h) (Gn : h.Ns mainGlobals mg) : FP P w K mg base tab D ((Str.ofString "check_state"), 18, 2) := fp_of (N := ["plan", "state"]) (ps := ["plan", "state"]) (tk := false) c.1 X Gn ⟨7, by rfl⟩ (d := d18) (by rfl) (by rfl) (by rfl) (by rfl) b18 (by kernel_rfl) c18 (by rfl)
theorem b19 : BindOk d19 ["plan"] := fun _ _ _ _ _ _ us hl => match us, hl with | [_], _ => by kernel_rfl
theorem f19 (c : SaysP fa fn (exB tab) K) (X : K.In h) (Gn : h.Ns mainGlobals mg) : FP P w K mg base tab D ((Str.ofString "is_book"), 19, 1) := fp_of (N := ["plan"]) (ps := ["plan"]) (tk := false) c.1 X Gn ⟨8, by rfl⟩ (d := d19) (by rfl) (by rfl) (by rfl) (by rfl) b19 (by kernel_rfl) c19 (by rfl)
theorem b20 : BindOk d20 ["plan", "state"] := fun _ _ _ _ _ _ us hl => match us, hl with | [_, _], _ => by kernel_rfl
theorem f20 (c : SaysP fa fn (exB tab) K) (X : K.In h) (Gn : h.Ns mainGlobals mg) : FP P w K mg base tab D ((Str.ofString "words_of"), 20, 2) := fp_of (N := ["plan", "state", "word", "spare"]) (ps := ["plan", "state"]) (tk := false) c.1 X Gn ⟨9, by rfl⟩ (d := d20) (by rfl) (by rfl) (by rfl) (by rfl) b20 (by kernel_rfl) c20 (by rfl)
theorem b21 : BindOk d21 ["book"] := fun _ _ _ _ _ _ us hl => match us, hl with | [_], _ => by kernel_rfl
theorem f21 (c : SaysP fa fn (exB tab) K) (X : K.In h) (Gn : h.Ns mainGlobals mg) : FP P w K mg base tab D ((Str.ofString "book_words"), 21, 1) := fp_of (N := ["book"]) (ps := ["book"]) (tk := false) c.1 X Gn ⟨10, by rfl⟩ (d := d21) (by rfl) (by rfl) (by rfl) (by rfl) b21 (by kernel_rfl) c21 (by rfl)
theorem b22 : BindOk d22 ["value", "end"] := fun _ _ _ _ _ _ us hl => match us, hl with | [_, _], _ => by kernel_rfl
theorem f22 (c : SaysP fa fn (exB tab) K) (X : K.In h) (Gn : h.Ns mainGlobals mg) : FP P w K mg base tab D ((Str.ofString "is_below"), 22, 2) := fp_of (N := ["value", "end"]) (ps := ["value", "end"]) (tk := false) c.1 X Gn ⟨11, by rfl⟩ (d := d22) (by rfl) (by rfl) (by rfl) (by rfl) b22 (by kernel_rfl) c22 (by rfl)
theorem b23 : BindOk d23 ["book"] := fun _ _ _ _ _ _ us hl => match us, hl with | [_], _ => by kernel_rfl
theorem f23 (c : SaysP fa fn (exB tab) K) (X : K.In h) (Gn : h.Ns mainGlobals mg) : FP P w K mg base tab D ((Str.ofString "check_book"), 23, 1) := fp_of (N := ["book"]) (ps := ["book"]) (tk := false) c.1 X Gn ⟨12, by rfl⟩ (d := d23) (by rfl) (by rfl) (by rfl) (by rfl) b23 (by kernel_rfl) c23 (by rfl)
theorem b24 : BindOk d24 ["many"] := fun _ _ _ _ _ _ us hl => match us, hl with | [_], _ => by kernel_rfl
theorem f24 (c : SaysP fa fn (exB tab) K) (X : K.In h) (Gn : h.Ns mainGlobals mg) : FP P w K mg base tab D ((Str.ofString "check_total"), 24, 1) := fp_of (N := ["many"]) (ps := ["many"]) (tk := false) c.1 X Gn ⟨13, by rfl⟩ (d := d24) (by rfl) (by rfl) (by rfl) (by rfl) b24 (by kernel_rfl) c24 (by rfl)
theorem b25 : BindOk d25 ["n", "words"] := fun _ _ _ _ _ _ us hl => match us, hl with | [_, _], _ => by kernel_rfl
theorem f25 (c : SaysP fa fn (exB tab) K) (X : K.In h) (Gn : h.Ns mainGlobals mg) : FP P w K mg base tab D ((Str.ofString "book_made"), 25, 2) := fp_of (N := ["n", "words", "word"]) (ps := ["n", "words"]) (tk := false) c.1 X Gn ⟨14, by rfl⟩ (d := d25) (by rfl) (by rfl) (by rfl) (by rfl) b25 (by kernel_rfl) c25 (by rfl)
theorem b26 : BindOk d26 ["ahead"] := fun _ _ _ _ _ _ us hl => match us, hl with | [_], _ => by kernel_rfl
theorem f26 (c : SaysP fa fn (exB tab) K) (X : K.In h) (Gn : h.Ns mainGlobals mg) : FP P w K mg base tab D ((Str.ofString "check_ahead"), 26, 1) := fp_of (N := ["ahead"]) (ps := ["ahead"]) (tk := false) c.1 X Gn ⟨15, by rfl⟩ (d := d26) (by rfl) (by rfl) (by rfl) (by rfl) b26 (by kernel_rfl) c26 (by rfl)
theorem b27 : BindOk d27 ["n"] := fun _ _ _ _ _ _ us hl => match us, hl with | [_], _ => by kernel_rfl
theorem f27 (c : SaysP fa fn (exB tab) K) (X : K.In h) (Gn : h.Ns mainGlobals mg) : FP P w K mg base tab D ((Str.ofString "check_n"), 27, 1) := fp_of (N := ["n"]) (ps := ["n"]) (tk := false) c.1 X Gn ⟨16, by rfl⟩ (d := d27) (by rfl) (by rfl) (by rfl) (by rfl) b27 (by kernel_rfl) c27 (by rfl)
theorem b28 : BindOk d28 ["many", "spellings"] := fun _ _ _ _ _ _ us hl => match us, hl with | [_, _], _ => by kernel_rfl
theorem f28 (c : SaysP fa fn (exB tab) K) (X : K.In h) (Gn : h.Ns mainGlobals mg) : FP P w K mg base tab D ((Str.ofString "check_spellings"), 28, 2) := fp_of (N := ["many", "spellings", "seen", "place", "spelling", "at", "number"]) (ps := ["many", "spellings"]) (tk := true) c.1 X Gn ⟨17, by rfl⟩ (d := d28) (by rfl) (by rfl) (by rfl) (by rfl) b28 (by kernel_rfl) c28 (by rfl)
theorem b29 : BindOk d29 ["lanes", "places"] := fun _ _ _ _ _ _ us hl => match us, hl with | [_, _], _ => by kernel_rfl
theorem f29 (c : SaysP fa fn (exB tab) K) (X : K.In h) (Gn : h.Ns mainGlobals mg) : FP P w K mg base tab D ((Str.ofString "check_places"), 29, 2) := fp_of (N := ["lanes", "places", "seen", "value"]) (ps := ["lanes", "places"]) (tk := false) c.1 X Gn ⟨18, by rfl⟩ (d := d29) (by rfl) (by rfl) (by rfl) (by rfl) b29 (by kernel_rfl) c29 (by rfl)
theorem b30 : BindOk d30 ["n", "words", "spelling"] := fun _ _ _ _ _ _ us hl => match us, hl with | [_, _, _], _ => by kernel_rfl
theorem f30 (c : SaysP fa fn (exB tab) K) (X : K.In h) (Gn : h.Ns mainGlobals mg) : FP P w K mg base tab D ((Str.ofString "spelled"), 30, 3) := fp_of (N := ["n", "words", "spelling", "wires", "at", "number"]) (ps := ["n", "words", "spelling"]) (tk := false) c.1 X Gn ⟨19, by rfl⟩ (d := d30) (by rfl) (by rfl) (by rfl) (by rfl) b30 (by kernel_rfl) c30 (by rfl)
theorem b31 : BindOk d31 ["book", "spellings"] := fun _ _ _ _ _ _ us hl => match us, hl with | [_, _], _ => by kernel_rfl
theorem f31 (c : SaysP fa fn (exB tab) K) (X : K.In h) (Gn : h.Ns mainGlobals mg) : FP P w K mg base tab D ((Str.ofString "letters"), 31, 2) := fp_of (N := ["book", "spellings", "words", "many", "spelling"]) (ps := ["book", "spellings"]) (tk := false) c.1 X Gn ⟨20, by rfl⟩ (d := d31) (by rfl) (by rfl) (by rfl) (by rfl) b31 (by kernel_rfl) c31 (by rfl)
theorem b32 : BindOk d32 ["spellings", "sizes"] := fun _ _ _ _ _ _ us hl => match us, hl with | [_, _], _ => by kernel_rfl
theorem f32 (c : SaysP fa fn (exB tab) K) (X : K.In h) (Gn : h.Ns mainGlobals mg) : FP P w K mg base tab D ((Str.ofString "least_between"), 32, 2) := fp_of (N := ["spellings", "sizes", "least", "place", "left", "other", "right", "found", "one", "two"]) (ps := ["spellings", "sizes"]) (tk := false) c.1 X Gn ⟨21, by rfl⟩ (d := d32) (by rfl) (by rfl) (by rfl) (by rfl) b32 (by kernel_rfl) c32 (by rfl)
theorem b33 : BindOk d33 ["book", "spellings"] := fun _ _ _ _ _ _ us hl => match us, hl with | [_, _], _ => by kernel_rfl
theorem f33 (c : SaysP fa fn (exB tab) K) (X : K.In h) (Gn : h.Ns mainGlobals mg) : FP P w K mg base tab D ((Str.ofString "even_of"), 33, 2) := fp_of (N := ["book", "spellings", "words", "sizes", "right", "left", "least"]) (ps := ["book", "spellings"]) (tk := false) c.1 X Gn ⟨22, by rfl⟩ (d := d33) (by rfl) (by rfl) (by rfl) (by rfl) b33 (by kernel_rfl) c33 (by rfl)
theorem b34 : BindOk d34 ["spellings"] := fun _ _ _ _ _ _ us hl => match us, hl with | [_], _ => by kernel_rfl
theorem f34 (c : SaysP fa fn (exB tab) K) (X : K.In h) (Gn : h.Ns mainGlobals mg) : FP P w K mg base tab D ((Str.ofString "distance"), 34, 1) := fp_of (N := ["spellings", "sizes", "two", "one"]) (ps := ["spellings"]) (tk := false) c.1 X Gn ⟨23, by rfl⟩ (d := d34) (by rfl) (by rfl) (by rfl) (by rfl) b34 (by kernel_rfl) c34 (by rfl)
theorem b35 : BindOk d35 ["n", "lanes", "places", "ahead"] := fun _ _ _ _ _ _ us hl => match us, hl with | [_, _, _, _], _ => by kernel_rfl
theorem f35 (c : SaysP fa fn (exB tab) K) (X : K.In h) (Gn : h.Ns mainGlobals mg) : FP P w K mg base tab D ((Str.ofString "lanes_limit"), 35, 4) := fp_of (N := ["n", "lanes", "places", "ahead", "clauses", "place"]) (ps := ["n", "lanes", "places", "ahead"]) (tk := false) c.1 X Gn ⟨24, by rfl⟩ (d := d35) (by rfl) (by rfl) (by rfl) (by rfl) b35 (by kernel_rfl) c35 (by rfl)
theorem b36 : BindOk d36 ["left", "right"] := fun _ _ _ _ _ _ us hl => match us, hl with | [_, _], _ => by kernel_rfl
theorem f36 (c : SaysP fa fn (exB tab) K) (X : K.In h) (Gn : h.Ns mainGlobals mg) : FP P w K mg base tab D ((Str.ofString "check_fit"), 36, 2) := fp_of (N := ["left", "right"]) (ps := ["left", "right"]) (tk := false) c.1 X Gn ⟨25, by rfl⟩ (d := d36) (by rfl) (by rfl) (by rfl) (by rfl) b36 (by kernel_rfl) c36 (by rfl)
theorem b37 : BindOk d37 ["wires"] := fun _ _ _ _ _ _ us hl => match us, hl with | [_], _ => by kernel_rfl
theorem f37 (c : SaysP fa fn (exB tab) K) (X : K.In h) (Gn : h.Ns mainGlobals mg) : FP P w K mg base tab D ((Str.ofString "wire_table"), 37, 1) := fp_of (N := ["wires", "wire"]) (ps := ["wires"]) (tk := false) c.1 X Gn ⟨26, by rfl⟩ (d := d37) (by rfl) (by rfl) (by rfl) (by rfl) b37 (by kernel_rfl) c37 (by rfl)
theorem b38 : BindOk d38 ["table", "wires"] := fun _ _ _ _ _ _ us hl => match us, hl with | [_, _], _ => by kernel_rfl
theorem f38 (c : SaysP fa fn (exB tab) K) (X : K.In h) (Gn : h.Ns mainGlobals mg) : FP P w K mg base tab D ((Str.ofString "count_in"), 38, 2) := fp_of (N := ["table", "wires", "wire"]) (ps := ["table", "wires"]) (tk := false) c.1 X Gn ⟨27, by rfl⟩ (d := d38) (by rfl) (by rfl) (by rfl) (by rfl) b38 (by kernel_rfl) c38 (by rfl)
theorem b39 : BindOk d39 ["limit"] := fun _ _ _ _ _ _ us hl => match us, hl with | [_], _ => by kernel_rfl
theorem f39 (c : SaysP fa fn (exB tab) K) (X : K.In h) (Gn : h.Ns mainGlobals mg) : FP P w K mg base tab D ((Str.ofString "clause_tables"), 39, 1) := fp_of (N := ["limit", "wires", "bound"]) (ps := ["limit"]) (tk := false) c.1 X Gn ⟨28, by rfl⟩ (d := d39) (by rfl) (by rfl) (by rfl) (by rfl) b39 (by kernel_rfl) c39 (by rfl)
theorem b40 : BindOk d40 ["tables", "wires"] := fun _ _ _ _ _ _ us hl => match us, hl with | [_, _], _ => by kernel_rfl
theorem f40 (c : SaysP fa fn (exB tab) K) (X : K.In h) (Gn : h.Ns mainGlobals mg) : FP P w K mg base tab D ((Str.ofString "first_beyond"), 40, 2) := fp_of (N := ["tables", "wires", "place", "table", "bound"]) (ps := ["tables", "wires"]) (tk := false) c.1 X Gn ⟨29, by rfl⟩ (d := d40) (by rfl) (by rfl) (by rfl) (by rfl) b40 (by kernel_rfl) c40 (by rfl)
theorem b41 : BindOk d41 ["words"] := fun _ _ _ _ _ _ us hl => match us, hl with | [_], _ => by kernel_rfl
theorem f41 (c : SaysP fa fn (exB tab) K) (X : K.In h) (Gn : h.Ns mainGlobals mg) : FP P w K mg base tab D ((Str.ofString "word_pairs"), 41, 1) := fp_of (N := ["words", "tables", "word", "found", "i", "left", "j", "table", "wire"]) (ps := ["words"]) (tk := false) c.1 X Gn ⟨30, by rfl⟩ (d := d41) (by rfl) (by rfl) (by rfl) (by rfl) b41 (by kernel_rfl) c41 (by rfl)
theorem b42 : BindOk d42 ["plan"] := fun _ _ _ _ _ _ us hl => match us, hl with | [_], _ => by kernel_rfl
theorem f42 (c : SaysP fa fn (exB tab) K) (X : K.In h) (Gn : h.Ns mainGlobals mg) : FP P w K mg base tab D ((Str.ofString "plan_pairs"), 42, 1) := fp_of (N := ["plan", "found", "state", "entries", "i", "j", "wires", "entry"]) (ps := ["plan"]) (tk := false) c.1 X Gn ⟨31, by rfl⟩ (d := d42) (by rfl) (by rfl) (by rfl) (by rfl) b42 (by kernel_rfl) c42 (by rfl)
theorem b43 : BindOk d43 ["pairs"] := fun _ _ _ _ _ _ us hl => match us, hl with | [_], _ => by kernel_rfl
theorem f43 (c : SaysP fa fn (exB tab) K) (X : K.In h) (Gn : h.Ns mainGlobals mg) : FP P w K mg base tab D ((Str.ofString "least_gap"), 43, 1) := fp_of (N := ["pairs", "sizes", "pair"]) (ps := ["pairs"]) (tk := false) c.1 X Gn ⟨32, by rfl⟩ (d := d43) (by rfl) (by rfl) (by rfl) (by rfl) b43 (by kernel_rfl) c43 (by rfl)
theorem b44 : BindOk d44 ["plan", "limit"] := fun _ _ _ _ _ _ us hl => match us, hl with | [_, _], _ => by kernel_rfl
theorem f44 (c : SaysP fa fn (exB tab) K) (X : K.In h) (Gn : h.Ns mainGlobals mg) : FP P w K mg base tab D ((Str.ofString "first_bar"), 44, 2) := fp_of (N := ["plan", "limit", "tables", "pair"]) (ps := ["plan", "limit"]) (tk := false) c.1 X Gn ⟨33, by rfl⟩ (d := d44) (by rfl) (by rfl) (by rfl) (by rfl) b44 (by kernel_rfl) c44 (by rfl)
theorem b45 : BindOk d45 ["plan", "limit"] := fun _ _ _ _ _ _ us hl => match us, hl with | [_, _], _ => by kernel_rfl
theorem f45 (c : SaysP fa fn (exB tab) K) (X : K.In h) (Gn : h.Ns mainGlobals mg) : FP P w K mg base tab D ((Str.ofString "is_right"), 45, 2) := fp_of (N := ["plan", "limit"]) (ps := ["plan", "limit"]) (tk := false) c.1 X Gn ⟨34, by rfl⟩ (d := d45) (by rfl) (by rfl) (by rfl) (by rfl) b45 (by kernel_rfl) c45 (by rfl)
theorem b46 : BindOk d46 ["plan"] := fun _ _ _ _ _ _ us hl => match us, hl with | [_], _ => by kernel_rfl
theorem f46 (c : SaysP fa fn (exB tab) K) (X : K.In h) (Gn : h.Ns mainGlobals mg) : FP P w K mg base tab D ((Str.ofString "greatest_even"), 46, 1) := fp_of (N := ["plan"]) (ps := ["plan"]) (tk := false) c.1 X Gn ⟨35, by rfl⟩ (d := d46) (by rfl) (by rfl) (by rfl) (by rfl) b46 (by kernel_rfl) c46 (by rfl)
theorem b47 : BindOk d47 ["number", "step"] := fun _ _ _ _ _ _ us hl => match us, hl with | [_, _], _ => by kernel_rfl
theorem f47 (c : SaysP fa fn (exB tab) K) (X : K.In h) (Gn : h.Ns mainGlobals mg) : FP P w K mg base tab D ((Str.ofString "_law_mixed"), 47, 2) := fp_of (N := ["number", "step", "one", "two", "three"]) (ps := ["number", "step"]) (tk := false) c.1 X Gn ⟨36, by rfl⟩ (d := d47) (by rfl) (by rfl) (by rfl) (by rfl) b47 (by kernel_rfl) c47 (by rfl)
theorem b48 : BindOk d48 ["script"] := fun _ _ _ _ _ _ us hl => match us, hl with | [_], _ => by kernel_rfl
theorem f48 (c : SaysP fa fn (exB tab) K) (X : K.In h) (Gn : h.Ns mainGlobals mg) : FP P w K mg base tab D ((Str.ofString "_law_store"), 48, 1) := fp_of (N := ["script", "cells", "seed", "cell"]) (ps := ["script"]) (tk := false) c.1 X Gn ⟨37, by rfl⟩ (d := d48) (by rfl) (by rfl) (by rfl) (by rfl) b48 (by kernel_rfl) c48 (by rfl)
theorem b49 : BindOk d49 ["store", "count"] := fun _ _ _ _ _ _ us hl => match us, hl with | [_, _], _ => by kernel_rfl
theorem f49 (c : SaysP fa fn (exB tab) K) (X : K.In h) (Gn : h.Ns mainGlobals mg) : FP P w K mg base tab D ((Str.ofString "_law_take"), 49, 2) := fp_of (N := ["store", "count", "cells", "at", "cell", "found"]) (ps := ["store", "count"]) (tk := false) c.1 X Gn ⟨38, by rfl⟩ (d := d49) (by rfl) (by rfl) (by rfl) (by rfl) b49 (by kernel_rfl) c49 (by rfl)
theorem b50 : BindOk d50 ["store"] := fun _ _ _ _ _ _ us hl => match us, hl with | [_], _ => by kernel_rfl
theorem f50 (c : SaysP fa fn (exB tab) K) (X : K.In h) (Gn : h.Ns mainGlobals mg) : FP P w K mg base tab D ((Str.ofString "_law_great"), 50, 1) := fp_of (N := ["store", "number", "step"]) (ps := ["store"]) (tk := false) c.1 X Gn ⟨39, by rfl⟩ (d := d50) (by rfl) (by rfl) (by rfl) (by rfl) b50 (by kernel_rfl) c50 (by rfl)
theorem b51 : BindOk d51 ["store"] := fun _ _ _ _ _ _ us hl => match us, hl with | [_], _ => by kernel_rfl
theorem f51 (c : SaysP fa fn (exB tab) K) (X : K.In h) (Gn : h.Ns mainGlobals mg) : FP P w K mg base tab D ((Str.ofString "_law_no_number"), 51, 1) := fp_of (N := ["store", "number", "menu"]) (ps := ["store"]) (tk := false) c.1 X Gn ⟨40, by rfl⟩ (d := d51) (by rfl) (by rfl) (by rfl) (by rfl) b51 (by kernel_rfl) c51 (by rfl)
theorem b52 : BindOk d52 ["store", "least", "high"] := fun _ _ _ _ _ _ us hl => match us, hl with | [_, _, _], _ => by kernel_rfl
theorem f52 (c : SaysP fa fn (exB tab) K) (X : K.In h) (Gn : h.Ns mainGlobals mg) : FP P w K mg base tab D ((Str.ofString "_law_outside"), 52, 3) := fp_of (N := ["store", "least", "high", "share", "value"]) (ps := ["store", "least", "high"]) (tk := false) c.1 X Gn ⟨41, by rfl⟩ (d := d52) (by rfl) (by rfl) (by rfl) (by rfl) b52 (by kernel_rfl) c52 (by rfl)
theorem b53 : BindOk d53 ["store", "high", "count"] := fun _ _ _ _ _ _ us hl => match us, hl with | [_, _, _], _ => by kernel_rfl
theorem f53 (c : SaysP fa fn (exB tab) K) (X : K.In h) (Gn : h.Ns mainGlobals mg) : FP P w K mg base tab D ((Str.ofString "_law_unlike"), 53, 3) := fp_of (N := ["store", "high", "count", "found", "step", "number", "move"]) (ps := ["store", "high", "count"]) (tk := false) c.1 X Gn ⟨42, by rfl⟩ (d := d53) (by rfl) (by rfl) (by rfl) (by rfl) b53 (by kernel_rfl) c53 (by rfl)
theorem b54 : BindOk d54 ["base", "count"] := fun _ _ _ _ _ _ us hl => match us, hl with | [_, _], _ => by kernel_rfl
theorem f54 (c : SaysP fa fn (exB tab) K) (X : K.In h) (Gn : h.Ns mainGlobals mg) : FP P w K mg base tab D ((Str.ofString "_law_power"), 54, 2) := fp_of (N := ["base", "count", "number", "step"]) (ps := ["base", "count"]) (tk := false) c.1 X Gn ⟨43, by rfl⟩ (d := d54) (by rfl) (by rfl) (by rfl) (by rfl) b54 (by kernel_rfl) c54 (by rfl)
theorem b55 : BindOk d55 ["value"] := fun _ _ _ _ _ _ us hl => match us, hl with | [_], _ => by kernel_rfl
theorem f55 (c : SaysP fa fn (exB tab) K) (X : K.In h) (Gn : h.Ns mainGlobals mg) : FP P w K mg base tab D ((Str.ofString "_law_kind"), 55, 1) := fp_of (N := ["value"]) (ps := ["value"]) (tk := false) c.1 X Gn ⟨44, by rfl⟩ (d := d55) (by rfl) (by rfl) (by rfl) (by rfl) b55 (by kernel_rfl) c55 (by rfl)
theorem b56 : BindOk d56 ["value"] := fun _ _ _ _ _ _ us hl => match us, hl with | [_], _ => by kernel_rfl
theorem f56 (c : SaysP fa fn (exB tab) K) (X : K.In h) (Gn : h.Ns mainGlobals mg) : FP P w K mg base tab D ((Str.ofString "_law_is_whole"), 56, 1) := fp_of (N := ["value"]) (ps := ["value"]) (tk := false) c.1 X Gn ⟨45, by rfl⟩ (d := d56) (by rfl) (by rfl) (by rfl) (by rfl) b56 (by kernel_rfl) c56 (by rfl)
theorem b57 : BindOk d57 ["mask", "n"] := fun _ _ _ _ _ _ us hl => match us, hl with | [_, _], _ => by kernel_rfl
theorem f57 (c : SaysP fa fn (exB tab) K) (X : K.In h) (Gn : h.Ns mainGlobals mg) : FP P w K mg base tab D ((Str.ofString "_law_mask_word"), 57, 2) := fp_of (N := ["mask", "n", "wires", "rest", "wire"]) (ps := ["mask", "n"]) (tk := false) c.1 X Gn ⟨46, by rfl⟩ (d := d57) (by rfl) (by rfl) (by rfl) (by rfl) b57 (by kernel_rfl) c57 (by rfl)
theorem b58 : BindOk d58 ["store", "n", "count"] := fun _ _ _ _ _ _ us hl => match us, hl with | [_, _, _], _ => by kernel_rfl
theorem f58 (c : SaysP fa fn (exB tab) K) (X : K.In h) (Gn : h.Ns mainGlobals mg) : FP P w K mg base tab D ((Str.ofString "_law_masks"), 58, 3) := fp_of (N := ["store", "n", "count", "high", "thin", "found", "step", "one", "two", "mask", "move"]) (ps := ["store", "n", "count"]) (tk := false) c.1 X Gn ⟨47, by rfl⟩ (d := d58) (by rfl) (by rfl) (by rfl) (by rfl) b58 (by kernel_rfl) c58 (by rfl)
theorem b59 : BindOk d59 ["store", "n", "count"] := fun _ _ _ _ _ _ us hl => match us, hl with | [_, _, _], _ => by kernel_rfl
theorem f59 (c : SaysP fa fn (exB tab) K) (X : K.In h) (Gn : h.Ns mainGlobals mg) : FP P w K mg base tab D ((Str.ofString "_law_words"), 59, 3) := fp_of (N := ["store", "n", "count", "mask"]) (ps := ["store", "n", "count"]) (tk := false) c.1 X Gn ⟨48, by rfl⟩ (d := d59) (by rfl) (by rfl) (by rfl) (by rfl) b59 (by kernel_rfl) c59 (by rfl)
theorem b60 : BindOk d60 ["words"] := fun _ _ _ _ _ _ us hl => match us, hl with | [_], _ => by kernel_rfl
theorem f60 (c : SaysP fa fn (exB tab) K) (X : K.In h) (Gn : h.Ns mainGlobals mg) : FP P w K mg base tab D ((Str.ofString "_law_pruned"), 60, 1) := fp_of (N := ["words", "kept", "word", "fine", "other"]) (ps := ["words"]) (tk := false) c.1 X Gn ⟨49, by rfl⟩ (d := d60) (by rfl) (by rfl) (by rfl) (by rfl) b60 (by kernel_rfl) c60 (by rfl)
theorem b61 : BindOk d61 ["n", "words"] := fun _ _ _ _ _ _ us hl => match us, hl with | [_, _], _ => by kernel_rfl
theorem f61 (c : SaysP fa fn (exB tab) K) (X : K.In h) (Gn : h.Ns mainGlobals mg) : FP P w K mg base tab D ((Str.ofString "_law_book"), 61, 2) := fp_of (N := ["n", "words", "word"]) (ps := ["n", "words"]) (tk := false) c.1 X Gn ⟨50, by rfl⟩ (d := d61) (by rfl) (by rfl) (by rfl) (by rfl) b61 (by kernel_rfl) c61 (by rfl)
theorem b62 : BindOk d62 ["left", "right"] := fun _ _ _ _ _ _ us hl => match us, hl with | [_, _], _ => by kernel_rfl
theorem f62 (c : SaysP fa fn (exB tab) K) (X : K.In h) (Gn : h.Ns mainGlobals mg) : FP P w K mg base tab D ((Str.ofString "_law_less"), 62, 2) := fp_of (N := ["left", "right", "wire"]) (ps := ["left", "right"]) (tk := false) c.1 X Gn ⟨51, by rfl⟩ (d := d62) (by rfl) (by rfl) (by rfl) (by rfl) b62 (by kernel_rfl) c62 (by rfl)
theorem b63 : BindOk d63 ["left", "right", "loose"] := fun _ _ _ _ _ _ us hl => match us, hl with | [_, _, _], _ => by kernel_rfl
theorem f63 (c : SaysP fa fn (exB tab) K) (X : K.In h) (Gn : h.Ns mainGlobals mg) : FP P w K mg base tab D ((Str.ofString "_law_equal"), 63, 3) := fp_of (N := ["left", "right", "loose", "pairs", "one", "two", "kind", "kin", "at"]) (ps := ["left", "right", "loose"]) (tk := false) c.1 X Gn ⟨52, by rfl⟩ (d := d63) (by rfl) (by rfl) (by rfl) (by rfl) b63 (by kernel_rfl) c63 (by rfl)
theorem b64 : BindOk d64 ["found", "due"] := fun _ _ _ _ _ _ us hl => match us, hl with | [_, _], _ => by kernel_rfl
theorem f64 (c : SaysP fa fn (exB tab) K) (X : K.In h) (Gn : h.Ns mainGlobals mg) : FP P w K mg base tab D ((Str.ofString "_law_holds"), 64, 2) := fp_of (N := ["found", "due"]) (ps := ["found", "due"]) (tk := false) c.1 X Gn ⟨53, by rfl⟩ (d := d64) (by rfl) (by rfl) (by rfl) (by rfl) b64 (by kernel_rfl) c64 (by rfl)
theorem b65 : BindOk d65 ["name", "value"] := fun _ _ _ _ _ _ us hl => match us, hl with | [_, _], _ => by kernel_rfl
theorem f65 (c : SaysP fa fn (exB tab) K) (X : K.In h) (Gn : h.Ns mainGlobals mg) : FP P w K mg base tab D ((Str.ofString "_law_refused"), 65, 2) := fp_of (N := ["name", "value"]) (ps := ["name", "value"]) (tk := false) c.1 X Gn ⟨54, by rfl⟩ (d := d65) (by rfl) (by rfl) (by rfl) (by rfl) b65 (by kernel_rfl) c65 (by rfl)
theorem b66 : BindOk d66 ["base", "rows"] := fun _ _ _ _ _ _ us hl => match us, hl with | [_, _], _ => by kernel_rfl
theorem f66 (c : SaysP fa fn (exB tab) K) (X : K.In h) (Gn : h.Ns mainGlobals mg) : FP P w K mg base tab D ((Str.ofString "_law_first_wrong"), 66, 2) := fp_of (N := ["base", "rows", "seen", "at", "row", "place"]) (ps := ["base", "rows"]) (tk := false) c.1 X Gn ⟨55, by rfl⟩ (d := d66) (by rfl) (by rfl) (by rfl) (by rfl) b66 (by kernel_rfl) c66 (by rfl)
theorem b67 : BindOk d67 ["words", "rows", "share"] := fun _ _ _ _ _ _ us hl => match us, hl with | [_, _, _], _ => by kernel_rfl
theorem f67 (c : SaysP fa fn (exB tab) K) (X : K.In h) (Gn : h.Ns mainGlobals mg) : FP P w K mg base tab D ((Str.ofString "_law_least"), 67, 3) := fp_of (N := ["words", "rows", "share", "table", "two", "one", "sums", "at"]) (ps := ["words", "rows", "share"]) (tk := false) c.1 X Gn ⟨56, by rfl⟩ (d := d67) (by rfl) (by rfl) (by rfl) (by rfl) b67 (by kernel_rfl) c67 (by rfl)
theorem b68 : BindOk d68 ["deed", "plan", "rows"] := fun _ _ _ _ _ _ us hl => match us, hl with | [_, _, _], _ => by kernel_rfl
theorem f68 (c : SaysP fa fn (exB tab) K) (X : K.In h) (Gn : h.Ns mainGlobals mg) : FP P w K mg base tab D ((Str.ofString "_law_due"), 68, 3) := fp_of (N := ["deed", "plan", "rows", "base", "wrong", "words", "pair", "row", "n", "found", "wires", "place", "wire"]) (ps := ["deed", "plan", "rows"]) (tk := false) c.1 X Gn ⟨57, by rfl⟩ (d := d68) (by rfl) (by rfl) (by rfl) (by rfl) b68 (by kernel_rfl) c68 (by rfl)
theorem b69 : BindOk d69 ["n", "count", "rows", "bound"] := fun _ _ _ _ _ _ us hl => match us, hl with | [_, _, _, _], _ => by kernel_rfl
theorem f69 (c : SaysP fa fn (exB tab) K) (X : K.In h) (Gn : h.Ns mainGlobals mg) : FP P w K mg base tab D ((Str.ofString "_law_due_lanes"), 69, 4) := fp_of (N := ["n", "count", "rows", "bound", "at", "clauses", "lane"]) (ps := ["n", "count", "rows", "bound"]) (tk := false) c.1 X Gn ⟨58, by rfl⟩ (d := d69) (by rfl) (by rfl) (by rfl) (by rfl) b69 (by kernel_rfl) c69 (by rfl)
theorem b70 : BindOk d70 ["deed", "plan", "rows"] := fun _ _ _ _ _ _ us hl => match us, hl with | [_, _, _], _ => by kernel_rfl
theorem f70 (c : SaysP fa fn (exB tab) K) (X : K.In h) (Gn : h.Ns mainGlobals mg) : FP P w K mg base tab D ((Str.ofString "_law_ask"), 70, 3) := fp_of (N := ["deed", "plan", "rows", "e"]) (ps := ["deed", "plan", "rows"]) (tk := false) c.1 X Gn ⟨59, by rfl⟩ (d := d70) (by rfl) (by rfl) (by rfl) (by rfl) b70 (by kernel_rfl) c70 (by rfl)
theorem b71 : BindOk d71 ["n", "count", "rows", "bound"] := fun _ _ _ _ _ _ us hl => match us, hl with | [_, _, _, _], _ => by kernel_rfl
theorem f71 (c : SaysP fa fn (exB tab) K) (X : K.In h) (Gn : h.Ns mainGlobals mg) : FP P w K mg base tab D ((Str.ofString "_law_ask_lanes"), 71, 4) := fp_of (N := ["n", "count", "rows", "bound", "e"]) (ps := ["n", "count", "rows", "bound"]) (tk := false) c.1 X Gn ⟨60, by rfl⟩ (d := d71) (by rfl) (by rfl) (by rfl) (by rfl) b71 (by kernel_rfl) c71 (by rfl)
theorem b72 : BindOk d72 ["store", "base", "size", "count"] := fun _ _ _ _ _ _ us hl => match us, hl with | [_, _, _, _], _ => by kernel_rfl
theorem f72 (c : SaysP fa fn (exB tab) K) (X : K.In h) (Gn : h.Ns mainGlobals mg) : FP P w K mg base tab D ((Str.ofString "_law_spelled"), 72, 4) := fp_of (N := ["store", "base", "size", "count", "found", "number", "row", "rest", "step"]) (ps := ["store", "base", "size", "count"]) (tk := false) c.1 X Gn ⟨61, by rfl⟩ (d := d72) (by rfl) (by rfl) (by rfl) (by rfl) b72 (by kernel_rfl) c72 (by rfl)
theorem b73 : BindOk d73 ["store", "rows", "base"] := fun _ _ _ _ _ _ us hl => match us, hl with | [_, _, _], _ => by kernel_rfl
theorem f73 (c : SaysP fa fn (exB tab) K) (X : K.In h) (Gn : h.Ns mainGlobals mg) : FP P w K mg base tab D ((Str.ofString "_law_bent_rows"), 73, 3) := fp_of (N := ["store", "rows", "base", "found", "row", "share", "at"]) (ps := ["store", "rows", "base"]) (tk := false) c.1 X Gn ⟨62, by rfl⟩ (d := d73) (by rfl) (by rfl) (by rfl) (by rfl) b73 (by kernel_rfl) c73 (by rfl)
theorem b74 : BindOk d74 ["plan", "rows"] := fun _ _ _ _ _ _ us hl => match us, hl with | [_, _], _ => by kernel_rfl
theorem f74 (c : SaysP fa fn (exB tab) K) (X : K.In h) (Gn : h.Ns mainGlobals mg) : FP P w K mg base tab D ((Str.ofString "_law_all_hold"), 74, 2) := fp_of (N := ["plan", "rows", "handed", "row", "deed", "found"]) (ps := ["plan", "rows"]) (tk := false) c.1 X Gn ⟨63, by rfl⟩ (d := d74) (by rfl) (by rfl) (by rfl) (by rfl) b74 (by kernel_rfl) c74 (by rfl)
theorem b75 : BindOk d75 ["n", "count", "rows", "bound"] := fun _ _ _ _ _ _ us hl => match us, hl with | [_, _, _, _], _ => by kernel_rfl
theorem f75 (c : SaysP fa fn (exB tab) K) (X : K.In h) (Gn : h.Ns mainGlobals mg) : FP P w K mg base tab D ((Str.ofString "_law_lanes_hold"), 75, 4) := fp_of (N := ["n", "count", "rows", "bound"]) (ps := ["n", "count", "rows", "bound"]) (tk := false) c.1 X Gn ⟨64, by rfl⟩ (d := d75) (by rfl) (by rfl) (by rfl) (by rfl) b75 (by kernel_rfl) c75 (by rfl)
theorem b76 : BindOk d76 ["store"] := fun _ _ _ _ _ _ us hl => match us, hl with | [_], _ => by kernel_rfl
theorem f76 (c : SaysP fa fn (exB tab) K) (X : K.In h) (Gn : h.Ns mainGlobals mg) : FP P w K mg base tab D ((Str.ofString "_law_drawn"), 76, 1) := fp_of (N := ["store", "n", "size", "base", "count", "share", "words"]) (ps := ["store"]) (tk := false) c.1 X Gn ⟨65, by rfl⟩ (d := d76) (by rfl) (by rfl) (by rfl) (by rfl) b76 (by kernel_rfl) c76 (by rfl)
theorem b77 : BindOk d77 ["words", "rows", "places", "bound"] := fun _ _ _ _ _ _ us hl => match us, hl with | [_, _, _, _], _ => by kernel_rfl
theorem f77 (c : SaysP fa fn (exB tab) K) (X : K.In h) (Gn : h.Ns mainGlobals mg) : FP P w K mg base tab D ((Str.ofString "_law_right_places"), 77, 4) := fp_of (N := ["words", "rows", "places", "bound", "one", "two", "free", "at"]) (ps := ["words", "rows", "places", "bound"]) (tk := false) c.1 X Gn ⟨66, by rfl⟩ (d := d77) (by rfl) (by rfl) (by rfl) (by rfl) b77 (by kernel_rfl) c77 (by rfl)
theorem b78 : BindOk d78 ["store", "plan", "rows", "size"] := fun _ _ _ _ _ _ us hl => match us, hl with | [_, _, _, _], _ => by kernel_rfl
theorem f78 (c : SaysP fa fn (exB tab) K) (X : K.In h) (Gn : h.Ns mainGlobals mg) : FP P w K mg base tab D ((Str.ofString "_law_book_holds"), 78, 4) := fp_of (N := ["store", "plan", "rows", "size", "found", "words", "pair", "least", "at", "places", "bound", "right", "far", "limit"]) (ps := ["store", "plan", "rows", "size"]) (tk := false) c.1 X Gn ⟨67, by rfl⟩ (d := d78) (by rfl) (by rfl) (by rfl) (by rfl) b78 (by kernel_rfl) c78 (by rfl)
theorem b79 : BindOk d79 ["script"] := fun _ _ _ _ _ _ us hl => match us, hl with | [_], _ => by kernel_rfl
theorem f79 (c : SaysP fa fn (exB tab) K) (X : K.In h) (Gn : h.Ns mainGlobals mg) : FP P w K mg base tab D ((Str.ofString "law"), 79, 1) := fp_of (N := ["script", "store", "n", "size", "words", "rows", "plan", "state", "word", "wide", "high", "value", "bent"]) (ps := ["script"]) (tk := false) c.1 X Gn ⟨68, by rfl⟩ (d := d79) (by rfl) (by rfl) (by rfl) (by rfl) b79 (by kernel_rfl) c79 (by rfl)
theorem allF (c : SaysP fa fn (exB tab) K) (X : K.In h) (Gn : h.Ns mainGlobals mg) : ∀ q ∈ tab.fns, FP P w K mg base tab D q := by
  unfold tab
  simp only [List.forall_mem_cons]
  exact ⟨f0 c X Gn, f12 c X Gn, f13 c X Gn, f14 c X Gn, f15 c X Gn, f16 c X Gn, f17 c X Gn, f18 c X Gn, f19 c X Gn, f20 c X Gn, f21 c X Gn, f22 c X Gn, f23 c X Gn, f24 c X Gn, f25 c X Gn, f26 c X Gn, f27 c X Gn, f28 c X Gn, f29 c X Gn, f30 c X Gn, f31 c X Gn, f32 c X Gn, f33 c X Gn, f34 c X Gn, f35 c X Gn, f36 c X Gn, f37 c X Gn, f38 c X Gn, f39 c X Gn, f40 c X Gn, f41 c X Gn, f42 c X Gn, f43 c X Gn, f44 c X Gn, f45 c X Gn, f46 c X Gn, f47 c X Gn, f48 c X Gn, f49 c X Gn, f50 c X Gn, f51 c X Gn, f52 c X Gn, f53 c X Gn, f54 c X Gn, f55 c X Gn, f56 c X Gn, f57 c X Gn, f58 c X Gn, f59 c X Gn, f60 c X Gn, f61 c X Gn, f62 c X Gn, f63 c X Gn, f64 c X Gn, f65 c X Gn, f66 c X Gn, f67 c X Gn, f68 c X Gn, f69 c X Gn, f70 c X Gn, f71 c X Gn, f72 c X Gn, f73 c X Gn, f74 c X Gn, f75 c X Gn, f76 c X Gn, f77 c X Gn, f78 c X Gn, f79 c X Gn, fun _ h => nomatch h⟩
theorem allX (c : SaysP fa fn (exB tab) K) (X : K.In h) (Gn : h.Ns mainGlobals mg) : ∀ q ∈ tab.excs, XP P w K mg base tab D q := by
  have c2 := c.2
  unfold exB at c2
  have c3 := List.all_eq_true.mp (Bool.and_eq_true_iff.mp c2).1
  unfold tab
  simp only [List.forall_mem_cons]
  exact ⟨x1 c X Gn (clsB_ok X Gn (c3 ((Str.ofString "BadSize"), [(Str.ofString "size")]) (by unfold tab; simp))), x2 c X Gn (clsB_ok X Gn (c3 ((Str.ofString "NoWire"), [(Str.ofString "wire")]) (by unfold tab; simp))), x3 c X Gn (clsB_ok X Gn (c3 ((Str.ofString "Twice"), [(Str.ofString "wire")]) (by unfold tab; simp))), x4 c X Gn (clsB_ok X Gn (c3 ((Str.ofString "NotBook"), [(Str.ofString "states")]) (by unfold tab; simp))), x5 c X Gn (clsB_ok X Gn (c3 ((Str.ofString "BadState"), [(Str.ofString "value")]) (by unfold tab; simp))), x6 c X Gn (clsB_ok X Gn (c3 ((Str.ofString "BadNumber"), [(Str.ofString "place")]) (by unfold tab; simp))), x7 c X Gn (clsB_ok X Gn (c3 ((Str.ofString "BadAhead"), [(Str.ofString "value")]) (by unfold tab; simp))), x8 c X Gn (clsB_ok X Gn (c3 ((Str.ofString "NoPlace"), [(Str.ofString "place")]) (by unfold tab; simp))), x9 c X Gn (clsB_ok X Gn (c3 ((Str.ofString "BadSpelling"), [(Str.ofString "place")]) (by unfold tab; simp))), x10 c X Gn (clsB_ok X Gn (c3 ((Str.ofString "BadFit"), [(Str.ofString "left"), (Str.ofString "right")]) (by unfold tab; simp))), x11 c X Gn (clsB_ok X Gn (c3 ((Str.ofString "TooMany"), [(Str.ofString "what"), (Str.ofString "most")]) (by unfold tab; simp))), fun _ h => nomatch h⟩
theorem facts (hT : ∀ ns : List Int, ns.length ≤ 63 → ∃ h', callK D 61 79 [.loc 0] [.fro (ns.map Dt.int)] = .ok (.bl true) h') {fl : Addr} (X : K.In h) (Gn : h.Ns mainGlobals mg) (hfa : mg ("law" : Str) = some (.ref fl)) (c : SaysP fa fn (exB tab) K) :
    ∃ fd : FuncData, (∀ (s : Shared) (v : Value), BindsTo s fd ⟨[v], []⟩ [("script", v)]) ∧ ∀ base : Heap, K.In base → base.Ns mainGlobals mg → FnOk P w K mg base (L2.CX P w) 122 fl fd ["script"] (spLaw K 63) := by
  obtain ⟨fd, F⟩ := c.1.def_ 79 (d := d79) (by rfl)
  have b := FunD.bindsA (ps := ["script"]) F b79
  have e := hfa.symm.trans (He.glo_ok X Gn (c.1.fact 68 (f := .glo "law") (by rfl)))
  cases e
  refine ⟨fd, fun s v => b s [v] rfl, fun base _ _ => ?_⟩
  have t := tabOk_of (P := P) (w := w) (base := base) rfl c X Gn (allF c X Gn) (allX c X Gn) 60
  have eg : callK D 61 79 = gOf D_law (callK D 60) := by
    funext args hh
    rfl
  refine law_ok (Ds := D) (k := 61) (n := 79) (by decide) ?_ hT
  rw [eg]
  exact fn_ok (ps := ["script"]) (N := ["script", "store", "n", "size", "words", "rows", "plan", "state", "word", "wide", "high", "value", "bent"]) false F (fnSc_ok (by kernel_rfl)) t c79
end
end K77
open PySem PySem.W PySem.Calls PyProof.Rows
theorem K77.holds (hT : ∀ ns : List Int, ns.length ≤ 63 → ∃ h', EP.callK K77.D 61 79 [.loc 0] [.fro (ns.map EP.Dt.int)] = .ok (.bl true) h') : PySem.Challenge.rw_earlypulses_k77_spelled_books.Holds := by
  w_on; o_law
  refine HandSHeadRun.head_any (r := OpenLaw.row PySem.Challenge.rw_earlypulses_k77_spelled_books) (q := view (OpenLaw.row PySem.Challenge.rw_earlypulses_k77_spelled_books).prog [95]) (H := K77.hk) (ob := K77.ob) (M := 20000) (loose := K77.loose) (d := HandSHeadRun.topDef (OpenLaw.row PySem.Challenge.rw_earlypulses_k77_spelled_books).prog 95) (kwd := []) K77.ob_eq
    (by kernel_rfl) (fun s => by kernel_rfl) K77.run (by kernel_rfl) (by kernel_rfl) (by kernel_rfl) (by rfl) (by first | assumption | decide +kernel) (by decide +kernel) ⟨rfl, rfl, rfl, rfl, rfl, by decide +kernel⟩ ?hw ?hc
  case hw => w_witness2
  case hc =>
    refine EP.walk_ofP (l := PySem.Challenge.rw_earlypulses_k77_spelled_books) (n := 63) (k := 122) (x := "script") rfl (by decide) (by kernel_rfl) ⟨rfl, by decide, by decide⟩ ?F
    intro w mg fa h Y G hmg0
    obtain ⟨K, KX, c⟩ := Y
    have hmg : mg ("law" : PySem.Str) = some (.ref fa) := by
      have e : (HandSHeadRun.topDef (OpenLaw.row PySem.Challenge.rw_earlypulses_k77_spelled_books).prog 95).name = ("law" : PySem.Str) := by kernel_rfl
      rw [← e]
      exact hmg0
    obtain ⟨fd, hb, hF⟩ := K77.facts (P := (PySem.Challenge.rw_earlypulses_k77_spelled_books).prog) (w := w) hT KX G hmg c
    exact ⟨K, fd, EP.spLaw K 63, KX, hb, fun H a ns hl ho hS => ⟨a, ns, rfl, hl, EP.froL_of ho hS, fun _ => rfl⟩, hF⟩
end
section
set_option maxRecDepth 20000
/-! K77R1: what was shown of the same defs for K75 (by reuse.py). -/
namespace K77
open PySem L2 EP
variable {k : Nat} {h : MH}
/-! ### the program's small defs -/
@[simp] theorem same_int (i : Int) : callK D (k + 1) i_same_parts [.int i] h = .ok (.int i) h := by
  rw [call_eq (md := D_same_parts) rfl rfl, run_s]
  simp [m_same_parts, sSeq_s]
@[simp] theorem same_str (i : Str) : callK D (k + 1) i_same_parts [.str i] h = .ok (.str i) h := by
  rw [call_eq (md := D_same_parts) rfl rfl, run_s]
  simp [m_same_parts, sSeq_s]
theorem ini1 {n : Nat} (e : D[n]? = some ⟨1, 1, sInit 0⟩) (i : Int) : callK D (k + 2) n [.int i] h = .ok (.tup [.int i]) h := by
  rw [call_eq (md := ⟨1, 1, sInit 0⟩) e rfl, run_s]
  have e2 := same_int (k := k) (h := h) i
  unfold i_same_parts at e2
  simp [sInit, getSome, initLoop, e2]
@[simp] theorem BadSize (i : Int) : callK D (k + 2) i_BadSize [.int i] h = .ok (.tup [.int i]) h := ini1 rfl i
@[simp] theorem NotBook (i : Int) : callK D (k + 2) i_NotBook [.int i] h = .ok (.tup [.int i]) h := ini1 rfl i
@[simp] theorem BadNumber (i : Int) : callK D (k + 2) i_BadNumber [.int i] h = .ok (.tup [.int i]) h := ini1 rfl i
@[simp] theorem TooMany (s : Str) (i : Int) : callK D (k + 2) i_TooMany [.str s, .int i] h = .ok (.tup [.str s, .int i]) h := by
  rw [call_eq (md := D_TooMany) rfl rfl, run_s]
  have e1 := same_str (k := k) (h := h) s
  have e2 := same_int (k := k) (h := h) i
  unfold i_same_parts at e1 e2
  simp [sInit, getSome, initLoop, e1, e2]
theorem whole_within (v a b : Int) : callK D (k + 1) i_whole_within [.int v, .int a, .int b] h = .ok (.bl (decide (a ≤ v) && decide (v ≤ b))) h := by
  rw [call_eq (md := D_whole_within) rfl rfl, run_s]
  simp [m_whole_within, sSeq_s]
  by_cases h1 : a ≤ v <;> simp [h1]
theorem moved {ws : Word} {b : Int} (h0 : 0 ≤ b) (h1 : b ≤ 39) (hw : ∀ w ∈ ws, w + b ≤ 39) (hl : ws.length ≤ 1000) : ∃ h', callK D (k + 2) i_moved [wD ws, .int b] h = .ok (wD (ws.map (· + b))) h' ∧ h <+: h' := by
  refine Ans.val (call_run (md := D_moved) rfl rfl fun O oN oQ oX => ?_)
  simp [m_moved, whole_within, h0, h1]
  refine run_forH (f := Dt.int) (xs := ws) hf_tup (by rfl) (fun i ρ h' => h' = h ∧ ∃ x, ρ = [some (wD ws), some (.int b), x]) ⟨rfl, _, rfl⟩ ?_ ?_
  · rintro i w ρ h' hx ⟨rfl, y, rfl⟩
    have := hw w (List.mem_of_getElem? hx)
    have h2 : ¬ 39 < w + b := by omega
    refine ⟨_, rfl, fun O' t => ?_⟩
    simp [h2]
    exact t.N _ _ ⟨rfl, _, rfl⟩
  · rintro ρ h' ⟨rfl, y, rfl⟩
    obtain ⟨h2, e, p, q⟩ := lc_map (i := iSeq (eVar 0)) (p := .nm 2) (e := eOp oAdd (eVar 2) (eVar 1)) (vs := [2]) (G := callK D (k + 1)) (ρ := [some (wD ws), some (.int b), y]) (h := h') rfl its_tup (fun d => match d with | .int w => .int (w + b) | d => d) (by rw [sizeLine_eq]; simp; omega) (by
      rintro x hx
      obtain ⟨w, hw1, rfl⟩ := List.mem_map.mp hx
      exact ⟨_, rfl, fun h' _ => .now (by simp)⟩)
    simp [e, tuple_lst q, Function.comp_def]
    exact oQ _ _ ⟨by simp, p⟩
theorem is_whole (v : Int) : callK D (k + 1) i_is_whole [.int v] h = .ok (.bl true) h := by
  rw [call_eq (md := D_is_whole) rfl rfl, run_s]
  simp [m_is_whole, sSeq_s]
theorem is_index (v m : Int) : callK D (k + 2) i_is_index [.int v, .int m] h = .ok (.bl (decide (0 ≤ v) && decide (v < m))) h := by
  rw [call_eq (md := D_is_index) rfl rfl, run_s]
  simp [m_is_index, sSeq_s, is_whole]
  by_cases h1 : 0 ≤ v <;> simp [h1]
theorem check_state (p : Plan) (v : Int) (h0 : 0 ≤ v) (h1 : v < p.2.length) : callK D (k + 3) i_check_state [pD p, .int v] h = .ok .non h := by
  rw [call_eq (md := D_check_state) rfl rfl, run_s]
  simp [m_check_state, sSeq_s, is_index, h0, h1]
theorem is_book (p : Plan) : callK D (k + 1) i_is_book [pD p] h = .ok (.bl (decide (p.2.length = 1))) h := by
  rw [call_eq (md := D_is_book) rfl rfl, run_s]
  simp [m_is_book, sSeq_s]
  omega
theorem check_book (p : Plan) (e : p.2.length = 1) : callK D (k + 2) i_check_book [pD p] h = .ok .non h := by
  rw [call_eq (md := D_check_book) rfl rfl, run_s]
  simp [m_check_book, sSeq_s, is_book, e]
theorem check_book_no (p : Plan) (e : p.2.length ≠ 1) : callK D (k + 3) i_check_book [pD p] h = .ex "NotBook" [("states", .int p.2.length)] h := by
  rw [call_eq (md := D_check_book) rfl rfl, run_s]
  simp [m_check_book, sSeq_s, is_book, e]
theorem check_total (m : Int) (e : m ≤ 40) : callK D (k + 1) i_check_total [.int m] h = .ok .non h := by
  rw [call_eq (md := D_check_total) rfl rfl, run_s]
  have : ¬ 40 < m := by omega
  simp [m_check_total, sSeq_s, this]
theorem check_total_no (m : Int) (e : 40 < m) : callK D (k + 3) i_check_total [.int m] h = .ex "BadSize" [("size", .int m)] h := by
  rw [call_eq (md := D_check_total) rfl rfl, run_s]
  simp [m_check_total, sSeq_s, e]
theorem check_fit (n : Int) : callK D (k + 1) i_check_fit [.int n, .int n] h = .ok .non h := by
  rw [call_eq (md := D_check_fit) rfl rfl, run_s]
  simp [m_check_fit, sSeq_s]
/-- the words of a row -/
theorem words_of (p : Plan) (v : Int) (r : Row) (h0 : 0 ≤ v) (e : p.2[v.toNat]? = some r) (hr : r.length ≤ 1000) : ∃ h', callK D (k + 4) i_words_of [pD p, .int v] h = .ok (.tup (r.map fun e => wD e.1)) h' ∧ h <+: h' := by
  have h1 : v < p.2.length := by have := (List.getElem?_eq_some_iff.mp e).1; omega
  refine Ans.val (call_run (md := D_words_of) rfl rfl fun O oN oQ oX => ?_)
  have hg : ∀ {h : MH}, oGet (.tup (p.2.map sD)) (.int v) h = .ok (sD r) h := get_int h0 (by rw [List.getElem?_map, e]; rfl)
  simp [m_words_of, check_state, h0, h1]
  obtain ⟨h2, e2, p2, q2⟩ := lc_map (i := iSeq (eOp oGet (eOp oGet (eVar 0) (eC (.int 1))) (eVar 1))) (p := .tp [.nm 2, .nm 3]) (e := eVar 2) (vs := [2, 3]) (G := callK D (k + 3)) (ρ := [some (pD p), some (.int v), none, none]) (h := h) (h1 := h) (I := itT (r.map eD)) (by simp [hg]) its_tup (fun d => match d with | .tup [w, s] => w | d => d) (by rw [sizeLine_eq]; simp; omega) (by
    rintro x hx
    obtain ⟨w, hw1, rfl⟩ := List.mem_map.mp hx
    refine ⟨[some (pD p), some (.int v), some (wD w.1), some (.int w.2)], by simp, fun h' _ => .now (by simp)⟩)
  simp [e2, tuple_lst q2, Function.comp_def]
  exact oQ _ _ ⟨by simp, p2⟩
theorem book_words (p : Plan) (r : Row) (e : p.2 = [r]) (hr : r.length ≤ 1000) : ∃ h', callK D (k + 5) i_book_words [pD p] h = .ok (.tup (r.map fun e => wD e.1)) h' ∧ h <+: h' := by
  refine Ans.val (call_run (md := D_book_words) rfl rfl fun O oN oQ oX => ?_)
  obtain ⟨h2, e2, p2⟩ := words_of (k := k) (h := h) p 0 r (by omega) (by rw [e]; rfl) hr
  have e0 : p.2.length = 1 := by rw [e]; rfl
  simp [m_book_words, e0, e2]
  exact oQ _ _ ⟨rfl, p2⟩
theorem book_made (n : Int) {a : Nat} {ws : List Word} (ea : h[a]? = some (.lst (ws.map wD))) (hr : ws.length ≤ 1000) : ∃ h', callK D (k + 1) i_book_made [.int n, .loc a] h = .ok (pD (n, [ws.map fun w => (w, 0)])) h' ∧ h <+: h' := by
  refine Ans.val (call_run (md := D_book_made) rfl rfl fun O oN oQ oX => ?_)
  obtain ⟨h2, e2, p2, q2⟩ := lc_map (i := iSeq (eVar 1)) (p := .nm 2) (e := eTup (aCons (eVar 2) (aCons (eC (.int 0)) aNil))) (vs := [2]) (G := callK D k) (ρ := [some (.int n), some (.loc a), none]) (h := h) (h1 := h) (I := itL a ws.length) (by simp [itOf_lst ea]) (by have := its_lst ea; simpa using this) (fun d => .tup [d, .int 0]) (by rw [sizeLine_eq]; simp; omega) (by
    rintro x hx
    exact ⟨[some (.int n), some (.loc a), some x], by simp, fun h' _ => .now (by simp)⟩)
  simp [m_book_made, e2, tuple_lst q2, Function.comp_def]
  exact oQ _ _ ⟨by simp, p2⟩

open PySem L2 EP
variable {k : Nat} {h : MH}
/-- the dict of what was seen -/
abbrev seenD (P : List (Int × Int)) : List (List Key × Dt) := P.map fun q => ([.inl q.1, .inl q.2], .bl true)
theorem seen_any {P : List (Int × Int)} {a b : Int} : ((seenD P).any fun kv => decide (kv.1 = [Sum.inl a, Sum.inl b])) = decide ((a, b) ∈ P) := by
  rw [List.any_map, Bool.eq_iff_iff, List.any_eq_true, decide_eq_true_eq]
  constructor
  · rintro ⟨q, hq, e⟩
    simp at e
    have : q = (a, b) := Prod.ext e.1 e.2
    exact this ▸ hq
  · intro hm
    exact ⟨(a, b), hm, by simp⟩
theorem in_seen {P : List (Int × Int)} {a b : Int} {n : Nat} (e : h[n]? = some (.dT (seenD P))) : oIn true (.tup [.int a, .int b]) (.loc n) h = .ok (.bl (!decide ((a, b) ∈ P))) h := by
  rw [in_dT e, seen_any]; rfl
theorem seen_set {P : List (Int × Int)} {a b : Int} (hn : (a, b) ∉ P) : setK (seenD P) [Sum.inl a, Sum.inl b] (.bl true) = seenD (P ++ [(a, b)]) := by
  unfold setK
  rw [seen_any, if_neg (by simpa using hn)]
  simp
open PySem L2 EP
variable {k : Nat} {h : MH}
theorem joined_ok {p q : Plan} (wp : Wf p) (wq : Wf q) (ht : p.1 + q.1 ≤ 40) {r : Row} (hr : r ∈ q.2) {e : Word × Int} (he : e ∈ r) : ∀ {h : MH}, ∃ h', callK D (k + 2) i_moved [wD e.1, .int p.1] h = .ok (wD (e.1.map (· + p.1))) h' ∧ h <+: h' := by
  intro h
  have h1 := wp.n1
  have h2 := wq.n1
  obtain ⟨_, _, h3⟩ := wq.row r hr
  obtain ⟨_, _, _, h4, h5⟩ := h3 e he
  exact moved (by omega) (by omega) (fun w hw => by have := h4 w hw; omega) (by omega)
open PySem L2 EP
variable {k : Nat} {h : MH}
theorem mul_small {i j : Int} (h0 : 0 ≤ i) (h1 : i ≤ 1000) : oMul (.int i) (.int j) h = .ok (.int (i * j)) h := by
  have a : (1000 : Int) < lim64 := by decide
  generalize hl : lim64 = l at a
  have : (-lim64 < i ∧ i < lim64) := by rw [hl]; omega
  show (if _ then RE.ok (Dt.int (i * j)) h else .bad) = _
  exact if_pos (.inl (.inl this))
theorem rows_get {p : Plan} {i : Int} (v1 : 0 ≤ i) (v2 : i < p.2.length) : ∀ {h}, oGet (.tup (p.2.map sD)) (.int i) h = .ok (sD (rowAt p i)) h := get_int v1 (by rw [List.getElem?_map, rowAt_get v1 v2]; rfl)
/-- how many words the two make -/
theorem side_many {p q : Plan} (wp : Wf p) (wq : Wf q) {a : Nat} {x3 x4 x5 x6 x7 x8 : Option Dt} (ea : h[a]? = some (.lst ((met p q).map qD))) :
    ∃ h', eLc (iSeq (eVar 2)) (.tp [(.nm 4), (.nm 5)]) EP.tYes (eOp oMul (eBf bLen (aCons (eOp oGet (eOp oGet (eVar 0) (eC (.int 1))) (eVar 4)) aNil)) (eBf bLen (aCons (eOp oGet (eOp oGet (eVar 1) (eC (.int 1))) (eVar 5)) aNil))) [4, 5] (callK D k) [some (pD p), some (pD q), some (.loc a), x3, x4, x5, x6, x7, x8] h = .ok (.loc h.length) h' ∧ h <+: h' ∧
      h'[h.length]? = some (.lst (((met p q).map fun x => ((rowAt p x.1).length : Int) * ((rowAt q x.2).length : Int)).map Dt.int)) := by
  obtain ⟨h', e1, e2, e3⟩ := lc_mapA (g := qD) (xs := met p q) (i := iSeq (eVar 2)) (p := .tp [(.nm 4), (.nm 5)]) (e := eOp oMul (eBf bLen (aCons (eOp oGet (eOp oGet (eVar 0) (eC (.int 1))) (eVar 4)) aNil)) (eBf bLen (aCons (eOp oGet (eOp oGet (eVar 1) (eC (.int 1))) (eVar 5)) aNil))) (vs := [4, 5]) (G := callK D k)
    (ρ := [some (pD p), some (pD q), some (.loc a), x3, x4, x5, x6, x7, x8]) (h := h) (h1 := h) (by simp [itOf_lst ea]) (its_lstA ea) (fun x => .int (((rowAt p x.1).length : Int) * ((rowAt q x.2).length : Int))) (by have := met_len wp wq; rw [sizeLine_eq]; omega) (by
    rintro x hx
    obtain ⟨v1, v2, v3, v4⟩ := (met_spec wp wq).2.1 x hx
    refine ⟨[some (pD p), some (pD q), some (.loc a), x3, some (.int x.1), some (.int x.2), x6, x7, x8], by simp, fun h' _ => .now ?_⟩
    have := (wp.row _ (rowAt_mem v1 v2)).2.1
    have hm : ∀ {h : MH} {j : Int}, oMul (.int ((rowAt p x.1).length : Int)) (.int j) h = .ok (.int (((rowAt p x.1).length : Int) * j)) h := mul_small (by omega) (by omega)
    simp [rows_get v1 v2, rows_get v3 v4, hm])
  exact ⟨h', e1, e2, by rw [e3, List.map_map]; rfl⟩
theorem numD_nodup {R : List (Int × Int)} (hn : R.Nodup) : ((R.zipIdx).map fun q => ([Sum.inl q.1.1, Sum.inl q.1.2] : List Key)).Nodup := by
  have e : ((R.zipIdx).map fun q => ([Sum.inl q.1.1, Sum.inl q.1.2] : List Key)) = R.map fun q => ([Sum.inl q.1, Sum.inl q.2] : List Key) := by
    have h1 : R = R.zipIdx.map (·.1) := by simp
    conv => rhs; rw [h1, List.map_map]
    rfl
  rw [e, List.nodup_iff_pairwise_ne, List.pairwise_map]
  refine List.Pairwise.imp ?_ hn
  rintro a b ne z
  simp at z
  exact ne (Prod.ext z.1 z.2)
theorem side_nums {p q : Plan} (wp : Wf p) (wq : Wf q) {a : Nat} {x3 x4 x5 x6 x7 x8 : Option Dt} (ea : h[a]? = some (.lst ((met p q).map qD))) :
    ∃ h', eDc true (iEnum (eVar 2)) (.tp [(.nm 7), (.nm 8)]) EP.tYes (eVar 8) (eVar 7) [7, 8] (callK D k) [some (pD p), some (pD q), some (.loc a), x3, x4, x5, x6, x7, x8] h = .ok (.loc h.length) h' ∧ h <+: h' ∧ h'[h.length]? = some (.dT (numD (met p q))) := by
  obtain ⟨h', e1, e2, e3⟩ := dcT_run (g := fun q : (Int × Int) × Nat => Dt.tup [.int (q.2 : Nat), qD q.1]) (xs := (met p q).zipIdx) (i := iEnum (eVar 2)) (p := .tp [(.nm 7), (.nm 8)]) (k := eVar 8) (e := eVar 7) (vs := [7, 8]) (G := callK D k)
    (ρ := [some (pD p), some (pD q), some (.loc a), x3, x4, x5, x6, x7, x8]) (h := h) (h1 := h) (by simp [itOf_lst ea]) (its_enumA (its_lstA ea)) (fun q => [Sum.inl q.1.1, Sum.inl q.1.2]) (fun q => .int (q.2 : Nat)) (by have := met_len wp wq; rw [sizeLine_eq]; simp; omega) (by
    rintro x hx
    refine ⟨[some (pD p), some (pD q), some (.loc a), x3, x4, x5, x6, some (.int (x.2 : Nat)), some (qD x.1)], by simp, fun h' _ => ⟨qD x.1, .now (by simp), by simp [toKeys, toKeyL, toKey], fun h' _ => .now (by simp)⟩⟩)
  refine ⟨h', e1, e2, ?_⟩
  rw [e3, foldl_setK _ _ _ _ (numD_nodup (met_spec wp wq).1) (fun _ _ => by simp)]
  simp [numD]
open PySem L2 EP
variable {k : Nat} {h : MH}
@[simp] theorem list_tup {xs : List Dt} : bList [.tup xs] h = .ok (.loc h.length) (h ++ [.lst xs]) := rfl
open PySem L2 EP
variable {k : Nat} {h : MH}
theorem wire_table {w : Word} (hn : w.Nodup) (hl : w.length ≤ 200) : ∃ d h', callK D (k + 1) i_wire_table [wD w] h = .ok d h' ∧ h <+: h' ∧ ∃ n, d = .loc n ∧ h.length ≤ n ∧ h'[n]? = some (.dK (tabK w)) := by
  refine Ans.ok (Q := fun d h' => h <+: h' ∧ ∃ n, d = .loc n ∧ h.length ≤ n ∧ h'[n]? = some (.dK (tabK w))) (call_run (md := D_wire_table) rfl rfl fun O oN oQ oX => ?_)
  obtain ⟨h2, e1, p1, q1⟩ := dcK_run (g := Dt.int) (xs := w) (i := iSeq (eVar 0)) (p := .nm 1) (k := eVar 1) (e := eC (.bl true)) (vs := [1]) (G := callK D k) (ρ := [some (wD w), none]) (h := h) (h1 := h) (by simp) its_tup (fun x => Sum.inl x) (fun _ => .bl true) (by rw [sizeLine_eq]; omega) (by
    rintro x hx
    exact ⟨[some (wD w), some (.int x)], by simp, fun h' _ => ⟨.int x, .now (by simp), rfl, fun h' _ => .now (by simp)⟩⟩)
  simp [m_wire_table, e1]
  exact oQ _ _ ⟨p1, _, rfl, Nat.le_refl _, by rw [q1, tab_make hn]⟩
theorem count_in {w v : Word} {n : Nat} (e : h[n]? = some (.dK (tabK w))) (hl : v.length ≤ 200) : ∃ h', callK D (k + 1) i_count_in [.loc n, wD v] h = .ok (.int (v.filter fun x => decide (x ∈ w)).length) h' ∧ h <+: h' := by
  refine Ans.val (call_run (md := D_count_in) rfl rfl fun O oN oQ oX => ?_)
  obtain ⟨h2, e1, p1, q1⟩ := lc_pureA (g := Dt.int) (xs := v) (i := iSeq (eVar 1)) (p := .nm 2) (t := tBl (eOp (oIn false) (eVar 2) (eVar 0))) (e := eVar 2) (vs := [2]) (G := callK D k) (ρ := [some (.loc n), some (wD v), none]) (h := h) (h1 := h) (by simp) its_tup (fun x => decide (x ∈ w)) Dt.int (by rw [sizeLine_eq]; omega) (by
    rintro x hx
    refine ⟨[some (.loc n), some (wD v), some (.int x)], by simp, fun h' pr => ⟨.now ?_, fun _ => .now (by simp)⟩⟩
    simp [in_tab (pre_get pr e)])
  simp [m_count_in, e1, len_lst q1]
  exact oQ _ _ ⟨by simp, p1⟩
/-- the tables of the words -/
def TabsAt {α : Type} (h : MH) (f : α → Word) (g : Nat → α → Dt) (ds : List Dt) (ws : List α) : Prop := ds.length = ws.length ∧ ∀ (j : Nat) (w : α), ws[j]? = some w → ∃ n, ds[j]? = some (g n w) ∧ h[n]? = some (.dK (tabK (f w)))
theorem TabsAt.mono {α : Type} {h h' : MH} {f : α → Word} {g : Nat → α → Dt} {ds : List Dt} {ws : List α} (t : TabsAt h f g ds ws) (p : h <+: h') : TabsAt h' f g ds ws := ⟨t.1, fun j w e => let ⟨n, a, b⟩ := t.2 j w e; ⟨n, a, pre_get p b⟩⟩
/-- [.. wire_table(..) .. for x in xs] -/
theorem tabs_made {α : Type} {f : α → Word} {g : Nat → α → Dt} {gx : α → Dt} {xs : List α} {i : SI} {p : TP} {e : SE} {vs : List Nat} {G : Orc} {ρ : EP.Env} {I : Wk} (hi : i G ρ h = .ok I h) (hf : Its I h (xs.map gx)) (hz : xs.length ≤ 1000)
    (hx : ∀ x ∈ xs, ∃ ρ', assignP p (gx x) (wipeE ρ vs) = some ρ' ∧ ∀ h', ∃ n h2, e G ρ' h' = .ok (g n x) h2 ∧ h' <+: h2 ∧ h'.length ≤ n ∧ h2[n]? = some (.dK (tabK (f x)))) :
    ∃ h' ds, eLc i p EP.tYes e vs G ρ h = .ok (.loc h.length) h' ∧ h <+: h' ∧ h'[h.length]? = some (.lst ds) ∧ TabsAt h' f g ds xs := by
  rw [eLc_s, hi, bnd_ok]
  have htot : I.tot = xs.length := by rw [hf.tot, List.length_map]
  obtain ⟨acc, h', r1, r2, r3⟩ := lc_inv (I := I) (p := p) (t := EP.tYes) (e := e) (G := G) (ρ := wipeE ρ vs) (D := h.length)
    (fun i acc h' => h <+: h' ∧ TabsAt h' f g acc (xs.take i) ∧ i ≤ xs.length) (by
    rintro i acc h1 hlt ⟨pr, ta, hle⟩ hD
    have hl : i < xs.length := by rw [← htot]; exact hlt
    obtain ⟨ρ', a1, a2⟩ := hx xs[i] (List.getElem_mem hl)
    obtain ⟨n, h2, b1, b2, b3, b4⟩ := a2 h1
    have hD2 := pre_get b2 hD
    have hDn : h.length ≠ n := by have := lt_of_get hD; omega
    refine ⟨gx xs[i], ρ', by rw [hf.get h1 pr i (by simpa using hl), List.getElem?_map, List.getElem?_eq_getElem hl]; rfl, a1, true, h1, rfl, fun _ => ⟨g n xs[i], h2, b1, hD2, ?_, ?_⟩, fun z => by cases z⟩
    · rw [ta.1, List.length_take, sizeLine_eq]; omega
    · have u := Up.of (o' := MO.lst (acc ++ [g n xs[i]])) hD2
      have hacc : acc.length = i := by rw [ta.1, List.length_take]; omega
      refine ⟨u.pre (pr.trans b2) (Nat.le_refl _), ⟨?_, fun j w e => ?_⟩, hl⟩
      · simp [hacc]
        omega
      · rw [List.take_succ, List.getElem?_eq_getElem hl] at e
        by_cases hj : j < i
        · rw [List.getElem?_append_left (by simp; omega)] at e
          obtain ⟨m, c1, c2⟩ := ta.2 j w e
          have hm : m ≠ h.length := fun z => by subst z; rw [hD] at c2; cases c2
          exact ⟨m, by rw [List.getElem?_append_left (by omega)]; exact c1, u.get hm (pre_get b2 c2)⟩
        · have hji : j = i := by
            have := (List.getElem?_eq_some_iff.mp e).1
            simp at this
            omega
          subst hji
          have ew : w = xs[j] := by
            rw [List.getElem?_append_right (by simp; omega)] at e
            simp at e
            have : min j xs.length = j := by omega
            simp [this] at e
            exact e.symm
          subst ew
          refine ⟨n, ?_, u.get (Ne.symm hDn) b4⟩
          rw [List.getElem?_append_right (by omega), hacc]
          simp) (fun acc h' q => hf.fin h' q.1) I.tot 0 [] (h ++ [.lst []]) (Nat.zero_add _) (by simp) ⟨pre_app _ _, ⟨by simp, fun j w e => by simp at e⟩, Nat.zero_le _⟩
  refine ⟨h', acc, r1, r3.1, r2, ?_⟩
  have := r3.2.1
  rw [htot, List.take_length] at this
  exact this

open PySem L2 EP
variable {k : Nat} {h : MH}
abbrev fW (c : Word × Int) : Word := c.1
abbrev tbD (n : Nat) (c : Word × Int) : Dt := .tup [.loc n, .int c.2]
theorem clause_tables {l : Lim} (h64 : l.2.length ≤ 64) (hw : ∀ c ∈ l.2, c.1.Nodup ∧ c.1.length ≤ 200) : ∃ d h', callK D (k + 2) i_clause_tables [lD l] h = .ok d h' ∧ h <+: h' ∧ ∃ a ds, d = .loc a ∧ h'[a]? = some (.lst ds) ∧ TabsAt h' fW tbD ds l.2 := by
  refine Ans.ok (Q := fun d h' => h <+: h' ∧ ∃ a ds, d = .loc a ∧ h'[a]? = some (.lst ds) ∧ TabsAt h' fW tbD ds l.2) (call_run (md := D_clause_tables) rfl rfl fun O oN oQ oX => ?_)
  obtain ⟨h2, ds, e1, p1, q1, t1⟩ := tabs_made (f := fW) (g := tbD) (gx := eD) (xs := l.2) (h := h) (i := iSeq (eOp oGet (eVar 0) (eC (.int 1)))) (p := .tp [(.nm 1), (.nm 2)]) (e := eTup (aCons (eCall i_wire_table (aCons (eVar 1) aNil)) (aCons (eVar 2) aNil))) (vs := [1, 2]) (G := callK D (k + 1)) (ρ := [some (lD l), none, none]) (I := itT (l.2.map eD)) (by simp) its_tup (by omega) (by
    rintro c hc
    refine ⟨[some (lD l), some (wD c.1), some (.int c.2)], by simp, fun h' => ?_⟩
    obtain ⟨d, h3, f1, f2, n, rfl, f3, f4⟩ := wire_table (k := k) (h := h') (hw c hc).1 (hw c hc).2
    exact ⟨n, h3, by simp [f1], f2, f3, f4⟩)
  simp [m_clause_tables, e1]
  exact oQ _ _ ⟨p1, _, ds, rfl, q1, t1⟩
/-- do the wires keep all clauses -/
def fits (l : Row) (v : Word) : Bool := l.all fun c => decide (((v.filter fun x => decide (x ∈ c.1)).length : Int) ≤ c.2)
theorem first_beyond {l : Row} {v : Word} {a : Nat} {ds : List Dt} (ea : h[a]? = some (.lst ds)) (t : TabsAt h fW tbD ds l) (hv : v.length ≤ 200) : ∃ d h', callK D (k + 2) i_first_beyond [.loc a, wD v] h = .ok d h' ∧ h <+: h' ∧ ((fits l v = true ∧ d = .non) ∨ (fits l v = false ∧ ∃ i : Int, d = .int i)) := by
  refine Ans.ok (Q := fun d h' => h <+: h' ∧ ((fits l v = true ∧ d = .non) ∨ (fits l v = false ∧ ∃ i : Int, d = .int i))) (call_run (md := D_first_beyond) rfl rfl fun O oN oQ oX => ?_)
  simp [m_first_beyond]
  refine run_forE (f := fun d : Dt => d) (xs := ds) (n := a) (h1 := h) (by simp [itOf_lst ea]) (fun i ρ h' => h <+: h' ∧ (∃ (x2 x3 x4 : Option Dt), ρ = [some (.loc a), some (wD v), x2, x3, x4]) ∧ ∀ c ∈ l.take i, ((v.filter fun x => decide (x ∈ c.1)).length : Int) ≤ c.2)
    ⟨pre_refl h, ⟨none, none, none, rfl⟩, by simp⟩ (fun i ρ h' q => by simpa using pre_get q.1 ea) ?_ ?_
  · rintro i x ρ h' hx ⟨pr, ⟨x2, x3, x4, rfl⟩, hc⟩
    have hi : i < l.length := by rw [← t.1]; exact (List.getElem?_eq_some_iff.mp hx).1
    obtain ⟨n, b1, b2⟩ := t.2 i l[i] (List.getElem?_eq_getElem hi)
    rw [hx] at b1
    cases b1
    refine ⟨[some (.loc a), some (wD v), some (.int (i : Nat)), some (.loc n), some (.int l[i].2)], by simp, fun O2 t2 => ?_⟩
    obtain ⟨h3, f1, f2⟩ := count_in (k := k) (v := v) (pre_get pr b2) hv
    simp [f1]
    by_cases hb : l[i].2 < ((v.filter fun x => decide (x ∈ l[i].1)).length : Int)
    · simp [hb]
      refine t2.Q _ _ (oQ _ _ ⟨pr.trans f2, .inr ⟨?_, _, rfl⟩⟩)
      unfold fits
      rw [List.all_eq_false]
      exact ⟨l[i], List.getElem_mem hi, by simpa using hb⟩
    · simp [hb]
      refine t2.N _ _ ⟨pr.trans f2, ⟨_, _, _, rfl⟩, fun c hcm => ?_⟩
      rw [List.take_succ, List.getElem?_eq_getElem hi] at hcm
      rcases List.mem_append.mp hcm with z | z
      · exact hc c z
      · simp at z
        subst z
        omega
  · rintro ρ h' ⟨pr, ⟨x2, x3, x4, rfl⟩, hc⟩
    simp
    refine oQ _ _ ⟨pr, .inl ⟨?_, rfl⟩⟩
    unfold fits
    rw [List.all_eq_true]
    intro c hcm
    have := hc c (by rw [t.1, List.take_length]; exact hcm)
    simpa using this
/-- the differences of the words of a row -/
theorem word_pairs {ws : List Word} {b : Nat} (eb : h[b]? = some (.lst (ws.map wD))) (h64 : ws.length ≤ 64) (hw : ∀ w ∈ ws, w.Nodup ∧ w.length ≤ 200) : ∃ d h', callK D (k + 2) i_word_pairs [.loc b] h = .ok d h' ∧ h <+: h' ∧ ∃ a, d = .loc a ∧ h.length ≤ a ∧ h'[a]? = some (.lst ((wpairs ws).map tD)) := by
  refine Ans.ok (Q := fun d h' => h <+: h' ∧ ∃ a, d = .loc a ∧ h.length ≤ a ∧ h'[a]? = some (.lst ((wpairs ws).map tD))) (call_run (md := D_word_pairs) rfl rfl fun O oN oQ oX => ?_)
  have hz : ws.length ≤ 1000 := by omega
  obtain ⟨h1, ds, e1, p1, q1, t1⟩ := tabs_made (f := fun w : Word => w) (g := fun n _ => .loc n) (gx := wD) (xs := ws) (h := h) (i := iSeq (eVar 0)) (p := .nm 2) (e := eCall i_wire_table (aCons (eVar 2) aNil)) (vs := [2]) (G := callK D (k + 1)) (ρ := [some (.loc b), none, none, none, none, none, none, none, none]) (I := itL b (ws.map wD).length) (by simp [itOf_lst eb]) (its_lst eb) hz (by
    rintro w hwm
    refine ⟨[some (.loc b), none, some (wD w), none, none, none, none, none, none], by simp, fun h' => ?_⟩
    obtain ⟨d, h3, f1, f2, n, rfl, f3, f4⟩ := wire_table (k := k) (h := h') (hw w hwm).1 (hw w hwm).2
    exact ⟨n, h3, by simp [f1], f2, f3, f4⟩)
  have eb1 := pre_get p1 eb
  simp [m_word_pairs, e1]
  have hzl : ws.zipIdx.length = ws.length := by simp
  have cut : ∀ (i : Nat) (w : Word), ws[i]? = some w → ws.zipIdx.take (i + 1) = ws.zipIdx.take i ++ [(w, i)] := by
    intro i w e
    rw [List.take_succ, List.getElem?_zipIdx, e]
    simp
  refine run_forE (f := wD) (xs := ws) (n := b) (h1 := h1 ++ [.lst []]) (by simp [itOf_lst (pre_get (pre_app h1 [.lst []]) eb1)])
    (fun i ρ h' => h1 <+: h' ∧ i ≤ ws.length ∧ (∃ (x4 x5 x6 x7 x8 : Option Dt), ρ = [some (.loc b), some (.loc h.length), none, some (.loc h1.length), x4, x5, x6, x7, x8]) ∧
      h'[h1.length]? = some (.lst (((ws.zipIdx.take i).flatMap fun l => (ws.zipIdx.filter fun t => !decide (l.2 = t.2)).map fun t => (l.2, t.2, less l.1 t.1)).map tD)))
    ⟨pre_app _ _, Nat.zero_le _, ⟨none, none, none, none, none, rfl⟩, by simp⟩ (fun i ρ h' q => pre_get q.1 eb1) ?_ ?_
  · rintro i w ρ h2 hi ⟨pr, hile, ⟨x4, x5, x6, x7, x8, rfl⟩, e2⟩
    refine ⟨[some (.loc b), some (.loc h.length), none, some (.loc h1.length), some (.int (i : Nat)), some (wD w), x6, x7, x8], by simp, fun O2 t2 => ?_⟩
    generalize hA : ((ws.zipIdx.take i).flatMap fun l => (ws.zipIdx.filter fun t => !decide (l.2 = t.2)).map fun t => (l.2, t.2, less l.1 t.1)) = A at e2
    have hil : i < ws.length := (List.getElem?_eq_some_iff.mp hi).1
    have hAl : A.length ≤ 64 * 64 := by
      rw [← hA]
      have key : ∀ (l : List (Word × Nat)), (l.flatMap fun l => (ws.zipIdx.filter fun t => !decide (l.2 = t.2)).map fun t => (l.2, t.2, less l.1 t.1)).length ≤ l.length * 64 := by
        intro l
        induction l with
        | nil => simp
        | cons z zs ih =>
          have := List.length_filter_le (fun t : Word × Nat => !decide (z.2 = t.2)) ws.zipIdx
          simp only [List.flatMap_cons, List.length_append, List.length_map, List.length_cons]
          omega
      have := key (ws.zipIdx.take i)
      have h3 : (ws.zipIdx.take i).length ≤ 64 := by rw [List.length_take]; omega
      omega
    have eds : h2[h.length]? = some (.lst ds) := pre_get pr q1
    refine run_forE (f := fun d : Dt => d) (xs := ds) (n := h.length) (h1 := h2) (by simp [itOf_lst eds])
      (fun j ρ h' => h1 <+: h' ∧ j ≤ ws.length ∧ (∃ (x6 x7 x8 : Option Dt), ρ = [some (.loc b), some (.loc h.length), none, some (.loc h1.length), some (.int (i : Nat)), some (wD w), x6, x7, x8]) ∧
        h'[h1.length]? = some (.lst ((A ++ ((ws.zipIdx.take j).filter fun t => !decide (i = t.2)).map fun t => (i, t.2, less w t.1)).map tD)))
      ⟨pr, Nat.zero_le _, ⟨x6, x7, x8, rfl⟩, by simpa using e2⟩ (fun j ρ h' q => by simpa using pre_get q.1 q1) ?_ ?_
    · rintro j d ρ h3 hj ⟨pr3, hjle, ⟨x6, x7, x8, rfl⟩, e3⟩
      have hjl : j < ws.length := by rw [← t1.1]; exact (List.getElem?_eq_some_iff.mp hj).1
      obtain ⟨n, b1, b2⟩ := t1.2 j ws[j] (List.getElem?_eq_getElem hjl)
      rw [hj] at b1
      cases b1
      have b3 := pre_get pr3 b2
      refine ⟨[some (.loc b), some (.loc h.length), none, some (.loc h1.length), some (.int (i : Nat)), some (wD w), some (.int (j : Nat)), some (.loc n), x8], by simp, fun O3 t3 => ?_⟩
      have hcut := cut j ws[j] (List.getElem?_eq_getElem hjl)
      by_cases hij : i = j
      · simp [hij]
        refine t3.N _ _ ⟨pr3, hjl, ⟨_, _, _, by rw [hij]⟩, ?_⟩
        rw [e3, hcut, List.filter_append]
        simp [hij]
      · have hij' : ¬ ((i : Nat) : Int) = ((j : Nat) : Int) := by omega
        have hwm := List.mem_of_getElem? hi
        obtain ⟨h4, f1, f2, f3⟩ := lc_pureA (g := Dt.int) (xs := w) (i := iSeq (eVar 5)) (p := .nm 8) (t := tBl (eOp (oIn true) (eVar 8) (eVar 7))) (e := eVar 8) (vs := [8]) (G := callK D (k + 1))
          (ρ := [some (.loc b), some (.loc h.length), none, some (.loc h1.length), some (.int (i : Nat)), some (wD w), some (.int (j : Nat)), some (.loc n), x8]) (h := h3) (h1 := h3) (by simp) its_tup (fun x => !decide (x ∈ ws[j])) Dt.int (by have := (hw w hwm).2; rw [sizeLine_eq]; omega) (by
          rintro x hx
          refine ⟨[some (.loc b), some (.loc h.length), none, some (.loc h1.length), some (.int (i : Nat)), some (wD w), some (.int (j : Nat)), some (.loc n), some (.int x)], by simp, fun h' pr => ⟨.now ?_, fun _ => .now (by simp)⟩⟩
          simp [in_tab (pre_get pr b3)])
        have e4 := pre_get f2 e3
        have hlen : ((A ++ ((ws.zipIdx.take j).filter fun t => !decide (i = t.2)).map fun t => (i, t.2, less w t.1)).map tD).length < sizeLine := by
          have := List.length_filter_le (fun t : Word × Nat => !decide (i = t.2)) (ws.zipIdx.take j)
          have h5 : (ws.zipIdx.take j).length ≤ 64 := by rw [List.length_take]; omega
          rw [sizeLine_eq]
          simp only [List.length_map, List.length_append]
          omega
        obtain ⟨h5, f4, u⟩ := app_ex (v := tD (i, j, less w ws[j])) e4 hlen
        have f5 : tD (i, j, less w ws[j]) = .tup [.int (i : Nat), .int (j : Nat), .tup ((w.filter fun x => !decide (x ∈ ws[j])).map Dt.int)] := rfl
        rw [f5] at f4
        simp only [sIf_s, tBl_s, eOp_s, eVar_s]
        simp [hij, hij', isLst_lst e3, f1, tuple_lst f3]
        simp [f4]
        refine t3.N _ _ ⟨u.pre (pr3.trans f2) (Nat.le_refl _), hjl, ⟨_, _, _, rfl⟩, ?_⟩
        rw [u.at_, hcut, List.filter_append]
        simp [hij]
    · rintro ρ h3 ⟨pr3, hjle, ⟨x6, x7, x8, rfl⟩, e3⟩
      rw [run_nx0]
      refine t2.N _ _ ⟨pr3, hil, ⟨_, _, _, _, _, rfl⟩, ?_⟩
      rw [e3, cut i w hi, List.flatMap_append, hA, t1.1, ← hzl, List.take_length]
      simp
  · rintro ρ h2 ⟨pr, hile, ⟨x4, x5, x6, x7, x8, rfl⟩, e2⟩
    simp
    refine oQ _ _ ⟨p1.trans pr, _, rfl, pre_len p1, ?_⟩
    rw [e2, ← hzl, List.take_length]
    rfl

open PySem L2 EP
variable {k : Nat} {h : MH}
theorem wpairs_len {ws : List Word} (h64 : ws.length ≤ 64) : (wpairs ws).length ≤ 64 * 64 := by
  unfold wpairs
  have key : ∀ (l : List (Word × Nat)), (l.flatMap fun l => (ws.zipIdx.filter fun t => !decide (l.2 = t.2)).map fun t => (l.2, t.2, less l.1 t.1)).length ≤ l.length * 64 := by
    intro l
    induction l with
    | nil => simp
    | cons z zs ih =>
      have := List.length_filter_le (fun t : Word × Nat => !decide (z.2 = t.2)) ws.zipIdx
      have : ws.zipIdx.length ≤ 64 := by simpa using h64
      simp only [List.flatMap_cons, List.length_append, List.length_map, List.length_cons]
      omega
  have := key ws.zipIdx
  have h3 : ws.zipIdx.length ≤ 64 := by simpa using h64
  omega
theorem less_len {a b : Word} : (less a b).length ≤ a.length := List.length_filter_le _ _
theorem wpairs_word {ws : List Word} {t : Nat × Nat × Word} (ht : t ∈ wpairs ws) : ∃ w ∈ ws, ∃ v ∈ ws, t.2.2 = less w v := by
  obtain ⟨l, hl, ht⟩ := List.mem_flatMap.mp ht
  obtain ⟨u, hu, rfl⟩ := List.mem_map.mp ht
  have h1 := (List.mem_filter.mp hu).1
  obtain ⟨w, i⟩ := l
  obtain ⟨v, j⟩ := u
  exact ⟨w, (List.mem_zipIdx' hl).2 ▸ List.getElem_mem _, v, (List.mem_zipIdx' h1).2 ▸ List.getElem_mem _, rfl⟩
theorem plan_pairs {p : Plan} (wp : Pw p) : ∃ d h', callK D (k + 3) i_plan_pairs [pD p] h = .ok d h' ∧ h <+: h' ∧ ∃ a, d = .loc a ∧ h'[a]? = some (.lst ((ppairs p).map t4D)) := by
  refine Ans.ok (Q := fun d h' => h <+: h' ∧ ∃ a, d = .loc a ∧ h'[a]? = some (.lst ((ppairs p).map t4D))) (call_run (md := D_plan_pairs) rfl rfl fun O oN oQ oX => ?_)
  simp [m_plan_pairs]
  have cut : ∀ (i : Nat) (r : Row), p.2[i]? = some r → p.2.zipIdx.take (i + 1) = p.2.zipIdx.take i ++ [(r, i)] := by
    intro i w e
    rw [List.take_succ, List.getElem?_zipIdx, e]
    simp
  have hzl : p.2.zipIdx.length = p.2.length := by simp
  refine run_forET (f := sD) (xs := p.2) (h1 := h ++ [.lst []]) (by simp) (fun i ρ h' => h <+: h' ∧ i ≤ p.2.length ∧ (∃ (x2 x3 x4 x5 x6 : Option Dt), ρ = [some (pD p), some (.loc h.length), x2, x3, x4, x5, x6, none]) ∧
    h'[h.length]? = some (.lst (((p.2.zipIdx.take i).flatMap fun r => (wpairs (r.1.map (·.1))).map fun t => (r.2, t.1, t.2.1, t.2.2)).map t4D)))
    ⟨pre_app _ _, Nat.zero_le _, ⟨none, none, none, none, none, rfl⟩, by simp⟩ ?_ ?_
  · rintro i r ρ h2 hi ⟨pr, hile, ⟨x2, x3, x4, x5, x6, rfl⟩, e2⟩
    have hil : i < p.2.length := (List.getElem?_eq_some_iff.mp hi).1
    obtain ⟨r64, rw'⟩ := wp.row r (List.mem_of_getElem? hi)
    refine ⟨[some (pD p), some (.loc h.length), some (.int (i : Nat)), some (sD r), x4, x5, x6, none], by simp, fun O2 t2 => ?_⟩
    generalize hA : ((p.2.zipIdx.take i).flatMap fun r => (wpairs (r.1.map (·.1))).map fun t => (r.2, t.1, t.2.1, t.2.2)) = A at e2
    have hAl : A.length ≤ 12 * 4096 := by
      rw [← hA]
      have key : ∀ (l : List (Row × Nat)), (∀ r ∈ l, r.1.length ≤ 64) → (l.flatMap fun r => (wpairs (r.1.map (·.1))).map fun t => (r.2, t.1, t.2.1, t.2.2)).length ≤ l.length * 4096 := by
        intro l
        induction l with
        | nil => intro _; simp
        | cons z zs ih =>
          intro hz
          have h1 := ih fun r hr => hz r (by simp [hr])
          have h2 : (wpairs (z.1.map (·.1))).length ≤ 4096 := wpairs_len (ws := z.1.map (·.1)) (by simpa using hz z (by simp))
          simp only [List.flatMap_cons, List.length_append, List.length_map, List.length_cons]
          rw [Nat.add_mul, Nat.one_mul, Nat.add_comm]
          exact Nat.add_le_add h1 h2
      have h1 := key (p.2.zipIdx.take i) fun r hr => by
        have := List.mem_of_mem_take hr
        obtain ⟨r0, j⟩ := r
        have hm : r0 ∈ p.2 := (List.mem_zipIdx' this).2 ▸ List.getElem_mem _
        exact (wp.row r0 hm).1
      have h3 : (p.2.zipIdx.take i).length ≤ 12 := by have := wp.len; rw [List.length_take]; omega
      exact Nat.le_trans h1 (Nat.mul_le_mul_right _ h3)
    obtain ⟨h3, f1, f2, f3⟩ := lc_mapA (g := eD) (xs := r) (i := iSeq (eVar 3)) (p := .nm 7) (e := eOp oGet (eVar 7) (eC (.int 0))) (vs := [7]) (G := callK D (k + 2)) (ρ := [some (pD p), some (.loc h.length), some (.int (i : Nat)), some (sD r), x4, x5, x6, none]) (h := h2) (h1 := h2) (by simp) its_tup (fun e => wD e.1) (by rw [sizeLine_eq]; omega) (by
      rintro x hx
      exact ⟨[some (pD p), some (.loc h.length), some (.int (i : Nat)), some (sD r), x4, x5, x6, some (eD x)], by simp, fun h' _ => .now (by simp)⟩)
    have f3' : h3[h2.length]? = some (.lst ((r.map (·.1)).map wD)) := by rw [f3, List.map_map]; rfl
    obtain ⟨d, h4, g1, g2, a, rfl, ga, g3⟩ := word_pairs (k := k) f3' (by simpa using r64) (fun w hw => by
      obtain ⟨e, he, rfl⟩ := List.mem_map.mp hw
      exact rw' e he)
    have e4 := pre_get g2 (pre_get f2 e2)
    have hne : a ≠ h.length := by
      have := lt_of_get (pre_get f2 e2)
      omega
    refine run_forL (f := tD) (xs := wpairs (r.map (·.1))) (n := a) (h1 := h4) (by simp [f1, g1, itOf_lst g3])
      (fun j ρ h' => h <+: h' ∧ (∃ (x4 x5 x6 : Option Dt), ρ = [some (pD p), some (.loc h.length), some (.int (i : Nat)), some (sD r), x4, x5, x6, none]) ∧ h'[a]? = some (.lst ((wpairs (r.map (·.1))).map tD)) ∧
        h'[h.length]? = some (.lst ((A ++ ((wpairs (r.map (·.1))).take j).map fun t => (i, t.1, t.2.1, t.2.2)).map t4D)))
      ⟨pr.trans (f2.trans g2), ⟨x4, x5, x6, rfl⟩, g3, by simpa using e4⟩ (fun j ρ h' q => q.2.2.1) ?_ ?_
    · rintro j t ρ h5 hj ⟨pr5, ⟨x4, x5, x6, rfl⟩, e5, e6⟩
      refine ⟨[some (pD p), some (.loc h.length), some (.int (i : Nat)), some (sD r), some (.int (t.1 : Nat)), some (.int (t.2.1 : Nat)), some (wD t.2.2), none], by simp, fun O3 t3 => ?_⟩
      have hlen : ((A ++ ((wpairs (r.map (·.1))).take j).map fun t => (i, t.1, t.2.1, t.2.2)).map t4D).length < sizeLine := by
        have h7 : (wpairs (r.map (·.1))).length ≤ 4096 := wpairs_len (ws := r.map (·.1)) (by simpa using r64)
        rw [sizeLine_eq]
        simp only [List.length_map, List.length_append, List.length_take]
        omega
      obtain ⟨h6, f4, u⟩ := app_ex (v := t4D (i, t.1, t.2.1, t.2.2)) e6 hlen
      simp [isLst_lst e6, f4]
      refine t3.N _ _ ⟨u.pre pr5 (Nat.le_refl _), ⟨_, _, _, rfl⟩, u.get hne e5, ?_⟩
      rw [u.at_, List.take_succ, hj]
      simp
    · rintro ρ h5 ⟨pr5, ⟨x4, x5, x6, rfl⟩, e5, e6⟩
      rw [run_nx0]
      refine t2.N _ _ ⟨pr5, hil, ⟨_, _, _, _, _, rfl⟩, ?_⟩
      rw [e6, cut i r hi, List.flatMap_append, hA, List.take_length]
      simp
  · rintro ρ h2 ⟨pr, hile, ⟨x2, x3, x4, x5, x6, rfl⟩, e2⟩
    simp
    refine oQ _ _ ⟨pr, _, rfl, ?_⟩
    rw [e2, ← hzl, List.take_length]
    rfl

open PySem L2 EP
variable {k : Nat} {h : MH}
/-- the least of the sizes, less one; none of none -/
def gapD (ns : List Nat) : Dt := if ns = [] then .non else .int (minL (ns.map fun (n : Nat) => (n : Int)) - 1)
theorem get_m1 {a b c d : Dt} : oGet (.tup [a, b, c, d]) (.int (-1)) h = .ok d h := rfl
theorem get3 {a b c d : Dt} : oGet (.tup [a, b, c, d]) (.int 3) h = .ok d h := rfl
theorem min_lst {n : Nat} {ns : List Int} (e : h[n]? = some (.lst (ns.map Dt.int))) (ne : ns ≠ []) : bMin [.loc n] h = .ok (.int (minL ns)) h := by
  simp [bMin, getL, e, intsOf_map, ne]
theorem ppairs_len {p : Plan} (wp : Pw p) : (ppairs p).length ≤ 12 * 4096 := by
  unfold ppairs
  have key : ∀ (l : List (Row × Nat)), (∀ r ∈ l, r.1.length ≤ 64) → (l.flatMap fun r => (wpairs (r.1.map (·.1))).map fun t => (r.2, t.1, t.2.1, t.2.2)).length ≤ l.length * 4096 := by
    intro l
    induction l with
    | nil => intro _; simp
    | cons z zs ih =>
      intro hz
      have h1 := ih fun r hr => hz r (by simp [hr])
      have h2 : (wpairs (z.1.map (·.1))).length ≤ 4096 := wpairs_len (ws := z.1.map (·.1)) (by simpa using hz z (by simp))
      simp only [List.flatMap_cons, List.length_append, List.length_map, List.length_cons]
      rw [Nat.add_mul, Nat.one_mul, Nat.add_comm]
      exact Nat.add_le_add h1 h2
  have h1 := key p.2.zipIdx fun r hr => by
    obtain ⟨r0, j⟩ := r
    have hm : r0 ∈ p.2 := (List.mem_zipIdx' hr).2 ▸ List.getElem_mem _
    exact (wp.row r0 hm).1
  have h3 : p.2.zipIdx.length ≤ 12 := by simpa using wp.len
  exact Nat.le_trans h1 (Nat.mul_le_mul_right _ h3)
theorem least_gap {a : Nat} {ts : List (Nat × Nat × Nat × Word)} (ea : h[a]? = some (.lst (ts.map t4D))) (hl : ts.length ≤ 12 * 4096) : ∃ h', callK D (k + 1) i_least_gap [.loc a] h = .ok (gapD (ts.map fun t => t.2.2.2.length)) h' ∧ h <+: h' := by
  refine Ans.val (call_run (md := D_least_gap) rfl rfl fun O oN oQ oX => ?_)
  obtain ⟨h2, e1, p1, q1⟩ := lc_mapA (g := t4D) (xs := ts) (i := iSeq (eVar 0)) (p := .nm 2) (e := eBf bLen (aCons (eOp oGet (eVar 2) (eNeg (eC (.int 1)))) aNil)) (vs := [2]) (G := callK D k) (ρ := [some (.loc a), none, none]) (h := h) (h1 := h) (by simp [itOf_lst ea]) (its_lstA ea) (fun t => .int (t.2.2.2.length : Int)) (by rw [sizeLine_eq]; exact Nat.le_trans hl (by decide)) (by
    rintro t ht
    exact ⟨[some (.loc a), none, some (t4D t)], by simp, fun h' _ => .now (by simp [get_m1])⟩)
  simp [m_least_gap, e1, truth_lst q1]
  cases ts with
  | nil =>
    simp
    exact oQ _ _ ⟨by simp [gapD], p1⟩
  | cons t r =>
    simp
    have q2 : h2[h.length]? = some (.lst ((((t :: r).map fun t => t.2.2.2.length).map fun (n : Nat) => (n : Int)).map Dt.int)) := by rw [q1]; simp [Function.comp_def]
    rw [min_lst q2 (by simp)]
    simp
    exact oQ _ _ ⟨by simp [gapD], p1⟩
theorem greatest_even {p : Plan} (wp : Pw p) : ∃ h', callK D (k + 4) i_greatest_even [pD p] h = .ok (gapD ((ppairs p).map fun t => t.2.2.2.length)) h' ∧ h <+: h' := by
  refine Ans.val (call_run (md := D_greatest_even) rfl rfl fun O oN oQ oX => ?_)
  obtain ⟨d, h1, e1, p1, a, rfl, ea⟩ := plan_pairs (k := k) (h := h) wp
  obtain ⟨h2, e2, p2⟩ := least_gap (k := k + 2) ea (ppairs_len wp)
  simp [m_greatest_even, e1, e2]
  exact oQ _ _ ⟨rfl, p1.trans p2⟩
theorem first_bar {p : Plan} {l : Lim} (wp : Pw p) (en : p.1 = l.1) (h64 : l.2.length ≤ 64) (hw : ∀ c ∈ l.2, c.1.Nodup ∧ c.1.length ≤ 200) :
    ∃ d h', callK D (k + 4) i_first_bar [pD p, lD l] h = .ok d h' ∧ h <+: h' ∧ (((ppairs p).all (fun t => !fits l.2 t.2.2.2) = true ∧ d = .non) ∨ ((ppairs p).all (fun t => !fits l.2 t.2.2.2) = false ∧ ∃ xs, d = .tup xs)) := by
  refine Ans.ok (Q := fun d h' => h <+: h' ∧ (((ppairs p).all (fun t => !fits l.2 t.2.2.2) = true ∧ d = .non) ∨ ((ppairs p).all (fun t => !fits l.2 t.2.2.2) = false ∧ ∃ xs, d = .tup xs))) (call_run (md := D_first_bar) rfl rfl fun O oN oQ oX => ?_)
  have hcf := check_fit (k := k + 2) (h := h) l.1
  obtain ⟨d1, h1, e1, p1, a, ds, rfl, ea, ta⟩ := clause_tables (k := k + 1) (h := h) h64 hw
  obtain ⟨d2, h2, e2, p2, b, rfl, eb⟩ := plan_pairs (k := k) (h := h1) wp
  have hwl : ∀ t ∈ ppairs p, t.2.2.2.length ≤ 200 := by
    intro t ht
    obtain ⟨r, hr, ht⟩ := List.mem_flatMap.mp ht
    obtain ⟨u, hu, rfl⟩ := List.mem_map.mp ht
    obtain ⟨w, hw1, v, hv, e⟩ := wpairs_word hu
    obtain ⟨x, hx, rfl⟩ := List.mem_map.mp hw1
    obtain ⟨r0, j⟩ := r
    have hm : r0 ∈ p.2 := (List.mem_zipIdx' hr).2 ▸ List.getElem_mem _
    have h5 := ((wp.row r0 hm).2 x hx).2
    have h6 := less_len (a := x.1) (b := v)
    show u.2.2.length ≤ 200
    rw [e]
    exact Nat.le_trans h6 h5
  simp [m_first_bar, en, hcf, e1]
  refine run_forL (f := t4D) (xs := ppairs p) (n := b) (h1 := h2) (by simp [e2, itOf_lst eb]) (fun i ρ h' => h2 <+: h' ∧ (∃ (x3 : Option Dt), ρ = [some (pD p), some (lD l), some (.loc a), x3]) ∧ ∀ t ∈ (ppairs p).take i, fits l.2 t.2.2.2 = false)
    ⟨pre_refl _, ⟨none, by simp [en]⟩, by simp⟩ (fun i ρ h' q => pre_get q.1 eb) ?_ ?_
  · rintro i t ρ h' ht ⟨pr, ⟨x3, rfl⟩, hc⟩
    have htm := List.mem_of_getElem? ht
    refine ⟨[some (pD p), some (lD l), some (.loc a), some (t4D t)], by simp, fun O2 t2 => ?_⟩
    obtain ⟨d, h3, f1, f2, f3⟩ := first_beyond (k := k + 1) (v := t.2.2.2) (pre_get (p2.trans pr) ea) (ta.mono (p2.trans pr)) (hwl t htm)
    rcases f3 with ⟨f3, rfl⟩ | ⟨f3, j, rfl⟩
    · simp [get3, f1]
      rw [show oCut (t4D t) none (some 3) h3 = .ok (.tup (cutD [.int (t.1 : Nat), .int (t.2.1 : Nat), .int (t.2.2.1 : Nat), wD t.2.2.2] none (some 3))) h3 from rfl, bndS_ok, run_rt]
      refine t2.Q _ _ (oQ _ _ ⟨p1.trans (p2.trans (pr.trans f2)), .inr ⟨?_, _, rfl⟩⟩)
      rw [List.all_eq_false]
      exact ⟨t, htm, by simp [f3]⟩
    · simp [get3, f1]
      refine t2.N _ _ ⟨pr.trans f2, ⟨_, rfl⟩, fun u hu => ?_⟩
      rw [List.take_succ, ht] at hu
      rcases List.mem_append.mp hu with z | z
      · exact hc u z
      · simp at z
        subst z
        exact f3
  · rintro ρ h' ⟨pr, ⟨x3, rfl⟩, hc⟩
    simp
    refine oQ _ _ ⟨p1.trans (p2.trans pr), .inl ⟨?_, rfl⟩⟩
    rw [List.all_eq_true]
    intro t ht
    rw [hc t (by rw [List.take_length]; exact ht)]
    rfl
theorem is_right {p : Plan} {l : Lim} (wp : Pw p) (en : p.1 = l.1) (h64 : l.2.length ≤ 64) (hw : ∀ c ∈ l.2, c.1.Nodup ∧ c.1.length ≤ 200) :
    ∃ h', callK D (k + 5) i_is_right [pD p, lD l] h = .ok (.bl ((ppairs p).all fun t => !fits l.2 t.2.2.2)) h' ∧ h <+: h' := by
  refine Ans.val (call_run (md := D_is_right) rfl rfl fun O oN oQ oX => ?_)
  obtain ⟨d, h1, e1, p1, f⟩ := first_bar (k := k) (h := h) wp en h64 hw
  rcases f with ⟨f, rfl⟩ | ⟨f, xs, rfl⟩
  · simp [m_is_right, e1]
    exact oQ _ _ ⟨by rw [f], p1⟩
  · simp [m_is_right, e1]
    exact oQ _ _ ⟨by rw [f], p1⟩

open PySem L2 EP
variable {k : Nat} {h : MH}
/-! ### the law's own small defs -/
theorem in_wD {ng : Bool} {w : Word} {x : Int} : oIn ng (.int x) (wD w) h = .ok (.bl (if ng then !decide (x ∈ w) else decide (x ∈ w))) h := by
  have h1 : (w.map Dt.int).all Dt.flat = true := by
    rw [List.all_map, List.all_eq_true]
    intro y _
    rfl
  have h2 : ((w.map Dt.int).any fun z => eqv z (.int x)) = decide (x ∈ w) := by
    rw [List.any_map, Bool.eq_iff_iff, List.any_eq_true, decide_eq_true_eq]
    constructor
    · rintro ⟨y, hy, e⟩
      simp at e
      exact e ▸ hy
    · intro hm
      exact ⟨x, hm, by simp⟩
  show (if (Dt.int x).flat = true ∧ (w.map Dt.int).all Dt.flat = true then RE.ok (Dt.bl (if ng then !((w.map Dt.int).any fun z => eqv z (.int x)) else (w.map Dt.int).any fun z => eqv z (.int x))) h else .bad) = _
  rw [if_pos ⟨rfl, h1⟩, h2]
theorem law_less {a b : Word} (hl : a.length ≤ 200) : ∃ h', callK D (k + 1) i_law_less [wD a, wD b] h = .ok (wD (less a b)) h' ∧ h <+: h' := by
  refine Ans.val (call_run (md := D_law_less) rfl rfl fun O oN oQ oX => ?_)
  obtain ⟨h2, e1, p1, q1⟩ := lc_pureA (g := Dt.int) (xs := a) (i := iSeq (eVar 0)) (p := .nm 2) (t := tBl (eOp (oIn true) (eVar 2) (eVar 1))) (e := eVar 2) (vs := [2]) (G := callK D k) (ρ := [some (wD a), some (wD b), none]) (h := h) (h1 := h) (by simp) its_tup (fun x => !decide (x ∈ b)) Dt.int (by rw [sizeLine_eq]; omega) (by
    rintro x hx
    refine ⟨[some (wD a), some (wD b), some (.int x)], by simp, fun h' pr => ⟨.now ?_, fun _ => .now (by simp)⟩⟩
    simp [in_wD])
  simp [m_law_less, e1, tuple_lst q1]
  exact oQ _ _ ⟨rfl, p1⟩
end K77
end
section
/-! MidP: what is wanted behind an expression; walks kept by an invariant of the heap. -/
namespace EP
open PySem L2
@[irreducible] def WE {α : Type} (m : RE α) (Q : α → MH → Prop) (X : Str → Fs → MH → Prop) : Prop := match m with
  | .ok a h => Q a h
  | .ex C fs h => X C fs h
  | .bad => False
section
variable {α β : Type} {Q : α → MH → Prop} {X : Str → Fs → MH → Prop} {h : MH} {G : Orc} {O : Out} {ks : List SS} {ρ : Env}
@[simp] theorem we_ok {a : α} : WE (.ok a h) Q X = Q a h := by unfold WE; rfl
@[simp] theorem we_ex {C : Str} {fs : Fs} : WE (α := α) (.ex C fs h) Q X = X C fs h := by unfold WE; rfl
@[simp] theorem we_bad : WE (α := α) .bad Q X = False := by unfold WE; rfl
@[simp] theorem we_bnd {m : RE β} {f : β → MH → RE α} : WE (bnd m f) Q X = WE m (fun b h => WE (f b h) Q X) X := by cases m <;> simp [bnd]
@[simp] theorem run_bndS {m : RE α} {f : α → MH → RS} : Run G O ks (bndS ρ m f) = WE m (fun a h => Run G O ks (f a h)) (fun C fs h => O.X C fs ρ h) := by
  cases m <;> simp [bndS]
theorem WE.mono {m : RE α} {Q' : α → MH → Prop} {X' : Str → Fs → MH → Prop} (w : WE m Q X) (q : ∀ a h, Q a h → Q' a h) (x : ∀ C fs h, X C fs h → X' C fs h) : WE m Q' X' := by
  cases m with
  | ok a h => rw [we_ok] at w ⊢; exact q _ _ w
  | ex C fs h => rw [we_ex] at w ⊢; exact x _ _ _ w
  | bad => rw [we_bad] at w ⊢; exact w
theorem WE.monoQ {m : RE α} {Q' : α → MH → Prop} (w : WE m Q X) (q : ∀ a h, Q a h → Q' a h) : WE m Q' X := w.mono q fun _ _ _ h => h
abbrev noX : Str → Fs → MH → Prop := fun _ _ _ => False
theorem WE.ofNo {m : RE α} (w : WE m Q noX) : WE m Q X := w.mono (fun _ _ h => h) fun _ _ _ h => h.elim
theorem WE.run {m : RE α} (w : WE m Q noX) : ∃ a h, m = .ok a h ∧ Q a h := by
  cases m with
  | ok a h => rw [we_ok] at w; exact ⟨a, h, rfl, w⟩
  | ex C fs h => rw [we_ex] at w; exact w.elim
  | bad => rw [we_bad] at w; exact w.elim
/-- from a run that is known -/
theorem wp_val {m : RE α} {v : α} {P : MH → Prop} (e : ∃ h', m = .ok v h' ∧ P h') (q : ∀ h', P h' → Q v h') : WE m Q X := by
  obtain ⟨h', rfl, p⟩ := e
  rw [we_ok]
  exact q h' p
theorem wp_ok {m : RE α} {P : α → MH → Prop} (e : ∃ v h', m = .ok v h' ∧ P v h') (q : ∀ v h', P v h' → Q v h') : WE m Q X := by
  obtain ⟨v, h', rfl, p⟩ := e
  rw [we_ok]
  exact q v h' p
theorem wp_eq {m : RE α} {v : α} (e : m = .ok v h) (q : Q v h) : WE m Q X := by rw [e, we_ok]; exact q
theorem wp_ex {m : RE α} {C : Str} {fs : Fs} (e : m = .ex C fs h) (q : X C fs h) : WE m Q X := by rw [e, we_ex]; exact q
end
/-- a def called -/
theorem call_wp {D : List MDef} {k n : Nat} {md : MDef} {args : List Dt} {h : MH} {Q : Dt → MH → Prop} {X : Str → Fs → MH → Prop} (e : D[n]? = some md) (l : args.length = md.ar)
    (r : ∀ O : Out, (∀ ρ h, Q .non h → O.N ρ h) → (∀ d h, Q d h → O.Q d h) → (∀ C fs ρ h, X C fs h → O.X C fs ρ h) → Run (callK D k) O [] (md.body (callK D k) (args.map some ++ List.replicate (md.sl - args.length) none) h)) : WE (callK D (k + 1) n args h) Q X := by
  have := call_run e l r
  revert this
  cases callK D (k + 1) n args h with
  | ok d h => rw [we_ok]; exact id
  | ex C fs h => rw [we_ex]; exact id
  | bad => rw [we_bad]; exact id
/-! ### walks under an invariant of the heap -/
structure HI (I : Wk) (H : MH → Prop) (xs : List Dt) : Prop where
  tot : I.tot = xs.length
  get : ∀ h, H h → ∀ i, i < xs.length → I.get i h = xs[i]?
  fin : ∀ h, H h → I.fin h = true
theorem HF.hi {I : Wk} {xs : List Dt} {H : MH → Prop} (t : HF I xs) : HI I H xs := ⟨t.tot, fun h _ => t.get h, fun h _ => t.fin h⟩
theorem hi_tup {xs : List Dt} {H : MH → Prop} : HI (itT xs) H xs := hf_tup.hi
theorem hi_lst {n : Nat} {xs : List Dt} {H : MH → Prop} (e : ∀ h, H h → h[n]? = some (.lst xs)) : HI (itL n xs.length) H xs :=
  ⟨rfl, fun h hh i _ => by simp [itL, getL, e h hh], fun h hh => by simp [itL, getL, e h hh]⟩
theorem hi_lstA {α : Type} {f : α → Dt} {n : Nat} {xs : List α} {H : MH → Prop} (e : ∀ h, H h → h[n]? = some (.lst (xs.map f))) : HI (itL n xs.length) H (xs.map f) := by
  have := hi_lst e
  simpa using this
theorem hi_enum {I : Wk} {xs : List Dt} {H : MH → Prop} (t : HI I H xs) : HI (itE I) H (xs.zipIdx.map fun q => .tup [.int (q.2 : Nat), q.1]) :=
  ⟨by simp [itE, t.tot], fun h hh i hi => by
    have hi' : i < xs.length := by simpa using hi
    simp [itE, t.get h hh i hi', hi'], fun h hh => t.fin h hh⟩
theorem hi_enumA {α : Type} {f : α → Dt} {I : Wk} {xs : List α} {H : MH → Prop} (t : HI I H (xs.map f)) : HI (itE I) H (xs.zipIdx.map fun q => .tup [.int (q.2 : Nat), f q.1]) := by
  have := hi_enum t
  have e : ((xs.map f).zipIdx.map fun q => Dt.tup [.int (q.2 : Nat), q.1]) = xs.zipIdx.map fun q => Dt.tup [.int (q.2 : Nat), f q.1] := by
    rw [List.zipIdx_map, List.map_map]
    rfl
  rwa [e] at this
theorem hi_zipA {α β : Type} {f : α → Dt} {g : β → Dt} {I J : Wk} {xs : List α} {ys : List β} {H : MH → Prop} (t : HI I H (xs.map f)) (u : HI J H (ys.map g)) : HI (itZ I J (min I.tot J.tot)) H ((xs.zip ys).map fun q => .tup [f q.1, g q.2]) :=
  ⟨by simp [itZ, t.tot, u.tot], fun h hh i hi => by
    have hi' : i < xs.length ∧ i < ys.length := by simpa [Nat.lt_min] using hi
    simp [itZ, t.get h hh i (by simpa using hi'.1), u.get h hh i (by simpa using hi'.2), hi'.1, hi'.2, List.getElem?_zip_eq_some, List.zip, List.getElem?_zipWith], fun h hh => by
    simp only [itZ, t.fin h hh, u.fin h hh, t.tot, u.tot, Bool.true_and, Bool.or_eq_true, decide_eq_true_eq]
    omega⟩
theorem hi_rng0 {n : Nat} {H : MH → Prop} : HI (itR 0 n) H ((List.range n).map fun i => Dt.int (i : Nat)) := by
  have := (hf_rng (lo := 0) (n := n)).hi (H := H)
  simpa using this
theorem hi_rng {lo : Int} {n : Nat} {H : MH → Prop} : HI (itR lo n) H ((List.range n).map fun i => Dt.int (lo + (i : Nat))) := hf_rng.hi
theorem HI.mono {I : Wk} {H H' : MH → Prop} {xs : List Dt} (t : HI I H xs) (k : ∀ h, H' h → H h) : HI I H' xs := ⟨t.tot, fun h hh => t.get h (k h hh), fun h hh => t.fin h (k h hh)⟩
theorem Its.hi {I : Wk} {h : MH} {xs : List Dt} (t : Its I h xs) : HI I (fun h' => h <+: h') xs := ⟨t.tot, t.get, t.fin⟩

def l62 : Int := 4611686018427387904
theorem lim62_big : (1000000 : Int) < lim62 ∧ (0 : Int) < lim62 := by decide
theorem rg1_ok {n : Int} (h0 : -1000000 ≤ n) (hn : n ≤ 1000000) : (-lim62 ≤ 0 ∧ 0 < lim62 ∧ -lim62 ≤ n ∧ n < lim62) := by
  obtain ⟨a, b⟩ := lim62_big
  generalize lim62 = l at a b
  omega
theorem rg2_ok {m n : Int} (m0 : -1000000 ≤ m) (hm : m ≤ 1000000) (h0 : -1000000 ≤ n) (hn : n ≤ 1000000) : (-lim62 ≤ m ∧ m < lim62 ∧ -lim62 ≤ n ∧ n < lim62) := by
  obtain ⟨a, b⟩ := lim62_big
  generalize lim62 = l at a b
  omega
/-- a small number -/
@[irreducible] def Sm (n : Int) : Prop := -1000000 ≤ n ∧ n ≤ 1000000
theorem sm_nat {n : Nat} (h : n ≤ 1000) : Sm (n : Int) := by unfold Sm; omega
theorem sm_int {n : Int} (h0 : -1000 ≤ n) (h : n ≤ 1000) : Sm n := by unfold Sm; omega
theorem rgOk_of {m n : Int} (m0 : -1000000 ≤ m) (hm : m ≤ 1000000) (h0 : -1000000 ≤ n) (hn : n ≤ 1000000) : rgOk m n = true := by
  obtain ⟨a, b⟩ := lim62_big
  unfold rgOk
  rw [decide_eq_true_eq]
  generalize lim62 = l at a b
  omega
section
variable {G : Orc} {O : Out} {ks : List SS} {ρ : Env} {h : MH}
/-- range(x): the walk that it makes -/
theorem iRg1_wp {x : SE} {Q : Wk → MH → Prop} {X : Str → Fs → MH → Prop} (w : WE (x G ρ h) (fun d h' => ∃ n : Int, d = .int n ∧ Sm n ∧ Q (itR 0 n.toNat) h') X) : WE (iRg (rg1 x) G ρ h) Q X := by
  rw [iRg_s, rg1_s]
  simp only [we_bnd]
  refine w.monoQ ?_
  rintro d h' ⟨n, rfl, sm, q⟩
  obtain ⟨a, b⟩ : -1000000 ≤ n ∧ n ≤ 1000000 := by unfold Sm at sm; exact sm
  simp only [we_ok]
  rw [if_pos (rg1_ok a b)]
  simpa using q
theorem iRg2_wp {x y : SE} {Q : Wk → MH → Prop} {X : Str → Fs → MH → Prop} (w : WE (x G ρ h) (fun d h' => WE (y G ρ h') (fun d2 h2 => ∃ m n : Int, d = .int m ∧ d2 = .int n ∧ Sm m ∧ Sm n ∧ Q (itR m (n - m).toNat) h2) X) X) : WE (iRg (rg2 x y) G ρ h) Q X := by
  rw [iRg_s, rg2_s]
  simp only [we_bnd]
  refine w.monoQ ?_
  intro d h' w2
  refine w2.monoQ ?_
  rintro d2 h2 ⟨m, n, rfl, rfl, sm, sn, q⟩
  obtain ⟨a, b⟩ : -1000000 ≤ m ∧ m ≤ 1000000 := by unfold Sm at sm; exact sm
  obtain ⟨c, e⟩ : -1000000 ≤ n ∧ n ≤ 1000000 := by unfold Sm at sn; exact sn
  simp only [we_ok]
  rw [if_pos (rg2_ok a b c e)]
  rw [we_ok]; exact q
/-- a for whose walk is made by what is known -/
theorem run_sFor {i : SI} {p : TP} {b : SS} (w : WE (i G ρ h) (fun I h1 => Run G O ks (sFor (fun _ _ h => .ok I h) p b G ρ h1)) (fun C fs h => O.X C fs ρ h)) : Run G O ks (sFor i p b G ρ h) := by
  rw [sFor_s]
  rw [run_bndS]
  exact w
theorem run_wk {α : Type} {f : α → Dt} {I : Wk} {p : TP} {b : SS} {xs : List α} {H : MH → Prop} (hI : HI I H (xs.map f)) (Inv : Nat → Env → MH → Prop) (hH : ∀ i ρ h, Inv i ρ h → H h) (h0 : Inv 0 ρ h)
    (step : ∀ i x ρ h, xs[i]? = some x → Inv i ρ h → ∃ ρ', assignP p (f x) ρ = some ρ' ∧ ∀ O', ToB O' O G ks (Inv (i + 1)) → Run G O' [] (b G ρ' h))
    (fin : ∀ ρ h, Inv xs.length ρ h → Run G O ks (.nx ρ h)) : Run G O ks (sFor (fun _ _ h => .ok I h) p b G ρ h) := by
  refine run_for (I := I) (h1 := h) rfl Inv h0 (fun i ρ h hlt inv => ?_) fun ρ h inv => ?_
  · have hl : i < xs.length := by rw [hI.tot, List.length_map] at hlt; exact hlt
    obtain ⟨ρ', e1, e2⟩ := step i xs[i] ρ h (List.getElem?_eq_getElem hl) inv
    exact ⟨f xs[i], ρ', by rw [hI.get h (hH _ _ _ inv) i (by simpa using hl), List.getElem?_map, List.getElem?_eq_getElem hl]; rfl, e1, e2⟩
  · rw [hI.tot, List.length_map] at inv
    exact ⟨hI.fin h (hH _ _ _ inv), fin ρ h inv⟩
/-- a loop that fills the list at a -/
theorem run_col {α : Type} {f : α → Dt} {I : Wk} {p : TP} {b : SS} {xs : List α} {H : MH → Prop} (hI : HI I H (xs.map f)) {a : Nat} (E : Env → Prop) (g : α → List Dt) {acc0 : List Dt} (hE : E ρ) (hH : H h) (e0 : h[a]? = some (.lst acc0)) (hN : acc0.length + (xs.flatMap g).length ≤ sizeLine)
    (step : ∀ (j : Nat) x ρ h acc, xs[j]? = some x → E ρ → H h → h[a]? = some (.lst acc) → acc.length + (g x).length ≤ sizeLine → ∃ ρ', assignP p (f x) ρ = some ρ' ∧ ∀ O', ToB O' O G ks (fun ρ h => E ρ ∧ H h ∧ h[a]? = some (.lst (acc ++ g x))) → Run G O' [] (b G ρ' h))
    (fin : ∀ ρ h, E ρ → H h → h[a]? = some (.lst (acc0 ++ xs.flatMap g)) → Run G O ks (.nx ρ h)) : Run G O ks (sFor (fun _ _ h => .ok I h) p b G ρ h) := by
  refine run_wk hI (fun i ρ h => E ρ ∧ H h ∧ h[a]? = some (.lst (acc0 ++ (xs.take i).flatMap g))) (fun _ _ _ q => q.2.1) ⟨hE, hH, by simpa using e0⟩ ?_ ?_
  · rintro i x ρ h hx ⟨e1, e2, e3⟩
    have e : acc0 ++ (xs.take (i + 1)).flatMap g = acc0 ++ (xs.take i).flatMap g ++ g x := by
      rw [List.take_succ, hx]
      simp
    have hl : (acc0 ++ (xs.take i).flatMap g).length + (g x).length ≤ sizeLine := by
      rw [← List.length_append, ← e]
      refine Nat.le_trans ?_ hN
      have e4 := List.take_append_drop (i + 1) xs
      conv => rhs; rw [← e4]
      rw [List.flatMap_append, List.length_append, List.length_append]
      omega
    obtain ⟨ρ', q1, q2⟩ := step i x ρ h _ hx e1 e2 e3 hl
    refine ⟨ρ', q1, fun O' t => q2 O' ?_⟩
    rw [← e]
    exact t
  · rintro ρ h ⟨e1, e2, e3⟩
    rw [List.take_length] at e3
    exact fin ρ h e1 e2 e3
/-- .. over range(n) -/
theorem run_colR {n : Nat} {v : Nat} {b : SS} {H : MH → Prop} {a : Nat} (E : Env → Prop) (g : Nat → List Dt) {acc0 : List Dt} (hE : E ρ) (hH : H h) (e0 : h[a]? = some (.lst acc0)) (hN : acc0.length + ((List.range n).flatMap g).length ≤ sizeLine)
    (step : ∀ (j : Nat) ρ h acc, j < n → E ρ → H h → h[a]? = some (.lst acc) → acc.length + (g j).length ≤ sizeLine → ∀ O', ToB O' O G ks (fun ρ h => E ρ ∧ H h ∧ h[a]? = some (.lst (acc ++ g j))) → Run G O' [] (b G (ρ.set v (some (.int (j : Nat)))) h))
    (fin : ∀ ρ h, E ρ → H h → h[a]? = some (.lst (acc0 ++ (List.range n).flatMap g)) → Run G O ks (.nx ρ h)) : Run G O ks (sFor (fun _ _ h => .ok (itR 0 n) h) (.nm v) b G ρ h) := by
  refine run_col hi_rng0 E g hE hH e0 hN ?_ fin
  intro j x ρ h acc hx e1 e2 e3 e4
  obtain ⟨a1, b1⟩ := List.getElem?_eq_some_iff.mp hx
  simp at a1 b1
  subst b1
  exact ⟨_, rfl, fun O' t => step _ ρ h acc a1 e1 e2 e3 e4 O' t⟩
/-- a loop over range(n) -/
theorem run_rng {n : Nat} {v : Nat} {b : SS} (Inv : Nat → Env → MH → Prop) (h0 : Inv 0 ρ h)
    (step : ∀ (j : Nat) ρ h, j < n → Inv j ρ h → ∀ O', ToB O' O G ks (Inv (j + 1)) → Run G O' [] (b G (ρ.set v (some (.int (j : Nat)))) h))
    (fin : ∀ ρ h, Inv n ρ h → Run G O ks (.nx ρ h)) : Run G O ks (sFor (fun _ _ h => .ok (itR 0 n) h) (.nm v) b G ρ h) := by
  refine run_wk (f := fun i : Nat => Dt.int (i : Nat)) (xs := List.range n) (H := fun _ => True) hi_rng0 Inv (fun _ _ _ _ => trivial) h0 ?_ (by simpa using fin)
  intro j x ρ h hx e1
  obtain ⟨a1, b1⟩ := List.getElem?_eq_some_iff.mp hx
  simp at a1 b1
  subst b1
  exact ⟨_, rfl, fun O' t => step _ ρ h a1 e1 O' t⟩
/-! ### comprehensions -/
theorem lc_it {i : SI} {p : TP} {t : ST} {e : SE} {vs : List Nat} {Q : Dt → MH → Prop} {X : Str → Fs → MH → Prop} (w : WE (i G ρ h) (fun I h1 => WE (eLc (fun _ _ h => .ok I h) p t e vs G ρ h1) Q X) X) : WE (eLc i p t e vs G ρ h) Q X := by
  rw [eLc_s, we_bnd]
  exact w
/-- [e for p in i if t]: pure -/
theorem lc_wp {α : Type} {f : α → Dt} {i : SI} {p : TP} {t : ST} {e : SE} {vs : List Nat} {h1 : MH} {I : Wk} {xs : List α} {Q : Dt → MH → Prop} {X : Str → Fs → MH → Prop} (hi : i G ρ h = .ok I h1) (its : HI I (fun h' => h1 <+: h') (xs.map f)) (b : α → Bool) (g : α → Dt) (hz : xs.length ≤ sizeLine)
    (hx : ∀ x ∈ xs, ∃ ρ', assignP p (f x) (wipeE ρ vs) = some ρ' ∧ ∀ h', h1 <+: h' → WE (t G ρ' h') (fun c h2 => c = b x ∧ h' <+: h2 ∧ (b x = true → WE (e G ρ' h2) (fun d h3 => d = g x ∧ h2 <+: h3) noX)) noX)
    (q : ∀ h', h1 <+: h' → h'[h1.length]? = some (.lst ((xs.filter b).map g)) → Q (.loc h1.length) h') : WE (eLc i p t e vs G ρ h) Q X := by
  rw [eLc_s, hi, bnd_ok]
  have htot : I.tot = xs.length := by rw [its.tot, List.length_map]
  have L := lc_inv (I := I) (p := p) (t := t) (e := e) (G := G) (ρ := wipeE ρ vs) (D := h1.length)
    (fun i acc h => h1 <+: h ∧ acc = ((xs.take i).filter b).map g) ?_ (fun acc h q => its.fin h q.1) I.tot 0 [] (h1 ++ [.lst []]) (Nat.zero_add _) (by simp) ⟨pre_app _ _, by simp⟩
  · obtain ⟨acc', h', r1, r2, r3, r4⟩ := L
    rw [r1, we_ok]
    refine q h' r3 ?_
    rw [r2, r4, htot, List.take_length]
  · rintro i acc h hlt ⟨pr, rfl⟩ hD
    have hl : i < xs.length := by rw [← htot]; exact hlt
    obtain ⟨ρ', e1, e2⟩ := hx xs[i] (List.getElem_mem hl)
    obtain ⟨c, h2, k1, rfl, k2, k3⟩ := (e2 h pr).run
    refine ⟨f xs[i], ρ', by rw [its.get h pr i (by simpa using hl), List.getElem?_map, List.getElem?_eq_getElem hl]; rfl, e1, b xs[i], h2, k1, fun hb => ?_, fun hb => ?_⟩
    · obtain ⟨d, h3, q1, rfl, q2⟩ := (k3 hb).run
      have hD3 := pre_get q2 (pre_get k2 hD)
      have hlen : (((xs.take i).filter b).map g).length < sizeLine := by
        rw [List.length_map]
        have := List.length_filter_le b (xs.take i)
        rw [List.length_take] at this
        omega
      refine ⟨g xs[i], h3, q1, hD3, hlen, pre_set (pr.trans (k2.trans q2)) (Nat.le_refl _), ?_⟩
      rw [List.take_succ, List.getElem?_eq_getElem hl, Option.toList_some, List.filter_append, List.map_append]
      simp [hb]
    · refine ⟨pre_get k2 hD, pr.trans k2, ?_⟩
      rw [List.take_succ, List.getElem?_eq_getElem hl, Option.toList_some, List.filter_append, List.map_append]
      simp [hb]
/-- [e for p in i]: pure -/
theorem lc_wpm {α : Type} {f : α → Dt} {i : SI} {p : TP} {e : SE} {vs : List Nat} {h1 : MH} {I : Wk} {xs : List α} {Q : Dt → MH → Prop} {X : Str → Fs → MH → Prop} (hi : i G ρ h = .ok I h1) (its : HI I (fun h' => h1 <+: h') (xs.map f)) (g : α → Dt) (hz : xs.length ≤ sizeLine)
    (hx : ∀ x ∈ xs, ∃ ρ', assignP p (f x) (wipeE ρ vs) = some ρ' ∧ ∀ h', h1 <+: h' → WE (e G ρ' h') (fun d h3 => d = g x ∧ h' <+: h3) noX)
    (q : ∀ h', h1 <+: h' → h'[h1.length]? = some (.lst (xs.map g)) → Q (.loc h1.length) h') : WE (eLc i p EP.tYes e vs G ρ h) Q X := by
  refine lc_wp (t := EP.tYes) (e := e) hi its (fun _ => true) g hz (fun x hm => ?_) ?_
  · obtain ⟨ρ', e1, e2⟩ := hx x hm
    exact ⟨ρ', e1, fun h' p => by simp; exact e2 h' p⟩
  · have e : xs.filter (fun _ => true) = xs := List.filter_eq_self.mpr (fun _ _ => rfl)
    rw [e]
    exact q
/-- [e for p in i if t], whatever the items come to be -/
theorem lc_gen {α : Type} {f : α → Dt} {i : SI} {p : TP} {t : ST} {e : SE} {vs : List Nat} {h1 : MH} {I : Wk} {xs : List α} {Q : Dt → MH → Prop} {X : Str → Fs → MH → Prop} (hi : i G ρ h = .ok I h1) (H : MH → Prop) (its : HI I H (xs.map f)) (hz : xs.length ≤ sizeLine)
    (hH0 : H (h1 ++ [.lst []])) (hset : ∀ h o, H h → H (h.set h1.length o)) (J : Nat → List Dt → Prop) (J0 : J 0 []) (JL : ∀ j acc, J j acc → acc.length ≤ j)
    (step : ∀ (j : Nat) x acc h, xs[j]? = some x → J j acc → H h → h[h1.length]? = some (.lst acc) → ∃ ρ', assignP p (f x) (wipeE ρ vs) = some ρ' ∧ WE (t G ρ' h) (fun b h2 => H h2 ∧ h2[h1.length]? = some (.lst acc) ∧
      (b = true → WE (e G ρ' h2) (fun y h3 => H h3 ∧ h3[h1.length]? = some (.lst acc) ∧ J (j + 1) (acc ++ [y])) noX) ∧ (b = false → J (j + 1) acc)) noX)
    (q : ∀ acc h', H h' → h'[h1.length]? = some (.lst acc) → J xs.length acc → Q (.loc h1.length) h') : WE (eLc i p t e vs G ρ h) Q X := by
  rw [eLc_s, hi, bnd_ok]
  have htot : I.tot = xs.length := by rw [its.tot, List.length_map]
  have L := lc_inv (I := I) (p := p) (t := t) (e := e) (G := G) (ρ := wipeE ρ vs) (D := h1.length)
    (fun i acc h => H h ∧ J i acc) ?_ (fun acc h q => its.fin h q.1) I.tot 0 [] (h1 ++ [.lst []]) (Nat.zero_add _) (by simp) ⟨hH0, J0⟩
  · obtain ⟨acc', h', r1, r2, r3, r4⟩ := L
    rw [r1, we_ok]
    rw [htot] at r4
    exact q acc' h' r3 r2 r4
  · rintro i acc h hlt ⟨pr, hj⟩ hD
    have hl : i < xs.length := by rw [← htot]; exact hlt
    obtain ⟨ρ', e1, e2⟩ := step i xs[i] acc h (List.getElem?_eq_getElem hl) hj pr hD
    obtain ⟨c, h2, k1, k2, k3, k4, k5⟩ := e2.run
    refine ⟨f xs[i], ρ', by rw [its.get h pr i (by simpa using hl), List.getElem?_map, List.getElem?_eq_getElem hl]; rfl, e1, c, h2, k1, fun hb => ?_, fun hb => ?_⟩
    · obtain ⟨d, h3, q1, q2, q3, q4⟩ := (k4 hb).run
      have hl2 := JL _ _ hj
      exact ⟨d, h3, q1, q3, by omega, hset _ _ q2, q4⟩
    · exact ⟨k3, k2, k5 hb⟩
end
theorem run_ite {G : Orc} {O : Out} {ks : List SS} {c : Prop} [Decidable c] {a b : RS} (h1 : c → Run G O ks a) (h2 : ¬ c → Run G O ks b) : Run G O ks (if c then a else b) := by
  split
  · exact h1 ‹_›
  · exact h2 ‹_›
/-- where ways meet -/
theorem run_join {G : Orc} {O : Out} {ks : List SS} {r : RS} (J : Env → MH → Prop) (w : ∀ O' : Out, (∀ ρ h, J ρ h → O'.N ρ h) → (∀ d h, O.Q d h → O'.Q d h) → (∀ ρ h, O.B ρ h → O'.B ρ h) → (∀ ρ h, O.C ρ h → O'.C ρ h) → (∀ c fs ρ h, O.X c fs ρ h → O'.X c fs ρ h) → Run G O' [] r) (k : ∀ ρ h, J ρ h → Run G O ks (.nx ρ h)) : Run G O ks r := by
  have w := w { N := J, Q := O.Q, B := O.B, C := O.C, X := O.X } (fun _ _ h => h) (fun _ _ h => h) (fun _ _ h => h) (fun _ _ h => h) (fun _ _ _ _ h => h)
  cases r with
  | nx ρ h => exact k ρ h (by simpa using w)
  | rt d h => simpa using w
  | bk ρ h => simpa using w
  | ct ρ h => simpa using w
  | ex C fs ρ h => simpa using w
  | bad => simp at w
theorem Q_eq {Q : Dt → MH → Prop} {a b : Dt} {h : MH} (q : Q a h) (e : b = a) : Q b h := e ▸ q
end EP
end
section
set_option maxRecDepth 20000
/-! GenA: the store of a law's draws, what stays. -/
namespace EP
open PySem L2
theorem lim64_big : (1000000000000 : Int) < lim64 := by decide
theorem lim200_big : (1000000000000 : Int) < lim200 := by decide
section
variable {h : MH}
theorem mul_r {i j : Int} (a : -1000000000000 ≤ j) (b : j ≤ 1000000000000) : oMul (.int i) (.int j) h = .ok (.int (i * j)) h := by
  have c := lim64_big
  show (if _ then _ else _) = _
  rw [if_pos (by left; right; generalize lim64 = l at *; omega)]
theorem mul_l {i j : Int} (a : -1000000000000 ≤ i) (b : i ≤ 1000000000000) : oMul (.int i) (.int j) h = .ok (.int (i * j)) h := by
  have c := lim64_big
  show (if _ then _ else _) = _
  rw [if_pos (by left; left; generalize lim64 = l at *; omega)]
theorem fdiv_k {i j : Int} (a : 0 < j) (b : j < lim200) : oFdiv (.int i) (.int j) h = .ok (.int (i / j)) h := by
  show (if _ then _ else _) = _
  rw [if_pos ⟨a, b⟩]
theorem fdiv_s {i j : Int} (a : 0 < j) (b : j ≤ 1000000000000) : oFdiv (.int i) (.int j) h = .ok (.int (i / j)) h := fdiv_k a (by
  have := lim200_big
  generalize lim200 = l at *; omega)
theorem mod_k {i j : Int} (a : 0 < j) : oMod (.int i) (.int j) h = .ok (.int (i % j)) h := by
  show (if _ then _ else _) = _
  rw [if_pos a]
theorem tAnd_ok {a b : ST} {G : Orc} {ρ : Env} {x y : Bool} (e1 : a G ρ h = .ok x h) (e2 : x = true → b G ρ h = .ok y h) : EP.tAnd a b G ρ h = .ok (x && y) h := by
  rw [tAnd_s, e1, bnd_ok]
  cases x with
  | false => rfl
  | true => rw [if_pos rfl, e2 rfl]; rfl
structure StE (m n c : Nat) (cs : List Nat) (h : MH) : Prop where
  nm : n < m
  cm : c < m
  cn : c ≠ n
  len : cs.length ≤ 63
  cel : ∀ x ∈ cs, x < m ∧ x ≠ n ∧ x ≠ c
  top : ∃ a b s e : Int, h[n]? = some (.lst [.loc c, .int a, .int b, .int s, .int e]) ∧ 0 ≤ a ∧ a ≤ 63
  cells : h[c]? = some (.lst (cs.map .loc))
  each : ∀ x ∈ cs, ∃ t v : Int, h[x]? = some (.lst [.int t, .int v])
theorem StE.upN {m n c : Nat} {cs : List Nat} {h h' : MH} {a b s e : Int} (t : StE m n c cs h) (u : Up n h h' (.lst [.loc c, .int a, .int b, .int s, .int e])) (h0 : 0 ≤ a) (h1 : a ≤ 63) : StE m n c cs h' :=
  ⟨t.nm, t.cm, t.cn, t.len, t.cel, ⟨a, b, s, e, u.at_, h0, h1⟩, u.get t.cn t.cells, fun x hx => by
    obtain ⟨p, v, e⟩ := t.each x hx
    exact ⟨p, v, u.get (t.cel x hx).2.1 e⟩⟩
theorem StE.upX {m n c : Nat} {cs : List Nat} {h h' : MH} {x : Nat} {p v : Int} (t : StE m n c cs h) (hx : x ∈ cs) (u : Up x h h' (.lst [.int p, .int v])) : StE m n c cs h' :=
  ⟨t.nm, t.cm, t.cn, t.len, t.cel, by
    obtain ⟨a, b, s, e, q, r⟩ := t.top
    exact ⟨a, b, s, e, u.get (Ne.symm (t.cel x hx).2.1) q, r⟩, u.get (Ne.symm (t.cel x hx).2.2) t.cells, fun y hy => by
    obtain ⟨p2, v2, e⟩ := t.each y hy
    by_cases hxy : y = x
    · subst hxy
      exact ⟨_, _, u.at_⟩
    · exact ⟨p2, v2, u.get hxy e⟩⟩
theorem StE.upO {m n c : Nat} {cs : List Nat} {h h' : MH} {x : Nat} {o : MO} (t : StE m n c cs h) (hx : m ≤ x) (u : Up x h h' o) : StE m n c cs h' :=
  ⟨t.nm, t.cm, t.cn, t.len, t.cel, by
    obtain ⟨a, b, s, e, q, r⟩ := t.top
    have := t.nm
    exact ⟨a, b, s, e, u.get (by omega) q, r⟩, u.get (by have := t.cm; omega) t.cells, fun y hy => by
    obtain ⟨p2, v2, e⟩ := t.each y hy
    have := (t.cel y hy).1
    exact ⟨p2, v2, u.get (by omega) e⟩⟩
theorem StE.pre {m n c : Nat} {cs : List Nat} {h h' : MH} (t : StE m n c cs h) (p : h <+: h') : StE m n c cs h' :=
  ⟨t.nm, t.cm, t.cn, t.len, t.cel, by
    obtain ⟨a, b, s, e, q, r⟩ := t.top
    exact ⟨a, b, s, e, pre_get p q, r⟩, pre_get p t.cells, fun y hy => by
    obtain ⟨p2, v2, e⟩ := t.each y hy
    exact ⟨p2, v2, pre_get p e⟩⟩
/-- the store at n, all of it below m -/
def St (m n : Nat) (h : MH) : Prop := ∃ c cs, StE m n c cs h
/-- from h to h' : the store stays one, what stands from m on stays -/
structure Kp (m n : Nat) (h h' : MH) : Prop where
  st : St m n h'
  len : h.length ≤ h'.length
  ge : ∀ i o, m ≤ i → h[i]? = some o → h'[i]? = some o
theorem Kp.refl {m n : Nat} {h : MH} (s : St m n h) : Kp m n h h := ⟨s, Nat.le_refl _, fun _ _ _ e => e⟩
theorem Kp.trans {m n : Nat} {h h' h2 : MH} (a : Kp m n h h') (b : Kp m n h' h2) : Kp m n h h2 := ⟨b.st, Nat.le_trans a.len b.len, fun i o l e => b.ge i o l (a.ge i o l e)⟩
theorem Kp.pre {m n : Nat} {h h' : MH} (s : St m n h) (p : h <+: h') : Kp m n h h' := ⟨by
  obtain ⟨c, cs, t⟩ := s
  exact ⟨c, cs, t.pre p⟩, p.length_le, fun i o _ e => pre_get p e⟩
theorem Kp.thenPre {m n : Nat} {h h' h2 : MH} (a : Kp m n h h') (p : h' <+: h2) : Kp m n h h2 := a.trans (.pre a.st p)
/-- a thing laid behind h is changed -/
theorem Kp.up {m n a : Nat} {h h' h2 : MH} {o : MO} (k : Kp m n h h') (u : Up a h' h2 o) (l : h.length ≤ a) (hm : m ≤ h.length) : Kp m n h h2 := ⟨by
  obtain ⟨c, cs, t⟩ := k.st
  exact ⟨c, cs, t.upO (by omega) u⟩, by rw [u.len]; exact k.len, fun i o' li e => u.get (by have := lt_of_get e; omega) (k.ge i o' li e)⟩
theorem Kp.set {m n a : Nat} {h h' : MH} {o : MO} (k : Kp m n h h') (l : h.length ≤ a) (hm : m ≤ h.length) : Kp m n h (h'.set a o) := by
  by_cases hl : a < h'.length
  · exact k.up (Up.of (List.getElem?_eq_getElem hl)) l hm
  · rw [List.set_eq_of_length_le (by omega)]; exact k
end
end EP
end
section
set_option maxRecDepth 20000
/-! PG: what is told of meanings in general. -/
namespace EP
open PySem L2
theorem zipIdx_eq {α : Type} (xs : List α) (d : α) : xs.zipIdx = (List.range xs.length).map fun i => (xs.getD i d, i) := by
  apply List.ext_getElem
  · simp
  · intro i h1 h2
    simp at h1
    simp [h1]
theorem filter_range_flat {β : Type} (n : Nat) (c : Nat → Bool) (F : Nat → β) : ((List.range n).filter c).map F = (List.range n).flatMap fun j => if c j = true then [F j] else [] := by
  induction (List.range n) with
  | nil => rfl
  | cons a r ih =>
    rw [List.flatMap_cons, ← ih, List.filter_cons]
    split <;> simp_all
/-- the pairs by their places -/
theorem wpairs_eq (ws : List Word) : wpairs ws = (List.range ws.length).flatMap fun i => (List.range ws.length).flatMap fun j => if i ≠ j then [(i, j, less (ws.getD i []) (ws.getD j []))] else [] := by
  unfold wpairs
  rw [zipIdx_eq ws []]
  rw [List.flatMap_map]
  congr 1
  funext i
  rw [List.filter_map, List.map_map]
  rw [show (List.range ws.length).flatMap (fun j => if i ≠ j then [(i, j, less (ws.getD i []) (ws.getD j []))] else []) = ((List.range ws.length).filter fun j => decide (i ≠ j)).map fun j => (i, j, less (ws.getD i []) (ws.getD j [])) from by rw [filter_range_flat]; simp]
  simp [Function.comp_def]
theorem ppairs_eq (p : Plan) : ppairs p = (List.range p.2.length).flatMap fun s => (wpairs ((p.2.getD s []).map (·.1))).map fun t => (s, t.1, t.2.1, t.2.2) := by
  unfold ppairs
  rw [zipIdx_eq p.2 [], List.flatMap_map]
end EP

namespace EP
open PySem L2
theorem mem_take_succ {α : Type} {xs : List α} {i : Nat} {x y : α} (e : xs[i]? = some x) (hm : y ∈ xs.take (i + 1)) : y ∈ xs.take i ∨ y = x := by
  rw [List.take_succ, e] at hm
  rcases List.mem_append.mp hm with z | z
  · exact .inl z
  · simp at z
    exact .inr z
/-- the sums over the clauses are kept -/
def withinB (l : Row) (lot : List Int) : Bool := l.all fun c => decide ((c.1.map fun w => lot.getD w.toNat 0).sum ≤ c.2)
/-- the lot of a set of wires -/
def lotOf (n : Int) (v : Word) : List Int := (List.range n.toNat).map fun w => if ((w : Nat) : Int) ∈ v then 1 else 0
end EP

namespace EP
open PySem L2
variable {h : MH}
theorem plains_all : ∀ ds : List Dt, plains ds = ds.all Dt.plain
  | [] => by simp [plains]
  | d :: r => by simp [plains, plains_all r]
theorem deps_le {n : Nat} : ∀ ds : List Dt, (∀ d ∈ ds, d.dep ≤ n) → deps ds ≤ n
  | [], _ => by simp [deps]
  | d :: r, h => by
    simp only [deps]
    have h1 := h d (by simp)
    have h2 := deps_le r fun x hx => h x (by simp [hx])
    omega
theorem eqOk_tup {ds : List Dt} (h : ∀ d ∈ ds, d.plain = true ∧ d.dep ≤ 59) : (Dt.tup ds).eqOk = true := by
  unfold Dt.eqOk
  have h1 : plains ds = true := by
    rw [plains_all, List.all_eq_true]
    exact fun d hd => (h d hd).1
  have h2 := deps_le ds fun d hd => (h d hd).2
  have h3 : (Dt.tup ds).plain = true := by rw [Dt.plain]; exact h1
  have h4 : (Dt.tup ds).dep ≤ 60 := by rw [Dt.dep]; omega
  rw [h3, decide_eq_true h4]
  rfl
theorem eqOk_ii {a b : Int} : (Dt.tup [.int a, .int b]).eqOk = true := eqOk_tup (by simp [Dt.plain, Dt.dep])
theorem qD_ok (P : List (Int × Int)) : (Dt.tup (P.map qD)).eqOk = true := eqOk_tup (by
  intro d hd
  obtain ⟨x, _, rfl⟩ := List.mem_map.mp hd
  simp [Dt.plain, plains, Dt.dep, deps])
theorem eqv_ii {a b c d : Int} : eqv (.tup [.int a, .int b]) (.tup [.int c, .int d]) = decide ((a, b) = (c, d)) := by
  simp only [eqv, Dt.py, pys, PyData.eqv, PyData.eqvAll]
  by_cases h1 : a = c <;> by_cases h2 : b = d <;> simp [h1, h2]
theorem in_qL {ng : Bool} {P : List (Int × Int)} {a b : Int} {n : Nat} (e : h[n]? = some (.lst (P.map qD))) : oIn ng (.tup [.int a, .int b]) (.loc n) h = .ok (.bl (if ng then !decide ((a, b) ∈ P) else decide ((a, b) ∈ P))) h := by
  have h1 : ((P.map qD).any fun z => eqv z (.tup [.int a, .int b])) = decide ((a, b) ∈ P) := by
    rw [List.any_map, Bool.eq_iff_iff, List.any_eq_true, decide_eq_true_eq]
    constructor
    · rintro ⟨q, hq, e⟩
      simp only [Function.comp_apply, qD, eqv_ii, decide_eq_true_eq] at e
      exact e ▸ hq
    · intro hm
      exact ⟨(a, b), hm, by simp only [Function.comp_apply, qD, eqv_ii, decide_eq_true_eq]⟩
  simp only [oIn, e, eqOk_ii, qD_ok, and_self, if_true, h1]
theorem findIdx_eq (P : List (Int × Int)) (x : Int × Int) (hm : x ∈ P) : (P.map qD).findIdx? (fun z => eqv z (qD x)) = some (P.idxOf x) := by
  induction P with
  | nil => cases hm
  | cons a r ih =>
    rw [List.map_cons, List.findIdx?_cons, List.idxOf_cons]
    have e : eqv (qD a) (qD x) = decide (a = x) := by rw [qD, qD, eqv_ii]
    rw [e]
    by_cases h : a = x
    · simp [h]
    · rcases List.mem_cons.mp hm with z | z
      · exact absurd z.symm h
      · have e3 : (a == x) = false := by simpa using h
        simp [h, e3, ih z]
theorem index_qL {P : List (Int × Int)} {a b : Int} {n : Nat} (e : h[n]? = some (.lst (P.map qD))) (hm : (a, b) ∈ P) : mIndex (.loc n) [.tup [.int a, .int b]] h = .ok (.int (P.idxOf (a, b) : Nat)) h := by
  simp only [mIndex, e, eqOk_ii, qD_ok, and_self, if_true]
  have := findIdx_eq P (a, b) hm
  rw [qD] at this
  rw [this]
end EP

namespace EP
open PySem L2
abbrev refD (n : Str) (v : Dt) : Dt := .tup [.str "refused", .str n, v, .bl true, .bl false]
abbrev givD (v : Dt) : Dt := .tup [.str "given", v]
def dueSide (p q : Plan) : Dt := if 40 < p.1 + q.1 then refD "BadSize" (.int (p.1 + q.1)) else if 12 < (met p q).length then refD "TooMany" (.tup [.str "states", .int 12])
  else if 64 < wordsIn p q then refD "TooMany" (.tup [.str "words", .int 64]) else givD (pD (sideP p q))
def dueLimit (a b : Lim) : Dt := if 40 < a.1 + b.1 then refD "BadSize" (.int (a.1 + b.1)) else if 12 < a.2.length + b.2.length then refD "TooMany" (.tup [.str "clauses", .int 12]) else givD (lD (limP a b))
def duePaired (p q : Plan) : Dt := if p.2.length ≠ 1 then refD "NotBook" (.int p.2.length) else if q.2.length ≠ 1 then refD "NotBook" (.int q.2.length)
  else if 40 < p.1 + q.1 then refD "BadSize" (.int (p.1 + q.1)) else if (bookRow p).length ≠ (bookRow q).length then refD "BadNumber" (.int (bookRow q).length) else givD (pD (pairP p q))
theorem app1 {h : MH} {n : Nat} {acc : List Dt} {v : Dt} (e : h[n]? = some (.lst acc)) (l : acc.length + 1 ≤ sizeLine) : ∃ h', mAppend (.loc n) [v] h = .ok .non h' ∧ Up n h h' (.lst (acc ++ [v])) := app_ex e l
end EP

namespace EP
open PySem L2
section
variable {G : Orc} {O : Out} {ks : List SS} {ρ : Env} {h : MH}
/-- try: what the body leaves, what a clause leaves -/
theorem run_try {sub : Sub} {b : SS} {hs : List (Str × Nat × XS)} (w : ∀ O' : Out, (∀ ρ h, Run G O ks (.nx ρ h) → O'.N ρ h) → (∀ d h, O.Q d h → O'.Q d h) → (∀ C fs ρ h, Run G O ks (runH sub C fs G hs ρ h) → O'.X C fs ρ h) → Run G O' [] (b G ρ h)) : Run G O ks (sTry sub b hs G ρ h) := by
  have w := w { N := fun ρ h => Run G O ks (.nx ρ h), Q := O.Q, X := fun C fs ρ h => Run G O ks (runH sub C fs G hs ρ h) } (fun _ _ h => h) (fun _ _ h => h) (fun _ _ _ _ h => h)
  unfold sTry
  cases hb : b G ρ h with
  | nx ρ1 h1 => rw [hb] at w; simpa using w
  | rt d h1 => rw [hb] at w; simpa using w
  | bk ρ1 h1 => rw [hb] at w; simp at w
  | ct ρ1 h1 => rw [hb] at w; simp at w
  | ex C fs ρ1 h1 => rw [hb] at w; simpa using w
  | bad => rw [hb] at w; simp at w
theorem runH_nil {sub : Sub} {C : Str} {fs : Fs} : runH sub C fs G [] ρ h = .ex C fs ρ h := (rfl)
theorem runH_no {sub : Sub} {C : Str} {fs : Fs} {D : Str} {i : Nat} {s : XS} {r : List (Str × Nat × XS)} (e : sub C D = some false) : runH sub C fs G ((D, i, s) :: r) ρ h = runH sub C fs G r ρ h := by
  conv => lhs; unfold runH
  rw [e]
/-- the suite of a clause, which returns -/
theorem run_yes {sub : Sub} {C : Str} {fs : Fs} {D : Str} {i : Nat} {s : XS} {r : List (Str × Nat × XS)} (e : sub C D = some true) (hi : i < ρ.length) (w : ∀ O' : Out, (∀ ρ h, Run G O ks (.nx (ρ.set i none) h) → O'.N ρ h) → (∀ d h, O.Q d h → O'.Q d h) → Run G O' [] (s C fs G (ρ.set i none) h)) : Run G O ks (runH sub C fs G ((D, i, s) :: r) ρ h) := by
  have w := w { N := fun ρ h => Run G O ks (.nx (ρ.set i none) h), Q := O.Q } (fun _ _ h => h) (fun _ _ h => h)
  conv => arg 4; unfold runH
  rw [e]
  simp only [if_pos hi]
  cases hb : s C fs G (ρ.set i none) h with
  | nx ρ1 h1 => rw [hb] at w; simpa using w
  | rt d h1 => rw [hb] at w; simpa using w
  | bk ρ1 h1 => rw [hb] at w; simp at w
  | ct ρ1 h1 => rw [hb] at w; simp at w
  | ex C fs ρ1 h1 => rw [hb] at w; simp at w
  | bad => rw [hb] at w; simp at w
theorem eqv_str {x y : Str} : eqv (.str x) (.str y) = decide (x = y) := by
  simp only [eqv, Dt.py, PyData.eqv]
  by_cases h : x = y <;> simp [h]
theorem eq_str {n : Bool} {x y : Str} (hx : PyData.strOk x = true) (hy : PyData.strOk y = true) : oEq n (.str x) (.str y) h = .ok (.bl (if n then !decide (x = y) else decide (x = y))) h := by
  have h1 : (Dt.str x).eqOk = true := by unfold Dt.eqOk; simp [Dt.plain, Dt.dep, hx]
  have h2 : (Dt.str y).eqOk = true := by unfold Dt.eqOk; simp [Dt.plain, Dt.dep, hy]
  simp [oEq, h1, h2, eqv_str]
end
end EP

namespace EP
open PySem L2
section
variable {h : MH}
mutual
def nodes : Dt → Nat
  | .tup ds => nodesL ds + 1
  | _ => 1
def nodesL : List Dt → Nat
  | [] => 0
  | d :: r => nodes d + nodesL r
end
theorem nodesL_app (a b : List Dt) : nodesL (a ++ b) = nodesL a + nodesL b := by
  induction a with
  | nil => simp [nodesL]
  | cons x r ih => simp [nodesL, ih, Nat.add_assoc]
theorem nodes_pos (d : Dt) : 1 ≤ nodes d := by
  cases d <;> simp [nodes]
theorem nodesL_len (ds : List Dt) : ds.length ≤ nodesL ds := by
  induction ds with
  | nil => simp [nodesL]
  | cons x r ih =>
    have := nodes_pos x
    simp only [nodesL, List.length_cons]
    omega
theorem nodesL_map {α : Type} (f : α → Dt) (c : Nat) (xs : List α) (hc : ∀ x ∈ xs, nodes (f x) ≤ c) : nodesL (xs.map f) ≤ xs.length * c := by
  induction xs with
  | nil => simp [nodesL]
  | cons a r ih =>
    have h1 := ih fun x hx => hc x (by simp [hx])
    have h2 := hc a (by simp)
    simp only [List.map_cons, nodesL, List.length_cons, Nat.add_mul]
    omega
def kindD : Dt → Int
  | .non => 0 | .bl _ => 1 | .int _ => 2 | .str _ => 3 | .tup _ => 4 | .loc _ => 5
@[simp] theorem isi_bl_bool {b : Bool} : bIsi "bool" [.bl b] h = .ok (.bl true) h := (rfl)
@[simp] theorem isi_str_bool {i : Str} : bIsi "bool" [.str i] h = .ok (.bl false) h := (rfl)
@[simp] theorem isi_str_int {i : Str} : bIsi "int" [.str i] h = .ok (.bl false) h := (rfl)
@[simp] theorem isi_str_str {i : Str} : bIsi "str" [.str i] h = .ok (.bl true) h := (rfl)
@[simp] theorem isi_tup_bool {i : List Dt} : bIsi "bool" [.tup i] h = .ok (.bl false) h := (rfl)
@[simp] theorem isi_tup_int {i : List Dt} : bIsi "int" [.tup i] h = .ok (.bl false) h := (rfl)
@[simp] theorem isi_tup_str {i : List Dt} : bIsi "str" [.tup i] h = .ok (.bl false) h := (rfl)
@[simp] theorem isi_tup_tuple {i : List Dt} : bIsi "tuple" [.tup i] h = .ok (.bl true) h := (rfl)
@[simp] theorem is_non_str {n : Bool} {i : Str} : oIs n (.str i) .non h = .ok (.bl n) h := (rfl)
@[simp] theorem is_non_bl {n : Bool} {i : Bool} : oIs n (.bl i) .non h = .ok (.bl n) h := (rfl)
theorem eqv_bl {a b : Bool} : eqv (.bl a) (.bl b) = decide (a = b) := by
  simp only [eqv, Dt.py, PyData.eqv]
  cases a <;> cases b <;> rfl
theorem eqv_self : ∀ {d : Dt}, kindD d < 4 → eqv d d = true
  | .non, _ => by simp [eqv, Dt.py, PyData.eqv]
  | .bl b, _ => by simp [eqv_bl]
  | .int i, _ => by simp
  | .str x, _ => by simp [eqv_str]
  | .tup _, h => absurd h (by simp [kindD])
  | .loc _, h => absurd h (by simp [kindD])
theorem eqOk_flat : ∀ {d : Dt}, kindD d < 4 → d.plain = true → d.eqOk = true
  | .non, _, _ => rfl
  | .bl b, _, _ => rfl
  | .int i, _, _ => rfl
  | .str x, _, h => by unfold Dt.eqOk; rw [h]; simp [Dt.dep]
  | .tup _, h, _ => absurd h (by simp [kindD])
  | .loc _, h, _ => absurd h (by simp [kindD])
theorem pop_last {n : Nat} {xs : List Dt} {d : Dt} (e : h[n]? = some (.lst (xs ++ [d]))) : ∃ h', mPop (.loc n) [] h = .ok d h' ∧ Up n h h' (.lst xs) := ⟨_, by simp [mPop, e], Up.of e⟩
theorem dt_tup {d : Dt} (h : ¬ kindD d < 4) (p : d.plain = true) : ∃ ds, d = .tup ds ∧ ∀ x ∈ ds, x.plain = true := by
  match d, h, p with
  | .tup ds, _, p =>
    refine ⟨ds, rfl, ?_⟩
    rw [Dt.plain, plains_all, List.all_eq_true] at p
    exact p
  | .non, h, _ => exact absurd (by decide) h
  | .bl b, h, _ => exact absurd (show (1 : Int) < 4 by decide) h
  | .int i, h, _ => exact absurd (show (2 : Int) < 4 by decide) h
  | .str x, h, _ => exact absurd (show (3 : Int) < 4 by decide) h
  | .loc _, _, p => simp [Dt.plain] at p
end
end EP

namespace EP
open PySem L2
theorem lt200 {c : Int} (h : c ≤ 1000000000000) : c < lim200 := by
  have := lim200_big
  generalize lim200 = l at *; omega
theorem pow200 {n : Nat} (h : n ≤ 100) : (2 : Int) ^ n < lim200 := by
  have h1 : (2 : Int) ^ n ≤ 2 ^ 100 := by
    have := Nat.pow_le_pow_right (n := 2) (by omega) h
    have e : ∀ m : Nat, ((2 ^ m : Nat) : Int) = (2 : Int) ^ m := fun m => by simp
    rw [← e, ← e]
    exact Int.ofNat_le.mpr this
  have h2 : (2 : Int) ^ 100 < lim200 := by decide +kernel
  exact Int.lt_of_le_of_lt h1 h2
/-- the wires of a mask -/
def maskW (m : Int) (n : Nat) : Word := ((List.range n).filter fun i => decide (m / 2 ^ i % 2 = 1)).map fun i => ((i : Nat) : Int)
theorem maskW_asc (m : Int) (n : Nat) : Asc (maskW m n) := by
  unfold Asc maskW
  rw [List.pairwise_map]
  refine List.Pairwise.imp ?_ (List.Pairwise.filter _ List.pairwise_lt_range)
  intro a b h
  omega
theorem maskW_mem {m : Int} {n : Nat} {x : Int} (h : x ∈ maskW m n) : 0 ≤ x ∧ x < n := by
  unfold maskW at h
  obtain ⟨i, hi, rfl⟩ := List.mem_map.mp h
  have := List.mem_filter.mp hi
  have := List.mem_range.mp this.1
  omega
theorem maskW_len (m : Int) (n : Nat) : (maskW m n).length ≤ n := by
  unfold maskW
  rw [List.length_map]
  exact Nat.le_trans (List.length_filter_le _ _) (by simp)
theorem maskW_ne {m : Int} : ∀ {n : Nat}, 0 < m → m < 2 ^ n → maskW m n ≠ []
  | 0, h0, h1 => by simp at h1; omega
  | n + 1, h0, h1 => by
    intro e
    by_cases h2 : m < 2 ^ n
    · refine maskW_ne h0 h2 ?_
      unfold maskW at e ⊢
      rw [List.range_succ, List.filter_append, List.map_append] at e
      exact (List.append_eq_nil_iff.mp e).1
    · have hp : (0 : Int) < 2 ^ n := Int.pow_pos (by omega)
      have h3 : m / 2 ^ n = 1 := by
        have h4 : 1 ≤ m / 2 ^ n := Int.le_ediv_of_mul_le hp (by omega)
        have h5 : m / 2 ^ n < 2 := Int.ediv_lt_of_lt_mul hp (by rw [Int.pow_succ] at h1; omega)
        omega
      unfold maskW at e
      rw [List.range_succ, List.filter_append, List.map_append] at e
      have := (List.append_eq_nil_iff.mp e).2
      simp [h3] at this
end EP

namespace EP
open PySem L2
theorem pow_int (m : Nat) : ((2 ^ m : Nat) : Int) = (2 : Int) ^ m := by simp
theorem pow_dbl {a b : Nat} (h : a < b) : 2 * (2 : Int) ^ a ≤ 2 ^ b := by
  have := Nat.pow_le_pow_right (n := 2) (by omega) h
  rw [← pow_int, ← pow_int]
  rw [Nat.pow_succ] at this
  omega
theorem pow_one (a : Nat) : 1 ≤ (2 : Int) ^ a := by
  have := Nat.one_le_two_pow (n := a)
  rw [← pow_int]
  omega
theorem int_ok (P : List Int) : (Dt.tup (P.map .int)).eqOk = true := eqOk_tup (by
  intro d hd
  obtain ⟨x, _, rfl⟩ := List.mem_map.mp hd
  simp [Dt.plain, Dt.dep])
theorem in_iL {h : MH} {ng : Bool} {P : List Int} {a : Int} {n : Nat} (e : h[n]? = some (.lst (P.map .int))) : oIn ng (.int a) (.loc n) h = .ok (.bl (if ng then !decide (a ∈ P) else decide (a ∈ P))) h := by
  have h1 : ((P.map Dt.int).any fun z => eqv z (.int a)) = decide (a ∈ P) := by
    rw [List.any_map, Bool.eq_iff_iff, List.any_eq_true, decide_eq_true_eq]
    constructor
    · rintro ⟨q, hq, e⟩
      simp at e
      exact e ▸ hq
    · intro hm
      exact ⟨a, hm, by simp⟩
  simp only [oIn, e, eqOk_int, int_ok, and_self, if_true, h1]
end EP

namespace EP
open PySem L2
/-- what is known of a drawn word -/
structure WdOk (n : Int) (w : Word) : Prop where
  asc : Asc w
  rng : ∀ x ∈ w, 0 ≤ x ∧ x < n
  ne : w ≠ []
  len : w.length ≤ n.toNat
theorem wdOk_mask {n x : Int} (n0 : 0 ≤ n) (h0 : 1 ≤ x) (h1 : x < 2 ^ n.toNat) : WdOk n (maskW x n.toNat) :=
  ⟨maskW_asc _ _, fun y hy => by have := maskW_mem hy; omega, maskW_ne (by omega) h1, maskW_len _ _⟩
theorem pop_at {h : MH} {n : Nat} {xs : List Dt} {i : Int} {d : Dt} (e : h[n]? = some (.lst xs)) (h0 : 0 ≤ i) (hd : xs[i.toNat]? = some d) : ∃ h', mPop (.loc n) [.int i] h = .ok d h' ∧ Up n h h' (.lst (xs.eraseIdx i.toNat)) := by
  have hl := (List.getElem?_eq_some_iff.mp hd).1
  have h1 : i < xs.length := by omega
  exact ⟨_, by simp only [mPop, e, ixN, h0, h1, if_true, hd], Up.of e⟩
theorem map_eraseIdxX {α β : Type} (f : α → β) : ∀ (l : List α) (i : Nat), (l.map f).eraseIdx i = (l.eraseIdx i).map f
  | [], _ => by simp
  | a :: r, 0 => by simp
  | a :: r, i + 1 => by simp [map_eraseIdxX f r i]
theorem erase_perm {α : Type} : ∀ {l : List α} {i : Nat} {x : α}, l[i]? = some x → l.Perm (x :: l.eraseIdx i)
  | [], i, x, h => by simp at h
  | a :: r, 0, x, h => by
    simp at h
    subst h
    exact List.Perm.refl _
  | a :: r, i + 1, x, h => by
    simp at h
    have := erase_perm (l := r) (i := i) (x := x) h
    rw [List.eraseIdx_cons_succ]
    exact (List.Perm.cons a this).trans (List.Perm.swap x a _)
end EP

namespace EP
open PySem L2
def rngI (c : Nat) : List Int := (List.range c).map fun i => ((i : Nat) : Int)
structure RwOk (N : Int) (cnt : Nat) (cap : Int) (r : Row) : Prop where
  ne : r ≠ []
  len : (r.length : Int) ≤ cap
  each : ∀ e ∈ r, WdOk N e.1 ∧ 0 ≤ e.2 ∧ e.2 < cnt
/-- a drawn plan -/
structure PlOk (p : Plan) (cnt : Nat) (cap : Int) : Prop where
  len : p.2.length = cnt
  row : ∀ r ∈ p.2, RwOk p.1 cnt cap r
  ring : ∃ R : List Int, R.Perm (rngI cnt) ∧ R[0]? = some 0 ∧ ∀ i, i < cnt → ∃ e ∈ rowAt p (R.getD i 0), e.2 = R.getD ((i + 1) % cnt) 0
theorem rngI_mem {c : Nat} {x : Int} (h : x ∈ rngI c) : 0 ≤ x ∧ x < c := by
  obtain ⟨i, hi, rfl⟩ := List.mem_map.mp h
  have := List.mem_range.mp hi
  omega
theorem rngI_nodup (c : Nat) : (rngI c).Nodup := by
  unfold rngI
  rw [List.nodup_iff_pairwise_ne, List.pairwise_map]
  refine List.Pairwise.imp ?_ List.pairwise_lt_range
  intro a b h
  omega
theorem rngI_succ (c : Nat) : rngI (c + 1) = 0 :: (rngI c).map (1 + ·) := by
  unfold rngI
  rw [List.range_succ_eq_map, List.map_cons, List.map_map, List.map_map]
  congr 1
  apply List.map_congr_left
  intro a _
  simp
  omega
theorem mul_lst {h : MH} {n : Nat} {d : Dt} {k : Int} (e : h[n]? = some (.lst [d])) (k0 : 0 ≤ k) (k1 : k ≤ 1000) : oMul (.loc n) (.int k) h = .ok (.loc h.length) (h ++ [.lst (List.replicate k.toNat d)]) := by
  obtain ⟨a, b⟩ := lim62_big
  have h1 : k < lim62 ∧ -lim62 ≤ k := by generalize lim62 = l at *; omega
  have h2 : (List.replicate k.toNat [d]).flatten = List.replicate k.toNat d := by
    induction k.toNat with
    | zero => rfl
    | succ j ih => simp [List.replicate_succ, ih]
  simp only [oMul, e, if_pos h1, h2]
  rw [newL_le (by rw [sizeLine_eq, List.length_replicate]; omega)]
theorem add_lst {h : MH} {a b : Nat} {xs ys : List Dt} (e1 : h[a]? = some (.lst xs)) (e2 : h[b]? = some (.lst ys)) (hl : xs.length + ys.length ≤ 1000) : oAdd (.loc a) (.loc b) h = .ok (.loc h.length) (h ++ [.lst (xs ++ ys)]) := by
  simp only [oAdd, e1, e2]
  rw [newL_le (by rw [sizeLine_eq, List.length_append]; omega)]
theorem getD_of {α : Type} {l : List α} {i : Nat} {d x : α} (e : l[i]? = some x) : l.getD i d = x := by
  rw [List.getD_eq_getElem?_getD, e]; rfl
end EP

namespace EP
open PySem L2
/-- drawn clauses -/
structure ClOk (N : Int) (c : Word × Int) : Prop where
  asc : Asc c.1
  rng : ∀ x ∈ c.1, 0 ≤ x ∧ x < N
  len : c.1.length ≤ N.toNat
  b0 : 0 ≤ c.2
theorem asc_rng (N : Nat) : Asc (rngI N) := by
  unfold Asc rngI
  rw [List.pairwise_map]
  refine List.Pairwise.imp ?_ List.pairwise_lt_range
  intro a b h
  omega
theorem clOk_all {N b : Int} (N0 : 0 ≤ N) (h : 0 ≤ b) : ClOk N (rngI N.toNat, b) := ⟨asc_rng _, fun x hx => by have := rngI_mem hx; omega, by simp [rngI], h⟩
theorem clOk_nil {N b : Int} (h : 0 ≤ b) : ClOk N ([], b) := ⟨List.Pairwise.nil, by simp, by simp, h⟩
theorem clOk_mask {N b M : Int} (N0 : 0 ≤ N) (h : 0 ≤ b) : ClOk N (maskW M N.toNat, b) := ⟨maskW_asc _ _, fun x hx => by have := maskW_mem hx; omega, maskW_len _ _, h⟩
theorem rgD_eq {N : Int} : rgD 0 N = (rngI N.toNat).map Dt.int := by
  unfold rgD rngI
  rw [List.map_map]
  simp
end EP

namespace EP
open PySem L2
/-- a drawn plan of k75 -/
structure PlK (p : Plan) : Prop where
  n1 : 1 ≤ p.1
  n60 : p.1 ≤ 60
  ok : ∃ (cnt : Nat) (cap : Int), 1 ≤ cnt ∧ cnt ≤ 12 ∧ cap ≤ 64 ∧ PlOk p cnt cap
theorem plK_book {n : Int} {ws : List Word} (n1 : 1 ≤ n) (n60 : n ≤ 60) (hw : ∀ w ∈ ws, WdOk n w) (hl : ws.length ≤ 64) (hne : ws ≠ []) : PlK (n, [ws.map fun w => (w, 0)]) := by
  refine ⟨n1, n60, 1, 64, by omega, by omega, by omega, rfl, ?_, [0], by simp [rngI], rfl, ?_⟩
  · intro r hr
    simp at hr
    subst hr
    refine ⟨by simpa using hne, by simp; omega, fun e he => ?_⟩
    obtain ⟨w, hm, rfl⟩ := List.mem_map.mp he
    exact ⟨hw w hm, by simp, by simp⟩
  · intro i hi
    have : i = 0 := by omega
    subst this
    cases ws with
    | nil => exact absurd rfl hne
    | cons w r => exact ⟨(w, 0), by simp [rowAt], rfl⟩
theorem bd0 {r c : Int} : (decide (r = c)) = decide (r = c) := rfl
end EP
end
section
set_option maxRecDepth 20000
/-! K77R2: what was shown of the same defs for K75 (by reuse.py). -/
namespace K77
open PySem L2 EP
variable {k : Nat} {h : MH} {Q : Dt → MH → Prop} {X : Str → Fs → MH → Prop}
theorem law_less_wp {a b : Word} (hl : a.length ≤ 200) (q : ∀ h', h <+: h' → Q (wD (less a b)) h') : WE (callK D (k + 1) i_law_less [wD a, wD b] h) Q X := wp_val (law_less hl) q
theorem len_flatX {α β : Type} (xs : List α) (F : α → List β) (c : Nat) (hc : ∀ x ∈ xs, (F x).length ≤ c) : (xs.flatMap F).length ≤ xs.length * c := by
  induction xs with
  | nil => simp
  | cons a r ih =>
    have h1 := ih fun x hx => hc x (by simp [hx])
    have h2 := hc a (by simp)
    rw [List.flatMap_cons, List.length_append, List.length_cons, Nat.add_mul]
    omega
theorem getD_map {α β : Type} (f : α → β) (r : List α) (d : α) (i : Nat) : (r.map f).getD i (f d) = f (r.getD i d) := by
  simp only [List.getD_eq_getElem?_getD, List.getElem?_map]
  cases r[i]? <;> rfl
theorem pairs_flat (p : Plan) : (ppairs p).map t4D = (List.range p.2.length).flatMap fun s => (List.range (p.2.getD s []).length).flatMap fun i => (List.range (p.2.getD s []).length).flatMap fun j =>
    if i ≠ j then [t4D (s, i, j, less ((p.2.getD s []).getD i ([], 0)).1 ((p.2.getD s []).getD j ([], 0)).1)] else [] := by
  have hWl : ∀ (r : Row) i, (r.map (·.1)).getD i [] = (r.getD i ([], 0)).1 := fun r i => getD_map (fun e : Word × Int => e.1) r ([], 0) i
  rw [ppairs_eq, List.map_flatMap]
  congr 1
  funext s
  rw [wpairs_eq, List.map_flatMap, List.map_flatMap, List.length_map]
  congr 1
  funext i
  rw [List.map_flatMap, List.map_flatMap]
  congr 1
  funext j
  rw [hWl, hWl]
  split <;> rfl
open PySem L2 EP
variable {k : Nat} {h : MH} {Q : Dt → MH → Prop} {X : Str → Fs → MH → Prop}
open PySem L2 EP
variable {k : Nat} {h : MH} {Q : Dt → MH → Prop} {X : Str → Fs → MH → Prop}
open PySem L2 EP
variable {k : Nat} {h : MH} {Q : Dt → MH → Prop} {X : Str → Fs → MH → Prop}
theorem law_book {n : Int} {a : Nat} {ws : List Word} (ea : h[a]? = some (.lst (ws.map wD))) (hl : ws.length ≤ 1000) (q : ∀ h', h <+: h' → Q (pD (n, [ws.map fun w => (w, 0)])) h') : WE (callK D (k + 1) i_law_book [.int n, .loc a] h) Q X := by
  refine call_wp (md := D_law_book) rfl rfl fun O oN oQ oX => ?_
  simp [m_law_book]
  refine lc_it ?_
  simp [itOf_lst ea]
  refine lc_wpm (f := wD) (xs := ws) rfl (hi_lstA fun h' t => pre_get t ea) (fun w => .tup [wD w, .int 0]) (by rw [sizeLine_eq]; omega) ?_ ?_
  · intro w hw
    refine ⟨_, rfl, fun h' pr => ?_⟩
    simp
  · intro h1 p1 e1
    simp [tuple_lst e1]
    refine oQ _ _ (Q_eq (q h1 p1) ?_)
    simp [Function.comp_def]
open PySem L2 EP
variable {k : Nat} {h : MH} {Q : Dt → MH → Prop} {X : Str → Fs → MH → Prop}
theorem ans_we {m : RE Dt} {Q : Dt → MH → Prop} {X : Str → Fs → MH → Prop} (a : Ans Q X m) : EP.WE m Q X := by
  revert a
  unfold Ans EP.WE
  cases m <;> exact id
theorem so2 : PyData.strOk "limit" = true := by decide +kernel
open PySem L2 EP
variable {k : Nat} {h : MH} {Q : Dt → MH → Prop} {X : Str → Fs → MH → Prop}
theorem law_kind {d : Dt} (pl : d.plain = true) : callK D (k + 1) i_law_kind [d] h = .ok (.int (kindD d)) h := by
  rw [call_eq (md := D_law_kind) rfl rfl, run_s]
  cases d with
  | non => simp [m_law_kind, sSeq_s, kindD]
  | bl b => simp [m_law_kind, sSeq_s, kindD]
  | int i => simp [m_law_kind, sSeq_s, kindD]
  | str x => simp [m_law_kind, sSeq_s, kindD]
  | tup ds => simp [m_law_kind, sSeq_s, kindD]
  | loc n => simp [Dt.plain] at pl
open PySem L2 EP
variable {k : Nat} {h : MH} {Q : Dt → MH → Prop} {X : Str → Fs → MH → Prop}
theorem law_mixed (x s : Int) : ∃ r, callK D (k + 1) i_law_mixed [.int x, .int s] h = .ok (.int r) h := by
  rw [call_eq (md := D_law_mixed) rfl rfl, run_s]
  simp [m_law_mixed, sSeq_s]
  rw [mul_r (by omega) (by omega)]
  simp
  rw [mul_r (by omega) (by omega)]
  simp
  rw [mod_k (by omega)]
  simp
  generalize hA : (x * 48271 + s * 69621 + 12345) % 2147483647 = A
  have hA1 : 0 ≤ A := by rw [← hA]; exact Int.emod_nonneg _ (by omega)
  have hA2 : A < 2147483647 := by rw [← hA]; exact Int.emod_lt_of_pos _ (by omega)
  rw [mul_l (by omega) (by omega)]
  simp
  rw [mul_r (by omega) (by omega)]
  simp
  rw [fdiv_s (by omega) (by omega)]
  simp
  rw [mod_k (by omega)]
  simp
  generalize hB : (A * A + s * 16807 + A / 65536 + 7) % 2147483629 = B
  have hB1 : 0 ≤ B := by rw [← hB]; exact Int.emod_nonneg _ (by omega)
  have hB2 : B < 2147483629 := by rw [← hB]; exact Int.emod_lt_of_pos _ (by omega)
  rw [mul_l (by omega) (by omega)]
  simp
  rw [fdiv_s (by omega) (by omega)]
  simp
  rw [mod_k (by omega)]
  simp
  rw [mul_r (by omega) (by omega)]
  simp
theorem law_take {m n : Nat} {c : Int} (hs : St m n h) (hm : m ≤ h.length) (hc : c < lim200) (q : ∀ (r : Int) h', Kp m n h h' → 0 ≤ r → (1 ≤ c → r < c) → Q (.int r) h') : WE (callK D (k + 2) i_law_take [.loc n, .int c] h) Q X := by
  refine call_wp (md := D_law_take) rfl rfl fun O oN oQ oX => ?_
  obtain ⟨cA, cs, t0⟩ := hs
  obtain ⟨a, b, s, e, e0, a0, a1⟩ := t0.top
  have hkeep : ∀ {h' : MH}, StE m n cA cs h' → h.length ≤ h'.length → (∀ i o, m ≤ i → h[i]? = some o → h'[i]? = some o) → Kp m n h h' := fun t l g => ⟨⟨cA, cs, t⟩, l, g⟩
  have hup : ∀ {h' h2 : MH} {x : Nat} {o : MO}, x < m → Up x h' h2 o → (h.length ≤ h'.length ∧ ∀ i o, m ≤ i → h[i]? = some o → h'[i]? = some o) → (h.length ≤ h2.length ∧ ∀ i o, m ≤ i → h[i]? = some o → h2[i]? = some o) := fun hx u ⟨l, g⟩ =>
    ⟨by rw [u.len]; exact l, fun i o hi e => u.get (by omega) (g i o hi e)⟩
  have hN : ∀ {h' : MH} {a b s e : Int}, h'[n]? = some (.lst [.loc cA, .int a, .int b, .int s, .int e]) → (∀ v, ∃ h2, oSet (.loc n) (.int 1) (.int v) h' = some h2 ∧ Up n h' h2 (.lst [.loc cA, .int v, .int b, .int s, .int e])) ∧ (∀ v, ∃ h2, oSet (.loc n) (.int 2) (.int v) h' = some h2 ∧ Up n h' h2 (.lst [.loc cA, .int a, .int v, .int s, .int e])) ∧ (∀ v, ∃ h2, oSet (.loc n) (.int 4) (.int v) h' = some h2 ∧ Up n h' h2 (.lst [.loc cA, .int a, .int b, .int s, .int v])) := by
    intro h' a b s e e0
    refine ⟨fun v => ?_, fun v => ?_, fun v => ?_⟩
    · obtain ⟨h2, f, u⟩ := setL_ex (i := 1) (v := .int v) e0 (by omega) (by simp)
      exact ⟨h2, f, u⟩
    · obtain ⟨h2, f, u⟩ := setL_ex (i := 2) (v := .int v) e0 (by omega) (by simp)
      exact ⟨h2, f, u⟩
    · obtain ⟨h2, f, u⟩ := setL_ex (i := 4) (v := .int v) e0 (by omega) (by simp)
      exact ⟨h2, f, u⟩
  have gN : ∀ {h' : MH} {a b s e : Int}, h'[n]? = some (.lst [.loc cA, .int a, .int b, .int s, .int e]) → oGet (.loc n) (.int 0) h' = .ok (.loc cA) h' ∧ oGet (.loc n) (.int 1) h' = .ok (.int a) h' ∧ oGet (.loc n) (.int 2) h' = .ok (.int b) h' ∧ oGet (.loc n) (.int 3) h' = .ok (.int s) h' ∧ oGet (.loc n) (.int 4) h' = .ok (.int e) h' :=
    fun e0 => ⟨get_lst e0 (by omega) rfl, get_lst e0 (by omega) rfl, get_lst e0 (by omega) rfl, get_lst e0 (by omega) rfl, get_lst e0 (by omega) rfl⟩
  obtain ⟨g0, g1, g2, g3, g4⟩ := gN e0
  obtain ⟨h1, f1, u1⟩ := (hN e0).2.2 (e + 1)
  have t1 := t0.upN u1 a0 a1
  have k1 := hup t0.nm u1 ⟨Nat.le_refl _, fun _ _ _ e => e⟩
  have nm := t0.nm
  simp [m_law_take, g0, g4, f1]
  refine run_ite (fun hb => ?_) (fun hb => ?_)
  · simp
    exact oQ _ _ (q 0 h1 (hkeep t1 k1.1 k1.2) (by omega) (by omega))
  obtain ⟨g0, g1, g2, g3, g4⟩ := gN u1.at_
  have hlen : bLen [.loc cA] h1 = .ok (.int cs.length) h1 := by rw [len_lst t1.cells, List.length_map]
  simp
  refine run_sFor (iRg2_wp ?_)
  have hcl := t0.len
  simp [g1, hlen]
  refine ⟨sm_int (by omega) (by omega), sm_nat (by omega), ?_⟩
  refine run_wk (f := fun j : Nat => Dt.int (a + (j : Nat))) (xs := List.range ((cs.length : Int) - a).toNat) (H := fun _ => True) hi_rng (fun i ρ h' => StE m n cA cs h' ∧ (h.length ≤ h'.length ∧ ∀ i o, m ≤ i → h[i]? = some o → h'[i]? = some o) ∧ ∃ x3 x4 x5, ρ = [some (.loc n), some (.int c), some (.loc cA), x3, x4, x5]) (fun _ _ _ _ => trivial) ⟨t1, k1, _, _, _, rfl⟩ ?_ ?_
  · rintro j j' ρ h2 hj ⟨t2, k2, x3, x4, x5, rfl⟩
    obtain ⟨hjl, rfl⟩ : j < ((cs.length : Int) - a).toNat ∧ j = j' := by
      obtain ⟨a, b⟩ := List.getElem?_eq_some_iff.mp hj
      simp at a b
      exact ⟨by omega, b⟩
    refine ⟨_, rfl, fun O2 tb => ?_⟩
    have hjc : (a + (j : Int)).toNat < cs.length := by omega
    have hx : cs[(a + (j : Int)).toNat] ∈ cs := List.getElem_mem hjc
    have gc : oGet (.loc cA) (.int (a + (j : Nat))) h2 = .ok (.loc cs[(a + (j : Int)).toNat]) h2 := get_lst t2.cells (by omega) (by rw [List.getElem?_map, List.getElem?_eq_getElem hjc]; rfl)
    generalize cs[(a + (j : Int)).toNat] = x at hx gc
    obtain ⟨a2, b2, s2, e2, f2, a20, a21⟩ := t2.top
    obtain ⟨h3, f3, u3⟩ := (hN f2).1 (a + (j : Nat))
    have t3 := t2.upN u3 (by omega) (by omega)
    have k3 := hup nm u3 k2
    obtain ⟨p, v, ex⟩ := t3.each x hx
    have x0 : oGet (.loc x) (.int 0) h3 = .ok (.int p) h3 := get_lst ex (by omega) rfl
    have x1 : oGet (.loc x) (.int 1) h3 = .ok (.int v) h3 := get_lst ex (by omega) rfl
    have xm := (t0.cel x hx).1
    have hmodn : ∀ r : Int, 0 ≤ r % c := fun r => Int.emod_nonneg _ (by omega)
    have hmodl : ∀ r : Int, r % c < c := fun r => Int.emod_lt_of_pos _ (by omega)
    simp [-tAnd_s, gc, f3]
    rw [tAnd_ok (x := decide (p = 1)) (y := decide (0 < v)) (by simp [x0]) (fun _ => by simp [x1])]
    simp only [we_ok]
    refine run_ite (fun hb1 => ?_) (fun hb1 => ?_)
    · simp [x1]
      rw [mod_k (by omega)]
      simp [x1]
      rw [fdiv_k (by omega) hc]
      simp
      obtain ⟨h4, f4, u4⟩ := setL_ex (i := 1) (v := .int (v / c)) ex (by omega) (by simp)
      have t4 := t3.upX (p := p) (v := v / c) hx u4
      have k4 := hup xm u4 k3
      simp [f4]
      exact tb.Q _ _ (oQ _ _ (q _ h4 (hkeep t4 k4.1 k4.2) (hmodn _) (fun _ => hmodl _)))
    obtain ⟨y0, y1, y2, y3, y4⟩ := gN u3.at_
    simp [-tAnd_s]
    rw [tAnd_ok (x := decide (p = 0)) (y := decide (b2 < 4)) (by simp [x0]) (fun _ => by simp [y2])]
    simp only [we_ok]
    refine run_ite (fun hb2 => ?_) (fun hb2 => ?_)
    · obtain ⟨h4, f4, u4⟩ := (hN u3.at_).2.1 (b2 + 1)
      have t4 := t3.upN u4 (by omega) (by omega)
      have k4 := hup nm u4 k3
      obtain ⟨z0, z1, z2, z3, z4⟩ := gN u4.at_
      have ex4 := u4.get (t0.cel x hx).2.1 ex
      have x14 : oGet (.loc x) (.int 1) h4 = .ok (.int v) h4 := get_lst ex4 (by omega) rfl
      simp [y2, f4, x14, z2]
      rw [mul_r (by omega) (by omega)]
      obtain ⟨r, hr⟩ := law_mixed (k := k) (h := h4) (v + (a + (j : Int)) * 7919) (b2 + 1)
      simp [z2, hr]
      rw [mod_k (by omega)]
      simp
      exact tb.Q _ _ (oQ _ _ (q _ h4 (hkeep t4 k4.1 k4.2) (hmodn _) (fun _ => hmodl _)))
    · obtain ⟨h4, f4, u4⟩ := (hN u3.at_).2.1 0
      have t4 := t3.upN u4 (by omega) (by omega)
      have k4 := hup nm u4 k3
      simp [f4]
      exact tb.N _ _ ⟨t4, k4, _, _, _, rfl⟩
  · rintro ρ h2 ⟨t2, k2, x3, x4, x5, rfl⟩
    obtain ⟨a2, b2, s2, e2, f2, a20, a21⟩ := t2.top
    obtain ⟨h3, f3, u3⟩ := (hN f2).1 cs.length
    have t3 := t2.upN u3 (by omega) (by omega)
    have k3 := hup nm u3 k2
    obtain ⟨y0, y1, y2, y3, y4⟩ := gN u3.at_
    have hlen2 : bLen [.loc cA] h2 = .ok (.int cs.length) h2 := by rw [len_lst t2.cells, List.length_map]
    obtain ⟨r, hr⟩ := law_mixed (k := k) (h := h3) s2 e2
    simp [hlen2, f3, y3, y4, hr]
    rw [mod_k (by omega)]
    simp
    exact oQ _ _ (q _ h3 (hkeep t3 k3.1 k3.2) (Int.emod_nonneg _ (by omega)) (fun _ => Int.emod_lt_of_pos _ (by omega)))

open PySem L2 EP
variable {k : Nat} {h : MH} {Q : Dt → MH → Prop} {X : Str → Fs → MH → Prop}
theorem law_power {b c : Int} (b0 : -1000000 ≤ b) (b1 : b ≤ 1000000) (c0 : 0 ≤ c) (c1 : c ≤ 1000) (q : Q (.int (b ^ c.toNat)) h) : WE (callK D (k + 1) i_law_power [.int b, .int c] h) Q X := by
  refine call_wp (md := D_law_power) rfl rfl fun O oN oQ oX => ?_
  simp [m_law_power]
  refine run_sFor (iRg1_wp ?_)
  simp
  refine ⟨sm_int (by omega) (by omega), ?_⟩
  refine run_rng (fun i ρ h' => h' = h ∧ ∃ x3, ρ = [some (.int b), some (.int c), some (.int (b ^ i)), x3]) ⟨rfl, none, by simp⟩ ?_ ?_
  · rintro i ρ h' hi ⟨rfl, x3, rfl⟩ O2 t2
    simp
    rw [mul_r (by omega) (by omega)]
    simp
    exact t2.N _ _ ⟨rfl, _, by rw [Int.pow_succ]⟩
  · rintro ρ h' ⟨rfl, x3, rfl⟩
    simp
    exact oQ _ _ q
theorem law_mask_word {M n : Int} (n0 : 0 ≤ n) (n1 : n ≤ 1000) (q : ∀ h', h <+: h' → Q (wD (maskW M n.toNat)) h') : WE (callK D (k + 1) i_law_mask_word [.int M, .int n] h) Q X := by
  refine call_wp (md := D_law_mask_word) rfl rfl fun O oN oQ oX => ?_
  simp [m_law_mask_word]
  refine run_sFor (iRg1_wp ?_)
  simp
  refine ⟨sm_int (by omega) (by omega), ?_⟩
  refine run_rng (fun i ρ h' => h <+: h' ∧ (∃ x4, ρ = [some (.int M), some (.int n), some (.loc h.length), some (.int (M / 2 ^ i)), x4]) ∧ h'[h.length]? = some (.lst ((maskW M i).map .int))) ⟨pre_app _ _, ⟨none, by simp⟩, by simp [maskW]⟩ ?_ ?_
  · rintro i ρ h1 hi ⟨pr, ⟨x4, rfl⟩, e1⟩ O2 t2
    simp
    rw [mod_k (by omega)]
    simp
    have hdiv : M / 2 ^ i / 2 = M / 2 ^ (i + 1) := by
      rw [Int.pow_succ, Int.ediv_ediv_of_nonneg (Int.pow_nonneg (by omega))]
    have hstep : maskW M (i + 1) = maskW M i ++ if M / 2 ^ i % 2 = 1 then [(i : Int)] else [] := by
      unfold maskW
      rw [List.range_succ, List.filter_append, List.map_append]
      congr 1
      by_cases hb : M / 2 ^ i % 2 = 1 <;> simp [hb]
    have hml := maskW_len M i
    refine run_ite (fun hb => ?_) (fun hb => ?_)
    · obtain ⟨h2, f2, u⟩ := app_ex (v := .int (i : Nat)) e1 (by rw [sizeLine_eq, List.length_map]; omega)
      simp [isLst_lst e1, f2]
      rw [fdiv_s (by omega) (by omega)]
      simp
      refine t2.N _ _ ⟨u.pre pr (Nat.le_refl _), ⟨_, by rw [hdiv]⟩, ?_⟩
      rw [u.at_, hstep, if_pos hb]
      simp
    · simp
      rw [fdiv_s (by omega) (by omega)]
      simp
      refine t2.N _ _ ⟨pr, ⟨_, by rw [hdiv]⟩, ?_⟩
      rw [e1, hstep, if_neg hb]
      simp
  · rintro ρ h1 ⟨pr, ⟨x4, rfl⟩, e1⟩
    simp [tuple_lst e1]
    exact oQ _ _ (q _ pr)

open PySem L2 EP
variable {k : Nat} {h : MH} {Q : Dt → MH → Prop} {X : Str → Fs → MH → Prop}
theorem law_masks {m n : Nat} {N c : Int} (hs : St m n h) (hm : m ≤ h.length) (N0 : 1 ≤ N) (N1 : N ≤ 60) (c0 : 0 ≤ c) (c1 : c ≤ 1000)
    (q : ∀ (ms : List Int) a h', Kp m n h h' → h.length ≤ a → h'[a]? = some (.lst (ms.map .int)) → (∀ x ∈ ms, 1 ≤ x ∧ x < 2 ^ N.toNat) → (ms.length : Int) ≤ c → (1 ≤ c → ms ≠ []) → Q (.loc a) h') : WE (callK D (k + 3) i_law_masks [.loc n, .int N, .int c] h) Q X := by
  refine call_wp (md := D_law_masks) rfl rfl fun O oN oQ oX => ?_
  simp [m_law_masks]
  refine law_power (by omega) (by omega) (by omega) (by omega) ?_
  have hp1 := pow_one N.toNat
  have hp2 := pow_dbl (a := 0) (b := N.toNat) (by omega)
  have hp3 : (2 : Int) ^ N.toNat < lim200 := pow200 (by omega)
  have hpd : ∀ r : Int, 0 ≤ r → r < N → 2 * (2 : Int) ^ r.toNat ≤ 2 ^ N.toNat := fun r h0 h1 => pow_dbl (by omega)
  generalize hPP : (2 : Int) ^ N.toNat = P at hp1 hp2 hp3 hpd q
  simp at hp2
  simp
  refine law_take hs hm (lt200 (by omega)) fun r h1 k1 r0 r1 => ?_
  simp
  have hl1 := k1.len
  simp [if_ok]
  refine run_sFor (iRg1_wp ?_)
  have hmin : bMin [.int c, .int (P - 1)] = fun h => RE.ok (Dt.int (if P - 1 < c then P - 1 else c)) h := rfl
  simp [hmin]
  have hl1 := k1.len
  have hmc : 0 ≤ (if P - 1 < c then P - 1 else c) ∧ (if P - 1 < c then P - 1 else c) ≤ c ∧ (1 ≤ c → 1 ≤ (if P - 1 < c then P - 1 else c)) := by split <;> omega
  generalize (if P - 1 < c then P - 1 else c) = T at hmc
  generalize (decide (r = 0) && decide (3 < N)) = th
  refine ⟨sm_int (by omega) (by omega), ?_⟩
  refine run_rng (fun i ρ h' => ∃ ms : List Int, ms.length = i ∧ (∀ x ∈ ms, 1 ≤ x ∧ x < P) ∧ Kp m n h h' ∧ h'[h1.length]? = some (.lst (ms.map .int)) ∧ ∃ x6 x7 x8 x9 x10, ρ = [some (.loc n), some (.int N), some (.int c), some (.int (P - 1)), some (.bl th), some (.loc h1.length), x6, x7, x8, x9, x10])
    ⟨[], rfl, by simp, k1.thenPre (pre_app _ _), by simp, _, _, _, _, _, rfl⟩ ?_ ?_
  · rintro i ρ h2 hi ⟨ms, hms, hr, k2, e2, x6, x7, x8, x9, x10, rfl⟩ O2 t2
    have hl2 := k2.len
    simp [-sIf_s]
    refine run_join (J := fun ρ h' => Kp m n h h' ∧ h'[h1.length]? = some (.lst (ms.map .int)) ∧ ∃ x7 x8 x10, ∃ M : Int, 1 ≤ M ∧ M < P ∧ ρ = [some (.loc n), some (.int N), some (.int c), some (.int (P - 1)), some (.bl th), some (.loc h1.length), some (.int (i : Nat)), x7, x8, some (.int M), x10]) (fun O3 w1 w2 w3 w4 w5 => ?_) ?_
    · simp
      refine run_ite (fun hb => ?_) (fun hb => ?_)
      · simp
        refine law_take k2.st (Nat.le_trans hm k2.len) (lt200 (by omega)) fun r1 h3 k3 r10 r11 => ?_
        have r11 := r11 (by omega)
        refine law_power (by omega) (by omega) (by omega) (by omega) ?_
        refine law_take k3.st (Nat.le_trans hm (Nat.le_trans hl2 k3.len)) (lt200 (by omega)) fun r2 h4 k4 r20 r21 => ?_
        have r21 := r21 (by omega)
        refine law_power (by omega) (by omega) (by omega) (by omega) ?_
        have k5 := k2.trans (k3.trans k4)
        have e5 := k4.ge _ _ (by omega) (k3.ge _ _ (by omega) e2)
        have hmax : ∀ a b : Int, bMax [.int a, .int b] = fun h => RE.ok (Dt.int (if b > a then b else a)) h := fun _ _ => rfl
        have d1 := hpd r1 r10 r11
        have d2 := hpd r2 r20 r21
        have o1 := pow_one r1.toNat
        have o2 := pow_one r2.toNat
        simp [hmax]
        refine run_ite (fun hb2 => ?_) (fun hb2 => ?_)
        · simp
          refine w1 _ _ ⟨k5, e5, _, _, _, _, ?_, ?_, rfl⟩
          · split <;> omega
          · split <;> omega
        · simp
          have hne : r1.toNat ≠ r2.toNat := fun e => hb2 (by rw [e])
          refine w1 _ _ ⟨k5, e5, _, _, _, _, by omega, ?_, rfl⟩
          rcases Nat.lt_or_gt_of_ne hne with z | z
          · have := pow_dbl z
            omega
          · have := pow_dbl z
            omega
      · simp
        refine law_take k2.st (Nat.le_trans hm k2.len) (by omega) fun r1 h3 k3 r10 r11 => ?_
        have r11 := r11 (by omega)
        simp
        exact w1 _ _ ⟨k2.trans k3, k3.ge _ _ (by omega) e2, _, _, _, _, by omega, by omega, rfl⟩
    · rintro ρ h3 ⟨k3, e3, x7, x8, x10, M, M0, M1, rfl⟩
      simp
      refine run_sFor (iRg1_wp ?_)
      simp [len_lst e3]
      refine ⟨sm_nat (by omega), ?_⟩
      have fin : ∀ (x7 x8 x10 : Option Dt) (M : Int), 1 ≤ M → M < P → Run (callK D (k + 2)) O2 [sExpr (eMf mAppend (eVar 5) (aCons (eVar 9) aNil))] (.nx [some (.loc n), some (.int N), some (.int c), some (.int (P - 1)), some (.bl th), some (.loc h1.length), some (.int (i : Nat)), x7, x8, some (.int M), x10] h3) := by
        intro x7 x8 x10 M M0 M1
        obtain ⟨h4, f4, u⟩ := app_ex (v := .int M) e3 (by rw [sizeLine_eq, List.length_map]; omega)
        simp [isLst_lst e3, f4]
        refine t2.N _ _ ⟨ms ++ [M], by simp [hms], fun x hx => ?_, k3.up u hl1 hm, ?_, _, _, _, _, _, rfl⟩
        · rcases List.mem_append.mp hx with z | z
          · exact hr x z
          · simp at z
            subst z
            exact ⟨M0, M1⟩
        · rw [u.at_]; simp
      refine run_rng (fun j ρ h' => h' = h3 ∧ ∃ x10, ∃ M : Int, 1 ≤ M ∧ M < P ∧ ρ = [some (.loc n), some (.int N), some (.int c), some (.int (P - 1)), some (.bl th), some (.loc h1.length), some (.int (i : Nat)), x7, x8, some (.int M), x10]) ⟨rfl, _, M, M0, M1, rfl⟩ ?_ ?_
      · rintro j ρ h' hj ⟨rfl, x10, M, M0, M1, rfl⟩ O3 t3
        simp [in_iL e3]
        refine run_ite (fun hb => ?_) (fun hb => ?_)
        · simp
          rw [mod_k (by omega)]
          simp
          have := Int.emod_nonneg M (b := P - 1) (by omega)
          have := Int.emod_lt_of_pos M (b := P - 1) (by omega)
          exact t3.N _ _ ⟨rfl, _, _, by omega, by omega, rfl⟩
        · simp
          exact t3.B _ _ (fin _ _ _ _ M0 M1)
      · rintro ρ h' ⟨rfl, x10, M, M0, M1, rfl⟩
        exact fin _ _ _ _ M0 M1
  · rintro ρ h2 ⟨ms, hms, hr, k2, e2, x6, x7, x8, x9, x10, rfl⟩
    simp
    refine oQ _ _ (q ms _ _ k2 hl1 e2 hr (by omega) ?_)
    intro hc
    rintro rfl
    simp at hms
    omega

open PySem L2 EP
variable {k : Nat} {h : MH} {Q : Dt → MH → Prop} {X : Str → Fs → MH → Prop}
theorem law_words {m n : Nat} {N c : Int} (hs : St m n h) (hm : m ≤ h.length) (N0 : 1 ≤ N) (N1 : N ≤ 60) (c0 : 0 ≤ c) (c1 : c ≤ 1000)
    (q : ∀ (ws : List Word) a h', Kp m n h h' → h.length ≤ a → h'[a]? = some (.lst (ws.map wD)) → (∀ w ∈ ws, WdOk N w) → (ws.length : Int) ≤ c → (1 ≤ c → ws ≠ []) → Q (.loc a) h') : WE (callK D (k + 4) i_law_words [.loc n, .int N, .int c] h) Q X := by
  refine call_wp (md := D_law_words) rfl rfl fun O oN oQ oX => ?_
  simp [m_law_words]
  refine lc_it ?_
  simp
  refine law_masks hs hm N0 N1 c0 c1 fun ms a h1 k1 ha e1 hr hl hne => ?_
  rw [itOf_lst e1]
  simp
  refine lc_wpm (f := Dt.int) (xs := ms) rfl (hi_lstA fun h' t => pre_get t e1) (fun x => wD (maskW x N.toNat)) (by rw [sizeLine_eq]; omega) ?_ ?_
  · intro x hx
    refine ⟨_, rfl, fun h' pr => ?_⟩
    simp
    exact law_mask_word (by omega) (by omega) fun h2 p2 => ⟨rfl, p2⟩
  · intro h2 p2 e2
    have hl1 := k1.len
    refine oQ _ _ (q (ms.map fun x => maskW x N.toNat) _ _ (k1.thenPre p2) hl1 (by rw [e2, List.map_map]; rfl) ?_ (by simpa using hl) (by simpa using hne))
    intro w hw
    obtain ⟨x, hx, rfl⟩ := List.mem_map.mp hw
    exact wdOk_mask (by omega) (hr x hx).1 (hr x hx).2
theorem law_pruned {a : Nat} {ws : List Word} (ea : h[a]? = some (.lst (ws.map wD))) (hl : ws.length ≤ 1000) (hw : ∀ w ∈ ws, w.length ≤ 200)
    (q : ∀ (us : List Word) b h', h <+: h' → h.length ≤ b → h'[b]? = some (.lst (us.map wD)) → (∀ w ∈ us, w ∈ ws) → us.length ≤ ws.length → (ws ≠ [] → us ≠ []) → Q (.loc b) h') : WE (callK D (k + 2) i_law_pruned [.loc a] h) Q X := by
  refine call_wp (md := D_law_pruned) rfl rfl fun O oN oQ oX => ?_
  simp [m_law_pruned]
  refine run_sFor ?_
  have ea' := pre_get (pre_app h [.lst []]) ea
  simp [itOf_lst ea']
  refine run_wk (f := wD) (xs := ws) (H := fun h' => h <+: h') (hi_lstA fun h' t => pre_get t ea) (fun i ρ h' => h <+: h' ∧ ∃ us : List Word, us.length ≤ i ∧ (∀ w ∈ us, w ∈ ws) ∧ (0 < i → us ≠ []) ∧ h'[h.length]? = some (.lst (us.map wD)) ∧ ∃ x2 x3 x4, ρ = [some (.loc a), some (.loc h.length), x2, x3, x4]) (fun _ _ _ t => t.1)
    ⟨pre_app _ _, [], by simp, by simp, by simp, by simp, _, _, _, rfl⟩ ?_ ?_
  · rintro i w ρ h1 hi ⟨pr, us, hus, hsub, hne, e1, x2, x3, x4, rfl⟩
    have hil := (List.getElem?_eq_some_iff.mp hi).1
    have hwm := List.mem_of_getElem? hi
    refine ⟨_, rfl, fun O2 t2 => ?_⟩
    simp
    refine run_sFor ?_
    simp [itOf_lst e1]
    refine run_wk (f := wD) (xs := us) (H := fun h' => h1 <+: h') (hi_lstA fun h' t => pre_get t e1) (fun j ρ h' => h1 <+: h' ∧ ∃ (b : Bool) (x4 : Option Dt), (j = 0 → b = true) ∧ ρ = [some (.loc a), some (.loc h.length), some (wD w), some (.bl b), x4]) (fun _ _ _ t => t.1)
      ⟨pre_refl _, true, _, fun _ => rfl, rfl⟩ ?_ ?_
    · rintro j u ρ h2 hj ⟨pr2, b, x4, hb, rfl⟩
      have hum := List.mem_of_getElem? hj
      refine ⟨_, rfl, fun O3 t3 => ?_⟩
      simp
      refine law_less_wp (hw _ hwm) fun h3 pr3 => ?_
      simp
      by_cases hc : less w u = []
      · simp [hc]
        exact t3.N _ _ ⟨pr2.trans pr3, _, _, by omega, rfl⟩
      · simp [hc]
        refine law_less_wp (hw _ (hsub _ hum)) fun h4 pr4 => ?_
        simp
        refine run_ite (fun hd => ?_) (fun hd => ?_)
        · simp
          exact t3.N _ _ ⟨pr2.trans (pr3.trans pr4), _, _, by omega, rfl⟩
        · rw [run_nx0]
          exact t3.N _ _ ⟨pr2.trans (pr3.trans pr4), _, _, by omega, rfl⟩
    · rintro ρ h2 ⟨pr2, b, x4, hb, rfl⟩
      have e2 := pre_get pr2 e1
      simp
      refine run_ite (fun hc => ?_) (fun hc => ?_)
      · obtain ⟨h3, f3, u⟩ := app_ex (v := wD w) e2 (by rw [sizeLine_eq, List.length_map]; omega)
        simp [isLst_lst e2, f3]
        refine t2.N _ _ ⟨u.pre (pr.trans pr2) (Nat.le_refl _), us ++ [w], by simp; omega, fun x hx => ?_, by simp, by rw [u.at_]; simp, _, _, _, rfl⟩
        rcases List.mem_append.mp hx with z | z
        · exact hsub x z
        · simp at z
          exact z ▸ hwm
      · rw [run_nx0]
        refine t2.N _ _ ⟨pr.trans pr2, us, by omega, hsub, fun _ => ?_, e2, _, _, _, rfl⟩
        rintro rfl
        exact hc (hb rfl)
  · rintro ρ h1 ⟨pr, us, hus, hsub, hne, e1, x2, x3, x4, rfl⟩
    simp
    exact oQ _ _ (q us _ _ pr (Nat.le_refl _) e1 hsub hus fun hw => hne (List.length_pos_iff.mpr hw))
open PySem L2 EP
variable {k : Nat} {h : MH} {Q : Dt → MH → Prop} {X : Str → Fs → MH → Prop}
open PySem L2 EP
variable {k : Nat} {h : MH} {Q : Dt → MH → Prop} {X : Str → Fs → MH → Prop}
theorem gap_int {ns : List Nat} : gapD ns = .non ∨ ∃ g : Int, gapD ns = .int g ∧ -1 ≤ g := by
  unfold gapD
  split
  · exact .inl rfl
  · refine .inr ⟨_, rfl, ?_⟩
    have : ∀ ns : List Nat, 0 ≤ minL (ns.map fun (n : Nat) => (n : Int)) := by
      intro ns
      induction ns with
      | nil => simp [minL]
      | cons a r ih =>
        cases r with
        | nil => simp [minL]
        | cons b r' =>
          simp only [List.map_cons, minL] at ih ⊢
          omega
    have := this ns
    omega
open PySem L2 EP
variable {k : Nat} {h : MH} {Q : Dt → MH → Prop} {X : Str → Fs → MH → Prop}
theorem law_store {a : Nat} {ns : List Int} (ea : h[a]? = some (.fro (ns.map .int))) (hl : ns.length ≤ 63) (q : ∀ n h', St h'.length n h' → Q (.loc n) h') : WE (callK D (k + 1) i_law_store [.loc a] h) Q X := by
  refine call_wp (md := D_law_store) rfl rfl fun O oN oQ oX => ?_
  simp [m_law_store]
  refine run_sFor ?_
  have ea' := pre_get (pre_app h [.lst []]) ea
  have hcut : ∀ h', h'[a]? = some (.fro (ns.map .int)) → oCut (.loc a) none (some 63) h' = .ok (.loc h'.length) (h' ++ [.lst (ns.map .int)]) := by
    intro h' e
    simp only [oCut, getL, e]
    have : cutD (ns.map Dt.int) none (some 63) = ns.map .int := by
      unfold cutD HT.sIx
      simp
      rw [Nat.min_eq_right hl, ← List.length_map (f := Dt.int), List.take_length]
    rw [this]
  simp [hcut _ ea']
  have e1 : (h ++ [MO.lst [], MO.lst (ns.map Dt.int)])[h.length + 1]? = some (.lst (ns.map .int)) := by
    rw [List.getElem?_append_right (by omega)]
    simp
  rw [itOf_lst e1]
  simp
  have hc : h.length + 1 + 1 = (h ++ [MO.lst [], MO.lst (ns.map Dt.int)]).length := by simp
  generalize hh : h ++ [MO.lst [], MO.lst (ns.map Dt.int)] = h1 at e1 hc
  have e0 : h1[h.length]? = some (.lst []) := by rw [← hh]; simp
  refine run_wk (f := Dt.int) (xs := ns) (H := fun h' => h'[h.length + 1]? = some (.lst (ns.map .int))) (hi_lstA fun h' t => t) (fun i ρ h' => h'[h.length + 1]? = some (.lst (ns.map .int)) ∧ ∃ (cs : List Nat) (s : Int), cs.length = i ∧ h.length + 2 ≤ h'.length ∧ h'[h.length]? = some (.lst (cs.map .loc)) ∧ (∀ x ∈ cs, h.length + 2 ≤ x ∧ x < h'.length ∧ ∃ t v : Int, h'[x]? = some (.lst [.int t, .int v])) ∧
      ∃ x3, ρ = [some (.loc a), some (.loc h.length), some (.int s), x3]) (fun _ _ _ t => t.1)
    ⟨e1, [], 77, rfl, by omega, e0, by simp, _, rfl⟩ ?_ ?_
  · rintro i x ρ h2 hx ⟨e2, cs, s, hcl, hle, e3, hcs, x3, rfl⟩
    have hil := (List.getElem?_eq_some_iff.mp hx).1
    refine ⟨_, rfl, fun O2 t2 => ?_⟩
    have hp18 : oPow (.int 10) (.int 18) = fun h => RE.ok (.int 1000000000000000000) h := by
      funext h
      unfold oPow
      simp only []
      rw [if_pos (by decide)]
      rfl
    have hp60 : oPow (.int 10) (.int 60) = fun h => RE.ok (.int 1000000000000000000000000000000000000000000000000000000000000) h := by
      funext h
      unfold oPow
      simp only []
      rw [if_pos (by decide)]
      rfl
    simp [-sIf_s]
    refine run_join (J := fun ρ h' => h'[h.length + 1]? = some (.lst (ns.map .int)) ∧ ∃ (cs : List Nat) (s v : Int) (y : Nat), cs.length = i ∧ h.length + 2 ≤ h'.length ∧ h'[h.length]? = some (.lst ((cs ++ [y]).map .loc)) ∧ (∀ x ∈ cs ++ [y], h.length + 2 ≤ x ∧ x < h'.length ∧ ∃ t v : Int, h'[x]? = some (.lst [.int t, .int v])) ∧
      (∃ t : Int, h'[y]? = some (.lst [.int t, .int v])) ∧ ρ = [some (.loc a), some (.loc h.length), some (.int s), some (.int x)]) (fun O3 w1 w2 w3 w4 w5 => ?_) ?_
    · have key : ∀ t v : Int, ∃ h6, mAppend (.loc h.length) [.loc h2.length] (h2 ++ [.lst [.int t, .int v]]) = .ok .non h6 ∧ O3.N [some (.loc a), some (.loc h.length), some (.int s), some (.int x)] h6 := by
        intro t v
        have e4 := pre_get (pre_app h2 [.lst [Dt.int t, .int v]]) e3
        have e5 := new_get h2 (.lst [Dt.int t, .int v])
        obtain ⟨h6, f6, u⟩ := app_ex (v := .loc h2.length) e4 (by rw [sizeLine_eq, List.length_map]; omega)
        refine ⟨h6, f6, w1 _ _ ⟨u.get (by omega) (pre_get (pre_app _ _) e2), cs, s, v, h2.length, hcl, by rw [u.len]; simp; omega, by rw [u.at_]; simp, fun z hz => ?_, ⟨t, u.get (by omega) e5⟩, rfl⟩⟩
        rcases List.mem_append.mp hz with z' | z'
        · obtain ⟨a1, a2, t, v, a3⟩ := hcs z z'
          exact ⟨a1, by rw [u.len]; simp; omega, t, v, u.get (by omega) (pre_get (pre_app _ _) a3)⟩
        · simp at z'
          subst z'
          exact ⟨hle, by rw [u.len]; simp, t, v, u.get (by omega) e5⟩
      simp [hp18, if_ok]
      refine run_ite (fun hb => ?_) (fun hb => ?_)
      · simp [isLst_lst e3]
        rw [mod_k (by omega)]
        obtain ⟨h6, f6, w6⟩ := key 0 (x % 2147483647)
        simp [f6]
        exact w6
      · have habs : bAbs [.int x] = fun h => RE.ok (.int (if x < 0 then -x else x)) h := rfl
        simp [isLst_lst e3, habs, hp60]
        rw [mod_k (by decide)]
        obtain ⟨h6, f6, w6⟩ := key 1 ((if x < 0 then -x else x) % 1000000000000000000000000000000000000000000000000000000000000)
        simp [f6]
        exact w6
    · rintro ρ h3 ⟨e2, cs, s, v, y, hcl, hle, e3, hcs, ⟨t, e5⟩, rfl⟩
      have g1 : oGet (.loc h.length) (.int (-1)) h3 = .ok (.loc y) h3 := by
        simp [oGet, e3, getL, atI, ixN]
        rw [if_pos (by omega)]
        have : (-1 + ((cs.length : Int) + 1)).toNat = cs.length := by omega
        simp [this]
      have g2 : oGet (.loc y) (.int 1) h3 = .ok (.int v) h3 := get_lst e5 (by omega) rfl
      simp
      rw [mul_r (by omega) (by omega)]
      simp [g1, g2]
      rw [mod_k (by omega)]
      simp
      refine t2.N _ _ ⟨e2, cs ++ [y], _, by simp [hcl], hle, e3, hcs, _, rfl⟩
  · rintro ρ h2 ⟨e2, cs, s, hcl, hle, e3, hcs, x3, rfl⟩
    have hlt := lt_of_get e3
    simp
    rw [newL_le (by rw [sizeLine_eq]; simp)]
    simp
    refine oQ _ _ (q _ _ ⟨h.length, cs, by simp, by simp; omega, by omega, by omega, fun x hx => ?_, ⟨0, 0, s, 0, new_get _ _, by omega, by omega⟩, pre_get (pre_app _ _) e3, fun x hx => ?_⟩)
    · obtain ⟨a1, a2, _⟩ := hcs x hx
      exact ⟨by simp; omega, by omega, by omega⟩
    · obtain ⟨a1, a2, t, v, a3⟩ := hcs x hx
      exact ⟨t, v, pre_get (pre_app _ _) a3⟩

open PySem L2 EP
variable {k : Nat} {h : MH} {Q : Dt → MH → Prop} {X : Str → Fs → MH → Prop}
end K77
end
section
set_option maxRecDepth 20000
/-! Tree: what a value is, its lists by content. -/
namespace EP
open PySem L2
inductive Tr where
  | non | bl (b : Bool) | int (i : Int) | str (x : Str) | tup (ts : List Tr) | lst (ts : List Tr)
mutual
/-- d is t; its lists stand where P says -/
inductive Sh (P : Nat → Prop) (h : MH) : Dt → Tr → Prop
  | non : Sh P h .non .non
  | bl (b : Bool) : Sh P h (.bl b) (.bl b)
  | int (i : Int) : Sh P h (.int i) (.int i)
  | str (x : Str) : PyData.strOk x = true → Sh P h (.str x) (.str x)
  | tup {ds : List Dt} {ts : List Tr} : Shs P h ds ts → Sh P h (.tup ds) (.tup ts)
  | lst {n : Nat} {ds : List Dt} {ts : List Tr} : P n → h[n]? = some (.lst ds) → Shs P h ds ts → Sh P h (.loc n) (.lst ts)
inductive Shs (P : Nat → Prop) (h : MH) : List Dt → List Tr → Prop
  | nil : Shs P h [] []
  | cons {d : Dt} {t : Tr} {ds : List Dt} {ts : List Tr} : Sh P h d t → Shs P h ds ts → Shs P h (d :: ds) (t :: ts)
end
abbrev Ge (P : Nat → Prop) (h h' : MH) : Prop := ∀ i o, P i → h[i]? = some o → h'[i]? = some o
theorem Ge.pre {P : Nat → Prop} {h h' : MH} (p : h <+: h') : Ge P h h' := fun _ _ _ e => pre_get p e
theorem Ge.trans {P : Nat → Prop} {h h' h2 : MH} (a : Ge P h h') (b : Ge P h' h2) : Ge P h h2 := fun i o l e => b i o l (a i o l e)
mutual
theorem Sh.mono {P : Nat → Prop} {h h' : MH} (k : Ge P h h') : ∀ {d : Dt} {t : Tr}, Sh P h d t → Sh P h' d t
  | _, _, .non => .non
  | _, _, .bl b => .bl b
  | _, _, .int i => .int i
  | _, _, .str x e => .str x e
  | _, _, .tup r => .tup (Shs.mono k r)
  | _, _, .lst l e r => .lst l (k _ _ l e) (Shs.mono k r)
theorem Shs.mono {P : Nat → Prop} {h h' : MH} (k : Ge P h h') : ∀ {d : List Dt} {t : List Tr}, Shs P h d t → Shs P h' d t
  | _, _, .nil => .nil
  | _, _, .cons a b => .cons (Sh.mono k a) (Shs.mono k b)
end
theorem Sh.pre {P : Nat → Prop} {h h' : MH} {d : Dt} {t : Tr} (s : Sh P h d t) (p : h <+: h') : Sh P h' d t := s.mono (Ge.pre p)
theorem Shs.pre {P : Nat → Prop} {h h' : MH} {d : List Dt} {t : List Tr} (s : Shs P h d t) (p : h <+: h') : Shs P h' d t := s.mono (Ge.pre p)
mutual
theorem Sh.low {P P' : Nat → Prop} {h : MH} (l : ∀ i, P i → P' i) : ∀ {d : Dt} {t : Tr}, Sh P h d t → Sh P' h d t
  | _, _, .non => .non
  | _, _, .bl b => .bl b
  | _, _, .int i => .int i
  | _, _, .str x e => .str x e
  | _, _, .tup r => .tup (Shs.low l r)
  | _, _, .lst l2 e r => .lst (l _ l2) e (Shs.low l r)
theorem Shs.low {P P' : Nat → Prop} {h : MH} (l : ∀ i, P i → P' i) : ∀ {d : List Dt} {t : List Tr}, Shs P h d t → Shs P' h d t
  | _, _, .nil => .nil
  | _, _, .cons a b => .cons (Sh.low l a) (Shs.low l b)
end
section
variable {P : Nat → Prop} {h : MH}
theorem Shs.length : ∀ {ds : List Dt} {ts : List Tr}, Shs P h ds ts → ds.length = ts.length
  | _, _, .nil => rfl
  | _, _, .cons _ r => congrArg (· + 1) r.length
theorem Shs.get : ∀ {ds : List Dt} {ts : List Tr} {i : Nat} {t : Tr}, Shs P h ds ts → ts[i]? = some t → ∃ d, ds[i]? = some d ∧ Sh P h d t
  | _, _, _, _, .nil, e => by simp at e
  | _, _, 0, _, .cons a _, e => by simp at e; subst e; exact ⟨_, rfl, a⟩
  | _, _, i + 1, t, .cons _ r, e => by
    obtain ⟨d, h1, h2⟩ := Shs.get (i := i) (t := t) r (by simpa using e)
    exact ⟨d, by simpa using h1, h2⟩
theorem Shs.getD : ∀ {ds : List Dt} {ts : List Tr} {i : Nat} {d : Dt}, Shs P h ds ts → ds[i]? = some d → ∃ t, ts[i]? = some t ∧ Sh P h d t := fun {ds ts i d} s e => by
  have hl : i < ts.length := by rw [← s.length]; exact (List.getElem?_eq_some_iff.mp e).1
  obtain ⟨d', e', s'⟩ := s.get (List.getElem?_eq_getElem hl)
  rw [e] at e'; cases e'
  exact ⟨_, List.getElem?_eq_getElem hl, s'⟩
theorem Shs.append : ∀ {as bs : List Dt} {us vs : List Tr}, Shs P h as us → Shs P h bs vs → Shs P h (as ++ bs) (us ++ vs)
  | _, _, _, _, .nil, s => s
  | _, _, _, _, .cons a r, s => .cons a (r.append s)
theorem Shs.one {d : Dt} {t : Tr} (s : Sh P h d t) : Shs P h [d] [t] := .cons s .nil
theorem Shs.of_map {α : Type} {f : α → Dt} {g : α → Tr} : ∀ {xs : List α}, (∀ x ∈ xs, Sh P h (f x) (g x)) → Shs P h (xs.map f) (xs.map g)
  | [], _ => .nil
  | x :: xs, k => .cons (k x (by simp)) (Shs.of_map fun y hy => k y (by simp [hy]))
theorem Shs.ints (ns : List Int) : Shs P h (ns.map .int) (ns.map .int) := Shs.of_map fun x _ => .int x
theorem Sh.list {d : Dt} {ts : List Tr} (s : Sh P h d (.lst ts)) : ∃ n ds, d = .loc n ∧ P n ∧ h[n]? = some (.lst ds) ∧ Shs P h ds ts := by
  cases s with
  | lst a b c => exact ⟨_, _, rfl, a, b, c⟩
/-- ints, told from what they are -/
theorem Shs.ints_eq : ∀ {ds : List Dt} {ns : List Int}, Shs P h ds (ns.map .int) → ds = ns.map .int
  | [], [], _ => rfl
  | [], _ :: _, s => by cases s
  | _ :: _, [], s => by cases s
  | _ :: _, n :: ns, .cons a r => by cases a; rw [Shs.ints_eq r]; rfl
end
/-! ### plain values -/
mutual
def Dt.tr : Dt → Tr
  | .non => .non | .bl b => .bl b | .int i => .int i | .str x => .str x | .tup ds => .tup (trs ds) | .loc _ => .non
def trs : List Dt → List Tr
  | [] => []
  | d :: r => d.tr :: trs r
end
mutual
theorem Sh.plain {P : Nat → Prop} {h : MH} : ∀ {d : Dt}, d.plain = true → Sh P h d d.tr
  | .non, _ => by unfold Dt.tr; exact .non
  | .bl b, _ => by unfold Dt.tr; exact .bl b
  | .int i, _ => by unfold Dt.tr; exact .int i
  | .str x, e => by unfold Dt.tr; exact .str x e
  | .tup ds, e => by unfold Dt.tr; exact .tup (Shs.plain (ds := ds) e)
  | .loc n, e => by simp [Dt.plain] at e
theorem Shs.plain {P : Nat → Prop} {h : MH} : ∀ {ds : List Dt}, plains ds = true → Shs P h ds (trs ds)
  | [], _ => by unfold trs; exact .nil
  | d :: r, e => by
    unfold plains at e
    have e := Bool.and_eq_true_iff.mp e
    unfold trs
    exact .cons (Sh.plain e.1) (Shs.plain e.2)
end
mutual
theorem Sh.eq_tr {P : Nat → Prop} {h : MH} : ∀ {d : Dt} {t : Tr}, Sh P h d t → d.plain = true → t = d.tr
  | _, _, .non, _ => by unfold Dt.tr; rfl
  | _, _, .bl b, _ => by unfold Dt.tr; rfl
  | _, _, .int i, _ => by unfold Dt.tr; rfl
  | _, _, .str x _, _ => by unfold Dt.tr; rfl
  | _, _, .tup (ds := ds) r, e => by unfold Dt.tr; rw [Shs.eq_tr r e]
  | _, _, .lst _ _ _, e => by simp [Dt.plain] at e
theorem Shs.eq_tr {P : Nat → Prop} {h : MH} : ∀ {ds : List Dt} {ts : List Tr}, Shs P h ds ts → plains ds = true → ts = trs ds
  | _, _, .nil, _ => by unfold trs; rfl
  | _, _, .cons a r, e => by
    unfold plains at e
    have e := Bool.and_eq_true_iff.mp e
    unfold trs
    rw [Sh.eq_tr a e.1, Shs.eq_tr r e.2]
end
mutual
def Tr.nodes : Tr → Nat
  | .tup ts => nodesTs ts + 1
  | .lst ts => nodesTs ts + 1
  | _ => 1
def nodesTs : List Tr → Nat
  | [] => 0
  | t :: r => t.nodes + nodesTs r
end
mutual
def Tr.dep : Tr → Nat
  | .tup ts => depTs ts + 1
  | .lst ts => depTs ts + 1
  | _ => 0
def depTs : List Tr → Nat
  | [] => 0
  | t :: r => max t.dep (depTs r)
end
theorem nodesTs_app (a b : List Tr) : nodesTs (a ++ b) = nodesTs a + nodesTs b := by
  induction a with
  | nil => simp [nodesTs]
  | cons x r ih => simp [nodesTs, ih, Nat.add_assoc]
theorem Tr.nodes_pos (t : Tr) : 1 ≤ t.nodes := by cases t <;> simp [Tr.nodes]
theorem nodesTs_len (ts : List Tr) : ts.length ≤ nodesTs ts := by
  induction ts with
  | nil => simp [nodesTs]
  | cons x r ih =>
    have := x.nodes_pos
    simp only [nodesTs, List.length_cons]
    omega
theorem nodesTs_mem {ts : List Tr} {t : Tr} (h : t ∈ ts) : t.nodes ≤ nodesTs ts := by
  induction ts with
  | nil => cases h
  | cons a r ih =>
    simp only [nodesTs]
    rcases List.mem_cons.mp h with rfl | h
    · omega
    · have := ih h; omega
theorem nodesTs_le (ts : List Tr) (c : Nat) (hc : ∀ t ∈ ts, t.nodes ≤ c) : nodesTs ts ≤ ts.length * c := by
  induction ts with
  | nil => simp [nodesTs]
  | cons a r ih =>
    have h1 := ih fun x hx => hc x (by simp [hx])
    have h2 := hc a (by simp)
    simp only [nodesTs, List.length_cons, Nat.add_mul]
    omega
theorem depTs_le {ts : List Tr} {n : Nat} (hc : depTs ts ≤ n) : ∀ t ∈ ts, t.dep ≤ n := by
  induction ts with
  | nil => intro t ht; cases ht
  | cons a r ih =>
    simp only [depTs] at hc
    intro t ht
    rcases List.mem_cons.mp ht with rfl | ht
    · omega
    · exact ih (by omega) t ht
def Tr.kind : Tr → Int
  | .non => 0 | .bl _ => 1 | .int _ => 2 | .str _ => 3 | .tup _ => 4 | .lst _ => 5
def Tr.blw (e : Int) : Tr → Bool
  | .int i => decide (0 ≤ i) && decide (i < e)
  | _ => false
def Tr.whole : Tr → Bool
  | .int _ => true
  | _ => false
section
variable {h : MH}
theorem isi_lst {n : Nat} {xs : List Dt} {T : String} {b : Bool} (e : h[n]? = some (.lst xs)) (hk : kitB "list" T = some b) : bIsi T [.loc n] h = .ok (.bl b) h := by
  simp [bIsi, tyN, e, hk]
theorem isi_lb {n : Nat} {xs : List Dt} (e : h[n]? = some (.lst xs)) : bIsi "bool" [.loc n] h = .ok (.bl false) h := isi_lst e (by rfl)
theorem isi_li {n : Nat} {xs : List Dt} (e : h[n]? = some (.lst xs)) : bIsi "int" [.loc n] h = .ok (.bl false) h := isi_lst e (by rfl)
theorem isi_ls {n : Nat} {xs : List Dt} (e : h[n]? = some (.lst xs)) : bIsi "str" [.loc n] h = .ok (.bl false) h := isi_lst e (by rfl)
theorem isi_lt {n : Nat} {xs : List Dt} (e : h[n]? = some (.lst xs)) : bIsi "tuple" [.loc n] h = .ok (.bl false) h := isi_lst e (by rfl)
theorem isi_ll {n : Nat} {xs : List Dt} (e : h[n]? = some (.lst xs)) : bIsi "list" [.loc n] h = .ok (.bl true) h := isi_lst e (by rfl)
@[simp] theorem isi_non_bool : bIsi "bool" [.non] h = .ok (.bl false) h := (rfl)
@[simp] theorem isi_non_int : bIsi "int" [.non] h = .ok (.bl false) h := (rfl)
@[simp] theorem isi_non_str : bIsi "str" [.non] h = .ok (.bl false) h := (rfl)
@[simp] theorem isi_non_list : bIsi "list" [.non] h = .ok (.bl false) h := (rfl)
@[simp] theorem isi_non_tuple : bIsi "tuple" [.non] h = .ok (.bl false) h := (rfl)
@[simp] theorem isi_bl_int {b : Bool} : bIsi "int" [.bl b] h = .ok (.bl true) h := (rfl)
@[simp] theorem isi_bl_list {b : Bool} : bIsi "list" [.bl b] h = .ok (.bl false) h := (rfl)
@[simp] theorem isi_bl_tuple {b : Bool} : bIsi "tuple" [.bl b] h = .ok (.bl false) h := (rfl)
@[simp] theorem isi_bl_str {b : Bool} : bIsi "str" [.bl b] h = .ok (.bl false) h := (rfl)
@[simp] theorem isi_int_str {i : Int} : bIsi "str" [.int i] h = .ok (.bl false) h := (rfl)
@[simp] theorem isi_tup_list {i : List Dt} : bIsi "list" [.tup i] h = .ok (.bl false) h := (rfl)
@[simp] theorem is_non_loc {n : Bool} {i : Nat} : oIs n (.loc i) .non h = .ok (.bl n) h := (rfl)
end
section
variable {G : Orc} {O : Out} {ks : List SS} {ρ : Env} {h : MH}
/-- [e for p in i]: values, with their lists -/
theorem lc_sh {α : Type} {f : α → Dt} {i : SI} {p : TP} {e : SE} {vs : List Nat} {h1 : MH} {I : Wk} {xs : List α} {Q : Dt → MH → Prop} {X : Str → Fs → MH → Prop} (P : Nat → Prop) (hi : i G ρ h = .ok I h1) (its : HI I (fun h' => h1 <+: h') (xs.map f)) (g : α → Tr) (hz : xs.length ≤ sizeLine)
    (hx : ∀ x ∈ xs, ∃ ρ', assignP p (f x) (wipeE ρ vs) = some ρ' ∧ ∀ h', h1 <+: h' → h1.length < h'.length → WE (e G ρ' h') (fun d h3 => h' <+: h3 ∧ Sh (fun i => P i ∧ i ≠ h1.length) h3 d (g x)) noX)
    (q : ∀ h' ds, h1 <+: h' → h'[h1.length]? = some (.lst ds) → Shs P h' ds (xs.map g) → Q (.loc h1.length) h') : WE (eLc i p EP.tYes e vs G ρ h) Q X := by
  rw [eLc_s, hi, bnd_ok]
  have htot : I.tot = xs.length := by rw [its.tot, List.length_map]
  have L := lc_inv (I := I) (p := p) (t := EP.tYes) (e := e) (G := G) (ρ := wipeE ρ vs) (D := h1.length)
    (fun i acc h => h1 <+: h ∧ Shs (fun i => P i ∧ i ≠ h1.length) h acc ((xs.take i).map g)) ?_ (fun acc h q => its.fin h q.1) I.tot 0 [] (h1 ++ [.lst []]) (Nat.zero_add _) (by simp) ⟨pre_app _ _, by simpa using .nil⟩
  · obtain ⟨acc', h', r1, r2, r3, r4⟩ := L
    rw [r1, we_ok]
    rw [htot, List.take_length] at r4
    exact q h' acc' r3 r2 (r4.low fun i k => k.1)
  · rintro i acc h ilt ⟨pr, sh⟩ hD
    have hl : i < xs.length := by rw [← htot]; exact ilt
    obtain ⟨ρ', e1, e2⟩ := hx xs[i] (List.getElem_mem hl)
    refine ⟨f xs[i], ρ', by rw [its.get h pr i (by simpa using hl), List.getElem?_map, List.getElem?_eq_getElem hl]; rfl, e1, true, h, rfl, fun _ => ?_, fun hb => nomatch hb⟩
    obtain ⟨d, h3, q1, q2, q3⟩ := (e2 h pr (lt_of_get hD)).run
    have hD3 := pre_get q2 hD
    have hal : acc.length = i := by rw [sh.length]; simp; omega
    have hs : Ge (fun i => P i ∧ i ≠ h1.length) h3 (h3.set h1.length (.lst (acc ++ [d]))) := fun j o k e => by
      rw [List.getElem?_set_ne (Ne.symm k.2)]; exact e
    refine ⟨d, h3, q1, hD3, by omega, pre_set (pr.trans q2) (Nat.le_refl _), ?_⟩
    rw [List.take_succ, List.getElem?_eq_getElem hl, Option.toList_some, List.map_append]
    exact ((sh.pre q2).mono hs).append (.one (q3.mono hs))
end
end EP
end
section
set_option maxRecDepth 20000
/-! Tree2: walks by index; rows of intsT. -/
namespace EP
open PySem L2
theorem range_getD (ds : List Dt) : (List.range ds.length).map (fun x => ds.getD x .non) = ds := by
  apply List.ext_getElem
  · simp
  · intro i h1 h2; simp at h1 ⊢; simp [h1]
theorem hi_ix {I : Wk} {H : MH → Prop} {ds : List Dt} (t : HI I H ds) : HI I H ((List.range ds.length).map fun x : Nat => ds.getD x .non) := by rw [range_getD]; exact t
theorem hi_en {I : Wk} {H : MH → Prop} {ds : List Dt} (t : HI I H ds) : HI (itE I) H ((List.range ds.length).map fun x : Nat => Dt.tup [.int (x : Nat), ds.getD x .non]) :=
  ⟨by simp [itE, t.tot], fun h hh i hi => by
    have hi' : i < ds.length := by simpa using hi
    simp [itE, t.get h hh i hi', hi'], fun h hh => t.fin h hh⟩
theorem range_at {n i x : Nat} (e : (List.range n)[i]? = some x) : i < n ∧ x = i := by
  obtain ⟨a, b⟩ := List.getElem?_eq_some_iff.mp e
  simp at a b
  exact ⟨a, b.symm⟩
section
variable {P : Nat → Prop} {h : MH}
/-- the i-th thing of a list -/
theorem Shs.at_ {ds : List Dt} {ts : List Tr} (s : Shs P h ds ts) {i : Nat} (hi : i < ts.length) : Sh P h (ds.getD i .non) ts[i] := by
  obtain ⟨d, e, r⟩ := s.get (List.getElem?_eq_getElem hi)
  rw [List.getD_eq_getElem?_getD, e]; exact r
theorem Shs.ix {ds : List Dt} {ts : List Tr} (s : Shs P h ds ts) {i : Nat} (hi : i < ts.length) : ds[i]? = some (ds.getD i .non) := by
  have : i < ds.length := by rw [s.length]; exact hi
  simp [this]
def intsT : List Tr → List Int
  | [] => []
  | .int i :: r => i :: intsT r
  | _ :: r => intsT r
theorem intsT_map (ns : List Int) : intsT (ns.map .int) = ns := by
  induction ns with
  | nil => rfl
  | cons n ns ih => simp [intsT, ih]
theorem intsT_of {e : Int} : ∀ {ts : List Tr}, (∀ t ∈ ts, t.blw e = true) → ts = (intsT ts).map .int ∧ (intsT ts).length = ts.length ∧ ∀ i ∈ intsT ts, 0 ≤ i ∧ i < e
  | [], _ => ⟨rfl, rfl, fun i hi => nomatch hi⟩
  | t :: r, k => by
    have h1 := k t (by simp)
    obtain ⟨a, b, c⟩ := intsT_of (ts := r) fun x hx => k x (by simp [hx])
    cases t <;> simp [Tr.blw] at h1
    simp only [intsT, List.map_cons, List.length_cons]
    refine ⟨by rw [← a], by rw [b], fun i hi => ?_⟩
    rcases List.mem_cons.mp hi with rfl | hi
    · exact h1
    · exact c i hi
theorem toKeyL_int (ns : List Int) : toKeyL (ns.map .int) = some (ns.map Sum.inl) := by
  induction ns with
  | nil => rfl
  | cons n ns ih => simp [toKeyL, toKey, ih]
theorem in_dTi {ns : List Int} {n : Nat} {ng : Bool} {kvs : List (List Key × Dt)} (e : h[n]? = some (.dT kvs)) : oIn ng (.tup (ns.map .int)) (.loc n) h = .ok (.bl (if ng then !(kvs.any fun kv => decide (kv.1 = ns.map Sum.inl)) else kvs.any fun kv => decide (kv.1 = ns.map Sum.inl))) h := by
  simp [oIn, e, toKeys, toKeyL_int]
theorem set_dTi {ns : List Int} {n : Nat} {v : Dt} {kvs : List (List Key × Dt)} (e : h[n]? = some (.dT kvs)) (l : kvs.length < sizeLine) : ∃ h', oSet (.loc n) (.tup (ns.map .int)) v h = some h' ∧ Up n h h' (.dT (setK kvs (ns.map Sum.inl) v)) :=
  ⟨_, by simp [oSet, e, toKeys, toKeyL_int, l], Up.of e⟩
theorem setK_new {κ : Type} [DecidableEq κ] {kvs : List (κ × Dt)} {k : κ} {v : Dt} (h : (kvs.any fun kv => decide (kv.1 = k)) = false) : setK kvs k v = kvs ++ [(k, v)] := by
  unfold setK; rw [h]; rfl
def seenT (rs : List (List Int)) : List (List Key × Dt) := rs.map fun r => (r.map Sum.inl, .bl true)
theorem seenT_any {rs : List (List Int)} {r : List Int} : ((seenT rs).any fun kv => decide (kv.1 = r.map Sum.inl)) = decide (r ∈ rs) := by
  unfold seenT
  rw [List.any_map, Bool.eq_iff_iff, List.any_eq_true, decide_eq_true_eq]
  constructor
  · rintro ⟨q, hq, e⟩
    simp only [Function.comp, decide_eq_true_eq] at e
    have : q = r := (List.map_inj_right (fun x y z => by injection z)).mp e
    exact this ▸ hq
  · intro hm
    exact ⟨r, hm, by simp⟩
end
section
variable {G : Orc} {O : Out} {ks : List SS} {ρ : Env} {h : MH}
theorem run_sIf {t : ST} {a b : SS} (c : Bool) {h1 : MH} (e : t G ρ h = .ok c h1) (ya : c = true → Run G O ks (a G ρ h1)) (yb : c = false → Run G O ks (b G ρ h1)) : Run G O ks (sIf t a b G ρ h) := by
  rw [sIf_s, e, bndS_ok]
  cases c with
  | true => exact ya rfl
  | false => exact yb rfl
end
/-! ### what is wrong of spellings -/
inductive Wr where
  | noSp | many | badSp (i : Nat) | badNum (i : Nat)
def lenOk (R : List (List Tr)) (r : List Tr) : Bool := decide (1 ≤ r.length) && decide (r.length ≤ 8) && decide (r.length = (R.getD 0 []).length)
def rowV (base : Int) (R : List (List Tr)) (i : Nat) : Option Wr :=
  if lenOk R (R.getD i []) = false then some (.badSp i) else match (R.getD i []).findIdx? (fun t => !t.blw base) with
  | some j => some (.badNum j)
  | none => if intsT (R.getD i []) ∈ (R.take i).map intsT then some (.badSp i) else none
def fw (base : Int) (R : List (List Tr)) : Option Wr := if R = [] then some .noSp else if 64 < R.length then some .many else (List.range R.length).findSome? (rowV base R)
theorem findSome_at {α : Type} {f : Nat → Option α} {n i : Nat} {w : α} (hi : i < n) (h : ∀ j, j < i → f j = none) (e : f i = some w) : (List.range n).findSome? f = some w := by
  induction n with
  | zero => omega
  | succ n ih =>
    rw [List.range_succ, List.findSome?_append]
    by_cases hn : i < n
    · rw [ih hn]; rfl
    · have : i = n := by omega
      subst this
      have : (List.range i).findSome? f = none := by
        rw [List.findSome?_eq_none_iff]
        intro x hx; exact h x (by simpa using hx)
      rw [this]
      simp [e]
theorem findSome_none {α : Type} {f : Nat → Option α} {n : Nat} (h : ∀ j, j < n → f j = none) : (List.range n).findSome? f = none := by
  rw [List.findSome?_eq_none_iff]
  intro x hx; exact h x (by simpa using hx)
end EP
namespace EP
open PySem L2
/-! ### lists and tuples alike -/
inductive SeqSh (P : Nat → Prop) (h : MH) : Dt → List Tr → Prop
  | l {d : Dt} {ts : List Tr} : Sh P h d (.lst ts) → SeqSh P h d ts
  | t {d : Dt} {ts : List Tr} : Sh P h d (.tup ts) → SeqSh P h d ts
theorem SeqSh.walk {P : Nat → Prop} {h : MH} {d : Dt} {ts : List Tr} (s : SeqSh P h d ts) : ∃ ds I, Shs P h ds ts ∧ (∀ h', h <+: h' → itOf d h' = .ok I h') ∧ HI I (fun h' => h <+: h') ds := by
  cases s with
  | l s =>
    obtain ⟨a, ds, rfl, pa, e0, sr⟩ := s.list
    exact ⟨ds, _, sr, fun h' p => itOf_lst (pre_get p e0), hi_lst fun h' p => pre_get p e0⟩
  | t s =>
    cases s with
    | tup r => exact ⟨_, _, r, fun h' p => rfl, hi_tup⟩
/-! ### what is wrong of places; a limit -/
def Tr.val : Tr → Int
  | .int i => i
  | _ => 0
inductive Pr where
  | noPl (t : Tr) | twice (i : Int)
def plV (lanes : Int) (T : List Tr) (i : Nat) : Option Pr :=
  if (T.getD i .non).blw lanes = false then some (.noPl (T.getD i .non)) else if (T.getD i .non).val ∈ intsT (T.take i) then some (.twice (T.getD i .non).val) else none
def pw (lanes : Int) (T : List Tr) : Option Pr := (List.range T.length).findSome? (plV lanes T)
theorem intsT_app (a b : List Tr) : intsT (a ++ b) = intsT a ++ intsT b := by
  induction a with
  | nil => rfl
  | cons x r ih => cases x <;> simp [intsT, ih]
theorem set_tab {h : MH} {w : Word} {x : Int} {n : Nat} (e : h[n]? = some (.dK (tabK w))) (hx : x ∉ w) (l : w.length < 1000) : ∃ h', oSet (.loc n) (.int x) (.bl true) h = some h' ∧ Up n h h' (.dK (tabK (w ++ [x]))) := by
  have hl : (tabK w).length < sizeLine := by rw [sizeLine_eq]; simp [tabK]; omega
  refine ⟨h.set n (.dK (setK (tabK w) (.inl x) (.bl true))), by simp [oSet, e, toKey, hl], ?_⟩
  have := Up.of (n := n) (o' := .dK (tabK (w ++ [x]))) e
  rw [setK_new (by rw [tab_any]; simpa using hx)]
  have e2 : tabK w ++ [(Sum.inl x, Dt.bl true)] = tabK (w ++ [x]) := by simp [tabK]
  rw [e2]; exact this
inductive Lr where
  | badSize (t : Tr) | noPl (t : Tr) | twice (i : Int) | badAhead (t : Tr) | ok (l : Lim)
def nOk : Tr → Bool
  | .int i => decide (1 ≤ i) && decide (i ≤ 40)
  | _ => false
def cOk : Tr → Bool
  | .int i => decide (1 ≤ i) && decide (i ≤ 8)
  | _ => false
/-- n wires from a on -/
def runW (a n : Int) : Word := (List.range n.toNat).map fun i => a + ((i : Nat) : Int)
def lanesL (n c : Int) (ps : List Int) (b : Int) : Lim := (n * c, ps.map fun p => (runW (n * p) n, b))
def lanesR (n c : Tr) (T : List Tr) (a : Tr) : Lr :=
  if nOk n = false then .badSize n else if cOk c = false then .badSize c else match pw c.val T with
  | some (.noPl t) => .noPl t
  | some (.twice i) => .twice i
  | none => if a.blw 61 = false then .badAhead a else if 40 < n.val * c.val then .badSize (.int (n.val * c.val)) else .ok (lanesL n.val c.val (intsT T) a.val)
theorem rgD_runW {a n : Int} : rgD a (a + n) = (runW a n).map .int := by
  unfold rgD runW
  rw [List.map_map]
  have : a + n - a = n := by omega
  rw [this]; rfl
theorem pw_none {lanes : Int} {T : List Tr} (e : pw lanes T = none) : (∀ t ∈ T, t.blw lanes = true) ∧ (intsT T).Nodup := by
  unfold pw at e
  rw [List.findSome?_eq_none_iff] at e
  have e : ∀ i, i < T.length → plV lanes T i = none := fun i hi => e i (by simpa using hi)
  have h1 : ∀ t ∈ T, t.blw lanes = true := fun t ht => by
    obtain ⟨j, hj, rfl⟩ := List.getElem_of_mem ht
    have := e j hj
    unfold plV at this
    have g : T.getD j .non = T[j] := by simp [hj]
    rw [g] at this
    cases hb : T[j].blw lanes with
    | true => rfl
    | false => rw [hb] at this; simp at this
  refine ⟨h1, ?_⟩
  have key : ∀ i, i ≤ T.length → (intsT (T.take i)).Nodup := by
    intro i
    induction i with
    | zero => intro _; simp [intsT]
    | succ i ih =>
      intro hi
      have := e i (by omega)
      unfold plV at this
      have hi' : i < T.length := by omega
      have g : T.getD i .non = T[i] := by simp [hi']
      rw [g, h1 T[i] (List.getElem_mem hi')] at this
      rw [List.take_succ, List.getElem?_eq_getElem hi', intsT_app]
      have hb := h1 T[i] (List.getElem_mem hi')
      cases ht : T[i] with
      | int v =>
        rw [ht] at this
        have this : v ∉ intsT (T.take i) := fun hm => by
          rw [if_neg (by simp), if_pos (show (Tr.int v).val ∈ _ from hm)] at this
          cases this
        simp only [Option.toList_some, intsT]
        rw [List.nodup_append]
        exact ⟨ih (by omega), by simp, fun a ha b hb => by simp at hb; subst hb; intro e; subst e; exact this ha⟩
      | _ => rw [ht] at hb; simp [Tr.blw] at hb
  have := key T.length (Nat.le_refl _)
  rwa [List.take_length] at this
end EP
end
section
set_option maxRecDepth 20000
/-! Tree3: least over pairs; spellings that are right. -/
namespace EP
open PySem L2
def mnO (a : Option Int) (x : Int) : Option Int := match a with
  | none => some x
  | some y => some (if x < y then x else y)
def minO (L : List Int) : Option Int := L.foldl mnO none
def optD : Option Int → Dt
  | none => .non
  | some x => .int x
theorem minO_snoc (L : List Int) (x : Int) : minO (L ++ [x]) = mnO (minO L) x := by unfold minO; rw [List.foldl_append]; rfl
theorem mn_fold : ∀ (L : List Int) (v : Int), ∃ w, L.foldl mnO (some v) = some w ∧ (w = v ∨ w ∈ L) ∧ w ≤ v ∧ ∀ y ∈ L, w ≤ y
  | [], v => ⟨v, rfl, .inl rfl, Int.le_refl _, fun _ h => nomatch h⟩
  | x :: L, v => by
    obtain ⟨w, e, h1, h2, h3⟩ := mn_fold L (if x < v then x else v)
    refine ⟨w, e, ?_, ?_, fun y hy => ?_⟩
    · rcases h1 with h1 | h1
      · by_cases h : x < v
        · rw [if_pos h] at h1; right; simp [h1]
        · rw [if_neg h] at h1; left; exact h1
      · right; simp [h1]
    · split at h2 <;> omega
    · rcases List.mem_cons.mp hy with rfl | hy
      · split at h2 <;> omega
      · exact h3 y hy
theorem minO_spec (L : List Int) : (L = [] ∧ minO L = none) ∨ ∃ v, minO L = some v ∧ v ∈ L ∧ ∀ y ∈ L, v ≤ y := by
  cases L with
  | nil => exact .inl ⟨rfl, rfl⟩
  | cons x L =>
    right
    obtain ⟨w, e, h1, h2, h3⟩ := mn_fold L x
    refine ⟨w, e, ?_, fun y hy => ?_⟩
    · rcases h1 with rfl | h1
      · simp
      · simp [h1]
    · rcases List.mem_cons.mp hy with rfl | hy
      · exact h2
      · exact h3 y hy
theorem minO_none {L : List Int} : minO L = none ↔ L = [] := by
  rcases minO_spec L with ⟨a, b⟩ | ⟨v, a, b, c⟩
  · subst a; simp [b]
  · rw [a]; constructor
    · intro e; cases e
    · rintro rfl; cases b
theorem minO_some {L : List Int} {v : Int} : minO L = some v ↔ v ∈ L ∧ ∀ y ∈ L, v ≤ y := by
  rcases minO_spec L with ⟨a, b⟩ | ⟨w, a, b, c⟩
  · subst a; rw [b]; simp
  · rw [a]; constructor
    · intro e; cases e; exact ⟨b, c⟩
    · rintro ⟨d, e⟩
      have h1 := c v d
      have h2 := e w b
      congr 1; omega
theorem minO_ext {L M : List Int} (h : ∀ x, x ∈ L ↔ x ∈ M) : minO L = minO M := by
  rcases minO_spec L with ⟨a, b⟩ | ⟨v, a, b, c⟩
  · rw [b]; symm; rw [minO_none]
    rw [List.eq_nil_iff_forall_not_mem]
    intro x hx; rw [← h] at hx; subst a; cases hx
  · rw [a]; symm; rw [minO_some]
    exact ⟨(h v).mp b, fun y hy => c y ((h y).mpr hy)⟩
theorem minO_map (f : Int → Int) (hf : ∀ x y, x ≤ y → f x ≤ f y) (L : List Int) : minO (L.map f) = (minO L).map f := by
  rcases minO_spec L with ⟨rfl, b⟩ | ⟨v, a, b, c⟩
  · rfl
  · rw [a]
    show _ = some (f v)
    rw [minO_some]
    refine ⟨List.mem_map_of_mem b, fun y hy => ?_⟩
    obtain ⟨z, hz, rfl⟩ := List.mem_map.mp hy
    exact hf _ _ (c z hz)
theorem minL_spec : ∀ {L : List Int}, L ≠ [] → minO L = some (minL L)
  | [], h => absurd rfl h
  | a :: l, _ => by
    rw [minO_some]
    have key : ∀ (a : Int) (l : List Int), minL (a :: l) ∈ a :: l ∧ ∀ y ∈ a :: l, minL (a :: l) ≤ y := by
      intro a l
      induction l generalizing a with
      | nil => simp [minL]
      | cons b l ih =>
        obtain ⟨h1, h2⟩ := ih b
        have e : minL (a :: b :: l) = min a (minL (b :: l)) := rfl
        rw [e]
        refine ⟨?_, fun y hy => ?_⟩
        · by_cases h : a ≤ minL (b :: l)
          · rw [Int.min_eq_left h]; exact List.mem_cons_self
          · rw [Int.min_eq_right (by omega)]; exact List.mem_cons_of_mem _ h1
        · rcases List.mem_cons.mp hy with rfl | hy
          · exact Int.min_le_left _ _
          · exact Int.le_trans (Int.min_le_right _ _) (h2 y hy)
    exact key a l
/-! ### pairs of places -/
def rowL (F : Nat → Nat → Int) (i j : Nat) : List Int := ((List.range j).filter fun b => !decide (i = b)).map (F i)
def allL (F : Nat → Nat → Int) (m i : Nat) : List Int := (List.range i).flatMap fun a => rowL F a m
theorem rowL_succ (F : Nat → Nat → Int) (i j : Nat) : rowL F i (j + 1) = rowL F i j ++ if i = j then [] else [F i j] := by
  unfold rowL
  rw [List.range_succ, List.filter_append, List.map_append]
  by_cases h : i = j <;> simp [h]
theorem allL_succ (F : Nat → Nat → Int) (m i : Nat) : allL F m (i + 1) = allL F m i ++ rowL F i m := by
  unfold allL
  rw [List.range_succ, List.flatMap_append]
  simp
theorem mem_allL {F : Nat → Nat → Int} {m : Nat} {x : Int} : x ∈ allL F m m ↔ ∃ i j, i < m ∧ j < m ∧ i ≠ j ∧ x = F i j := by
  unfold allL rowL
  simp only [List.mem_flatMap, List.mem_range, List.mem_map, List.mem_filter, Bool.not_eq_true', decide_eq_false_iff_not]
  constructor
  · rintro ⟨i, hi, j, ⟨hj, hne⟩, rfl⟩; exact ⟨i, j, hi, hj, hne, rfl⟩
  · rintro ⟨i, j, hi, hj, hne, rfl⟩; exact ⟨i, hi, j, ⟨hj, hne⟩, rfl⟩
theorem len_rowL (F : Nat → Nat → Int) (i j : Nat) : (rowL F i j).length ≤ j := by
  unfold rowL
  rw [List.length_map]
  exact Nat.le_trans (List.length_filter_le _ _) (by simp)
theorem len_allL (F : Nat → Nat → Int) (m i : Nat) : (allL F m i).length ≤ i * m := by
  induction i with
  | zero => simp [allL]
  | succ i ih =>
    rw [allL_succ, List.length_append, Nat.succ_mul]
    have := len_rowL F i m
    omega
/-! ### right spellings -/
abbrev rT (r : List Int) : Tr := .lst (r.map .int)
structure SpOk (base : Int) (S : List (List Int)) : Prop where
  ne : S ≠ []
  len : S.length ≤ 64
  one : ∀ r ∈ S, 1 ≤ r.length ∧ r.length ≤ 8 ∧ r.length = (S.getD 0 []).length ∧ ∀ i ∈ r, 0 ≤ i ∧ i < base
  nd : S.Nodup
theorem fw_none {base : Int} {R : List (List Tr)} (e : fw base R = none) : ∃ S, SpOk base S ∧ R = S.map (fun r => r.map .int) := by
  unfold fw at e
  by_cases h0 : R = []
  · rw [if_pos h0] at e; cases e
  rw [if_neg h0] at e
  by_cases h1 : 64 < R.length
  · rw [if_pos h1] at e; cases e
  rw [if_neg h1, List.findSome?_eq_none_iff] at e
  have e : ∀ i, (hi : i < R.length) → lenOk R R[i] = true ∧ (∀ t ∈ R[i], t.blw base = true) ∧ ¬ intsT R[i] ∈ (R.take i).map intsT := fun i hi => by
    have := e i (by simpa using hi)
    unfold rowV at this
    have g : R.getD i [] = R[i] := by simp [hi]
    rw [g] at this
    cases hl : lenOk R R[i] with
    | false => rw [hl] at this; simp at this
    | true =>
      rw [hl, if_neg (by simp)] at this
      cases hf : R[i].findIdx? (fun t => !t.blw base) with
      | some j => rw [hf] at this; cases this
      | none =>
        rw [hf] at this
        refine ⟨rfl, fun t ht => ?_, fun hm => ?_⟩
        · have := List.findIdx?_eq_none_iff.mp hf t ht
          simpa using this
        · simp only at this
          rw [if_pos hm] at this; cases this
  have hi : ∀ r ∈ R, r = (intsT r).map .int ∧ (intsT r).length = r.length ∧ (∀ i ∈ intsT r, 0 ≤ i ∧ i < base) ∧ lenOk R r = true := fun r hr => by
    obtain ⟨j, hj, rfl⟩ := List.getElem_of_mem hr
    obtain ⟨a, b, c⟩ := e j hj
    obtain ⟨x, y, z⟩ := intsT_of b
    exact ⟨x, y, z, a⟩
  refine ⟨R.map intsT, ⟨by simpa using h0, by simp; omega, fun r hr => ?_, ?_⟩, ?_⟩
  · obtain ⟨q, hq, rfl⟩ := List.mem_map.mp hr
    obtain ⟨a, b, c, d⟩ := hi q hq
    unfold lenOk at d
    simp only [Bool.and_eq_true, decide_eq_true_eq] at d
    refine ⟨by omega, by omega, ?_, c⟩
    have hR0 : 0 < R.length := List.length_pos_iff.mpr h0
    have g0 : R.getD 0 [] = R[0] := by simp [List.getD_eq_getElem?_getD, hR0]
    have g1 : (R.map intsT).getD 0 [] = intsT R[0] := by simp [List.getD_eq_getElem?_getD, hR0]
    rw [g1, (hi R[0] (List.getElem_mem hR0)).2.1, b, d.2, g0]
  · rw [List.nodup_iff_pairwise_ne, List.pairwise_iff_getElem]
    intro i j h1 h2 hij heq
    simp at h1 h2 heq
    refine (e j h2).2.2 ?_
    rw [← heq]
    refine List.mem_map_of_mem ?_
    rw [List.mem_take_iff_getElem]
    exact ⟨i, by omega, rfl⟩
  · rw [List.map_map]
    conv => lhs; rw [← List.map_id R]
    refine List.map_congr_left fun r hr => (hi r hr).1
end EP
end
section
set_option maxRecDepth 20000
namespace K77
open PySem L2 EP
variable {k : Nat} {h : MH} {P : Nat → Prop} {Q : Dt → MH → Prop} {X : Str → Fs → MH → Prop}
theorem same_sh : ∀ (n : Nat) {k : Nat} {h : MH} {d : Dt} {t : Tr} {Q : Dt → MH → Prop} {X : Str → Fs → MH → Prop}, t.dep ≤ n → Sh P h d t → t.nodes ≤ 100000 → (∀ d' h', h <+: h' → Sh (fun i => h.length ≤ i) h' d' t → Q d' h') → WE (callK D (k + n + 1) i_same_parts [d] h) Q X := by
  intro n
  induction n with
  | zero =>
    intro k h d t Q X hd s hn q
    refine call_wp (md := D_same_parts) rfl rfl fun O oN oQ oX => ?_
    cases s with
    | non => simp [m_same_parts]; exact oQ _ _ (q _ _ (pre_refl _) .non)
    | bl b => simp [m_same_parts]; exact oQ _ _ (q _ _ (pre_refl _) (.bl b))
    | int b => simp [m_same_parts]; exact oQ _ _ (q _ _ (pre_refl _) (.int b))
    | str b e => simp [m_same_parts]; exact oQ _ _ (q _ _ (pre_refl _) (.str b e))
    | tup r => simp [Tr.dep] at hd
    | lst a b r => simp [Tr.dep] at hd
  | succ n ih =>
    intro k h d t Q X hd s hn q
    refine call_wp (md := D_same_parts) rfl rfl fun O oN oQ oX => ?_
    have szl := sizeLine_eq
    cases s with
    | non => simp [m_same_parts]; exact oQ _ _ (q _ _ (pre_refl _) .non)
    | bl b => simp [m_same_parts]; exact oQ _ _ (q _ _ (pre_refl _) (.bl b))
    | int b => simp [m_same_parts]; exact oQ _ _ (q _ _ (pre_refl _) (.int b))
    | str b e => simp [m_same_parts]; exact oQ _ _ (q _ _ (pre_refl _) (.str b e))
    | @tup ds ts r =>
      simp [Tr.dep] at hd
      simp [Tr.nodes] at hn
      have hl := r.length
      have hz := nodesTs_len ts
      simp [m_same_parts]
      refine lc_sh (f := fun x : Nat => ds.getD x .non) (g := fun x => ts.getD x .non) (xs := List.range ds.length) (h1 := h) (fun i => h.length ≤ i) rfl ?_ (by rw [List.length_range]; omega) ?_ ?_
      · have e : (List.range ds.length).map (fun x => ds.getD x .non) = ds := by
          apply List.ext_getElem
          · simp
          · intro i h1 h2; simp at h1 ⊢; simp [h1]
        rw [e]; exact hi_tup
      · intro x hx
        have hx : x < ds.length := by simpa using hx
        refine ⟨_, rfl, fun h' pr hlt => ?_⟩
        have hxt : x < ts.length := by omega
        obtain ⟨d', e1, s1⟩ := r.get (List.getElem?_eq_getElem hxt)
        have e2 : ds.getD x .non = d' := by rw [List.getD_eq_getElem?_getD, e1]; rfl
        have e3 : ts.getD x .non = ts[x] := by simp [hxt]
        rw [e2, e3]
        simp
        refine ih (k := k) (depTs_le hd _ (List.getElem_mem hxt)) (s1.pre pr) ?_ fun d2 h2 p2 s2 => ⟨p2, s2.low fun i (hi : h'.length ≤ i) => ⟨by omega, by omega⟩⟩
        have : ts[x].nodes ≤ nodesTs ts := nodesTs_mem (List.getElem_mem hxt)
        omega
      · intro h' ds' p1 e1 s1
        have e : (List.range ds.length).map (fun x => ts.getD x Tr.non) = ts := by
          apply List.ext_getElem
          · simp [hl]
          · intro i h1 h2; simp at h1 ⊢; simp [h2]
        rw [e] at s1
        simp [tuple_lst e1]
        exact oQ _ _ (q _ _ p1 (.tup s1))
    | @lst a ds ts pa e0 r =>
      simp [Tr.dep] at hd
      simp [Tr.nodes] at hn
      have hl := r.length
      have hz := nodesTs_len ts
      have ei : itOf (.loc a) h = .ok (itL a ds.length) h := itOf_lst e0
      simp [m_same_parts, isi_ll e0]
      refine lc_sh (f := fun x : Nat => ds.getD x .non) (g := fun x => ts.getD x .non) (xs := List.range ds.length) (h1 := h) (I := itL a ds.length) (fun i => h.length ≤ i) (by simp [ei]) ?_ (by rw [List.length_range]; omega) ?_ ?_
      · have e : (List.range ds.length).map (fun x => ds.getD x .non) = ds := by
          apply List.ext_getElem
          · simp
          · intro i h1 h2; simp at h1 ⊢; simp [h1]
        rw [e]; exact hi_lst fun h' p => pre_get p e0
      · intro x hx
        have hx : x < ds.length := by simpa using hx
        refine ⟨_, rfl, fun h' pr hlt => ?_⟩
        have hxt : x < ts.length := by omega
        obtain ⟨d', e1, s1⟩ := r.get (List.getElem?_eq_getElem hxt)
        have e2 : ds.getD x .non = d' := by rw [List.getD_eq_getElem?_getD, e1]; rfl
        have e3 : ts.getD x .non = ts[x] := by simp [hxt]
        rw [e2, e3]
        simp
        refine ih (k := k) (depTs_le hd _ (List.getElem_mem hxt)) (s1.pre pr) ?_ fun d2 h2 p2 s2 => ⟨p2, s2.low fun i (hi : h'.length ≤ i) => ⟨by omega, by omega⟩⟩
        have : ts[x].nodes ≤ nodesTs ts := nodesTs_mem (List.getElem_mem hxt)
        omega
      · intro h' ds' p1 e1 s1
        have e : (List.range ds.length).map (fun x => ts.getD x Tr.non) = ts := by
          apply List.ext_getElem
          · simp [hl]
          · intro i h1 h2; simp at h1 ⊢; simp [h2]
        rw [e] at s1
        exact oQ _ _ (q _ _ p1 (.lst (Nat.le_refl _) e1 s1))
/-- a value that a law hands in -/
abbrev Odd (t : Tr) : Prop := t.dep ≤ 2 ∧ t.nodes ≤ 1000
/-- an exception of one field -/
theorem ini1_sh {n : Nat} (e : D[n]? = some ⟨1, 1, sInit 0⟩) {d : Dt} {t : Tr} (o : Odd t) (s : Sh P h d t) : ∃ d' h', callK D (k + 4) n [d] h = .ok (.tup [d']) h' ∧ h <+: h' ∧ Sh (fun i => h.length ≤ i) h' d' t := by
  rw [call_eq (md := ⟨1, 1, sInit 0⟩) e rfl, run_s]
  obtain ⟨d', h', e2, p2, s2⟩ := (same_sh (X := noX) (k := k) 2 o.1 s (by have := o.2; omega) (Q := fun d' h' => h <+: h' ∧ Sh (fun i => h.length ≤ i) h' d' t) fun d' h' a b => ⟨a, b⟩).run
  unfold i_same_parts at e2
  refine ⟨d', h', ?_, p2, s2⟩
  simp [sInit, getSome, initLoop, e2]
theorem is_below {d : Dt} {t : Tr} {e : Int} (s : Sh P h d t) : callK D (k + 1) i_is_below [d, .int e] h = .ok (.bl (t.blw e)) h := by
  rw [call_eq (md := D_is_below) rfl rfl, run_s]
  cases s with
  | lst a b r => simp [m_is_below, sSeq_s, isi_li b, Tr.blw]
  | int i =>
    simp [m_is_below, sSeq_s, Tr.blw]
    by_cases h1 : 0 ≤ i <;> simp [h1]
  | _ => simp [m_is_below, sSeq_s, Tr.blw]
theorem check_ahead {d : Dt} {t : Tr} (s : Sh P h d t) (o : Odd t) (q1 : t.blw 61 = true → Q .non h) (q2 : t.blw 61 = false → ∀ d' h', h <+: h' → Sh (fun i => h.length ≤ i) h' d' t → X "BadAhead" [("value", d')] h') : WE (callK D (k + 5) i_check_ahead [d] h) Q X := by
  refine call_wp (md := D_check_ahead) rfl rfl fun O oN oQ oX => ?_
  simp [m_check_ahead, is_below s]
  cases hb : t.blw 61 with
  | true => simp; exact oN _ _ (q1 hb)
  | false =>
    obtain ⟨d', h', e1, p1, s1⟩ := ini1_sh (k := k) (n := i_BadAhead) rfl o s
    simp [e1]
    exact oX _ _ _ _ (q2 hb d' h' p1 s1)
theorem check_n {d : Dt} {t : Tr} (s : Sh P h d t) (o : Odd t) (q1 : nOk t = true → Q .non h) (q2 : nOk t = false → ∀ d' h', h <+: h' → Sh (fun i => h.length ≤ i) h' d' t → X "BadSize" [("size", d')] h') : WE (callK D (k + 5) i_check_n [d] h) Q X := by
  refine call_wp (md := D_check_n) rfl rfl fun O oN oQ oX => ?_
  simp [m_check_n, is_below s]
  have bad : nOk t = false → Run (callK D (k + 4)) O [] (sRaise "BadSize" i_BadSize ["size"] (aCons (eVar 0) aNil) (callK D (k + 4)) [some d] h) := fun hb => by
    obtain ⟨d', h', e1, p1, s1⟩ := ini1_sh (k := k) (n := i_BadSize) rfl o s
    simp [e1]
    exact oX _ _ _ _ (q2 hb d' h' p1 s1)
  cases hb : t.blw 41 with
  | true =>
    cases s with
    | int i =>
      simp [Tr.blw] at hb
      simp
      refine run_ite (fun h0 => ?_) (fun h0 => ?_)
      · exact bad (by simp [nOk]; omega)
      · simp
        exact oN _ _ (q1 (by simp [nOk]; omega))
    | _ => simp [Tr.blw] at hb
  | false =>
    simp only [Bool.not_false, if_true, we_ok]
    refine bad ?_
    cases t <;> simp_all [nOk, Tr.blw] <;> omega
end K77
end
section
set_option maxRecDepth 20000
namespace K77
open PySem L2 EP
variable {k : Nat} {h : MH} {P : Nat → Prop} {Q : Dt → MH → Prop} {X : Str → Fs → MH → Prop}
theorem BadSpelling (i : Int) : callK D (k + 2) i_BadSpelling [.int i] h = .ok (.tup [.int i]) h := ini1 rfl i
/-- what is raised -/
def wrX : Wr → Str × Fs
  | .noSp => ("NoSpelling", [])
  | .many => ("TooMany", [("most", .int 64), ("what", .str "spellings")])
  | .badSp i => ("BadSpelling", [("place", .int (i : Nat))])
  | .badNum i => ("BadNumber", [("place", .int (i : Nat))])
theorem check_spellings {many : Int} {rows : Dt} {R : List (List Tr)} (s : Sh P h rows (.lst (R.map .lst))) (q1 : fw many R = none → ∀ h', h <+: h' → Q .non h') (q2 : ∀ w, fw many R = some w → ∀ h', h <+: h' → X (wrX w).1 (wrX w).2 h') : WE (callK D (k + 3) i_check_spellings [.int many, rows] h) Q X := by
  refine call_wp (md := D_check_spellings) rfl rfl fun O oN oQ oX => ?_
  obtain ⟨a, ds, rfl, pa, e0, sr⟩ := s.list
  have hl := sr.length
  rw [List.length_map] at hl
  simp [m_check_spellings, len_lst e0]
  refine run_ite (fun h0 => ?_) (fun h0 => ?_)
  · have hR : R = [] := by
      subst h0
      exact List.length_eq_zero_iff.mp hl.symm
    have := q2 .noSp (by unfold fw; rw [if_pos hR]) h (pre_refl _)
    simp [sRaise0]
    exact oX _ _ _ _ this
  have hR : R ≠ [] := by rintro rfl; exact h0 (List.length_eq_zero_iff.mp hl)
  simp [len_lst e0]
  refine run_ite (fun h1 => ?_) (fun h1 => ?_)
  · have := q2 .many (by unfold fw; rw [if_neg hR, if_pos (by omega)]) h (pre_refl _)
    simp
    exact oX _ _ _ _ this
  have hfw : fw many R = (List.range R.length).findSome? (rowV many R) := by unfold fw; rw [if_neg hR, if_neg (by omega)]
  simp
  refine run_sFor ?_
  have e1 : (h ++ [MO.dT []])[a]? = some (.lst ds) := pre_get (pre_app _ _) e0
  simp [itOf_lst e1]
  have hi0 : HI (itL a ds.length) (fun h' => h <+: h') ds := hi_lst fun h' p => pre_get p e0
  refine run_wk (hi_en hi0) (fun i ρ h' => (h <+: h' ∧ ∀ j, j < i → rowV many R j = none) ∧ (∃ x3 x4 x5 x6, ρ = [some (.int many), some (.loc a), some (.loc h.length), x3, x4, x5, x6]) ∧ h'[h.length]? = some (.dT (seenT ((R.take i).map intsT)))) (fun _ _ _ q => q.1.1) ⟨⟨pre_app _ _, fun j hj => absurd hj (Nat.not_lt_zero _)⟩, ⟨none, none, none, none, rfl⟩, by simp [seenT]⟩ ?_ ?_
  · rintro i x ρ h1 hx ⟨⟨pr, hv⟩, ⟨x3, x4, x5, x6, rfl⟩, eS⟩
    obtain ⟨hi, rfl⟩ := range_at hx
    refine ⟨_, rfl, fun O2 t2 => ?_⟩
    have hiR : x < R.length := by omega
    have sx := (sr.at_ (i := x) (by simpa using hiR))
    have s0 := (sr.at_ (i := 0) (by simp; omega))
    simp only [List.getElem_map] at sx s0
    obtain ⟨b, es, eb, pb, eb0, sb⟩ := sx.list
    obtain ⟨c, cs, ec, pc, ec0, sc⟩ := s0.list
    have gx : R.getD x [] = R[x] := by simp [hiR]
    have g0 : R.getD 0 [] = R[0] := by simp [List.getD_eq_getElem?_getD, show 0 < R.length by omega]
    rw [eb]
    have eb1 := pre_get pr eb0
    have ec1 := pre_get pr ec0
    have ea1 := pre_get pr e0
    have gz : oGet (.loc a) (.int 0) h1 = .ok (.loc c) h1 := get_lst ea1 (by omega) (by rw [← ec]; exact sr.ix (i := 0) (by simp; omega))
    have lb := sb.length
    have lc := sc.length
    have hlk : lenOk R (R.getD x []) = ((decide (1 ≤ es.length) && decide (es.length ≤ 8)) && decide (es.length = cs.length)) := by
      unfold lenOk; rw [gx, g0, lb, lc]
    have bad : ∀ ks, lenOk R (R.getD x []) = false → Run (callK D (k + 2)) O2 ks (sRaise "BadSpelling" i_BadSpelling ["place"] (aCons (eVar 3) aNil) (callK D (k + 2)) [some (.int many), some (.loc a), some (.loc h.length), some (.int (x : Nat)), some (.loc b), x5, x6] h1) := fun ks hb => by
      have := q2 (.badSp x) (by rw [hfw]; exact findSome_at hiR hv (by unfold rowV; rw [if_pos hb])) h1 pr
      simp [BadSpelling]
      exact t2.X _ _ _ _ (oX _ _ _ _ this)
    rw [run_seq]
    refine run_sIf (!lenOk R (R.getD x [])) (h1 := h1) ?_ (fun hc => bad _ (by simpa using hc)) (fun hc => ?_)
    · rw [hlk]
      simp [len_lst eb1, len_lst ec1, gz, if_ok]
      by_cases hb : (es.length : Int) < 1 ∨ 8 < (es.length : Int)
      · rw [if_pos hb]
        congr 1
        symm
        simp only [Bool.or_eq_true, Bool.not_eq_true', decide_eq_false_iff_not]
        omega
      · rw [if_neg hb]
        congr 1
        rw [Bool.eq_iff_iff]
        simp only [Bool.or_eq_true, Bool.not_eq_true', decide_eq_false_iff_not]
        omega
    have hlen : lenOk R (R.getD x []) = true := by simpa using hc
    clear bad hc
    rw [hlk] at hlen
    simp only [Bool.and_eq_true, decide_eq_true_eq] at hlen
    obtain ⟨⟨l1, l2⟩, l3⟩ := hlen
    have hlk1 : lenOk R (R.getD x []) = true := by rw [hlk]; simp [l3]; omega
    have hr1 : ∀ y, R[x].findIdx? (fun t => !t.blw many) = some y → rowV many R x = some (.badNum y) := fun y e => by
      unfold rowV; rw [hlk1, gx, e]; rfl
    have hr2 : R[x].findIdx? (fun t => !t.blw many) = none → rowV many R x = if intsT R[x] ∈ (R.take x).map intsT then some (.badSp x) else none := fun e => by
      unfold rowV; rw [hlk1, gx, e]; rfl
    simp
    refine run_sFor ?_
    simp [itOf_lst eb1]
    have hi1 : HI (itL b es.length) (fun h' => h' = h1) es := hi_lst fun h' p => by rw [p]; exact eb1
    refine run_wk (hi_en hi1) (fun i ρ h' => (h' = h1 ∧ ∀ (j : Nat) (hj : j < R[x].length), j < i → R[x][j].blw many = true) ∧ (∃ x5 x6, ρ = [some (.int many), some (.loc a), some (.loc h.length), some (.int (x : Nat)), some (.loc b), x5, x6])) (fun _ _ _ q => q.1.1) ⟨⟨rfl, fun j _ hj => absurd hj (Nat.not_lt_zero _)⟩, ⟨x5, x6, rfl⟩⟩ ?_ ?_
    · rintro i y ρ h' hy ⟨⟨rfl, hb⟩, ⟨x5, x6, rfl⟩⟩
      obtain ⟨hyl, rfl⟩ := range_at hy
      have hyR : y < R[x].length := by omega
      refine ⟨_, rfl, fun O3 t3 => ?_⟩
      have sy := (sb.at_ hyR).pre pr
      generalize es.getD y Dt.non = dy at sy
      simp [-sIf_s]
      refine run_sIf (!R[x][y].blw many) (h1 := h') (by simp [is_below sy]) (fun hc => ?_) (fun hc => ?_)
      · have hbn : R[x][y].blw many = false := by simpa using hc
        have hf : R[x].findIdx? (fun t => !t.blw many) = some y := by
          rw [List.findIdx?_eq_some_iff_getElem]
          exact ⟨hyR, by simp [hbn], fun j hj => by simp [hb j (by omega) hj]⟩
        have := q2 (.badNum y) (by rw [hfw]; exact findSome_at hiR hv (hr1 _ hf)) h' pr
        simp
        exact t3.X _ _ _ _ (t2.X _ _ _ _ (oX _ _ _ _ this))
      · simp
        refine t3.N _ _ ⟨⟨rfl, fun j hj hji => ?_⟩, ⟨_, _, rfl⟩⟩
        by_cases hjy : j = y
        · subst hjy; simpa using hc
        · exact hb j hj (by omega)
    · rintro ρ h' ⟨⟨rfl, hb⟩, ⟨x5, x6, rfl⟩⟩
      rw [List.length_range, lb] at hb
      have hall : ∀ t ∈ R[x], t.blw many = true := fun t ht => by
        obtain ⟨j, hj, rfl⟩ := List.getElem_of_mem ht
        exact hb j hj hj
      have hf : R[x].findIdx? (fun t => !t.blw many) = none := by
        rw [List.findIdx?_eq_none_iff]
        intro t ht; simp [hall t ht]
      have hrv := hr2 hf
      obtain ⟨i1, i2, i3⟩ := intsT_of hall
      rw [i1] at sb
      have ee := Shs.ints_eq sb
      have tt : bTuple [.loc b] h' = .ok (.tup ((intsT R[x]).map .int)) h' := by rw [tuple_lst eb1, ee]
      simp only [run_nx, run_seq]
      refine run_sIf (decide (intsT R[x] ∈ (R.take x).map intsT)) (h1 := h') (by simp [tt, in_dTi eS, seenT_any]) (fun hc => ?_) (fun hc => ?_)
      · have hm : intsT R[x] ∈ (R.take x).map intsT := by simpa using hc
        have := q2 (.badSp x) (by rw [hfw]; exact findSome_at hiR hv (by rw [hrv]; exact if_pos hm)) h' pr
        simp [BadSpelling]
        exact t2.X _ _ _ _ (oX _ _ _ _ this)
      · have hm : ¬ intsT R[x] ∈ (R.take x).map intsT := by simpa using hc
        obtain ⟨h2, f2, u2⟩ := set_dTi (ns := intsT R[x]) (v := .bl true) eS (by rw [sizeLine_eq]; simp [seenT]; omega)
        simp [tt, f2]
        refine t2.N _ _ ⟨⟨u2.pre pr (Nat.le_refl _), fun j hj => ?_⟩, ⟨_, _, _, _, rfl⟩, ?_⟩
        · by_cases hjx : j = x
          · subst hjx; rw [hrv]; exact if_neg hm
          · exact hv j (by omega)
        · rw [u2.at_, setK_new (by rw [seenT_any]; simpa using hm)]
          rw [List.take_succ, List.getElem?_eq_getElem hiR]
          simp only [seenT, List.map_append, Option.toList_some, List.map_cons, List.map_nil]
  · rintro ρ h1 ⟨⟨pr, hv⟩, _, _⟩
    rw [List.length_range, hl] at hv
    simp
    exact oN _ _ (q1 (by rw [hfw]; exact findSome_none hv) h1 pr)
end K77
end
section
set_option maxRecDepth 20000
namespace K77
open PySem L2 EP
variable {k : Nat} {h : MH} {P : Nat → Prop} {Q : Dt → MH → Prop} {X : Str → Fs → MH → Prop}
theorem Twice (i : Int) : callK D (k + 2) i_Twice [.int i] h = .ok (.tup [.int i]) h := ini1 rfl i
theorem check_places {lanes : Int} {d : Dt} {T : List Tr} (s : SeqSh P h d T) (hl : T.length ≤ 500) (ho : ∀ t ∈ T, Odd t) (q1 : pw lanes T = none → ∀ h', h <+: h' → Q .non h') (q2 : ∀ t, pw lanes T = some (.noPl t) → ∀ d' h', h <+: h' → Sh (fun i => h.length ≤ i) h' d' t → X "NoPlace" [("place", d')] h') (q3 : ∀ i, pw lanes T = some (.twice i) → ∀ h', h <+: h' → X "Twice" [("wire", .int i)] h') : WE (callK D (k + 5) i_check_places [.int lanes, d] h) Q X := by
  refine call_wp (md := D_check_places) rfl rfl fun O oN oQ oX => ?_
  obtain ⟨ds, I, sr, ei, hi0⟩ := s.walk
  have hdl := sr.length
  simp [m_check_places]
  refine run_sFor ?_
  simp [ei _ (pre_app _ _)]
  refine run_wk (hi_ix hi0) (fun i ρ h' => (h <+: h' ∧ ∀ j, j < i → plV lanes T j = none) ∧ (∃ x3, ρ = [some (.int lanes), some d, some (.loc h.length), x3]) ∧ h'[h.length]? = some (.dK (tabK (intsT (T.take i))))) (fun _ _ _ q => q.1.1) ⟨⟨pre_app _ _, fun j hj => absurd hj (Nat.not_lt_zero _)⟩, ⟨none, rfl⟩, by simp [tabK, intsT]⟩ ?_ ?_
  · rintro i x ρ h1 hx ⟨⟨pr, hv⟩, ⟨x3, rfl⟩, eS⟩
    obtain ⟨hi, rfl⟩ := range_at hx
    refine ⟨_, rfl, fun O2 t2 => ?_⟩
    have hT : x < T.length := by omega
    have sx := (sr.at_ hT).pre pr
    have gx : T.getD x .non = T[x] := by simp [hT]
    generalize ds.getD x Dt.non = dx at sx
    rw [run_seq]
    refine run_sIf (!T[x].blw lanes) (h1 := h1) (by simp [is_below sx]) (fun hc => ?_) (fun hc => ?_)
    · have hb : T[x].blw lanes = false := by simpa using hc
      have hp : pw lanes T = some (.noPl T[x]) := findSome_at hT hv (by unfold plV; rw [gx, if_pos hb])
      obtain ⟨d', h', e1, p1, s1⟩ := ini1_sh (k := k) (n := i_NoPlace) rfl (ho _ (List.getElem_mem hT)) sx
      simp [e1]
      exact t2.X _ _ _ _ (oX _ _ _ _ (q2 _ hp d' h' (pr.trans p1) (s1.low fun i hi => Nat.le_trans (pre_len pr) hi)))
    · have hb : T[x].blw lanes = true := by simpa using hc
      cases ht : T[x] with
      | int v =>
        rw [ht] at sx
        cases sx
        have hw : ∀ y, intsT (T.take x ++ [.int y]) = intsT (T.take x) ++ [y] := fun y => by rw [intsT_app]; rfl
        have hl2 : (intsT (T.take x)).length ≤ 500 := by
          have : ∀ l : List Tr, (intsT l).length ≤ l.length := fun l => by
            induction l with
            | nil => simp [intsT]
            | cons a r ih => cases a <;> simp [intsT] <;> omega
          have := this (T.take x)
          rw [List.length_take] at this
          omega
        simp only [sSkip_s, run_nx, run_seq]
        refine run_sIf (decide (v ∈ intsT (T.take x))) (h1 := h1) (by simp [in_tab eS]) (fun hc2 => ?_) (fun hc2 => ?_)
        · have hm : v ∈ intsT (T.take x) := by simpa using hc2
          have hp : pw lanes T = some (.twice v) := findSome_at hT hv (by unfold plV; rw [gx, if_neg (by simp [hb]), ht]; exact if_pos hm)
          simp [Twice]
          exact t2.X _ _ _ _ (oX _ _ _ _ (q3 _ hp h1 pr))
        · have hm : ¬ v ∈ intsT (T.take x) := by simpa using hc2
          obtain ⟨h2, f2, u2⟩ := set_tab eS hm (by omega)
          simp [f2]
          refine t2.N _ _ ⟨⟨u2.pre pr (Nat.le_refl _), fun j hj => ?_⟩, ⟨_, rfl⟩, ?_⟩
          · by_cases hjx : j = x
            · subst hjx; unfold plV; rw [gx, if_neg (by simp [hb]), ht]; exact if_neg hm
            · exact hv j (by omega)
          · rw [u2.at_, List.take_succ, List.getElem?_eq_getElem hT, Option.toList_some, ht, hw]
      | _ => rw [ht] at hb; simp [Tr.blw] at hb
  · rintro ρ h1 ⟨⟨pr, hv⟩, _, _⟩
    rw [List.length_range, hdl] at hv
    simp
    exact oN _ _ (q1 (findSome_none hv) h1 pr)
theorem blw_cOk {c : Tr} : (c.blw 9 = true ∧ c.val ≠ 0) ↔ cOk c = true := by
  cases c <;> simp [Tr.blw, cOk, Tr.val] <;> omega
theorem lanes_limit {n c a : Tr} {dn dc da dp : Dt} {T : List Tr} (sn : Sh P h dn n) (sc : Sh P h dc c) (sa : Sh P h da a) (s : SeqSh P h dp T) (hl : T.length ≤ 500) (on : Odd n) (oc : Odd c) (oa : Odd a) (ho : ∀ t ∈ T, Odd t)
    (q1 : ∀ l, lanesR n c T a = .ok l → ∀ h', h <+: h' → Q (lD l) h') (q2 : ∀ t, lanesR n c T a = .badSize t → ∀ d' h', h <+: h' → Sh (fun i => h.length ≤ i) h' d' t → X "BadSize" [("size", d')] h')
    (q3 : ∀ t, lanesR n c T a = .noPl t → ∀ d' h', h <+: h' → Sh (fun i => h.length ≤ i) h' d' t → X "NoPlace" [("place", d')] h') (q4 : ∀ i, lanesR n c T a = .twice i → ∀ h', h <+: h' → X "Twice" [("wire", .int i)] h')
    (q5 : ∀ t, lanesR n c T a = .badAhead t → ∀ d' h', h <+: h' → Sh (fun i => h.length ≤ i) h' d' t → X "BadAhead" [("value", d')] h') : WE (callK D (k + 6) i_lanes_limit [dn, dc, dp, da] h) Q X := by
  refine call_wp (md := D_lanes_limit) rfl rfl fun O oN oQ oX => ?_
  simp [m_lanes_limit, -sIf_s]
  refine check_n sn on (fun hn => ?_) (fun hn d' h' p1 s1 => oX _ _ _ _ (q2 n (by unfold lanesR; rw [if_pos hn]) d' h' p1 s1))
  have hn' : ¬ nOk n = false := by rw [hn]; simp
  cases sn with
  | int N =>
    simp only [nOk, Bool.and_eq_true, decide_eq_true_eq] at hn
    obtain ⟨n1, n2⟩ := hn
    refine run_sIf (!cOk c) (h1 := h) ?_ (fun hc => ?_) (fun hc => ?_)
    · cases hb : c.blw 9 with
      | false =>
        have : cOk c = false := by
          cases hk : cOk c with
          | false => rfl
          | true => have := (blw_cOk.mpr hk).1; rw [hb] at this; cases this
        simp [is_below sc, hb, this]
      | true =>
        cases sc with
        | int v =>
          have := blw_cOk (c := .int v)
          simp [hb, Tr.val] at this
          simp [is_below (P := P) (.int v), hb]
          by_cases h0 : v = 0
          · have h2 : cOk (.int v) = false := by
              cases hk : cOk (.int v) with
              | false => rfl
              | true => exact absurd h0 (this.mpr hk)
            simp [h0] at h2 ⊢
            rw [h2]
          · rw [this.mp h0]; simp [h0]
        | _ => simp [Tr.blw] at hb
    · have hc : cOk c = false := by simpa using hc
      obtain ⟨d', h', e1, p1, s1⟩ := ini1_sh (k := k + 1) (n := i_BadSize) rfl oc sc
      simp [e1]
      exact oX _ _ _ _ (q2 c (by unfold lanesR; rw [if_neg hn', if_pos hc]) d' h' p1 s1)
    · have hc : cOk c = true := by simpa using hc
      have hc' : ¬ cOk c = false := by rw [hc]; simp
      cases sc with
      | int v =>
        simp only [cOk, Bool.and_eq_true, decide_eq_true_eq] at hc
        obtain ⟨v1, v2⟩ := hc
        simp
        refine check_places s hl ho (fun hp h1 p1 => ?_) (fun t hp d' h' p1 s1 => oX _ _ _ _ (q3 t (by unfold lanesR; rw [if_neg hn', if_neg hc']; simp only [Tr.val]; rw [hp]) d' h' p1 s1)) (fun i hp h' p1 => oX _ _ _ _ (q4 i (by unfold lanesR; rw [if_neg hn', if_neg hc']; simp only [Tr.val]; rw [hp]) h' p1))
        refine check_ahead (sa.pre p1) oa (fun ha => ?_) (fun ha d' h' p2 s1 => oX _ _ _ _ (q5 a (by unfold lanesR; rw [if_neg hn', if_neg hc']; simp only [Tr.val]; rw [hp]; exact if_pos ha) d' h' (p1.trans p2) (s1.low fun i hi => Nat.le_trans (pre_len p1) hi)))
        have ha' : ¬ a.blw 61 = false := by rw [ha]; simp
        cases sa with
        | int b =>
          have hR : lanesR (.int N) (.int v) T (.int b) = if 40 < N * v then .badSize (.int (N * v)) else .ok (lanesL N v (intsT T) b) := by
            unfold lanesR; rw [if_neg hn', if_neg hc']; simp only [Tr.val]; rw [hp]; exact if_neg ha'
          have mulx : ∀ {h : MH} (x : Int), oMul (.int N) (.int x) h = .ok (.int (N * x)) h := fun x => mul_l (by omega) (by omega)
          simp [mulx]
          by_cases h40 : 40 < N * v
          · rw [check_total_no (N * v) h40]
            simp
            exact oX _ _ _ _ (q2 (.int (N * v)) (by rw [hR, if_pos h40]) _ h1 p1 (.int _))
          · rw [check_total (N * v) (by omega)]
            simp
            obtain ⟨ds, I, sr, ei, hi0⟩ := (s.walk)
            obtain ⟨hb, hnd⟩ := pw_none hp
            obtain ⟨i1, i2, i3⟩ := intsT_of hb
            rw [i1] at sr
            have ed := Shs.ints_eq sr
            rw [ed] at hi0
            refine lc_it ?_
            simp [ei _ p1]
            refine lc_wpm (f := Dt.int) (xs := intsT T) rfl (hi0.mono fun h' q => p1.trans q) (fun p => .tup [wD (runW (N * p) N), .int b]) (by rw [sizeLine_eq, i2]; omega) ?_ ?_
            · intro p hp2
              refine ⟨_, rfl, fun h' pr => ?_⟩
              have hpv := i3 p hp2
              have m1 : N * p ≤ 40 * 8 := Int.mul_le_mul (by omega) (by omega) (by omega) (by omega)
              have m0 : 0 ≤ N * p := Int.mul_nonneg (by omega) (by omega)
              simp [mulx, rgOk_of (m := N * p) (n := N * p + N) (by omega) (by omega) (by omega) (by omega), rgD_runW]
            · intro h2 p2 e2
              simp [tuple_lst e2, mulx]
              refine oQ _ _ (Q_eq (q1 _ (by rw [hR, if_neg h40]) h2 (p1.trans p2)) ?_)
              simp [lanesL, lD, sD, eD]
        | _ => simp [Tr.blw] at ha
      | _ => simp [cOk] at hc
  | _ => simp [nOk] at hn
end K77
end
section
set_option maxRecDepth 20000
namespace EP
open PySem L2
/-- a spelling's wires -/
def spW (n : Int) (ws : List Word) (r : List Int) : Word := r.zipIdx.flatMap fun q => (ws.getD q.1.toNat []).map (· + n * (q.2 : Nat))
theorem spW_snoc (n : Int) (ws : List Word) (r : List Int) (x : Int) : spW n ws (r ++ [x]) = spW n ws r ++ (ws.getD x.toNat []).map (· + n * (r.length : Nat)) := by
  unfold spW
  rw [List.zipIdx_append, List.flatMap_append]
  simp
section
variable {h : MH}
theorem extT_ex {n : Nat} {xs ys : List Dt} (e : h[n]? = some (.lst xs)) (l : xs.length + ys.length ≤ sizeLine) : ∃ h', mExtend (.loc n) [.tup ys] h = .ok .non h' ∧ Up n h h' (.lst (xs ++ ys)) := ⟨_, by simp [mExtend, e, l], Up.of e⟩
theorem set_ints {b : Word} (l : b.length < 4000) : bSet [wD b] h = .ok (.loc h.length) (h ++ [.set b]) := by simp [bSet, intsOf_map, l]
theorem in_set {n : Nat} {ns : List Int} {ng : Bool} {i : Int} (e : h[n]? = some (.set ns)) : oIn ng (.int i) (.loc n) h = .ok (.bl (if ng then !decide (i ∈ ns) else decide (i ∈ ns))) h := by simp [oIn, e]
end
end EP
namespace K77
open PySem L2 EP
variable {k : Nat} {h : MH} {P : Nat → Prop} {Q : Dt → MH → Prop} {X : Str → Fs → MH → Prop}
theorem prog_less {a b : Word} (la : a.length ≤ 200) (lb : b.length ≤ 200) (q : ∀ h', h <+: h' → Q (wD (EP.less a b)) h') : WE (callK D (k + 1) i_less [wD a, wD b] h) Q X := by
  refine call_wp (md := D_less) rfl rfl fun O oN oQ oX => ?_
  simp [m_less, set_ints (b := b) (by omega)]
  refine lc_wp (f := Dt.int) (xs := a) (h1 := h ++ [.set b]) (by simp) hi_tup (fun x => !decide (x ∈ b)) Dt.int (by rw [sizeLine_eq]; omega) ?_ ?_
  · intro x hx
    refine ⟨_, rfl, fun h' pr => ?_⟩
    have e := pre_get pr (new_get h (.set b))
    simp [in_set e]
  · intro h' pr e
    have e2 := tuple_lst e
    simp at e2
    simp [e2]
    exact oQ _ _ (q _ ((pre_app _ _).trans pr))
theorem spelled {n : Int} {ws : List Word} {d : Dt} {r : List Int} (s : Sh P h d (.lst (r.map .int))) (n1 : 1 ≤ n) (hn : n * (r.length : Int) ≤ 40) (hw : ∀ w ∈ ws, (∀ x ∈ w, x < n) ∧ w.length ≤ 64) (hr : ∀ i ∈ r, 0 ≤ i ∧ i < ws.length) (hl : r.length ≤ 8) (q : ∀ h', h <+: h' → Q (wD (spW n ws r)) h') : WE (callK D (k + 3) i_spelled [.int n, .tup (ws.map wD), d] h) Q X := by
  refine call_wp (md := D_spelled) rfl rfl fun O oN oQ oX => ?_
  have n0 : 0 ≤ n := by omega
  obtain ⟨a, ds, rfl, pa, e0, sr⟩ := s.list
  have ed := Shs.ints_eq sr
  subst ed
  simp [m_spelled]
  refine run_sFor ?_
  have e1 := pre_get (pre_app h [.lst []]) e0
  simp [itOf_lst e1]
  have hi0 : HI (itL a (r.map Dt.int).length) (fun h' => h <+: h') (r.map .int) := hi_lst fun h' p => pre_get p e0
  rw [List.length_map] at hi0
  have len_sp : ∀ i, (spW n ws (r.take i)).length ≤ 64 * i := by
    intro i
    induction i with
    | zero => simp [spW]
    | succ i ih =>
      by_cases hi : i < r.length
      · rw [List.take_succ, List.getElem?_eq_getElem hi, Option.toList_some, spW_snoc]
        have hx := hr _ (List.getElem_mem hi)
        have : (ws.getD r[i].toNat []).length ≤ 64 := by
          have hlt : r[i].toNat < ws.length := by omega
          have : ws.getD r[i].toNat [] = ws[r[i].toNat] := by simp [hlt]
          rw [this]; exact (hw _ (List.getElem_mem hlt)).2
        simp only [List.length_append, List.length_map]
        omega
      · rw [List.take_of_length_le (by omega)] at ih ⊢
        omega
  refine run_wk (hi_en hi0) (fun i ρ h' => h <+: h' ∧ (∃ x4 x5, ρ = [some (.int n), some (.tup (ws.map wD)), some (.loc a), some (.loc h.length), x4, x5]) ∧ h'[h.length]? = some (.lst ((spW n ws (r.take i)).map .int))) (fun _ _ _ q => q.1) ⟨pre_app _ _, ⟨none, none, rfl⟩, by simp [spW]⟩ ?_ ?_
  · rintro i x ρ h1 hx ⟨pr, ⟨x4, x5, rfl⟩, e3⟩
    obtain ⟨hi, rfl⟩ := range_at hx
    have hxl : x < r.length := by simpa using hi
    refine ⟨_, rfl, fun O2 t2 => ?_⟩
    have gx : (r.map Dt.int).getD x .non = .int r[x] := by simp [hxl]
    rw [gx]
    have hrx := hr _ (List.getElem_mem hxl)
    have hlt : r[x].toNat < ws.length := by omega
    have gw : ∀ {h : MH}, oGet (.tup (ws.map wD)) (.int r[x]) h = .ok (wD ws[r[x].toNat]) h := get_int hrx.1 (by rw [List.getElem?_map, List.getElem?_eq_getElem hlt]; rfl)
    have hwx := hw _ (List.getElem_mem hlt)
    have hnx : n * (x : Int) + n ≤ n * (r.length : Int) := by
      have : n * ((x : Int) + 1) ≤ n * (r.length : Int) := Int.mul_le_mul_of_nonneg_left (by omega) n0
      rw [Int.mul_add, Int.mul_one] at this
      exact this
    have hnx0 : 0 ≤ n * (x : Int) := Int.mul_nonneg n0 (by omega)
    obtain ⟨h2, e2, p2⟩ := moved (k := k) (h := h1) (ws := ws[r[x].toNat]) (b := n * (x : Int)) hnx0 (by omega) (fun w hw2 => by have := hwx.1 w hw2; omega) (by omega)
    have e32 := pre_get p2 e3
    have hls := len_sp x
    obtain ⟨h3, f3, u3⟩ := extT_ex (ys := (ws[r[x].toNat].map (· + n * (x : Int))).map Dt.int) e32 (by rw [sizeLine_eq]; simp only [List.length_map]; omega)
    have ml : ∀ {h : MH}, oMul (.int n) (.int (x : Nat)) h = .ok (.int (n * (x : Nat))) h := mul_r (by omega) (by omega)
    have f3' : mExtend (.loc h.length) [wD (ws[r[x].toNat].map (· + n * (x : Int)))] h2 = .ok .non h3 := f3
    simp [isLst_lst e3, gw, ml, e2, f3']
    refine t2.N _ _ ⟨u3.pre (pr.trans p2) (Nat.le_refl _), ⟨_, _, rfl⟩, ?_⟩
    rw [u3.at_, List.take_succ, List.getElem?_eq_getElem hxl, Option.toList_some, spW_snoc, List.map_append]
    have g2 : ws.getD r[x].toNat [] = ws[r[x].toNat] := by simp [hlt]
    rw [g2, List.length_take, Nat.min_eq_left (by omega)]
  · rintro ρ h1 ⟨pr, ⟨x4, x5, rfl⟩, e3⟩
    simp at e3
    simp [tuple_lst e3]
    exact oQ _ _ (q _ pr)
end K77
end
section
set_option maxRecDepth 20000
namespace EP
open PySem L2
def mAt (M : List (List Int)) (a b : Int) : Int := (M.getD a.toNat []).getD b.toNat 0
def sumF (M : List (List Int)) (S : List (List Int)) (i j : Nat) : Int := (((S.getD i []).zip (S.getD j [])).map fun q => mAt M q.1 q.2).sum
end EP
namespace K77
open PySem L2 EP
variable {k : Nat} {h : MH} {P : Nat → Prop} {Q : Dt → MH → Prop} {X : Str → Fs → MH → Prop}
theorem least_between {ds dm : Dt} {S M : List (List Int)} (s : Sh P h ds (.lst (S.map rT))) (t : Sh P h dm (.lst (M.map rT))) (hl : S.length ≤ 64) (hM : ∀ r ∈ M, r.length = M.length) (hr : ∀ r ∈ S, r.length ≤ 8 ∧ ∀ i ∈ r, 0 ≤ i ∧ i < M.length) (q : ∀ h', h <+: h' → Q (optD (minO (allL (sumF M S) S.length S.length))) h') : WE (callK D (k + 1) i_least_between [ds, dm] h) Q X := by
  refine call_wp (md := D_least_between) rfl rfl fun O oN oQ oX => ?_
  obtain ⟨a, es, rfl, pa, e0, sr⟩ := s.list
  obtain ⟨c, ms, rfl, pc, e1, sm⟩ := t.list
  have hel := sr.length
  have hml := sm.length
  rw [List.length_map] at hel hml
  simp [m_least_between]
  refine run_sFor ?_
  simp [itOf_lst e0]
  have hi0 : HI (itL a es.length) (fun h' => h <+: h') es := hi_lst fun h' p => pre_get p e0
  refine run_wk (hi_en hi0) (fun i ρ h' => h <+: h' ∧ ∃ x3 x4 x5 x6 x7 x8 x9, ρ = [some (.loc a), some (.loc c), some (optD (minO (allL (sumF M S) S.length i))), x3, x4, x5, x6, x7, x8, x9]) (fun _ _ _ q => q.1) ⟨pre_refl _, none, none, none, none, none, none, none, rfl⟩ ?_ ?_
  · rintro i x ρ h1 hx ⟨pr, x3, x4, x5, x6, x7, x8, x9, rfl⟩
    obtain ⟨hi, rfl⟩ := range_at hx
    refine ⟨_, rfl, fun O2 t2 => ?_⟩
    have hxS : x < S.length := by omega
    have sx := (sr.at_ (i := x) (by simpa using hxS))
    rw [List.getElem_map] at sx
    obtain ⟨b, bs, eb, pb, eb0, sb⟩ := sx.list
    have ebs := Shs.ints_eq sb
    subst ebs
    rw [eb]
    refine run_sFor ?_
    have ea1 := pre_get pr e0
    simp [itOf_lst ea1]
    refine run_wk (hi_en (hi0.mono fun h' (q : h1 <+: h') => pr.trans q)) (fun j ρ h' => h1 <+: h' ∧ ∃ x5 x6 x7 x8 x9, ρ = [some (.loc a), some (.loc c), some (optD (minO (allL (sumF M S) S.length x ++ rowL (sumF M S) x j))), some (.int (x : Nat)), some (.loc b), x5, x6, x7, x8, x9]) (fun _ _ _ q => q.1) ⟨pre_refl _, x5, x6, x7, x8, x9, by simp [rowL]⟩ ?_ ?_
    · rintro j y ρ h2 hy ⟨pr2, x5, x6, x7, x8, x9, rfl⟩
      obtain ⟨hj, rfl⟩ := range_at hy
      refine ⟨_, rfl, fun O3 t3 => ?_⟩
      have hyS : y < S.length := by omega
      have sy := (sr.at_ (i := y) (by simpa using hyS))
      rw [List.getElem_map] at sy
      obtain ⟨g, gs, eg, pg, eg0, sg⟩ := sy.list
      have egs := Shs.ints_eq sg
      subst egs
      rw [eg, run_seq]
      refine run_sIf (decide (x = y)) (h1 := h2) (by simp; omega) (fun hc => ?_) (fun hc => ?_)
      · have hxy : x = y := by simpa using hc
        have key : rowL (sumF M S) x (y + 1) = rowL (sumF M S) x y := by rw [rowL_succ, if_pos hxy, List.append_nil]
        rw [key] at t3
        simp
        exact t3.C _ _ ⟨pr2, _, _, _, _, _, rfl⟩
      · have hxy : ¬ x = y := by simpa using hc
        have eb2 := pre_get (pr.trans pr2) eb0
        have eg2 := pre_get (pr.trans pr2) eg0
        have em2 := pre_get (pr.trans pr2) e1
        simp [-sIf_s]
        refine lc_it ?_
        have i1 := itOf_lst eb2
        have i2 := itOf_lst eg2
        simp [i1, i2, sameKind]
        have z1 : HI (itL b S[x].length) (fun h' => h2 <+: h') (S[x].map Dt.int) := by
          have := hi_lst (n := b) (H := fun h' => h2 <+: h') fun h' p => pre_get p eb2
          rwa [List.length_map] at this
        have z2 : HI (itL g S[y].length) (fun h' => h2 <+: h') (S[y].map Dt.int) := by
          have := hi_lst (n := g) (H := fun h' => h2 <+: h') fun h' p => pre_get p eg2
          rwa [List.length_map] at this
        have hrx := hr _ (List.getElem_mem hxS)
        have hry := hr _ (List.getElem_mem hyS)
        refine lc_wpm (f := fun q : Int × Int => Dt.tup [.int q.1, .int q.2]) (xs := S[x].zip S[y]) rfl (hi_zipA z1 z2) (fun q => .int (mAt M q.1 q.2)) (by rw [sizeLine_eq, List.length_zip]; omega) ?_ ?_
        · rintro ⟨u, v⟩ huv
          have hu := hrx.2 u (List.of_mem_zip huv).1
          have hv := hry.2 v (List.of_mem_zip huv).2
          refine ⟨_, rfl, fun h' p' => ?_⟩
          have hul : u.toNat < M.length := by omega
          have hvl : v.toNat < (M[u.toNat]).length := by rw [hM _ (List.getElem_mem hul)]; omega
          have su := sm.at_ (i := u.toNat) (by simpa using hul)
          rw [List.getElem_map] at su
          obtain ⟨o, os, eo, po, eo0, so⟩ := su.list
          have eos := Shs.ints_eq so
          subst eos
          have g1 : oGet (.loc c) (.int u) h' = .ok (.loc o) h' := get_lst (pre_get p' em2) hu.1 (by rw [← eo]; exact sm.ix (by simpa using hul))
          have g2 : oGet (.loc o) (.int v) h' = .ok (.int (M[u.toNat])[v.toNat]) h' := get_lst (pre_get p' (pre_get (pr.trans pr2) eo0)) hv.1 (by rw [List.getElem?_map, List.getElem?_eq_getElem hvl]; rfl)
          have e5 : mAt M u v = (M[u.toNat])[v.toNat] := by
            unfold mAt
            have : M.getD u.toNat [] = M[u.toNat] := by simp [hul]
            rw [this]; simp [hvl]
          simp [g1, g2, e5]
        · intro h3 p3 e3
          have e3' : h3[h2.length]? = some (.lst (((S[x].zip S[y]).map fun q => mAt M q.1 q.2).map Dt.int)) := by rw [e3, List.map_map]; rfl
          have hsum : ((S[x].zip S[y]).map fun q => mAt M q.1 q.2).sum = sumF M S x y := by
            unfold sumF
            have a1 : S.getD x [] = S[x] := by simp [hxS]
            have a2 : S.getD y [] = S[y] := by simp [hyS]
            rw [a1, a2]
          simp only [sum_lst e3', hsum, we_ok, run_nx]
          have key : minO (allL (sumF M S) S.length x ++ rowL (sumF M S) x (y + 1)) = mnO (minO (allL (sumF M S) S.length x ++ rowL (sumF M S) x y)) (sumF M S x y) := by
            rw [rowL_succ, if_neg hxy, ← List.append_assoc, minO_snoc]
          rw [key] at t3
          generalize minO (allL (sumF M S) S.length x ++ rowL (sumF M S) x y) = cur at t3
          generalize sumF M S x y = v at t3
          cases cur with
          | none =>
            simp [optD]
            exact t3.N _ _ ⟨pr2.trans p3, _, _, _, _, _, rfl⟩
          | some w =>
            simp [optD]
            refine run_ite (fun hlt => ?_) (fun hlt => ?_)
            · simp
              have e9 : mnO (some w) v = some (if v < w then v else w) := rfl
              rw [e9] at t3
              simp only [hlt, if_true, if_false] at t3
              exact t3.N _ _ ⟨pr2.trans p3, _, _, _, _, _, rfl⟩
            · simp
              have e9 : mnO (some w) v = some (if v < w then v else w) := rfl
              rw [e9] at t3
              simp only [hlt, if_true, if_false] at t3
              exact t3.N _ _ ⟨pr2.trans p3, _, _, _, _, _, rfl⟩
    · rintro ρ h2 ⟨pr2, x5, x6, x7, x8, x9, rfl⟩
      rw [List.length_range, hel]
      rw [allL_succ] at t2
      simp
      exact t2.N _ _ ⟨pr.trans pr2, _, _, _, _, _, _, _, rfl⟩
  · rintro ρ h1 ⟨pr, x3, x4, x5, x6, x7, x8, x9, rfl⟩
    rw [List.length_range, hel]
    simp
    exact oQ _ _ (q _ pr)
end K77
end
section
set_option maxRecDepth 20000
namespace EP
open PySem L2
/-- how a question to a book and spellings ends -/
inductive Ou where
  | notBook (m : Int) | wr (w : Wr) | big (m : Int) | ok (d : Dt)
def bookW (p : Plan) : List Word := (bookRow p).map (·.1)
theorem bookW_len (p : Plan) : (bookW p).length = (bookRow p).length := by simp [bookW]
def fwR (p : Plan) (R : List (List Tr)) : Option Wr := fw ((bookW p).length : Nat) R
def lettersR (p : Plan) (R : List (List Tr)) : Ou :=
  if p.2.length ≠ 1 then .notBook p.2.length else match fwR p R with
  | some w => .wr w
  | none => if 40 < p.1 * ((R.getD 0 []).length : Nat) then .big (p.1 * ((R.getD 0 []).length : Nat)) else .ok (pD (p.1 * ((R.getD 0 []).length : Nat), [(R.map intsT).map fun r => (spW p.1 (bookW p) r, 0)]))
def lessM (ws : List Word) : List (List Int) := ws.map fun a => ws.map fun b => ((less a b).length : Int)
def evenV (ws : List Word) (S : List (List Int)) : Option Int := (minO (allL (sumF (lessM ws) S) S.length S.length)).map (· - 1)
def evenR (p : Plan) (R : List (List Tr)) : Ou :=
  if p.2.length ≠ 1 then .notBook p.2.length else match fwR p R with
  | some w => .wr w
  | none => .ok (optD (evenV (bookW p) (R.map intsT)))
def hamM : List (List Int) := (List.range 64).map fun a => (List.range 64).map fun b => if a = b then 0 else 1
def distV (S : List (List Int)) : Option Int := minO (allL (sumF hamM S) S.length S.length)
def distR (R : List (List Tr)) : Ou := match fw 64 R with
  | some w => .wr w
  | none => .ok (optD (distV (R.map intsT)))
theorem map_intsT (S : List (List Int)) : (S.map fun r => r.map Tr.int).map intsT = S := by
  rw [List.map_map]
  conv => rhs; rw [← List.map_id S]
  exact List.map_congr_left fun r _ => intsT_map r
end EP
namespace K77
open PySem L2 EP
variable {k : Nat} {h : MH} {P : Nat → Prop} {Q : Dt → MH → Prop} {X : Str → Fs → MH → Prop}
theorem book_of {p : Plan} (e : p.2.length = 1) : p.2 = [bookRow p] := by
  obtain ⟨n, l⟩ := p
  match l, e with
  | [r], _ => rfl
theorem letters {p : Plan} {rows : Dt} {R : List (List Tr)} (wp : Wf p) (n40 : p.1 ≤ 40) (s : Sh P h rows (.lst (R.map .lst)))
    (q1 : ∀ d, lettersR p R = .ok d → ∀ h', h <+: h' → Q d h') (q2 : ∀ m, lettersR p R = .notBook m → ∀ h', h <+: h' → X "NotBook" [("states", .int m)] h') (q3 : ∀ w, lettersR p R = .wr w → ∀ h', h <+: h' → X (wrX w).1 (wrX w).2 h')
    (q4 : ∀ m, lettersR p R = .big m → ∀ h', h <+: h' → X "BadSize" [("size", .int m)] h') : WE (callK D (k + 6) i_letters [pD p, rows] h) Q X := by
  refine call_wp (md := D_letters) rfl rfl fun O oN oQ oX => ?_
  simp only [m_letters, run_seq]
  by_cases hb : p.2.length = 1
  · have e2 := book_of hb
    have hb' : ¬ p.2.length ≠ 1 := by omega
    have hrow := wp.row (bookRow p) (by rw [e2]; simp)
    obtain ⟨h1, eb, p1⟩ := book_words (k := k) (h := h) p (bookRow p) e2 (by omega)
    have ew : (bookRow p).map (fun e => wD e.1) = (bookW p).map wD := by unfold bookW; rw [List.map_map]; rfl
    rw [ew] at eb
    have wlen : (bookW p).length ≤ 64 := by rw [bookW_len]; omega
    simp [check_book p hb, eb]
    have cl : bLen [.tup ((bookW p).map wD)] h1 = .ok (.int ((bookW p).length : Nat)) h1 := by simp
    refine check_spellings (many := ((bookW p).length : Nat)) (s.pre p1) (fun hf h2 p2 => ?_) (fun w hf h2 p2 => ?_)
    · obtain ⟨S, ok, eR⟩ := fw_none hf
      subst eR
      obtain ⟨a, ds, rfl, pa, e0, sr⟩ := s.list
      have hdl := sr.length
      simp only [List.length_map] at hdl
      have hS0 : 0 < S.length := List.length_pos_iff.mpr ok.ne
      have e00 := pre_get (p1.trans p2) e0
      have s0 := (sr.at_ (i := 0) (by simpa using hS0)).pre (p1.trans p2)
      simp only [List.getElem_map] at s0
      obtain ⟨b, bs, eb0, pb, eb1, sb⟩ := s0.list
      have ebs := Shs.ints_eq sb
      subst ebs
      have g0 : ∀ {h}, oGet (pD p) (.int 0) h = .ok (.int p.1) h := get0
      have gr : oGet (.loc a) (.int 0) h2 = .ok (.loc b) h2 := get_lst e00 (by omega) (by rw [← eb0]; exact sr.ix (i := 0) (by simpa using hS0))
      have hg : S.getD 0 [] = S[0] := by simp [List.getD_eq_getElem?_getD, hS0]
      have hlen : ((S.map fun r => r.map Tr.int).getD 0 []).length = S[0].length := by simp [List.getD_eq_getElem?_getD, hS0]
      have o0 := ok.one _ (List.getElem_mem hS0)
      have ml : oMul (.int p.1) (.int (S[0].length : Nat)) h2 = .ok (.int (p.1 * (S[0].length : Nat))) h2 := mul_r (by omega) (by omega)
      have hR : lettersR p (S.map fun r => r.map Tr.int) = if (40 : Int) < p.1 * ((S[0].length : Nat) : Int) then .big (p.1 * ((S[0].length : Nat) : Int)) else .ok (pD (p.1 * ((S[0].length : Nat) : Int), [S.map fun r => (spW p.1 (bookW p) r, 0)])) := by
        unfold lettersR
        rw [if_neg hb', show fwR p _ = none from hf, hlen, map_intsT]
      simp [g0, gr, len_lst eb1, ml]
      by_cases h40 : (40 : Int) < p.1 * ((S[0].length : Nat) : Int)
      · rw [check_total_no _ h40]
        simp
        exact oX _ _ _ _ (q4 _ (by rw [hR, if_pos h40]) h2 (p1.trans p2))
      · rw [check_total _ (by omega)]
        simp
        refine lc_it ?_
        simp [itOf_lst e00]
        have hi0 : HI (itL a ds.length) (fun h' => h2 <+: h') ds := hi_lst fun h' q => pre_get q e00
        refine lc_wpm (f := fun x : Nat => ds.getD x .non) (xs := List.range ds.length) rfl (hi_ix hi0) (fun x => wD (spW p.1 (bookW p) (S.getD x []))) (by rw [sizeLine_eq, List.length_range]; have := ok.len; omega) ?_ ?_
        · intro x hx
          have hx : x < ds.length := by simpa using hx
          have hxS : x < S.length := by omega
          refine ⟨_, rfl, fun h' p3 => ?_⟩
          have sx := (sr.at_ (i := x) (by simpa using hxS)).pre ((p1.trans p2).trans p3)
          simp only [List.getElem_map] at sx
          have gx : S.getD x [] = S[x] := by simp [hxS]
          have ox := ok.one _ (List.getElem_mem hxS)
          rw [gx]
          generalize ds.getD x Dt.non = dx at sx
          simp [g0]
          refine spelled (k := k + 2) sx wp.n1 (by rw [ox.2.2.1, hg]; omega) ?_ ox.2.2.2 ox.2.1 fun h3 p3 => ⟨rfl, p3⟩
          intro w hw
          obtain ⟨e, he, rfl⟩ := List.mem_map.mp hw
          have := hrow.2.2 e he
          exact ⟨fun x hx => (this.2.2.2.1 x hx).2, this.2.2.2.2⟩
        · intro h3 p3 e3
          have e4 : h3[h2.length]? = some (.lst ((S.map (spW p.1 (bookW p))).map wD)) := by
            rw [e3]
            congr 2
            apply List.ext_getElem
            · simp; omega
            · intro i u v
              simp at u v
              simp [show i < S.length by omega]
          obtain ⟨h5, e5, p5⟩ := book_made (k := k + 4) (p.1 * (S[0].length : Nat)) e4 (by simp; have := ok.len; omega)
          simp [e5]
          refine oQ _ _ (Q_eq (q1 _ (by rw [hR, if_neg h40]) h5 (((p1.trans p2).trans p3).trans p5)) ?_)
          rfl
    · have hR : lettersR p R = .wr w := by
        unfold lettersR
        rw [if_neg hb', show fwR p R = some w from hf]
      exact oX _ _ _ _ (q3 w hR h2 (p1.trans p2))
  · simp [check_book_no p hb]
    exact oX _ _ _ _ (q2 _ (by unfold lettersR; rw [if_pos hb]) h (pre_refl _))
end K77
end
section
set_option maxRecDepth 20000
namespace K77
open PySem L2 EP
variable {k : Nat} {h : MH} {P : Nat → Prop} {Q : Dt → MH → Prop} {X : Str → Fs → MH → Prop}
theorem rT_map (S : List (List Int)) : S.map rT = (S.map fun r => r.map Tr.int).map .lst := by rw [List.map_map]; rfl
theorem even_of {p : Plan} {rows : Dt} {R : List (List Tr)} (wp : Wf p) (s : Sh P h rows (.lst (R.map .lst)))
    (q1 : ∀ d, evenR p R = .ok d → ∀ h', h <+: h' → Q d h') (q2 : ∀ m, evenR p R = .notBook m → ∀ h', h <+: h' → X "NotBook" [("states", .int m)] h') (q3 : ∀ w, evenR p R = .wr w → ∀ h', h <+: h' → X (wrX w).1 (wrX w).2 h') : WE (callK D (k + 6) i_even_of [pD p, rows] h) Q X := by
  refine call_wp (md := D_even_of) rfl rfl fun O oN oQ oX => ?_
  simp only [m_even_of, run_seq]
  by_cases hb : p.2.length = 1
  · have e2 := book_of hb
    have hb' : ¬ p.2.length ≠ 1 := by omega
    have hrow := wp.row (bookRow p) (by rw [e2]; simp)
    obtain ⟨h1, eb, p1⟩ := book_words (k := k) (h := h) p (bookRow p) e2 (by omega)
    have ew : (bookRow p).map (fun e => wD e.1) = (bookW p).map wD := by unfold bookW; rw [List.map_map]; rfl
    rw [ew] at eb
    have wlen : (bookW p).length ≤ 64 := by rw [bookW_len]; omega
    have hw : ∀ w ∈ bookW p, w.length ≤ 64 := fun w hw => by
      unfold bookW at hw
      obtain ⟨e, he, rfl⟩ := List.mem_map.mp hw
      exact (hrow.2.2 e he).2.2.2.2
    simp [check_book p hb, eb]
    have cl : bLen [.tup ((bookW p).map wD)] h1 = .ok (.int ((bookW p).length : Nat)) h1 := by simp
    refine check_spellings (many := ((bookW p).length : Nat)) (s.pre p1) (fun hf h2 p2 => ?_) (fun w hf h2 p2 => ?_)
    · obtain ⟨S, ok, eR⟩ := fw_none hf
      subst eR
      have hR : evenR p (S.map fun r => r.map Tr.int) = .ok (optD (evenV (bookW p) S)) := by
        unfold evenR
        rw [if_neg hb', show fwR p _ = none from hf, map_intsT]
      refine lc_sh (f := wD) (xs := bookW p) (fun _ => True) (h1 := h2) (by simp) hi_tup (fun a => rT ((bookW p).map fun b => ((EP.less a b).length : Int))) (by rw [sizeLine_eq]; omega) ?_ ?_
      · intro a ha
        refine ⟨_, rfl, fun h' p3 hlt => ?_⟩
        simp
        refine lc_wpm (f := wD) (xs := bookW p) (h1 := h') (by simp) hi_tup (fun b => .int ((EP.less a b).length : Nat)) (by rw [sizeLine_eq]; omega) ?_ ?_
        · intro b hb
          refine ⟨_, rfl, fun h3 p4 => ?_⟩
          simp
          refine prog_less (by have := hw a ha; omega) (by have := hw b hb; omega) fun h4 p5 => ?_
          simp
          exact p5
        · intro h3 p4 e4
          refine ⟨p4, .lst (by omega) e4 ?_⟩
          rw [show (bookW p).map (fun b => Dt.int ((EP.less a b).length : Nat)) = ((bookW p).map fun b => ((EP.less a b).length : Int)).map Dt.int by rw [List.map_map]; rfl]
          exact Shs.ints _
      · intro h3 ds p3 e3 s3
        have sM : Sh (fun _ => True) h3 (.loc h2.length) (.lst ((lessM (bookW p)).map rT)) := .lst trivial e3 (by
          have : (lessM (bookW p)).map rT = (bookW p).map fun a => rT ((bookW p).map fun b => ((EP.less a b).length : Int)) := by unfold lessM; rw [List.map_map]; rfl
          rw [this]; exact s3)
        have sS : Sh (fun _ => True) h3 rows (.lst (S.map rT)) := by
          rw [rT_map]
          exact (s.pre ((p1.trans p2).trans p3)).low fun _ _ => trivial
        refine least_between sS sM ok.len (fun r hr => ?_) (fun r hr => ?_) fun h4 p4 => ?_
        · unfold lessM at hr
          obtain ⟨a, _, rfl⟩ := List.mem_map.mp hr
          simp [lessM]
        · have := ok.one r hr
          refine ⟨this.2.1, fun i hi => ?_⟩
          have := this.2.2.2 i hi
          simp only [lessM, List.length_map]
          omega
        · have hq := q1 _ hR h4 (((p1.trans p2).trans p3).trans p4)
          unfold evenV at hq
          cases hm : minO (allL (sumF (lessM (bookW p)) S) S.length S.length) with
          | none =>
            rw [hm] at hq
            simp [optD]
            exact oQ _ _ hq
          | some v =>
            rw [hm] at hq
            simp [optD]
            exact oQ _ _ hq
    · have hR : evenR p R = .wr w := by
        unfold evenR
        rw [if_neg hb', show fwR p R = some w from hf]
      exact oX _ _ _ _ (q3 w hR h2 (p1.trans p2))
  · simp [check_book_no p hb]
    exact oX _ _ _ _ (q2 _ (by unfold evenR; rw [if_pos hb]) h (pre_refl _))
theorem distance {rows : Dt} {R : List (List Tr)} (s : Sh P h rows (.lst (R.map .lst)))
    (q1 : ∀ d, distR R = .ok d → ∀ h', h <+: h' → Q d h') (q3 : ∀ w, distR R = .wr w → ∀ h', h <+: h' → X (wrX w).1 (wrX w).2 h') : WE (callK D (k + 4) i_distance [rows] h) Q X := by
  refine call_wp (md := D_distance) rfl rfl fun O oN oQ oX => ?_
  simp only [m_distance, run_seq]
  simp
  refine check_spellings (many := 64) s (fun hf h2 p2 => ?_) (fun w hf h2 p2 => ?_)
  · obtain ⟨S, ok, eR⟩ := fw_none hf
    subst eR
    have hR : distR (S.map fun r => r.map Tr.int) = .ok (optD (distV S)) := by
      unfold distR
      rw [hf, map_intsT]
    have rg : ∀ {h : MH} {ρ : EP.Env} {G : Orc}, iRg (rg1 (eC (.int 64))) G ρ h = .ok (itR 0 64) h := by
      intro h ρ G
      rw [iRg_s, rg1_s]
      simp
      exact rg1_ok (by omega) (by omega)
    refine lc_sh (f := fun i : Nat => Dt.int (i : Nat)) (xs := List.range 64) (fun _ => True) (h1 := h2) rg hi_rng0 (fun a => rT ((List.range 64).map fun b => if a = b then 0 else 1)) (by rw [sizeLine_eq]; simp) ?_ ?_
    · intro a ha
      refine ⟨_, rfl, fun h' p3 hlt => ?_⟩
      simp
      refine lc_wpm (f := fun i : Nat => Dt.int (i : Nat)) (xs := List.range 64) (h1 := h') rg hi_rng0 (fun b => .int (if a = b then 0 else 1)) (by rw [sizeLine_eq]; simp) ?_ ?_
      · intro b hb
        refine ⟨_, rfl, fun h3 p4 => ?_⟩
        by_cases hab : a = b
        · simp [hab]
        · have : ¬ ((a : Int) = (b : Int)) := by omega
          simp [hab, this]
      · intro h3 p4 e4
        refine ⟨p4, .lst (by omega) e4 ?_⟩
        rw [show (List.range 64).map (fun b => Dt.int (if a = b then 0 else 1)) = ((List.range 64).map fun b => if a = b then (0 : Int) else 1).map Dt.int by rw [List.map_map]; rfl]
        exact Shs.ints _
    · intro h3 ds p3 e3 s3
      have sM : Sh (fun _ => True) h3 (.loc h2.length) (.lst (hamM.map rT)) := .lst trivial e3 (by
        have : hamM.map rT = (List.range 64).map fun a => rT ((List.range 64).map fun b => if a = b then 0 else 1) := by unfold hamM; rw [List.map_map]; rfl
        rw [this]; exact s3)
      have sS : Sh (fun _ => True) h3 rows (.lst (S.map rT)) := by
        rw [rT_map]
        exact (s.pre (p2.trans p3)).low fun _ _ => trivial
      have hlm : hamM.length = 64 := by simp [hamM]
      refine least_between sS sM ok.len (fun r hr => ?_) (fun r hr => ?_) fun h4 p4 => ?_
      · unfold hamM at hr
        obtain ⟨a, _, rfl⟩ := List.mem_map.mp hr
        simp [hamM]
      · have := ok.one r hr
        refine ⟨this.2.1, fun i hi => ?_⟩
        have := this.2.2.2 i hi
        omega
      · exact oQ _ _ (q1 _ hR h4 ((p2.trans p3).trans p4))
  · have hR : distR R = .wr w := by
      unfold distR
      rw [hf]
    exact oX _ _ _ _ (q3 w hR h2 p2)
end K77
end
section
set_option maxRecDepth 20000
namespace EP
open PySem L2
def rfD (name : Str) (d : Dt) : Dt := .tup [.str "refused", .str name, d, .bl true, .bl false]
def wrD : Wr → Dt
  | .noSp => rfD "NoSpelling" .non
  | .many => rfD "TooMany" (.tup [.str "spellings", .int 64])
  | .badSp i => rfD "BadSpelling" (.int (i : Nat))
  | .badNum i => rfD "BadNumber" (.int (i : Nat))
def ouD : Ou → Dt
  | .notBook m => rfD "NotBook" (.int m)
  | .wr w => wrD w
  | .big m => rfD "BadSize" (.int m)
  | .ok d => .tup [.str "given", d]
def Tr.items : Tr → List Tr
  | .tup ts => ts
  | .lst ts => ts
  | _ => []
section
variable {h : MH}
theorem max3_int {i j k : Int} : bMax [.int i, .int j, .int k] h = .ok (.int (if (if i < j then j else i) < k then k else if i < j then j else i)) h := (rfl)
theorem Sh.flat {P : Nat → Prop} {d e : Dt} {t : Tr} (s : Sh P h d t) (s2 : Sh P h e t) (hk : t.kind < 4) : d = e ∧ kindD d < 4 ∧ d.plain = true := by
  cases s <;> cases s2 <;> simp [Tr.kind] at hk <;> simp_all [kindD, Dt.plain]
end
end EP
namespace K77
open PySem L2 EP
variable {k : Nat} {h : MH} {P : Nat → Prop} {Q : Dt → MH → Prop} {X : Str → Fs → MH → Prop}
theorem law_is_whole {d : Dt} {t : Tr} (s : Sh P h d t) : callK D (k + 1) i_law_is_whole [d] h = .ok (.bl t.whole) h := by
  rw [call_eq (md := D_law_is_whole) rfl rfl, run_s]
  cases s with
  | lst a b r => simp [m_law_is_whole, sSeq_s, isi_li b, Tr.whole]
  | _ => simp [m_law_is_whole, sSeq_s, Tr.whole]
theorem law_kind_sh {d : Dt} {t : Tr} (s : Sh P h d t) : callK D (k + 1) i_law_kind [d] h = .ok (.int t.kind) h := by
  rw [call_eq (md := D_law_kind) rfl rfl, run_s]
  cases s with
  | lst a b r => simp [m_law_kind, sSeq_s, isi_lb b, isi_li b, isi_ls b, isi_lt b, isi_ll b, Tr.kind]
  | _ => simp [m_law_kind, sSeq_s, Tr.kind]
/-- the things of a list or a tuple -/
theorem Sh_items {d : Dt} {t : Tr} (s : Sh P h d t) (hk : ¬ t.kind < 4) : ∃ ds, t.nodes = nodesTs t.items + 1 ∧ Shs P h ds t.items ∧ (∀ h', h <+: h' → bLen [d] h' = .ok (.int (ds.length : Nat)) h') ∧ ∀ h', h <+: h' → ∀ i, i < ds.length → oGet d (.int (i : Nat)) h' = .ok (ds.getD i .non) h' := by
  cases s with
  | tup r =>
    rename_i ds ts
    refine ⟨ds, by simp [Tr.nodes, Tr.items], r, fun h' p => by simp, fun h' p i hi => get_nat (by simp [hi])⟩
  | lst a b r =>
    rename_i n ds ts
    refine ⟨ds, by simp [Tr.nodes, Tr.items], r, fun h' p => len_lst (pre_get p b), fun h' p i hi => get_lst (pre_get p b) (by omega) (by simp [hi])⟩
  | _ => simp [Tr.kind] at hk
theorem law_equal {d1 d2 : Dt} {t : Tr} {b : Bool} (s1 : Sh P h d1 t) (s2 : Sh P h d2 t) (hn : t.nodes < 900000) (q : ∀ h', h <+: h' → Q (.bl true) h') : WE (callK D (k + 2) i_law_equal [d1, d2, .bl b] h) Q X := by
  refine call_wp (md := D_law_equal) rfl rfl fun O oN oQ oX => ?_
  simp [m_law_equal]
  refine run_while (fun m ρ h' => m < 900000 ∧ ∃ (L : List (Dt × Dt)) (ts : List Tr) (x4 x5 x6 x7 x8 : Option Dt), nodesTs ts = m ∧ Shs P h (L.map (·.1)) ts ∧ Shs P h (L.map (·.2)) ts ∧ ρ = [some d1, some d2, some (.bl b), some (.loc h.length), x4, x5, x6, x7, x8] ∧ h <+: h' ∧ h'[h.length]? = some (.lst (L.map fun x => .tup [x.1, x.2]))) (m := t.nodes) (by unfold whileFuel; omega)
    ⟨hn, [(d1, d2)], [t], none, none, none, none, none, by simp [nodesTs], .one s1, .one s2, rfl, pre_app _ _, by simp⟩ ?_
  rintro m ρ h1 ⟨hm, L, ts, x4, x5, x6, x7, x8, hs, z1, z2, rfl, pr, e1⟩
  have hLt : L.length = ts.length := by have := z1.length; simpa using this
  refine ⟨decide (0 < L.length), h1, by simp [len_lst e1], fun hc => ?_, fun hc O' tb => ?_⟩
  · simp
    exact oQ _ _ (q _ pr)
  · have hne : L ≠ [] := by rintro rfl; simp at hc
    obtain ⟨L', ⟨x, y⟩, rfl⟩ : ∃ L' x, L = L' ++ [x] := ⟨_, _, (List.dropLast_concat_getLast hne).symm⟩
    have hne2 : ts ≠ [] := by rintro rfl; simp at hLt
    obtain ⟨ts', u, rfl⟩ : ∃ L' x, ts = L' ++ [x] := ⟨_, _, (List.dropLast_concat_getLast hne2).symm⟩
    have hLt' : L'.length = ts'.length := by simpa using hLt
    have split1 : ∀ {f : Dt × Dt → Dt}, Shs P h ((L' ++ [(x, y)]).map f) (ts' ++ [u]) → Shs P h (L'.map f) ts' ∧ Sh P h (f (x, y)) u := by
      intro f z
      rw [List.map_append] at z
      have key : ∀ {as bs : List Dt} {us vs : List Tr}, Shs P h (as ++ bs) (us ++ vs) → as.length = us.length → Shs P h as us ∧ Shs P h bs vs := by
        intro as
        induction as with
        | nil => intro bs us vs z e; cases us with
          | nil => exact ⟨.nil, z⟩
          | cons _ _ => cases e
        | cons a r ih => intro bs us vs z e; cases us with
          | nil => cases e
          | cons c s =>
            cases z with
            | cons za zr => have := ih zr (by simpa using e); exact ⟨.cons za this.1, this.2⟩
      obtain ⟨k1, k2⟩ := key z (by simpa using hLt')
      cases k2 with
      | cons w _ => exact ⟨k1, w⟩
    obtain ⟨y1, sx⟩ := split1 z1
    obtain ⟨y2, sy⟩ := split1 z2
    rw [nodesTs_app] at hs
    simp [nodesTs] at hs
    rw [List.map_append, List.map_singleton] at e1
    obtain ⟨h2, f2, up⟩ := pop_last e1
    have pr2 := up.pre pr (Nat.le_refl _)
    have nx := u.nodes_pos
    have kn : ¬ u.kind = 6 := by cases u <;> simp [Tr.kind]
    have k5 : u.kind ≤ 5 := by cases u <;> simp [Tr.kind]
    have k1 := law_kind_sh (k := k) (sx.pre pr2)
    have k2 := law_kind_sh (k := k) (sy.pre pr2)
    simp only at k1 k2
    simp only [run_seq]
    simp [-sIf_s, isLst_lst e1, f2, k1, k2]
    have t1 : ∀ {x8 : Option Dt}, EP.tAnd (tVal (eVar 2)) (EP.tAnd (tBl (eOp oGt (eVar 6) (eC (.int 3)))) (tBl (eOp oGt (eVar 7) (eC (.int 3))))) (callK D (k + 1)) [some d1, some d2, some (.bl b), some (.loc h.length), some x, some y, some (.int u.kind), some (.int u.kind), x8] h2 = .ok (b && decide (3 < u.kind)) h2 := by
      intro x8
      cases b <;> simp
    refine run_join (fun ρ h' => h' = h2 ∧ ∃ K : Int, (K = u.kind ∨ (K = 5 ∧ 3 < u.kind)) ∧ ρ = [some d1, some d2, some (.bl b), some (.loc h.length), some x, some y, some (.int K), some (.int K), x8]) (fun O2 a1 a2 a3 a4 a5 => ?_) ?_
    · refine run_sIf (b && decide (3 < u.kind)) (h1 := h2) t1 (fun hc => ?_) (fun hc => ?_)
      · have h3 : 3 < u.kind := by simp at hc; exact hc.2
        simp [max3_int]
        refine a1 _ _ ⟨rfl, 5, .inr ⟨rfl, h3⟩, ?_⟩
        by_cases h5 : u.kind < 5
        · simp [h5]
        · have : u.kind = 5 := by omega
          simp [this]
      · simp
        exact a1 _ _ ⟨rfl, _, .inl rfl, rfl⟩
    · rintro ρ h' ⟨rfl, K, hK, rfl⟩
      have hK6 : ¬ K = 6 := by rcases hK with rfl | ⟨rfl, _⟩ <;> omega
      have hK4 : K < 4 ↔ u.kind < 4 := by rcases hK with rfl | ⟨rfl, _⟩ <;> omega
      simp [hK6]
      refine run_ite (fun hk => ?_) (fun hk => ?_)
      · obtain ⟨exy, kd, pl⟩ := sx.flat sy (hK4.mp hk)
        simp only at exy kd pl
        subst exy
        have e3 : oEq true x x h' = .ok (.bl false) h' := by
          have : oEq true x x h' = if x.eqOk = true ∧ x.eqOk = true then .ok (.bl (if true then !eqv x x else eqv x x)) h' else .bad := by cases x <;> first | rfl | simp [kindD] at kd
          rw [this, if_pos ⟨eqOk_flat kd pl, eqOk_flat kd pl⟩, eqv_self kd]
          rfl
        simp [e3]
        exact tb.N _ _ ⟨nodesTs ts', by omega, by omega, L', ts', _, _, _, _, _, rfl, y1, y2, rfl, pr2, up.at_⟩
      · have hk4 : ¬ u.kind < 4 := fun z => hk (hK4.mpr z)
        obtain ⟨ds, en, sd, ln, gt⟩ := Sh_items sx hk4
        obtain ⟨ds2, en2, sd2, ln2, gt2⟩ := Sh_items sy hk4
        generalize hus : u.items = us at en sd sd2
        have hl1 := sd.length
        have hl2 := sd2.length
        have hul := nodesTs_len us
        have hdl := nodesTs_len ts'
        have el : ds2.length = ds.length := by omega
        simp only at ln ln2 gt gt2
        rw [el] at ln2 gt2
        simp [ln _ pr2, ln2 _ pr2]
        refine run_sFor (iRg1_wp ?_)
        simp [ln _ pr2]
        refine ⟨by unfold Sm; omega, ?_⟩
        refine run_colR (H := fun h' => h <+: h') (a := h.length) (fun ρ => ∃ x8, ρ = [some d1, some d2, some (.bl b), some (.loc h.length), some x, some y, some (.int K), some (.int K), x8]) (fun j => [.tup [ds.getD j .non, ds2.getD j .non]]) ⟨_, rfl⟩ pr2 up.at_ ?_ ?_ ?_
        · rw [sizeLine_eq]
          have := len_flatX (List.range ds.length) (fun j => [Dt.tup [ds.getD j .non, ds2.getD j .non]]) 1 (by simp)
          simp only [List.length_range, List.length_map] at *
          omega
        · rintro j ρ h3 acc hj ⟨x8, rfl⟩ pr3 e3 el3 O3 t3
          obtain ⟨h4, f4, u4⟩ := app1 (v := .tup [ds.getD j .non, ds2.getD j .non]) e3 (by simpa using el3)
          have g1 := gt _ pr3 j hj
          have g2 := gt2 _ pr3 j hj
          generalize ds.getD j Dt.non = dj at *
          generalize ds2.getD j Dt.non = dj2 at *
          simp [isLst_lst e3, g1, g2, f4]
          exact t3.N _ _ ⟨⟨_, rfl⟩, u4.pre pr3 (Nat.le_refl _), u4.at_⟩
        · rintro ρ h3 ⟨x8, rfl⟩ pr3 e3
          rw [run_nx0]
          refine tb.N _ _ ⟨nodesTs (ts' ++ us), by rw [nodesTs_app]; omega, by rw [nodesTs_app]; omega, L' ++ ds.zip ds2, ts' ++ us, _, _, _, _, _, rfl, ?_, ?_, rfl, pr3, ?_⟩
          · rw [List.map_append, List.map_fst_zip (by omega)]; exact y1.append sd
          · rw [List.map_append, List.map_snd_zip (by omega)]; exact y2.append sd2
          · rw [e3, List.map_append]
            congr 3
            rw [← List.map_eq_flatMap]
            apply List.ext_getElem
            · simp [el]
            · intro i h1 h2
              have h3 : i < ds.length := by simpa using h1
              simp [h3, el]
end K77
end
section
set_option maxRecDepth 20000
namespace EP
open PySem L2
section
variable {h : MH}
theorem eqv_wD : ∀ (a b : List Int), eqv (wD a) (wD b) = decide (a = b) := by
  intro a b
  simp only [eqv, wD, Dt.py, PyData.eqv]
  have key : ∀ a b : List Int, PyData.eqvAll (pys (a.map .int)) (pys (b.map .int)) = decide (a = b) := by
    intro a
    induction a with
    | nil => intro b; cases b <;> simp [pys, PyData.eqvAll]
    | cons x r ih =>
      intro b
      cases b with
      | nil => simp [pys, PyData.eqvAll]
      | cons y s =>
        simp only [List.map_cons, pys, PyData.eqvAll, ih, Dt.py, PyData.eqv]
        by_cases h1 : x = y <;> by_cases h2 : r = s <;> simp [h1, h2]
  exact key a b
theorem wD_plain (a : List Int) : (wD a).plain = true ∧ (wD a).dep ≤ 59 := by
  constructor
  · show plains (a.map .int) = true
    rw [plains_all, List.all_eq_true]
    intro d hd
    obtain ⟨x, _, rfl⟩ := List.mem_map.mp hd
    rfl
  · show deps (a.map .int) + 1 ≤ 59
    have : deps (a.map .int) ≤ 0 := by
      induction a with
      | nil => simp [deps]
      | cons x r ih => simp [deps, Dt.dep]; omega
    omega
theorem in_wL {ng : Bool} {n : Nat} {rs : List (List Int)} {r : List Int} (e : h[n]? = some (.lst (rs.map wD))) : oIn ng (wD r) (.loc n) h = .ok (.bl (if ng then !decide (r ∈ rs) else decide (r ∈ rs))) h := by
  have h1 : (wD r).eqOk = true := int_ok r
  have h2 : (Dt.tup (rs.map wD)).eqOk = true := eqOk_tup (by
    intro d hd
    obtain ⟨x, _, rfl⟩ := List.mem_map.mp hd
    exact wD_plain x)
  have h3 : ((rs.map wD).any fun z => eqv z (wD r)) = decide (r ∈ rs) := by
    rw [List.any_map, Bool.eq_iff_iff, List.any_eq_true, decide_eq_true_eq]
    constructor
    · rintro ⟨q, hq, e⟩
      simp only [Function.comp, eqv_wD, decide_eq_true_eq] at e
      exact e ▸ hq
    · intro hm
      exact ⟨r, hm, by simp [eqv_wD]⟩
  simp only [oIn, e, h1, h2, and_self, if_true, h3]
/-- two rows of one kind -/
def RowAt (tp : Bool) (h : MH) (d : Dt) (r : List Int) : Prop := match tp with
  | true => d = wD r
  | false => ∃ n, d = .loc n ∧ h[n]? = some (.lst (r.map .int))
theorem RowAt.pre {tp : Bool} {h h' : MH} {d : Dt} {r : List Int} (x : RowAt tp h d r) (p : h <+: h') : RowAt tp h' d r := by
  cases tp with
  | true => exact x
  | false => obtain ⟨n, e, q⟩ := x; exact ⟨n, e, pre_get p q⟩
theorem RowAt.len {tp : Bool} {d : Dt} {r : List Int} (x : RowAt tp h d r) : bLen [d] h = .ok (.int (r.length : Nat)) h := by
  cases tp with
  | true => cases x; simp
  | false => obtain ⟨n, rfl, q⟩ := x; rw [len_lst q, List.length_map]
theorem RowAt.get {tp : Bool} {d : Dt} {r : List Int} (x : RowAt tp h d r) {i : Nat} (hi : i < r.length) : oGet d (.int (i : Nat)) h = .ok (.int r[i]) h := by
  cases tp with
  | true => cases x; exact get_nat (by simp [hi])
  | false => obtain ⟨n, rfl, q⟩ := x; exact get_lst q (by omega) (by simp [hi])
theorem RowAt.ne {tp : Bool} {d e : Dt} {r s : List Int} (x : RowAt tp h d r) (y : RowAt tp h e s) : oEq true d e h = .ok (.bl (!decide (r = s))) h := by
  have h1 : (wD r).eqOk = true := int_ok r
  have h2 : (wD s).eqOk = true := int_ok s
  cases tp with
  | true =>
    cases x; cases y
    show (if _ then _ else _) = _
    rw [if_pos ⟨h1, h2⟩, eqv_wD]
    simp
  | false =>
    obtain ⟨n, rfl, q⟩ := x
    obtain ⟨m, rfl, u⟩ := y
    have e1 : getL h n = some (r.map .int) := by simp [getL, q]
    have e2 : getL h m = some (s.map .int) := by simp [getL, u]
    have := eqv_wD r s
    unfold wD at this h1 h2
    simp only [oEq, e1, e2, eqL, h1, h2, and_self, if_true, this]
end
end EP
namespace K77
open PySem L2 EP
variable {k : Nat} {h : MH} {P : Nat → Prop} {Q : Dt → MH → Prop} {X : Str → Fs → MH → Prop}
theorem so_ref : PyData.strOk "refused" = true := by decide +kernel
theorem law_refused {s : Str} {d : Dt} : callK D (k + 1) i_law_refused [.str s, d] h = .ok (rfD s d) h := by
  rw [call_eq (md := D_law_refused) rfl rfl, run_s]
  simp [m_law_refused, rfD]
theorem law_holds {d : Dt} {s : Str} {r : List Dt} {t : Tr} (so : PyData.strOk s = true) (s1 : Sh P h d t) (s2 : Sh P h (.tup (.str s :: r)) t) (hn : t.nodes < 900000) (q : ∀ h', h <+: h' → Q (.bl true) h') : WE (callK D (k + 3) i_law_holds [d, .tup (.str s :: r)] h) Q X := by
  refine call_wp (md := D_law_holds) rfl rfl fun O oN oQ oX => ?_
  simp [m_law_holds, eq_str so so_ref]
  exact law_equal s1 s2 hn fun h' p => oQ _ _ (q h' p)
theorem law_first_wrong {base : Int} {rows : Dt} {R : List (List Tr)} (s : Sh P h rows (.lst (R.map .lst))) (q1 : fw base R = none → ∀ h', h <+: h' → Q .non h') (q2 : ∀ w, fw base R = some w → ∀ h', h <+: h' → Q (wrD w) h') : WE (callK D (k + 2) i_law_first_wrong [.int base, rows] h) Q X := by
  refine call_wp (md := D_law_first_wrong) rfl rfl fun O oN oQ oX => ?_
  obtain ⟨a, ds, rfl, pa, e0, sr⟩ := s.list
  have hl := sr.length
  rw [List.length_map] at hl
  simp [m_law_first_wrong, len_lst e0]
  refine run_ite (fun h0 => ?_) (fun h0 => ?_)
  · have hR : R = [] := by
      subst h0
      exact List.length_eq_zero_iff.mp hl.symm
    have := q2 .noSp (by unfold fw; rw [if_pos hR]) h (pre_refl _)
    simp [law_refused]
    exact oQ _ _ this
  have hR : R ≠ [] := by rintro rfl; exact h0 (List.length_eq_zero_iff.mp hl)
  simp [len_lst e0]
  refine run_ite (fun h1 => ?_) (fun h1 => ?_)
  · have := q2 .many (by unfold fw; rw [if_neg hR, if_pos (by omega)]) h (pre_refl _)
    simp [law_refused]
    exact oQ _ _ this
  have hfw : fw base R = (List.range R.length).findSome? (rowV base R) := by unfold fw; rw [if_neg hR, if_neg (by omega)]
  simp
  refine run_sFor (iRg1_wp ?_)
  have e1 : (h ++ [MO.lst []])[a]? = some (.lst ds) := pre_get (pre_app _ _) e0
  simp [len_lst e1]
  refine ⟨sm_nat (by omega), ?_⟩
  refine run_rng (fun i ρ h' => (h <+: h' ∧ ∀ j, j < i → rowV base R j = none) ∧ (∃ x3 x4 x5, ρ = [some (.int base), some (.loc a), some (.loc h.length), x3, x4, x5]) ∧ h'[h.length]? = some (.lst (((R.take i).map intsT).map wD))) ⟨⟨pre_app _ _, fun j hj => absurd hj (Nat.not_lt_zero _)⟩, ⟨none, none, none, rfl⟩, by simp⟩ ?_ ?_
  · rintro x ρ h1 hi ⟨⟨pr, hv⟩, ⟨x3, x4, x5, rfl⟩, eS⟩ O2 t2
    have hiR : x < R.length := by omega
    have sx := (sr.at_ (i := x) (by simpa using hiR))
    have s0 := (sr.at_ (i := 0) (by simp; omega))
    simp only [List.getElem_map] at sx s0
    obtain ⟨b, es, eb, pb, eb0, sb⟩ := sx.list
    obtain ⟨c, cs, ec, pc, ec0, sc⟩ := s0.list
    have gx : R.getD x [] = R[x] := by simp [hiR]
    have g0 : R.getD 0 [] = R[0] := by simp [List.getD_eq_getElem?_getD, show 0 < R.length by omega]
    have eb1 := pre_get pr eb0
    have ec1 := pre_get pr ec0
    have ea1 := pre_get pr e0
    have gz : oGet (.loc a) (.int 0) h1 = .ok (.loc c) h1 := get_lst ea1 (by omega) (by rw [← ec]; exact sr.ix (i := 0) (by simp; omega))
    have gxx : oGet (.loc a) (.int (x : Nat)) h1 = .ok (.loc b) h1 := get_lst ea1 (by omega) (by rw [← eb]; exact sr.ix (i := x) (by simpa using hiR))
    have lb := sb.length
    have lc := sc.length
    have hlk : lenOk R (R.getD x []) = ((decide (1 ≤ es.length) && decide (es.length ≤ 8)) && decide (es.length = cs.length)) := by
      unfold lenOk; rw [gx, g0, lb, lc]
    simp [-sIf_s, gxx]
    refine run_sIf (!lenOk R (R.getD x [])) (h1 := h1) ?_ (fun hc => ?_) (fun hc => ?_)
    · rw [hlk]
      simp [len_lst eb1, len_lst ec1, gz, if_ok]
      by_cases hb : (es.length : Int) < 1 ∨ 8 < (es.length : Int)
      · rw [if_pos hb]
        congr 1
        symm
        simp only [Bool.or_eq_true, Bool.not_eq_true', decide_eq_false_iff_not]
        omega
      · rw [if_neg hb]
        congr 1
        rw [Bool.eq_iff_iff]
        simp only [Bool.or_eq_true, Bool.not_eq_true', decide_eq_false_iff_not]
        omega
    · have hb : lenOk R (R.getD x []) = false := by simpa using hc
      have := q2 (.badSp x) (by rw [hfw]; exact findSome_at hiR hv (by unfold rowV; rw [if_pos hb])) h1 pr
      simp [law_refused]
      exact t2.Q _ _ (oQ _ _ this)
    have hlen : lenOk R (R.getD x []) = true := by simpa using hc
    clear hc
    rw [hlk] at hlen
    simp only [Bool.and_eq_true, decide_eq_true_eq] at hlen
    obtain ⟨⟨l1, l2⟩, l3⟩ := hlen
    have hlk1 : lenOk R (R.getD x []) = true := by rw [hlk]; simp [l3]; omega
    have hr1 : ∀ y, R[x].findIdx? (fun t => !t.blw base) = some y → rowV base R x = some (.badNum y) := fun y e => by
      unfold rowV; rw [hlk1, gx, e]; rfl
    have hr2 : R[x].findIdx? (fun t => !t.blw base) = none → rowV base R x = if intsT R[x] ∈ (R.take x).map intsT then some (.badSp x) else none := fun e => by
      unfold rowV; rw [hlk1, gx, e]; rfl
    simp
    refine run_sFor (iRg1_wp ?_)
    simp [len_lst eb1]
    refine ⟨sm_nat (by omega), ?_⟩
    refine run_rng (fun i ρ h' => (h' = h1 ∧ ∀ (j : Nat) (hj : j < R[x].length), j < i → R[x][j].blw base = true) ∧ (∃ x5, ρ = [some (.int base), some (.loc a), some (.loc h.length), some (.int (x : Nat)), some (.loc b), x5])) ⟨⟨rfl, fun j _ hj => absurd hj (Nat.not_lt_zero _)⟩, ⟨x5, rfl⟩⟩ ?_ ?_
    · rintro y ρ h' hyl ⟨⟨rfl, hb⟩, ⟨x5, rfl⟩⟩ O3 t3
      have hyR : y < R[x].length := by omega
      have sy := (sb.at_ hyR).pre pr
      have gy : oGet (.loc b) (.int (y : Nat)) h' = .ok (es.getD y .non) h' := get_lst eb1 (by omega) (sb.ix hyR)
      generalize es.getD y Dt.non = dy at sy gy
      simp [-sIf_s]
      refine run_sIf (!R[x][y].blw base) (h1 := h') ?_ (fun hc => ?_) (fun hc => ?_)
      · have hw := law_is_whole (k := k) sy
        generalize R[x][y] = t at sy hw
        cases sy with
        | int i =>
          simp [gy, hw, Tr.whole, Tr.blw, if_ok]
        | _ => simp [gy, hw, Tr.whole, Tr.blw]
      · have hbn : R[x][y].blw base = false := by simpa using hc
        have hf : R[x].findIdx? (fun t => !t.blw base) = some y := by
          rw [List.findIdx?_eq_some_iff_getElem]
          exact ⟨hyR, by simp [hbn], fun j hj => by simp [hb j (by omega) hj]⟩
        have := q2 (.badNum y) (by rw [hfw]; exact findSome_at hiR hv (hr1 _ hf)) h' pr
        simp [law_refused]
        exact t3.Q _ _ (t2.Q _ _ (oQ _ _ this))
      · simp
        refine t3.N _ _ ⟨⟨rfl, fun j hj hji => ?_⟩, ⟨_, rfl⟩⟩
        by_cases hjy : j = y
        · subst hjy; simpa using hc
        · exact hb j hj (by omega)
    · rintro ρ h' ⟨⟨rfl, hb⟩, ⟨x5, rfl⟩⟩
      rw [lb] at hb
      have hall : ∀ t ∈ R[x], t.blw base = true := fun t ht => by
        obtain ⟨j, hj, rfl⟩ := List.getElem_of_mem ht
        exact hb j hj hj
      have hf : R[x].findIdx? (fun t => !t.blw base) = none := by
        rw [List.findIdx?_eq_none_iff]
        intro t ht; simp [hall t ht]
      have hrv := hr2 hf
      obtain ⟨i1, i2, i3⟩ := intsT_of hall
      rw [i1] at sb
      have ee := Shs.ints_eq sb
      have tt : bTuple [.loc b] h' = .ok (wD (intsT R[x])) h' := by rw [tuple_lst eb1, ee]
      simp only [run_nx, run_seq]
      refine run_sIf (decide (intsT R[x] ∈ (R.take x).map intsT)) (h1 := h') (by have := in_wL (ng := false) (r := intsT R[x]) eS; simp at this; simp [tt, this]) (fun hc => ?_) (fun hc => ?_)
      · have hm : intsT R[x] ∈ (R.take x).map intsT := by simpa using hc
        have := q2 (.badSp x) (by rw [hfw]; exact findSome_at hiR hv (by rw [hrv]; exact if_pos hm)) h' pr
        simp [law_refused]
        exact t2.Q _ _ (oQ _ _ this)
      · have hm : ¬ intsT R[x] ∈ (R.take x).map intsT := by simpa using hc
        obtain ⟨h2, f2, u2⟩ := app1 (v := wD (intsT R[x])) eS (by rw [sizeLine_eq]; simp; omega)
        simp [isLst_lst eS, tt, f2]
        refine t2.N _ _ ⟨⟨u2.pre pr (Nat.le_refl _), fun j hj => ?_⟩, ⟨_, _, _, rfl⟩, ?_⟩
        · by_cases hjx : j = x
          · subst hjx; rw [hrv]; exact if_neg hm
          · exact hv j (by omega)
        · rw [u2.at_, List.take_succ, List.getElem?_eq_getElem hiR]
          simp only [List.map_append, Option.toList_some, List.map_cons, List.map_nil]
  · rintro ρ h1 ⟨⟨pr, hv⟩, ⟨x3, x4, x5, rfl⟩, _⟩
    rw [hl] at hv
    simp
    exact oQ _ _ (q1 (by rw [hfw]; exact findSome_none hv) h1 pr)
end K77
end
section
set_option maxRecDepth 20000
namespace EP
open PySem L2
def sumZ (M : List (List Int)) (S : List (List Int)) (i j : Nat) : Int := ((List.range (S.getD i []).length).map fun x => mAt M ((S.getD i []).getD x 0) ((S.getD j []).getD x 0)).sum
def hamF (S : List (List Int)) (i j : Nat) : Int := ((List.range (S.getD i []).length).map fun x => if (S.getD i []).getD x 0 = (S.getD j []).getD x 0 then (0 : Int) else 1).sum
def lawF (dist : Bool) (ws : List Word) (S : List (List Int)) (i j : Nat) : Int := if dist = true then hamF S i j else sumZ (lessM ws) S i j - 1
structure RowsAt (tp : Bool) (h : MH) (ds : List Dt) (S : List (List Int)) : Prop where
  len : ds.length = S.length
  at_ : ∀ i (hi : i < S.length), RowAt tp h (ds.getD i .non) S[i]
theorem RowsAt.pre {tp : Bool} {h h' : MH} {ds : List Dt} {S : List (List Int)} (x : RowsAt tp h ds S) (p : h <+: h') : RowsAt tp h' ds S := ⟨x.len, fun i hi => (x.at_ i hi).pre p⟩
theorem mAt_get {M : List (List Int)} {a b : Int} (ha : 0 ≤ a ∧ a < M.length) (hb : 0 ≤ b ∧ b < M.length) (hM : ∀ r ∈ M, r.length = M.length) : ∃ (h1 : a.toNat < M.length) (h2 : b.toNat < M[a.toNat].length), mAt M a b = M[a.toNat][b.toNat] := by
  have h1 : a.toNat < M.length := by omega
  have h2 : b.toNat < M[a.toNat].length := by rw [hM _ (List.getElem_mem h1)]; omega
  refine ⟨h1, h2, ?_⟩
  unfold mAt
  have : M.getD a.toNat [] = M[a.toNat] := by simp [h1]
  rw [this]; simp [h2]
theorem lessM_len (ws : List Word) : (lessM ws).length = ws.length ∧ ∀ r ∈ lessM ws, r.length = (lessM ws).length := by
  unfold lessM
  refine ⟨by simp, fun r hr => ?_⟩
  obtain ⟨a, _, rfl⟩ := List.mem_map.mp hr
  simp
end EP
namespace K77
open PySem L2 EP
variable {k : Nat} {h : MH} {P : Nat → Prop} {Q : Dt → MH → Prop} {X : Str → Fs → MH → Prop}
/-- the table of differences -/
theorem less_table {c : Nat} {w a : Nat} {x2 : Option Dt} {ws : List Word} {ρ : EP.Env} {Q : Dt → MH → Prop} {X : Str → Fs → MH → Prop} (e : ρ[0]? = some (some (.loc w))) (e8 : ρ.length = 8) (ew : h[w]? = some (.lst (ws.map wD))) (hl : ws.length ≤ 64) (hw : ∀ x ∈ ws, x.length ≤ 64)
    (q : ∀ d h', h <+: h' → Sh (fun _ => True) h' d (.lst ((lessM ws).map rT)) → Q d h') :
    WE (eLc (iSeq (eVar 0)) (.nm 5) EP.tYes (eLc (iSeq (eVar 0)) (.nm 4) EP.tYes (eBf bLen (aCons (eCall i_law_less (aCons (eVar 5) (aCons (eVar 4) aNil))) aNil)) [4]) [5] (callK D (k + 1)) ρ h) Q X := by
  obtain ⟨r0, r1, r2, r3, r4, r5, r6, r7, rfl⟩ : ∃ r0 r1 r2 r3 r4 r5 r6 r7, ρ = [r0, r1, r2, r3, r4, r5, r6, r7] := by
    match ρ, e8 with
    | [r0, r1, r2, r3, r4, r5, r6, r7], _ => exact ⟨_, _, _, _, _, _, _, _, rfl⟩
  simp at e
  subst e
  refine lc_it ?_
  simp [itOf_lst ew]
  refine lc_sh (f := wD) (xs := ws) (fun _ => True) (h1 := h) rfl (hi_lstA fun h' p => pre_get p ew) (fun a => rT (ws.map fun b => ((EP.less a b).length : Int))) (by rw [sizeLine_eq]; omega) ?_ ?_
  · intro a ha
    refine ⟨_, rfl, fun h' p3 hlt => ?_⟩
    refine lc_it ?_
    simp [itOf_lst (pre_get p3 ew)]
    refine lc_wpm (f := wD) (xs := ws) (h1 := h') rfl (hi_lstA fun h'' p => pre_get (p3.trans p) ew) (fun b => .int ((EP.less a b).length : Nat)) (by rw [sizeLine_eq]; omega) ?_ ?_
    · intro b hb
      refine ⟨_, rfl, fun h3 p4 => ?_⟩
      simp
      refine law_less_wp (by have := hw a ha; omega) fun h4 p5 => ?_
      simp
      exact p5
    · intro h3 p4 e4
      refine ⟨p4, .lst (by omega) e4 ?_⟩
      rw [show ws.map (fun b => Dt.int ((EP.less a b).length : Nat)) = (ws.map fun b => ((EP.less a b).length : Int)).map Dt.int by rw [List.map_map]; rfl]
      exact Shs.ints _
  · intro h3 ds p3 e3 s3
    refine q _ _ p3 (.lst trivial e3 ?_)
    have : (lessM ws).map rT = ws.map fun a => rT (ws.map fun b => ((EP.less a b).length : Int)) := by unfold lessM; rw [List.map_map]; rfl
    rw [this]; exact s3
theorem so_dist : PyData.strOk "distance" = true := by decide +kernel
theorem law_least {tp : Bool} {w a : Nat} {ws : List Word} {ds : List Dt} {S : List (List Int)} {s : Str} (so : PyData.strOk s = true) (ew : h[w]? = some (.lst (ws.map wD))) (hl : ws.length ≤ 64) (hw : ∀ x ∈ ws, x.length ≤ 64) (ea : h[a]? = some (.lst ds)) (rs : RowsAt tp h ds S) (h64 : S.length ≤ 64) (nd : S.Nodup)
    (hr : ∀ r ∈ S, r.length = (S.getD 0 []).length ∧ r.length ≤ 64) (hin : s ≠ "distance" → ∀ r ∈ S, ∀ i ∈ r, 0 ≤ i ∧ i < ws.length)
    (q : ∀ h', h <+: h' → Q (optD (minO (allL (lawF (decide (s = "distance")) ws S) S.length S.length))) h') : WE (callK D (k + 2) i_law_least [.loc w, .loc a, .str s] h) Q X := by
  refine call_wp (md := D_law_least) rfl rfl fun O oN oQ oX => ?_
  simp only [m_law_least, run_seq, sSet_s, run_bndS]
  refine less_table (c := 0) (a := 0) (x2 := none) (by rfl) (by rfl) ew hl hw fun dt ht pt st => ?_
  obtain ⟨c, ms, rfl, _, ec, sm⟩ := st.list
  have hML := lessM_len ws
  have hml := sm.length
  rw [List.length_map, hML.1] at hml
  simp
  refine run_sFor ?_
  have ea1 := pre_get (pt.trans (pre_app ht [.lst []])) ea
  simp [itOf_lst ea1]
  have hsl := sizeLine_eq
  have hdl := rs.len
  have hia : ∀ {h0 : MH}, ht <+: h0 → HI (itL a ds.length) (fun h' => h0 <+: h') ds := fun p => hi_lst fun h' p2 => pre_get (pt.trans (p.trans p2)) ea
  refine run_wk (hi_ix (hia (pre_refl ht))) (fun i ρ h' => ht <+: h' ∧ (∃ x4 x5 x7, ρ = [some (.loc w), some (.loc a), some (.str s), some (.loc c), x4, x5, some (.loc ht.length), x7]) ∧ h'[ht.length]? = some (.lst ((allL (lawF (decide (s = "distance")) ws S) S.length i).map .int))) (fun _ _ _ q => q.1) ⟨pre_app _ _, ⟨none, none, none, rfl⟩, by simp [allL]⟩ ?_ ?_
  · rintro i x ρ h1 hx ⟨pr, ⟨x4, x5, x7, rfl⟩, eS⟩
    obtain ⟨hi, rfl⟩ := range_at hx
    have hxS : x < S.length := by omega
    refine ⟨_, rfl, fun O2 t2 => ?_⟩
    have rx := rs.at_ x hxS
    generalize ds.getD x Dt.non = dx at rx
    refine run_sFor ?_
    simp [itOf_lst (pre_get (pt.trans pr) ea)]
    refine run_wk (hi_ix (hia (pre_refl ht))) (fun j ρ h' => ht <+: h' ∧ (∃ x4 x7, ρ = [some (.loc w), some (.loc a), some (.str s), some (.loc c), x4, some dx, some (.loc ht.length), x7]) ∧ h'[ht.length]? = some (.lst ((allL (lawF (decide (s = "distance")) ws S) S.length x ++ rowL (lawF (decide (s = "distance")) ws S) x j).map .int))) (fun _ _ _ q => q.1) ⟨pr, ⟨x4, x7, rfl⟩, by simpa [rowL] using eS⟩ ?_ ?_
    · rintro j y ρ h2 hy ⟨pr2, ⟨x4, x7, rfl⟩, eS2⟩
      obtain ⟨hj, rfl⟩ := range_at hy
      have hyS : y < S.length := by omega
      refine ⟨_, rfl, fun O3 t3 => ?_⟩
      have ry := rs.at_ y hyS
      generalize ds.getD y Dt.non = dy at ry
      have rx2 := rx.pre (pt.trans pr2)
      have ry2 := ry.pre (pt.trans pr2)
      have hne := rx2.ne ry2
      have hdec : decide (S[x] = S[y]) = decide (x = y) := by
        by_cases hxy : x = y
        · subst hxy; simp
        · have : S[x] ≠ S[y] := fun e => hxy ((List.getElem_inj nd).mp e)
          simp [hxy, this]
      rw [hdec] at hne
      refine run_sIf (!decide (x = y)) (h1 := h2) (by simp [hne]) (fun hc => ?_) (fun hc => ?_)
      · have hxy : ¬ x = y := by simpa using hc
        have lx := rx2.len
        have r1 := hr _ (List.getElem_mem hxS)
        have r2 := hr _ (List.getElem_mem hyS)
        have gSx : S.getD x [] = S[x] := by simp [hxS]
        have gSy : S.getD y [] = S[y] := by simp [hyS]
        have key : allL (lawF (decide (s = "distance")) ws S) S.length x ++ rowL (lawF (decide (s = "distance")) ws S) x (y + 1) = (allL (lawF (decide (s = "distance")) ws S) S.length x ++ rowL (lawF (decide (s = "distance")) ws S) x y) ++ [lawF (decide (s = "distance")) ws S x y] := by
          rw [rowL_succ, if_neg hxy, List.append_assoc]
        rw [key] at t3
        have hlen : (allL (lawF (decide (s = "distance")) ws S) S.length x ++ rowL (lawF (decide (s = "distance")) ws S) x y).length ≤ 64 * 64 + 64 := by
          rw [List.length_append]
          have a1 := len_allL (lawF (decide (s = "distance")) ws S) S.length x
          have a2 := len_rowL (lawF (decide (s = "distance")) ws S) x y
          have : x * S.length ≤ 64 * 64 := Nat.mul_le_mul (by omega) h64
          omega
        generalize allL (lawF (decide (s = "distance")) ws S) S.length x ++ rowL (lawF (decide (s = "distance")) ws S) x y = L at t3 eS2 hlen
        refine run_sIf (decide (s = "distance")) (h1 := h2) (by simp [eq_str so so_dist]) (fun hd => ?_) (fun hd => ?_)
        · have hs : s = "distance" := by simpa using hd
          simp [isLst_lst eS2]
          refine lc_it ?_
          refine iRg1_wp ?_
          simp [lx]
          refine ⟨sm_nat (by omega), ?_⟩
          refine lc_wpm (f := fun i : Nat => Dt.int (i : Nat)) (xs := List.range S[x].length) rfl hi_rng0 (fun z => .int (if S[x].getD z 0 = S[y].getD z 0 then 0 else 1)) (by rw [sizeLine_eq, List.length_range]; omega) ?_ ?_
          · intro z hz
            have hz : z < S[x].length := by simpa using hz
            have hz2 : z < S[y].length := by omega
            refine ⟨_, rfl, fun h' p' => ?_⟩
            have g1 := (rx2.pre p').get hz
            have g2 := (ry2.pre p').get hz2
            by_cases hzz : S[x][z] = S[y][z] <;> simp [g1, g2, hz, hz2, hzz]
          · intro h3 p3 e3
            have e3' : h3[h2.length]? = some (.lst (((List.range S[x].length).map fun z => if S[x].getD z 0 = S[y].getD z 0 then (0 : Int) else 1).map Dt.int)) := by rw [e3, List.map_map]; rfl
            have hv : ((List.range S[x].length).map fun z => if S[x].getD z 0 = S[y].getD z 0 then (0 : Int) else 1).sum = lawF (decide (s = "distance")) ws S x y := by
              unfold lawF hamF; rw [if_pos (by simpa using hs), gSx, gSy]
            obtain ⟨h4, f4, u4⟩ := app1 (v := .int (lawF (decide (s = "distance")) ws S x y)) (pre_get p3 eS2) (by rw [sizeLine_eq, List.length_map]; omega)
            simp only [sum_lst e3', hv, bnd_ok, we_ok, f4, run_nx0]
            refine t3.N _ _ ⟨u4.pre (pr2.trans p3) (Nat.le_refl _), ⟨_, _, rfl⟩, ?_⟩
            rw [u4.at_, List.map_append]; rfl
        · have hs : ¬ s = "distance" := by simpa using hd
          have hin := hin hs
          simp [isLst_lst eS2]
          refine lc_it ?_
          refine iRg1_wp ?_
          simp [lx]
          refine ⟨sm_nat (by omega), ?_⟩
          refine lc_wpm (f := fun i : Nat => Dt.int (i : Nat)) (xs := List.range S[x].length) rfl hi_rng0 (fun z => .int (mAt (lessM ws) (S[x].getD z 0) (S[y].getD z 0))) (by rw [sizeLine_eq, List.length_range]; omega) ?_ ?_
          · intro z hz
            have hz : z < S[x].length := by simpa using hz
            have hz2 : z < S[y].length := by omega
            refine ⟨_, rfl, fun h' p' => ?_⟩
            have g1 := (rx2.pre p').get hz
            have g2 := (ry2.pre p').get hz2
            have i1 := hin _ (List.getElem_mem hxS) _ (List.getElem_mem hz)
            have i2 := hin _ (List.getElem_mem hyS) _ (List.getElem_mem hz2)
            obtain ⟨m1, m2, em⟩ := mAt_get (M := lessM ws) (a := S[x][z]) (b := S[y][z]) (by rw [hML.1]; exact i1) (by rw [hML.1]; exact i2) hML.2
            have su := sm.at_ (i := S[x][z].toNat) (by simpa using m1)
            rw [List.getElem_map] at su
            obtain ⟨o, os, eo, po, eo0, so⟩ := su.list
            have eos := Shs.ints_eq so
            subst eos
            have q1 : oGet (.loc c) (.int S[x][z]) h' = .ok (.loc o) h' := get_lst (pre_get (pr2.trans p') ec) i1.1 (by rw [← eo]; exact sm.ix (by simpa using m1))
            have q2 : oGet (.loc o) (.int S[y][z]) h' = .ok (.int (lessM ws)[S[x][z].toNat][S[y][z].toNat]) h' := get_lst (pre_get (pr2.trans p') eo0) i2.1 (by rw [List.getElem?_map, List.getElem?_eq_getElem m2]; rfl)
            simp [g1, g2, q1, q2, hz, hz2, em]
          · intro h3 p3 e3
            have e3' : h3[h2.length]? = some (.lst (((List.range S[x].length).map fun z => mAt (lessM ws) (S[x].getD z 0) (S[y].getD z 0)).map Dt.int)) := by rw [e3, List.map_map]; rfl
            have hv : ((List.range S[x].length).map fun z => mAt (lessM ws) (S[x].getD z 0) (S[y].getD z 0)).sum - 1 = lawF (decide (s = "distance")) ws S x y := by
              unfold lawF sumZ; rw [if_neg (by simpa using hs), gSx, gSy]
            obtain ⟨h4, f4, u4⟩ := app1 (v := .int (lawF (decide (s = "distance")) ws S x y)) (pre_get p3 eS2) (by rw [sizeLine_eq, List.length_map]; omega)
            simp only [sum_lst e3', bnd_ok, we_ok, sub_int, hv, f4, run_nx0]
            refine t3.N _ _ ⟨u4.pre (pr2.trans p3) (Nat.le_refl _), ⟨_, _, rfl⟩, ?_⟩
            rw [u4.at_, List.map_append]; rfl
      · have hxy : x = y := by simpa using hc
        have key : rowL (lawF (decide (s = "distance")) ws S) x (y + 1) = rowL (lawF (decide (s = "distance")) ws S) x y := by rw [rowL_succ, if_pos hxy, List.append_nil]
        rw [key] at t3
        simp
        exact t3.N _ _ ⟨pr2, ⟨_, _, rfl⟩, eS2⟩
    · rintro ρ h2 ⟨pr2, ⟨x4, x7, rfl⟩, eS2⟩
      rw [List.length_range, hdl, ← allL_succ] at eS2
      simp
      exact t2.N _ _ ⟨pr2, ⟨_, _, _, rfl⟩, eS2⟩
  · rintro ρ h1 ⟨pr, ⟨x4, x5, x7, rfl⟩, eS⟩
    rw [List.length_range, hdl] at eS
    have hq := q h1 (pt.trans pr)
    generalize allL (lawF (decide (s = "distance")) ws S) S.length S.length = L at eS hq
    simp [len_lst eS]
    refine run_ite (fun h0 => ?_) (fun h0 => ?_)
    · have hL : L = [] := by simpa using h0
      subst hL
      simp
      exact oQ _ _ hq
    · have hL : L ≠ [] := by rintro rfl; simp at h0
      have := min_lst eS hL
      rw [minL_spec hL] at hq
      simp [this]
      exact oQ _ _ hq
end K77
end
section
set_option maxRecDepth 20000
namespace EP
open PySem L2
theorem allL_congr {F G : Nat → Nat → Int} {m : Nat} (e : ∀ i j, i < m → j < m → F i j = G i j) : ∀ i, i ≤ m → allL F m i = allL G m i := by
  intro i
  induction i with
  | zero => intro _; rfl
  | succ i ih =>
    intro hi
    rw [allL_succ, allL_succ, ih (by omega)]
    congr 1
    unfold rowL
    refine List.map_congr_left fun j hj => ?_
    have := (List.mem_filter.mp hj).1
    exact e i j (by omega) (by simpa using this)
theorem allL_map (F : Nat → Nat → Int) (f : Int → Int) (m i : Nat) : allL (fun a b => f (F a b)) m i = (allL F m i).map f := by
  induction i with
  | zero => rfl
  | succ i ih =>
    rw [allL_succ, allL_succ, ih, List.map_append]
    congr 1
    unfold rowL
    rw [List.map_map]; rfl
theorem zip_range {α : Type} (a b : List Int) (g : Int → Int → α) (e : a.length = b.length) : (a.zip b).map (fun q => g q.1 q.2) = (List.range a.length).map fun x => g (a.getD x 0) (b.getD x 0) := by
  apply List.ext_getElem
  · simp [e]
  · intro i h1 h2
    have h3 : i < a.length := by simpa using h2
    simp [h3, show i < b.length by omega]
theorem getD_mem {S : List (List Int)} {i : Nat} (h : i < S.length) : S.getD i [] ∈ S := by
  have : S.getD i [] = S[i] := by simp [h]
  rw [this]; exact List.getElem_mem h
theorem getD_mem0 {l : List Int} {x : Nat} (h : x < l.length) : l.getD x 0 ∈ l := by
  have : l.getD x 0 = l[x] := by simp [h]
  rw [this]; exact List.getElem_mem h
theorem sumF_Z {base : Int} {S : List (List Int)} (ok : SpOk base S) (M : List (List Int)) {i j : Nat} (hi : i < S.length) (hj : j < S.length) : sumF M S i j = sumZ M S i j := by
  have h1 := (ok.one _ (getD_mem hi)).2.2.1
  have h2 := (ok.one _ (getD_mem hj)).2.2.1
  unfold sumF sumZ
  rw [zip_range _ _ (mAt M) (by omega)]
theorem mAt_ham {a b : Int} (ha : 0 ≤ a ∧ a < 64) (hb : 0 ≤ b ∧ b < 64) : mAt hamM a b = if a = b then 0 else 1 := by
  unfold mAt hamM
  have h1 : a.toNat < 64 := by omega
  have h2 : b.toNat < 64 := by omega
  simp [h1, h2]
  by_cases h : a = b
  · simp [h]
  · have : ¬ a.toNat = b.toNat := by omega
    simp [h, this]
theorem sumF_ham {S : List (List Int)} (ok : SpOk 64 S) {i j : Nat} (hi : i < S.length) (hj : j < S.length) : sumF hamM S i j = hamF S i j := by
  rw [sumF_Z ok hamM hi hj]
  have h1 := ok.one _ (getD_mem hi)
  have h2 := ok.one _ (getD_mem hj)
  unfold sumZ hamF
  congr 1
  refine List.map_congr_left fun x hx => ?_
  have hx : x < (S.getD i []).length := by simpa using hx
  have hx2 : x < (S.getD j []).length := by omega
  have m1 : (S.getD i []).getD x 0 ∈ S.getD i [] := getD_mem0 hx
  have m2 : (S.getD j []).getD x 0 ∈ S.getD j [] := getD_mem0 hx2
  exact mAt_ham (h1.2.2.2 _ m1) (h2.2.2.2 _ m2)
theorem lawF_even {base : Int} {S : List (List Int)} (ok : SpOk base S) (ws : List Word) : minO (allL (lawF false ws S) S.length S.length) = evenV ws S := by
  unfold evenV
  have e : allL (lawF false ws S) S.length S.length = allL (fun a b => sumF (lessM ws) S a b - 1) S.length S.length := allL_congr (fun i j hi hj => by
    unfold lawF; rw [if_neg (by simp), sumF_Z ok _ hi hj]) _ (Nat.le_refl _)
  rw [e, allL_map (sumF (lessM ws) S) (· - 1), minO_map (· - 1) (fun x y h => by omega)]
theorem lawF_dist {S : List (List Int)} (ok : SpOk 64 S) (ws : List Word) : minO (allL (lawF true ws S) S.length S.length) = distV S := by
  unfold distV
  have e : allL (lawF true ws S) S.length S.length = allL (sumF hamM S) S.length S.length := allL_congr (fun i j hi hj => by
    unfold lawF; rw [if_pos rfl, sumF_ham ok hi hj]) _ (Nat.le_refl _)
  rw [e]
section
variable {h : MH}
theorem ext_ex {n m : Nat} {xs ys : List Dt} (e : h[n]? = some (.lst xs)) (e2 : h[m]? = some (.lst ys)) (l : xs.length + ys.length ≤ sizeLine) : ∃ h', mExtend (.loc n) [.loc m] h = .ok .non h' ∧ Up n h h' (.lst (xs ++ ys)) := ⟨_, by simp [mExtend, e, e2, l], Up.of e⟩
end
end EP
namespace K77
open PySem L2 EP
variable {k : Nat} {h : MH} {P : Nat → Prop} {Q : Dt → MH → Prop} {X : Str → Fs → MH → Prop}
theorem so_let : PyData.strOk "letters" = true := by decide +kernel
theorem so_even : PyData.strOk "even" = true := by decide +kernel
/-- the first words of a due -/
theorem wrD_non (w : Wr) {h : MH} : oIs true (wrD w) .non h = .ok (.bl true) h := by cases w <;> rfl
theorem rows_tup {a : Nat} {ds : List Dt} {S : List (List Int)} {ρ : EP.Env} {G : Orc} {Q : Dt → MH → Prop} {X : Str → Fs → MH → Prop} (e2 : ρ[2]? = some (some (.loc a))) (e13 : ρ.length = 13) (ea : h[a]? = some (.lst ds)) (sr : Shs P h ds (S.map rT)) (hl : S.length ≤ 64)
    (q : ∀ b es h', h <+: h' → h'[b]? = some (.lst es) → RowsAt true h' es S → Q (.loc b) h') : WE (eLc (iSeq (eVar 2)) (.nm 7) EP.tYes (eBf bTuple (aCons (eVar 7) aNil)) [7] G ρ h) Q X := by
  obtain ⟨r0, r1, r2, r3, r4, r5, r6, r7, r8, r9, r10, r11, r12, rfl⟩ : ∃ r0 r1 r2 r3 r4 r5 r6 r7 r8 r9 r10 r11 r12, ρ = [r0, r1, r2, r3, r4, r5, r6, r7, r8, r9, r10, r11, r12] := by
    match ρ, e13 with
    | [r0, r1, r2, r3, r4, r5, r6, r7, r8, r9, r10, r11, r12], _ => exact ⟨_, _, _, _, _, _, _, _, _, _, _, _, _, rfl⟩
  simp at e2
  subst e2
  have hdl := sr.length
  rw [List.length_map] at hdl
  refine lc_it ?_
  simp [itOf_lst ea]
  refine lc_wpm (f := fun x : Nat => ds.getD x .non) (xs := List.range ds.length) rfl (hi_ix (hi_lst fun h' p => pre_get p ea)) (fun x => wD (S.getD x [])) (by rw [sizeLine_eq, List.length_range]; omega) ?_ ?_
  · intro x hx
    have hx : x < ds.length := by simpa using hx
    have hxS : x < S.length := by omega
    refine ⟨_, rfl, fun h' p3 => ?_⟩
    have sx := (sr.at_ (i := x) (by simpa using hxS)).pre p3
    rw [List.getElem_map] at sx
    obtain ⟨b, es, eb, pb, eb0, sb⟩ := sx.list
    have ebs := Shs.ints_eq sb
    subst ebs
    simp only [List.getD_eq_getElem?_getD] at eb ⊢
    simp [eb, tuple_lst eb0, hxS]
  · intro h3 p3 e3
    refine q _ _ _ p3 e3 ⟨by simp; omega, fun i hi => ?_⟩
    show _ = wD S[i]
    simp [show i < ds.length by omega, hi]
theorem due_even {p : Plan} {rows : Dt} {R : List (List Tr)} (wp : Wf p) (s : Sh P h rows (.lst (R.map .lst))) (q : ∀ h', h <+: h' → Q (ouD (evenR p R)) h') : WE (callK D (k + 3) i_law_due [.str "even", pD p, rows] h) Q X := by
  refine call_wp (md := D_law_due) rfl rfl fun O oN oQ oX => ?_
  have n1 : ¬ (("even" : Str) = "distance") := by decide +kernel
  have n2 : ¬ (("even" : Str) = "letters") := by decide +kernel
  have c1 := List.length_pos_iff.mpr wp.c1
  simp [m_law_due, eq_str so_even so_dist, n1]
  refine run_ite (fun hb => ?_) (fun hb => ?_)
  · have hR : evenR p R = .notBook p.2.length := by unfold evenR; rw [if_pos (by omega)]
    have := q h (pre_refl _)
    rw [hR] at this
    simp [law_refused]
    exact oQ _ _ this
  have e2 := book_of (p := p) (by omega)
  have hb' : ¬ p.2.length ≠ 1 := by omega
  have hrow := wp.row (bookRow p) (by rw [e2]; simp)
  have hp0 : p.2 = [bookRow p] := e2
  have g0 : ∀ {h}, oGet (.tup (p.2.map sD)) (.int 0) h = .ok (sD (bookRow p)) h := by intro h; rw [hp0]; exact get0
  simp [g0]
  have hlen : (bookRow p).length = (bookW p).length := (bookW_len p).symm
  rw [hlen]
  refine law_first_wrong s (fun hf h1 p1 => ?_) (fun w hf h1 p1 => ?_)
  · obtain ⟨S, ok, eR⟩ := fw_none hf
    subst eR
    have hR : evenR p (S.map fun r => r.map Tr.int) = .ok (optD (evenV (bookW p) S)) := by
      unfold evenR
      rw [if_neg hb', show fwR p _ = none from hf, map_intsT]
    obtain ⟨a, ds, rfl, pa, e0, sr⟩ := s.list
    rw [← rT_map] at sr
    simp [g0]
    refine lc_wpm (f := eD) (xs := bookRow p) (h1 := h1) (by simp [g0]) hi_tup (fun e => wD e.1) (by rw [sizeLine_eq]; omega) (fun e he => ⟨_, rfl, fun h' p' => by simp⟩) fun h2 p2 ew => ?_
    have ew' : h2[h1.length]? = some (.lst ((bookW p).map wD)) := by rw [ew]; unfold bookW; rw [List.map_map]; rfl
    simp [eq_str so_even so_let, eq_str so_even so_dist, n1, n2]
    refine rows_tup (P := P) (by rfl) (by rfl) (pre_get (p1.trans p2) e0) (sr.pre (p1.trans p2)) ok.len fun b es h3 p3 eb rs => ?_
    refine law_least so_even (pre_get p3 ew') (by omega) (fun x hx => ?_) eb rs ok.len ok.nd (fun r hr => ⟨(ok.one r hr).2.2.1, by have := (ok.one r hr).2.1; omega⟩) (fun _ r hr => (ok.one r hr).2.2.2) fun h4 p4 => ?_
    · unfold bookW at hx
      obtain ⟨e, he, rfl⟩ := List.mem_map.mp hx
      exact (hrow.2.2 e he).2.2.2.2
    · have := q h4 (((p1.trans p2).trans p3).trans p4)
      rw [hR] at this
      simp [n1]
      rw [lawF_even ok]
      exact oQ _ _ this
  · have hR : evenR p R = .wr w := by
      unfold evenR
      rw [if_neg hb', show fwR p R = some w from hf]
    have := q h1 p1
    rw [hR] at this
    simp [wrD_non]
    exact oQ _ _ this
theorem due_dist {p : Plan} {rows : Dt} {R : List (List Tr)} (wp : Wf p) (s : Sh P h rows (.lst (R.map .lst))) (q : ∀ h', h <+: h' → Q (ouD (distR R)) h') : WE (callK D (k + 3) i_law_due [.str "distance", pD p, rows] h) Q X := by
  refine call_wp (md := D_law_due) rfl rfl fun O oN oQ oX => ?_
  have n2 : ¬ (("distance" : Str) = "letters") := by decide +kernel
  have c1 := List.length_pos_iff.mpr wp.c1
  have g0 : ∀ {h}, oGet (.tup (p.2.map sD)) (.int 0) h = .ok (sD (bookRow p)) h := by
    intro h
    obtain ⟨r, l, e⟩ := List.exists_cons_of_ne_nil wp.c1
    unfold bookRow
    rw [e]; exact get0
  have hrow : (bookRow p).length ≤ 64 := by
    obtain ⟨r, l, e⟩ := List.exists_cons_of_ne_nil wp.c1
    have := wp.row r (by rw [e]; simp)
    unfold bookRow
    rw [e]; exact this.2.1
  simp [m_law_due, eq_str so_dist so_dist]
  refine law_first_wrong s (fun hf h1 p1 => ?_) (fun w hf h1 p1 => ?_)
  · obtain ⟨S, ok, eR⟩ := fw_none hf
    subst eR
    have hR : distR (S.map fun r => r.map Tr.int) = .ok (optD (distV S)) := by
      unfold distR
      rw [hf, map_intsT]
    obtain ⟨a, ds, rfl, pa, e0, sr⟩ := s.list
    rw [← rT_map] at sr
    simp [g0]
    refine lc_wpm (f := eD) (xs := bookRow p) (h1 := h1) (by simp [g0]) hi_tup (fun e => wD e.1) (by rw [sizeLine_eq]; omega) (fun e he => ⟨_, rfl, fun h' p' => by simp⟩) fun h2 p2 ew => ?_
    simp [eq_str so_dist so_let, eq_str so_dist so_dist, n2]
    refine rows_tup (P := P) (by rfl) (by rfl) (pre_get ((p1.trans p2).trans (pre_app _ _)) e0) (sr.pre ((p1.trans p2).trans (pre_app _ _))) ok.len fun b es h3 p3 eb rs => ?_
    have ew2 : h3[h2.length]? = some (.lst (([] : List Word).map wD)) := pre_get p3 (by simp)
    refine law_least so_dist ew2 (by simp) (fun x hx => nomatch hx) eb rs ok.len ok.nd (fun r hr => ⟨(ok.one r hr).2.2.1, by have := (ok.one r hr).2.1; omega⟩) (fun hne => absurd rfl hne) fun h4 p4 => ?_
    have := q h4 ((((p1.trans p2).trans (pre_app _ _)).trans p3).trans p4)
    rw [hR] at this
    simp
    rw [lawF_dist ok]
    exact oQ _ _ this
  · have hR : distR R = .wr w := by
      unfold distR
      rw [hf]
    have := q h1 p1
    rw [hR] at this
    simp [wrD_non]
    exact oQ _ _ this
end K77
end
section
set_option maxRecDepth 20000
namespace K77
open PySem L2 EP
variable {k : Nat} {h : MH} {P : Nat → Prop} {Q : Dt → MH → Prop} {X : Str → Fs → MH → Prop}
theorem spW_len {n : Int} {ws : List Word} {r : List Int} (hw : ∀ w ∈ ws, w.length ≤ 64) (hr : ∀ i ∈ r, 0 ≤ i ∧ i < ws.length) (i : Nat) : (spW n ws (r.take i)).length ≤ 64 * i := by
  induction i with
  | zero => simp [spW]
  | succ i ih =>
    by_cases hi : i < r.length
    · rw [List.take_succ, List.getElem?_eq_getElem hi, Option.toList_some, spW_snoc]
      have hx := hr _ (List.getElem_mem hi)
      have : (ws.getD r[i].toNat []).length ≤ 64 := by
        have hlt : r[i].toNat < ws.length := by omega
        have : ws.getD r[i].toNat [] = ws[r[i].toNat] := by simp [hlt]
        rw [this]; exact hw _ (List.getElem_mem hlt)
      simp only [List.length_append, List.length_map]
      omega
    · rw [List.take_of_length_le (by omega)] at ih ⊢
      omega
theorem due_letters {p : Plan} {rows : Dt} {R : List (List Tr)} (wp : Wf p) (s : Sh P h rows (.lst (R.map .lst))) (q : ∀ h', h <+: h' → Q (ouD (lettersR p R)) h') : WE (callK D (k + 3) i_law_due [.str "letters", pD p, rows] h) Q X := by
  refine call_wp (md := D_law_due) rfl rfl fun O oN oQ oX => ?_
  have n1 : ¬ (("letters" : Str) = "distance") := by decide +kernel
  have c1 := List.length_pos_iff.mpr wp.c1
  simp [m_law_due, eq_str so_let so_dist, n1]
  refine run_ite (fun hb => ?_) (fun hb => ?_)
  · have hR : lettersR p R = .notBook p.2.length := by unfold lettersR; rw [if_pos (by omega)]
    have := q h (pre_refl _)
    rw [hR] at this
    simp [law_refused]
    exact oQ _ _ this
  have e2 := book_of (p := p) (by omega)
  have hb' : ¬ p.2.length ≠ 1 := by omega
  have hrow := wp.row (bookRow p) (by rw [e2]; simp)
  have hp0 : p.2 = [bookRow p] := e2
  have g0 : ∀ {h}, oGet (.tup (p.2.map sD)) (.int 0) h = .ok (sD (bookRow p)) h := by intro h; rw [hp0]; exact get0
  simp [g0]
  have hlen : (bookRow p).length = (bookW p).length := (bookW_len p).symm
  rw [hlen]
  refine law_first_wrong s (fun hf h1 p1 => ?_) (fun w hf h1 p1 => ?_)
  · obtain ⟨S, ok, eR⟩ := fw_none hf
    subst eR
    obtain ⟨a, ds, rfl, pa, e0, sr⟩ := s.list
    rw [← rT_map] at sr
    have hdl := sr.length
    rw [List.length_map] at hdl
    have hw : ∀ w ∈ bookW p, w.length ≤ 64 := fun x hx => by
      unfold bookW at hx
      obtain ⟨e, he, rfl⟩ := List.mem_map.mp hx
      exact (hrow.2.2 e he).2.2.2.2
    simp [g0]
    refine lc_wpm (f := eD) (xs := bookRow p) (h1 := h1) (by simp [g0]) hi_tup (fun e => wD e.1) (by rw [sizeLine_eq]; omega) (fun e he => ⟨_, rfl, fun h' p' => by simp⟩) fun h2 p2 ew => ?_
    have ew' : h2[h1.length]? = some (.lst ((bookW p).map wD)) := by rw [ew]; unfold bookW; rw [List.map_map]; rfl
    have hS0 : 0 < S.length := List.length_pos_iff.mpr ok.ne
    have e02 := pre_get (p1.trans p2) e0
    have s0 := (sr.at_ (i := 0) (by simpa using hS0)).pre (p1.trans p2)
    simp only [List.getElem_map] at s0
    obtain ⟨b, bs, eb0, pb, eb1, sb⟩ := s0.list
    have ebs := Shs.ints_eq sb
    subst ebs
    have gr : ∀ {h'}, h2 <+: h' → oGet (.loc a) (.int 0) h' = .ok (.loc b) h' := fun p' => get_lst (pre_get p' e02) (by omega) (by rw [← eb0]; exact sr.ix (i := 0) (by simpa using hS0))
    have lb : ∀ {h'}, h2 <+: h' → bLen [.loc b] h' = .ok (.int (S[0].length : Nat)) h' := fun p' => by rw [len_lst (pre_get p' eb1), List.length_map]
    have hg : S.getD 0 [] = S[0] := by simp [List.getD_eq_getElem?_getD, hS0]
    have hlen0 : ((S.map fun r => r.map Tr.int).getD 0 []).length = S[0].length := by simp [List.getD_eq_getElem?_getD, hS0]
    have o0 := ok.one _ (List.getElem_mem hS0)
    have ml : ∀ {h : MH}, oMul (.int p.1) (.int (S[0].length : Nat)) h = .ok (.int (p.1 * (S[0].length : Nat))) h := mul_r (by omega) (by omega)
    have hR : lettersR p (S.map fun r => r.map Tr.int) = if (40 : Int) < p.1 * ((S[0].length : Nat) : Int) then .big (p.1 * ((S[0].length : Nat) : Int)) else .ok (pD (p.1 * ((S[0].length : Nat) : Int), [S.map fun r => (spW p.1 (bookW p) r, 0)])) := by
      unfold lettersR
      rw [if_neg hb', show fwR p _ = none from hf, hlen0, map_intsT]
    simp [eq_str so_let so_let, gr (pre_refl _), lb (pre_refl _), ml]
    refine run_ite (fun h40 => ?_) (fun h40 => ?_)
    · have := q h2 (p1.trans p2)
      rw [hR, if_pos h40] at this
      simp [gr (pre_refl _), lb (pre_refl _), ml, law_refused]
      exact oQ _ _ this
    · simp
      refine run_sFor ?_
      simp [itOf_lst (pre_get (pre_app _ _) e02)]
      refine run_wk (hi_ix (hi_lst fun h' (q : h2 <+: h') => pre_get q e02)) (fun i ρ h' => h2 <+: h' ∧ (∃ x7 x10 x11 x12, ρ = [some (.str "letters"), some (pD p), some (.loc a), some (.int ((bookW p).length : Nat)), some .non, some (.loc h1.length), none, x7, some (.int p.1), some (.loc h2.length), x10, x11, x12]) ∧ h'[h2.length]? = some (.lst (((S.take i).map (spW p.1 (bookW p))).map wD))) (fun _ _ _ q => q.1) ⟨pre_app _ _, ⟨none, none, none, none, rfl⟩, by simp⟩ ?_ ?_
      · rintro i x ρ h3 hx ⟨pr, ⟨x7, x10, x11, x12, rfl⟩, eS⟩
        obtain ⟨hi, rfl⟩ := range_at hx
        have hxS : x < S.length := by omega
        refine ⟨_, rfl, fun O2 t2 => ?_⟩
        have sx := (sr.at_ (i := x) (by simpa using hxS)).pre ((p1.trans p2).trans pr)
        simp only [List.getElem_map] at sx
        obtain ⟨c, cs, ec0, pc, ec1, sc⟩ := sx.list
        have ecs := Shs.ints_eq sc
        subst ecs
        rw [ec0]
        have ox := ok.one _ (List.getElem_mem hxS)
        simp
        refine run_sFor (iRg1_wp ?_)
        have ec2 := pre_get (pre_app h3 [.lst []]) ec1
        simp [len_lst ec2]
        refine ⟨sm_nat (by omega), ?_⟩
        refine run_rng (fun j ρ h' => (h2 <+: h' ∧ h3 <+: h') ∧ (∃ x11, ρ = [some (.str "letters"), some (pD p), some (.loc a), some (.int ((bookW p).length : Nat)), some .non, some (.loc h1.length), none, some (.loc c), some (.int p.1), some (.loc h2.length), some (.loc h3.length), x11, x12]) ∧ h'[h3.length]? = some (.lst ((spW p.1 (bookW p) (S[x].take j)).map .int))) ⟨⟨pr.trans (pre_app _ _), pre_app _ _⟩, ⟨_, rfl⟩, by simp [spW]⟩ ?_ ?_
        · rintro j ρ h4 hj ⟨⟨pr4, pr34⟩, ⟨x11, rfl⟩, e4⟩ O3 t3
          have hj : j < S[x].length := by simpa using hj
          have hrx := ox.2.2.2 _ (List.getElem_mem hj)
          have hlt : S[x][j].toNat < (bookW p).length := by omega
          have gc : ∀ {h'}, h4 <+: h' → oGet (.loc c) (.int (j : Nat)) h' = .ok (.int S[x][j]) h' := fun p' => get_lst (pre_get (pr34.trans p') ec1) (by omega) (by simp [hj])
          have gw : oGet (.loc h1.length) (.int S[x][j]) h4 = .ok (wD (bookW p)[S[x][j].toNat]) h4 := get_lst (pre_get pr4 ew') hrx.1 (by rw [List.getElem?_map, List.getElem?_eq_getElem hlt]; rfl)
          have hwx := hw _ (List.getElem_mem hlt)
          simp [isLst_lst e4]
          refine lc_wpm (f := Dt.int) (xs := (bookW p)[S[x][j].toNat]) (h1 := h4) (by simp [gc (pre_refl _), gw]) hi_tup (fun w => .int (w + p.1 * (j : Nat))) (by rw [sizeLine_eq]; omega) ?_ ?_
          · intro w hw
            refine ⟨_, rfl, fun h' p' => ?_⟩
            have hc : (j : Int) * p.1 + w = w + p.1 * (j : Int) := by rw [Int.mul_comm, Int.add_comm]
            simp [mul_l (i := (j : Int)) (j := p.1) (h := h') (by omega) (by omega), hc]
          · intro h5 p5 e5
            have hls := spW_len (n := p.1) hw ox.2.2.2 j
            obtain ⟨h6, f6, u6⟩ := ext_ex (pre_get p5 e4) e5 (by rw [sizeLine_eq]; simp only [List.length_map]; omega)
            simp [f6]
            refine t3.N _ _ ⟨⟨u6.pre (pr4.trans p5) (pre_len pr), u6.pre (pr34.trans p5) (Nat.le_refl _)⟩, ⟨_, rfl⟩, ?_⟩
            rw [u6.at_, List.take_succ, List.getElem?_eq_getElem hj, Option.toList_some, spW_snoc, List.map_append, List.length_take, Nat.min_eq_left (by omega)]
            have g2 : (bookW p).getD S[x][j].toNat [] = (bookW p)[S[x][j].toNat] := by simp [hlt]
            rw [g2, List.map_map]
            rfl
        · rintro ρ h4 ⟨⟨pr4, pr34⟩, ⟨x11, rfl⟩, e4⟩
          have e4' : h4[h3.length]? = some (.lst ((spW p.1 (bookW p) S[x]).map .int)) := by
            rw [e4]; simp
          obtain ⟨h5, f5, u5⟩ := app1 (v := wD (spW p.1 (bookW p) S[x])) (pre_get pr34 eS) (by rw [sizeLine_eq]; simp; have := ok.len; omega)
          simp [isLst_lst (pre_get pr34 eS), tuple_lst e4', f5]
          refine t2.N _ _ ⟨u5.pre pr4 (Nat.le_refl _), ⟨_, _, _, _, rfl⟩, ?_⟩
          rw [u5.at_, List.take_succ, List.getElem?_eq_getElem hxS]
          simp only [List.map_append, Option.toList_some, List.map_cons, List.map_nil]
      · rintro ρ h3 ⟨pr, ⟨x7, x10, x11, x12, rfl⟩, eS⟩
        rw [List.length_range, hdl, List.take_length] at eS
        simp [gr pr, lb pr, ml]
        refine law_book eS (by simp; have := ok.len; omega) fun h4 p4 => ?_
        have := q h4 (((p1.trans p2).trans pr).trans p4)
        rw [hR, if_neg h40] at this
        simp
        refine oQ _ _ (Q_eq this ?_)
        simp only [ouD]
        congr 3
  · have hR : lettersR p R = .wr w := by
      unfold lettersR
      rw [if_neg hb', show fwR p R = some w from hf]
    have := q h1 p1
    rw [hR] at this
    simp [wrD_non]
    exact oQ _ _ this
end K77
end
section
set_option maxRecDepth 20000
namespace K77
open PySem L2 EP
variable {k : Nat} {h : MH} {P : Nat → Prop} {Q : Dt → MH → Prop} {X : Str → Fs → MH → Prop}
abbrev HS : List (Str × Nat × XS) := [("NotBook", 3, fun C fs => (sRet (eTup (aCons (eC (.str "refused")) (aCons (eC (.str "NotBook")) (aCons (xF tab.flds "states" C fs) (aCons (xIs tab.sub "PulseError" C fs) (aCons (xIs tab.sub "BadNumber" C fs) aNil)))))))),
  ("NoSpelling", 3, fun C fs => (sRet (eTup (aCons (eC (.str "refused")) (aCons (eC (.str "NoSpelling")) (aCons (eC .non) (aCons (xIs tab.sub "PulseError" C fs) (aCons (xIs tab.sub "BadSpelling" C fs) aNil)))))))),
  ("TooMany", 3, fun C fs => (sRet (eTup (aCons (eC (.str "refused")) (aCons (eC (.str "TooMany")) (aCons (eTup (aCons (xF tab.flds "what" C fs) (aCons (xF tab.flds "most" C fs) aNil))) (aCons (xIs tab.sub "PulseError" C fs) (aCons (xIs tab.sub "BadSpelling" C fs) aNil)))))))),
  ("BadSpelling", 3, fun C fs => (sRet (eTup (aCons (eC (.str "refused")) (aCons (eC (.str "BadSpelling")) (aCons (xF tab.flds "place" C fs) (aCons (xIs tab.sub "PulseError" C fs) (aCons (xIs tab.sub "BadNumber" C fs) aNil)))))))),
  ("BadNumber", 3, fun C fs => (sRet (eTup (aCons (eC (.str "refused")) (aCons (eC (.str "BadNumber")) (aCons (xF tab.flds "place" C fs) (aCons (xIs tab.sub "PulseError" C fs) (aCons (xIs tab.sub "BadSize" C fs) aNil)))))))),
  ("BadSize", 3, fun C fs => (sRet (eTup (aCons (eC (.str "refused")) (aCons (eC (.str "BadSize")) (aCons (xF tab.flds "size" C fs) (aCons (xIs tab.sub "PulseError" C fs) (aCons (eC (.bl false)) aNil))))))))]
abbrev HL : List (Str × Nat × XS) := [("BadSize", 4, fun C fs => (sRet (eTup (aCons (eC (.str "refused")) (aCons (eC (.str "BadSize")) (aCons (xF tab.flds "size" C fs) (aCons (xIs tab.sub "PulseError" C fs) (aCons (xIs tab.sub "NoPlace" C fs) aNil)))))))),
  ("NoPlace", 4, fun C fs => (sRet (eTup (aCons (eC (.str "refused")) (aCons (eC (.str "NoPlace")) (aCons (xF tab.flds "place" C fs) (aCons (xIs tab.sub "PulseError" C fs) (aCons (xIs tab.sub "Twice" C fs) aNil)))))))),
  ("Twice", 4, fun C fs => (sRet (eTup (aCons (eC (.str "refused")) (aCons (eC (.str "Twice")) (aCons (xF tab.flds "wire" C fs) (aCons (xIs tab.sub "PulseError" C fs) (aCons (xIs tab.sub "BadAhead" C fs) aNil)))))))),
  ("BadAhead", 4, fun C fs => (sRet (eTup (aCons (eC (.str "refused")) (aCons (eC (.str "BadAhead")) (aCons (xF tab.flds "value" C fs) (aCons (xIs tab.sub "PulseError" C fs) (aCons (eC (.bl false)) aNil))))))))]
theorem s_BadSize_NotBook : tab.sub "BadSize" "NotBook" = some false := by decide +kernel
theorem i_BadSize_NotBook {G : Orc} {ρ : EP.Env} {fs : Fs} : xIs tab.sub "NotBook" "BadSize" fs G ρ h = .ok (.bl false) h := by rfl
theorem s_BadSize_NoSpelling : tab.sub "BadSize" "NoSpelling" = some false := by decide +kernel
theorem i_BadSize_NoSpelling {G : Orc} {ρ : EP.Env} {fs : Fs} : xIs tab.sub "NoSpelling" "BadSize" fs G ρ h = .ok (.bl false) h := by rfl
theorem s_BadSize_TooMany : tab.sub "BadSize" "TooMany" = some false := by decide +kernel
theorem i_BadSize_TooMany {G : Orc} {ρ : EP.Env} {fs : Fs} : xIs tab.sub "TooMany" "BadSize" fs G ρ h = .ok (.bl false) h := by rfl
theorem s_BadSize_BadSpelling : tab.sub "BadSize" "BadSpelling" = some false := by decide +kernel
theorem i_BadSize_BadSpelling {G : Orc} {ρ : EP.Env} {fs : Fs} : xIs tab.sub "BadSpelling" "BadSize" fs G ρ h = .ok (.bl false) h := by rfl
theorem s_BadSize_BadNumber : tab.sub "BadSize" "BadNumber" = some false := by decide +kernel
theorem i_BadSize_BadNumber {G : Orc} {ρ : EP.Env} {fs : Fs} : xIs tab.sub "BadNumber" "BadSize" fs G ρ h = .ok (.bl false) h := by rfl
theorem s_BadSize_BadSize : tab.sub "BadSize" "BadSize" = some true := by decide +kernel
theorem i_BadSize_BadSize {G : Orc} {ρ : EP.Env} {fs : Fs} : xIs tab.sub "BadSize" "BadSize" fs G ρ h = .ok (.bl true) h := by rfl
theorem s_BadSize_PulseError : tab.sub "BadSize" "PulseError" = some true := by decide +kernel
theorem i_BadSize_PulseError {G : Orc} {ρ : EP.Env} {fs : Fs} : xIs tab.sub "PulseError" "BadSize" fs G ρ h = .ok (.bl true) h := by rfl
theorem s_BadState_NotBook : tab.sub "BadState" "NotBook" = some false := by decide +kernel
theorem i_BadState_NotBook {G : Orc} {ρ : EP.Env} {fs : Fs} : xIs tab.sub "NotBook" "BadState" fs G ρ h = .ok (.bl false) h := by rfl
theorem s_BadState_NoSpelling : tab.sub "BadState" "NoSpelling" = some false := by decide +kernel
theorem i_BadState_NoSpelling {G : Orc} {ρ : EP.Env} {fs : Fs} : xIs tab.sub "NoSpelling" "BadState" fs G ρ h = .ok (.bl false) h := by rfl
theorem s_BadState_TooMany : tab.sub "BadState" "TooMany" = some false := by decide +kernel
theorem i_BadState_TooMany {G : Orc} {ρ : EP.Env} {fs : Fs} : xIs tab.sub "TooMany" "BadState" fs G ρ h = .ok (.bl false) h := by rfl
theorem s_BadState_BadSpelling : tab.sub "BadState" "BadSpelling" = some false := by decide +kernel
theorem i_BadState_BadSpelling {G : Orc} {ρ : EP.Env} {fs : Fs} : xIs tab.sub "BadSpelling" "BadState" fs G ρ h = .ok (.bl false) h := by rfl
theorem s_BadState_BadNumber : tab.sub "BadState" "BadNumber" = some false := by decide +kernel
theorem i_BadState_BadNumber {G : Orc} {ρ : EP.Env} {fs : Fs} : xIs tab.sub "BadNumber" "BadState" fs G ρ h = .ok (.bl false) h := by rfl
theorem s_BadState_BadSize : tab.sub "BadState" "BadSize" = some false := by decide +kernel
theorem i_BadState_BadSize {G : Orc} {ρ : EP.Env} {fs : Fs} : xIs tab.sub "BadSize" "BadState" fs G ρ h = .ok (.bl false) h := by rfl
theorem s_NotBook_NotBook : tab.sub "NotBook" "NotBook" = some true := by decide +kernel
theorem i_NotBook_NotBook {G : Orc} {ρ : EP.Env} {fs : Fs} : xIs tab.sub "NotBook" "NotBook" fs G ρ h = .ok (.bl true) h := by rfl
theorem s_NotBook_PulseError : tab.sub "NotBook" "PulseError" = some true := by decide +kernel
theorem i_NotBook_PulseError {G : Orc} {ρ : EP.Env} {fs : Fs} : xIs tab.sub "PulseError" "NotBook" fs G ρ h = .ok (.bl true) h := by rfl
theorem s_NotBook_BadNumber : tab.sub "NotBook" "BadNumber" = some false := by decide +kernel
theorem i_NotBook_BadNumber {G : Orc} {ρ : EP.Env} {fs : Fs} : xIs tab.sub "BadNumber" "NotBook" fs G ρ h = .ok (.bl false) h := by rfl
theorem s_NoSpelling_NotBook : tab.sub "NoSpelling" "NotBook" = some false := by decide +kernel
theorem i_NoSpelling_NotBook {G : Orc} {ρ : EP.Env} {fs : Fs} : xIs tab.sub "NotBook" "NoSpelling" fs G ρ h = .ok (.bl false) h := by rfl
theorem s_NoSpelling_NoSpelling : tab.sub "NoSpelling" "NoSpelling" = some true := by decide +kernel
theorem i_NoSpelling_NoSpelling {G : Orc} {ρ : EP.Env} {fs : Fs} : xIs tab.sub "NoSpelling" "NoSpelling" fs G ρ h = .ok (.bl true) h := by rfl
theorem s_NoSpelling_PulseError : tab.sub "NoSpelling" "PulseError" = some true := by decide +kernel
theorem i_NoSpelling_PulseError {G : Orc} {ρ : EP.Env} {fs : Fs} : xIs tab.sub "PulseError" "NoSpelling" fs G ρ h = .ok (.bl true) h := by rfl
theorem s_NoSpelling_BadSpelling : tab.sub "NoSpelling" "BadSpelling" = some false := by decide +kernel
theorem i_NoSpelling_BadSpelling {G : Orc} {ρ : EP.Env} {fs : Fs} : xIs tab.sub "BadSpelling" "NoSpelling" fs G ρ h = .ok (.bl false) h := by rfl
theorem s_TooMany_NotBook : tab.sub "TooMany" "NotBook" = some false := by decide +kernel
theorem i_TooMany_NotBook {G : Orc} {ρ : EP.Env} {fs : Fs} : xIs tab.sub "NotBook" "TooMany" fs G ρ h = .ok (.bl false) h := by rfl
theorem s_TooMany_NoSpelling : tab.sub "TooMany" "NoSpelling" = some false := by decide +kernel
theorem i_TooMany_NoSpelling {G : Orc} {ρ : EP.Env} {fs : Fs} : xIs tab.sub "NoSpelling" "TooMany" fs G ρ h = .ok (.bl false) h := by rfl
theorem s_TooMany_TooMany : tab.sub "TooMany" "TooMany" = some true := by decide +kernel
theorem i_TooMany_TooMany {G : Orc} {ρ : EP.Env} {fs : Fs} : xIs tab.sub "TooMany" "TooMany" fs G ρ h = .ok (.bl true) h := by rfl
theorem s_TooMany_PulseError : tab.sub "TooMany" "PulseError" = some true := by decide +kernel
theorem i_TooMany_PulseError {G : Orc} {ρ : EP.Env} {fs : Fs} : xIs tab.sub "PulseError" "TooMany" fs G ρ h = .ok (.bl true) h := by rfl
theorem s_TooMany_BadSpelling : tab.sub "TooMany" "BadSpelling" = some false := by decide +kernel
theorem i_TooMany_BadSpelling {G : Orc} {ρ : EP.Env} {fs : Fs} : xIs tab.sub "BadSpelling" "TooMany" fs G ρ h = .ok (.bl false) h := by rfl
theorem s_NoWire_NotBook : tab.sub "NoWire" "NotBook" = some false := by decide +kernel
theorem i_NoWire_NotBook {G : Orc} {ρ : EP.Env} {fs : Fs} : xIs tab.sub "NotBook" "NoWire" fs G ρ h = .ok (.bl false) h := by rfl
theorem s_NoWire_NoSpelling : tab.sub "NoWire" "NoSpelling" = some false := by decide +kernel
theorem i_NoWire_NoSpelling {G : Orc} {ρ : EP.Env} {fs : Fs} : xIs tab.sub "NoSpelling" "NoWire" fs G ρ h = .ok (.bl false) h := by rfl
theorem s_NoWire_TooMany : tab.sub "NoWire" "TooMany" = some false := by decide +kernel
theorem i_NoWire_TooMany {G : Orc} {ρ : EP.Env} {fs : Fs} : xIs tab.sub "TooMany" "NoWire" fs G ρ h = .ok (.bl false) h := by rfl
theorem s_NoWire_BadSpelling : tab.sub "NoWire" "BadSpelling" = some false := by decide +kernel
theorem i_NoWire_BadSpelling {G : Orc} {ρ : EP.Env} {fs : Fs} : xIs tab.sub "BadSpelling" "NoWire" fs G ρ h = .ok (.bl false) h := by rfl
theorem s_NoWire_BadNumber : tab.sub "NoWire" "BadNumber" = some false := by decide +kernel
theorem i_NoWire_BadNumber {G : Orc} {ρ : EP.Env} {fs : Fs} : xIs tab.sub "BadNumber" "NoWire" fs G ρ h = .ok (.bl false) h := by rfl
theorem s_NoWire_BadSize : tab.sub "NoWire" "BadSize" = some false := by decide +kernel
theorem i_NoWire_BadSize {G : Orc} {ρ : EP.Env} {fs : Fs} : xIs tab.sub "BadSize" "NoWire" fs G ρ h = .ok (.bl false) h := by rfl
theorem s_BadSpelling_NotBook : tab.sub "BadSpelling" "NotBook" = some false := by decide +kernel
theorem i_BadSpelling_NotBook {G : Orc} {ρ : EP.Env} {fs : Fs} : xIs tab.sub "NotBook" "BadSpelling" fs G ρ h = .ok (.bl false) h := by rfl
theorem s_BadSpelling_NoSpelling : tab.sub "BadSpelling" "NoSpelling" = some false := by decide +kernel
theorem i_BadSpelling_NoSpelling {G : Orc} {ρ : EP.Env} {fs : Fs} : xIs tab.sub "NoSpelling" "BadSpelling" fs G ρ h = .ok (.bl false) h := by rfl
theorem s_BadSpelling_TooMany : tab.sub "BadSpelling" "TooMany" = some false := by decide +kernel
theorem i_BadSpelling_TooMany {G : Orc} {ρ : EP.Env} {fs : Fs} : xIs tab.sub "TooMany" "BadSpelling" fs G ρ h = .ok (.bl false) h := by rfl
theorem s_BadSpelling_BadSpelling : tab.sub "BadSpelling" "BadSpelling" = some true := by decide +kernel
theorem i_BadSpelling_BadSpelling {G : Orc} {ρ : EP.Env} {fs : Fs} : xIs tab.sub "BadSpelling" "BadSpelling" fs G ρ h = .ok (.bl true) h := by rfl
theorem s_BadSpelling_PulseError : tab.sub "BadSpelling" "PulseError" = some true := by decide +kernel
theorem i_BadSpelling_PulseError {G : Orc} {ρ : EP.Env} {fs : Fs} : xIs tab.sub "PulseError" "BadSpelling" fs G ρ h = .ok (.bl true) h := by rfl
theorem s_BadSpelling_BadNumber : tab.sub "BadSpelling" "BadNumber" = some false := by decide +kernel
theorem i_BadSpelling_BadNumber {G : Orc} {ρ : EP.Env} {fs : Fs} : xIs tab.sub "BadNumber" "BadSpelling" fs G ρ h = .ok (.bl false) h := by rfl
theorem s_BadNumber_NotBook : tab.sub "BadNumber" "NotBook" = some false := by decide +kernel
theorem i_BadNumber_NotBook {G : Orc} {ρ : EP.Env} {fs : Fs} : xIs tab.sub "NotBook" "BadNumber" fs G ρ h = .ok (.bl false) h := by rfl
theorem s_BadNumber_NoSpelling : tab.sub "BadNumber" "NoSpelling" = some false := by decide +kernel
theorem i_BadNumber_NoSpelling {G : Orc} {ρ : EP.Env} {fs : Fs} : xIs tab.sub "NoSpelling" "BadNumber" fs G ρ h = .ok (.bl false) h := by rfl
theorem s_BadNumber_TooMany : tab.sub "BadNumber" "TooMany" = some false := by decide +kernel
theorem i_BadNumber_TooMany {G : Orc} {ρ : EP.Env} {fs : Fs} : xIs tab.sub "TooMany" "BadNumber" fs G ρ h = .ok (.bl false) h := by rfl
theorem s_BadNumber_BadSpelling : tab.sub "BadNumber" "BadSpelling" = some false := by decide +kernel
theorem i_BadNumber_BadSpelling {G : Orc} {ρ : EP.Env} {fs : Fs} : xIs tab.sub "BadSpelling" "BadNumber" fs G ρ h = .ok (.bl false) h := by rfl
theorem s_BadNumber_BadNumber : tab.sub "BadNumber" "BadNumber" = some true := by decide +kernel
theorem i_BadNumber_BadNumber {G : Orc} {ρ : EP.Env} {fs : Fs} : xIs tab.sub "BadNumber" "BadNumber" fs G ρ h = .ok (.bl true) h := by rfl
theorem s_BadNumber_PulseError : tab.sub "BadNumber" "PulseError" = some true := by decide +kernel
theorem i_BadNumber_PulseError {G : Orc} {ρ : EP.Env} {fs : Fs} : xIs tab.sub "PulseError" "BadNumber" fs G ρ h = .ok (.bl true) h := by rfl
theorem s_BadNumber_BadSize : tab.sub "BadNumber" "BadSize" = some false := by decide +kernel
theorem i_BadNumber_BadSize {G : Orc} {ρ : EP.Env} {fs : Fs} : xIs tab.sub "BadSize" "BadNumber" fs G ρ h = .ok (.bl false) h := by rfl
theorem s_BadSize_NoPlace : tab.sub "BadSize" "NoPlace" = some false := by decide +kernel
theorem i_BadSize_NoPlace {G : Orc} {ρ : EP.Env} {fs : Fs} : xIs tab.sub "NoPlace" "BadSize" fs G ρ h = .ok (.bl false) h := by rfl
theorem s_BadAhead_BadSize : tab.sub "BadAhead" "BadSize" = some false := by decide +kernel
theorem i_BadAhead_BadSize {G : Orc} {ρ : EP.Env} {fs : Fs} : xIs tab.sub "BadSize" "BadAhead" fs G ρ h = .ok (.bl false) h := by rfl
theorem s_BadAhead_NoPlace : tab.sub "BadAhead" "NoPlace" = some false := by decide +kernel
theorem i_BadAhead_NoPlace {G : Orc} {ρ : EP.Env} {fs : Fs} : xIs tab.sub "NoPlace" "BadAhead" fs G ρ h = .ok (.bl false) h := by rfl
theorem s_BadAhead_Twice : tab.sub "BadAhead" "Twice" = some false := by decide +kernel
theorem i_BadAhead_Twice {G : Orc} {ρ : EP.Env} {fs : Fs} : xIs tab.sub "Twice" "BadAhead" fs G ρ h = .ok (.bl false) h := by rfl
theorem s_BadAhead_BadAhead : tab.sub "BadAhead" "BadAhead" = some true := by decide +kernel
theorem i_BadAhead_BadAhead {G : Orc} {ρ : EP.Env} {fs : Fs} : xIs tab.sub "BadAhead" "BadAhead" fs G ρ h = .ok (.bl true) h := by rfl
theorem s_BadAhead_PulseError : tab.sub "BadAhead" "PulseError" = some true := by decide +kernel
theorem i_BadAhead_PulseError {G : Orc} {ρ : EP.Env} {fs : Fs} : xIs tab.sub "PulseError" "BadAhead" fs G ρ h = .ok (.bl true) h := by rfl
theorem s_NoPlace_BadSize : tab.sub "NoPlace" "BadSize" = some false := by decide +kernel
theorem i_NoPlace_BadSize {G : Orc} {ρ : EP.Env} {fs : Fs} : xIs tab.sub "BadSize" "NoPlace" fs G ρ h = .ok (.bl false) h := by rfl
theorem s_NoPlace_NoPlace : tab.sub "NoPlace" "NoPlace" = some true := by decide +kernel
theorem i_NoPlace_NoPlace {G : Orc} {ρ : EP.Env} {fs : Fs} : xIs tab.sub "NoPlace" "NoPlace" fs G ρ h = .ok (.bl true) h := by rfl
theorem s_NoPlace_PulseError : tab.sub "NoPlace" "PulseError" = some true := by decide +kernel
theorem i_NoPlace_PulseError {G : Orc} {ρ : EP.Env} {fs : Fs} : xIs tab.sub "PulseError" "NoPlace" fs G ρ h = .ok (.bl true) h := by rfl
theorem s_NoPlace_Twice : tab.sub "NoPlace" "Twice" = some false := by decide +kernel
theorem i_NoPlace_Twice {G : Orc} {ρ : EP.Env} {fs : Fs} : xIs tab.sub "Twice" "NoPlace" fs G ρ h = .ok (.bl false) h := by rfl
theorem s_Twice_BadSize : tab.sub "Twice" "BadSize" = some false := by decide +kernel
theorem i_Twice_BadSize {G : Orc} {ρ : EP.Env} {fs : Fs} : xIs tab.sub "BadSize" "Twice" fs G ρ h = .ok (.bl false) h := by rfl
theorem s_Twice_NoPlace : tab.sub "Twice" "NoPlace" = some false := by decide +kernel
theorem i_Twice_NoPlace {G : Orc} {ρ : EP.Env} {fs : Fs} : xIs tab.sub "NoPlace" "Twice" fs G ρ h = .ok (.bl false) h := by rfl
theorem s_Twice_Twice : tab.sub "Twice" "Twice" = some true := by decide +kernel
theorem i_Twice_Twice {G : Orc} {ρ : EP.Env} {fs : Fs} : xIs tab.sub "Twice" "Twice" fs G ρ h = .ok (.bl true) h := by rfl
theorem s_Twice_PulseError : tab.sub "Twice" "PulseError" = some true := by decide +kernel
theorem i_Twice_PulseError {G : Orc} {ρ : EP.Env} {fs : Fs} : xIs tab.sub "PulseError" "Twice" fs G ρ h = .ok (.bl true) h := by rfl
theorem s_Twice_BadAhead : tab.sub "Twice" "BadAhead" = some false := by decide +kernel
theorem i_Twice_BadAhead {G : Orc} {ρ : EP.Env} {fs : Fs} : xIs tab.sub "BadAhead" "Twice" fs G ρ h = .ok (.bl false) h := by rfl
theorem f_NotBook {G : Orc} {ρ : EP.Env} {d : Dt} : xF tab.flds "states" "NotBook" [("states", d)] G ρ h = .ok d h := by rfl
theorem f_BadSpelling {G : Orc} {ρ : EP.Env} {d : Dt} : xF tab.flds "place" "BadSpelling" [("place", d)] G ρ h = .ok d h := by rfl
theorem f_BadNumber {G : Orc} {ρ : EP.Env} {d : Dt} : xF tab.flds "place" "BadNumber" [("place", d)] G ρ h = .ok d h := by rfl
theorem f_BadSize {G : Orc} {ρ : EP.Env} {d : Dt} : xF tab.flds "size" "BadSize" [("size", d)] G ρ h = .ok d h := by rfl
theorem f_NoPlace {G : Orc} {ρ : EP.Env} {d : Dt} : xF tab.flds "place" "NoPlace" [("place", d)] G ρ h = .ok d h := by rfl
theorem f_Twice {G : Orc} {ρ : EP.Env} {d : Dt} : xF tab.flds "wire" "Twice" [("wire", d)] G ρ h = .ok d h := by rfl
theorem f_BadAhead {G : Orc} {ρ : EP.Env} {d : Dt} : xF tab.flds "value" "BadAhead" [("value", d)] G ρ h = .ok d h := by rfl
theorem f_what {G : Orc} {ρ : EP.Env} {d e : Dt} : xF tab.flds "what" "TooMany" [("most", d), ("what", e)] G ρ h = .ok e h := by rfl
theorem f_most {G : Orc} {ρ : EP.Env} {d e : Dt} : xF tab.flds "most" "TooMany" [("most", d), ("what", e)] G ρ h = .ok d h := by rfl
section
variable {G : Orc} {O : Out} {ks : List SS} {ρ : EP.Env}
theorem end_wr (w : Wr) (hρ : ρ.length = 4) (q : O.Q (wrD w) h) : Run G O ks (runH tab.sub (wrX w).1 (wrX w).2 G HS ρ h) := by
  cases w with
  | noSp =>
    simp only [wrX]
    rw [runH_no s_NoSpelling_NotBook]
    refine run_yes s_NoSpelling_NoSpelling (by omega) fun O2 t1 t2 => ?_
    simp [i_NoSpelling_PulseError, i_NoSpelling_BadSpelling]
    exact t2 _ _ q
  | many =>
    simp only [wrX]
    rw [runH_no s_TooMany_NotBook, runH_no s_TooMany_NoSpelling]
    refine run_yes s_TooMany_TooMany (by omega) fun O2 t1 t2 => ?_
    simp [i_TooMany_PulseError, i_TooMany_BadSpelling, f_what, f_most]
    exact t2 _ _ q
  | badSp i =>
    simp only [wrX]
    rw [runH_no s_BadSpelling_NotBook, runH_no s_BadSpelling_NoSpelling, runH_no s_BadSpelling_TooMany]
    refine run_yes s_BadSpelling_BadSpelling (by omega) fun O2 t1 t2 => ?_
    simp [i_BadSpelling_PulseError, i_BadSpelling_BadNumber, f_BadSpelling]
    exact t2 _ _ q
  | badNum i =>
    simp only [wrX]
    rw [runH_no s_BadNumber_NotBook, runH_no s_BadNumber_NoSpelling, runH_no s_BadNumber_TooMany, runH_no s_BadNumber_BadSpelling]
    refine run_yes s_BadNumber_BadNumber (by omega) fun O2 t1 t2 => ?_
    simp [i_BadNumber_PulseError, i_BadNumber_BadSize, f_BadNumber]
    exact t2 _ _ q
theorem end_nb (m : Int) (hρ : ρ.length = 4) (q : O.Q (ouD (.notBook m)) h) : Run G O ks (runH tab.sub "NotBook" [("states", .int m)] G HS ρ h) := by
  refine run_yes s_NotBook_NotBook (by omega) fun O2 t1 t2 => ?_
  simp [i_NotBook_PulseError, i_NotBook_BadNumber, f_NotBook]
  exact t2 _ _ q
theorem end_big (m : Int) (hρ : ρ.length = 4) (q : O.Q (ouD (.big m)) h) : Run G O ks (runH tab.sub "BadSize" [("size", .int m)] G HS ρ h) := by
  rw [runH_no s_BadSize_NotBook, runH_no s_BadSize_NoSpelling, runH_no s_BadSize_TooMany, runH_no s_BadSize_BadSpelling, runH_no s_BadSize_BadNumber]
  refine run_yes s_BadSize_BadSize (by omega) fun O2 t1 t2 => ?_
  simp [i_BadSize_PulseError, f_BadSize]
  exact t2 _ _ q
end
theorem ask_letters {p : Plan} {rows : Dt} {R : List (List Tr)} (wp : Wf p) (n40 : p.1 ≤ 40) (s : Sh P h rows (.lst (R.map .lst))) (q : ∀ h', h <+: h' → Q (ouD (lettersR p R)) h') : WE (callK D (k + 7) i_law_ask [.str "letters", pD p, rows] h) Q X := by
  refine call_wp (md := D_law_ask) rfl rfl fun O oN oQ oX => ?_
  simp only [m_law_ask]
  refine run_try fun O1 o1 o2 o3 => ?_
  simp [eq_str so_let so_let]
  refine letters wp n40 s (fun d e h' p' => ?_) (fun m e h' p' => ?_) (fun w e h' p' => ?_) (fun m e h' p' => ?_)
  · refine o2 _ _ (oQ _ _ ?_)
    have := q h' p'; rw [e] at this; exact this
  · refine o3 _ _ _ _ (end_nb m rfl (oQ _ _ ?_))
    have := q h' p'; rw [e] at this; exact this
  · refine o3 _ _ _ _ (end_wr w rfl (oQ _ _ ?_))
    have := q h' p'; rw [e] at this; exact this
  · refine o3 _ _ _ _ (end_big m rfl (oQ _ _ ?_))
    have := q h' p'; rw [e] at this; exact this
theorem ask_even {p : Plan} {rows : Dt} {R : List (List Tr)} (wp : Wf p) (s : Sh P h rows (.lst (R.map .lst))) (q : ∀ h', h <+: h' → Q (ouD (evenR p R)) h') : WE (callK D (k + 7) i_law_ask [.str "even", pD p, rows] h) Q X := by
  refine call_wp (md := D_law_ask) rfl rfl fun O oN oQ oX => ?_
  have n2 : ¬ (("even" : Str) = "letters") := by decide +kernel
  simp only [m_law_ask]
  refine run_try fun O1 o1 o2 o3 => ?_
  simp [eq_str so_even so_let, eq_str so_even so_even, n2]
  refine even_of wp s (fun d e h' p' => ?_) (fun m e h' p' => ?_) (fun w e h' p' => ?_)
  · refine o2 _ _ (oQ _ _ ?_)
    have := q h' p'; rw [e] at this; exact this
  · refine o3 _ _ _ _ (end_nb m rfl (oQ _ _ ?_))
    have := q h' p'; rw [e] at this; exact this
  · refine o3 _ _ _ _ (end_wr w rfl (oQ _ _ ?_))
    have := q h' p'; rw [e] at this; exact this
theorem ask_dist {p : Plan} {rows : Dt} {R : List (List Tr)} (s : Sh P h rows (.lst (R.map .lst))) (q : ∀ h', h <+: h' → Q (ouD (distR R)) h') : WE (callK D (k + 7) i_law_ask [.str "distance", pD p, rows] h) Q X := by
  refine call_wp (md := D_law_ask) rfl rfl fun O oN oQ oX => ?_
  have n2 : ¬ (("distance" : Str) = "letters") := by decide +kernel
  have n3 : ¬ (("distance" : Str) = "even") := by decide +kernel
  simp only [m_law_ask]
  refine run_try fun O1 o1 o2 o3 => ?_
  simp [eq_str so_dist so_let, eq_str so_dist so_even, n2, n3]
  refine distance (k := k + 2) s (fun d e h' p' => ?_) (fun w e h' p' => ?_)
  · refine o2 _ _ (oQ _ _ ?_)
    have := q h' p'; rw [e] at this; exact this
  · refine o3 _ _ _ _ (end_wr w rfl (oQ _ _ ?_))
    have := q h' p'; rw [e] at this; exact this
end K77
end
section
set_option maxRecDepth 20000
namespace EP
open PySem L2
def rfT (name : Str) (t : Tr) : Tr := .tup [.str "refused", .str name, t, .bl true, .bl false]
def lanT : Lr → Tr
  | .badSize t => rfT "BadSize" t
  | .noPl t => rfT "NoPlace" t
  | .twice i => rfT "Twice" (.int i)
  | .badAhead t => rfT "BadAhead" t
  | .ok l => .tup [.str "given", (lD l).tr]
theorem plains_map {α : Type} (f : α → Dt) (xs : List α) (h : ∀ x ∈ xs, (f x).plain = true) : plains (xs.map f) = true := by
  rw [plains_all, List.all_eq_true]
  intro d hd
  obtain ⟨x, hx, rfl⟩ := List.mem_map.mp hd
  exact h x hx
theorem plains2 {a b : Dt} (h1 : a.plain = true) (h2 : b.plain = true) : (Dt.tup [a, b]).plain = true := by
  show plains [a, b] = true
  unfold plains plains plains
  rw [h1, h2]; rfl
theorem eD_plain (c : Word × Int) : (eD c).plain = true := plains2 (wD_plain c.1).1 rfl
theorem sD_plain (l : Row) : (sD l).plain = true := plains_map _ _ fun c _ => eD_plain c
theorem lD_plain (l : Lim) : (lD l).plain = true := plains2 rfl (sD_plain l.2)
theorem pD_plain (p : Plan) : (pD p).plain = true := plains2 rfl (plains_map _ _ fun r _ => sD_plain r)
end EP
namespace K77
open PySem L2 EP
variable {k : Nat} {h : MH} {P : Nat → Prop} {Q : Dt → MH → Prop} {X : Str → Fs → MH → Prop}
theorem so_giv : PyData.strOk "given" = true := by decide +kernel
theorem so_bs : PyData.strOk "BadSize" = true := by decide +kernel
theorem so_np : PyData.strOk "NoPlace" = true := by decide +kernel
theorem so_tw : PyData.strOk "Twice" = true := by decide +kernel
theorem so_ba : PyData.strOk "BadAhead" = true := by decide +kernel
theorem rf_sh {s : Str} {d : Dt} {t : Tr} (so : PyData.strOk s = true) (x : Sh P h d t) : Sh P h (rfD s d) (rfT s t) := .tup (.cons (.str _ so_ref) (.cons (.str _ so) (.cons x (.cons (.bl _) (.cons (.bl _) .nil)))))
theorem ask_lanes {n c a : Tr} {dn dc da dp : Dt} {T : List Tr} (sn : Sh P h dn n) (sc : Sh P h dc c) (sa : Sh P h da a) (s : SeqSh P h dp T) (hl : T.length ≤ 500) (on : Odd n) (oc : Odd c) (oa : Odd a) (ho : ∀ t ∈ T, Odd t)
    (q1 : ∀ l, lanesR n c T a = .ok l → ∀ h', h <+: h' → Q (.tup [.str "given", lD l]) h') (q2 : (∀ l, lanesR n c T a ≠ .ok l) → ∀ s d h', h <+: h' → Sh (fun _ => True) h' (rfD s d) (lanT (lanesR n c T a)) → Q (rfD s d) h') : WE (callK D (k + 7) i_law_ask_lanes [dn, dc, dp, da] h) Q X := by
  refine call_wp (md := D_law_ask_lanes) rfl rfl fun O oN oQ oX => ?_
  simp only [m_law_ask_lanes]
  refine run_try fun O1 o1 o2 o3 => ?_
  simp
  refine lanes_limit sn sc sa s hl on oc oa ho (fun l e h' p => ?_) (fun t e d' h' p s1 => ?_) (fun t e d' h' p s1 => ?_) (fun i e h' p => ?_) (fun t e d' h' p s1 => ?_)
  · exact o2 _ _ (oQ _ _ (q1 l e h' p))
  · refine o3 _ _ _ _ ?_
    refine run_yes s_BadSize_BadSize (by simp) fun O2 t1 t2 => ?_
    simp [i_BadSize_PulseError, i_BadSize_NoPlace, f_BadSize]
    exact t2 _ _ (oQ _ _ (q2 (by rw [e]; intro l hl; cases hl) "BadSize" d' h' p (by rw [e]; exact rf_sh so_bs (s1.low fun _ _ => trivial))))
  · refine o3 _ _ _ _ ?_
    rw [runH_no s_NoPlace_BadSize]
    refine run_yes s_NoPlace_NoPlace (by simp) fun O2 t1 t2 => ?_
    simp [i_NoPlace_PulseError, i_NoPlace_Twice, f_NoPlace]
    exact t2 _ _ (oQ _ _ (q2 (by rw [e]; intro l hl; cases hl) "NoPlace" d' h' p (by rw [e]; exact rf_sh so_np (s1.low fun _ _ => trivial))))
  · refine o3 _ _ _ _ ?_
    rw [runH_no s_Twice_BadSize, runH_no s_Twice_NoPlace]
    refine run_yes s_Twice_Twice (by simp) fun O2 t1 t2 => ?_
    simp [i_Twice_PulseError, i_Twice_BadAhead, f_Twice]
    exact t2 _ _ (oQ _ _ (q2 (by rw [e]; intro l hl; cases hl) "Twice" (.int i) h' p (by rw [e]; exact rf_sh so_tw (.int _))))
  · refine o3 _ _ _ _ ?_
    rw [runH_no s_BadAhead_BadSize, runH_no s_BadAhead_NoPlace, runH_no s_BadAhead_Twice]
    refine run_yes s_BadAhead_BadAhead (by simp) fun O2 t1 t2 => ?_
    simp [i_BadAhead_PulseError, f_BadAhead]
    exact t2 _ _ (oQ _ _ (q2 (by rw [e]; intro l hl; cases hl) "BadAhead" d' h' p (by rw [e]; exact rf_sh so_ba (s1.low fun _ _ => trivial))))
theorem whole_lt {d : Dt} {t : Tr} {i j : Nat} {lo hi : Int} {ρ : EP.Env} {G : Orc} : True := trivial
theorem due_lanes {n c b : Tr} {dn dc db dp : Dt} {T : List Tr} (sn : Sh P h dn n) (sc : Sh P h dc c) (sb : Sh P h db b) (s : Sh P h dp (.lst T)) (hl : T.length ≤ 500)
    (q1 : ∀ l, lanesR n c T b = .ok l → ∀ h', h <+: h' → Q (.tup [.str "given", lD l]) h') (q2 : (∀ l, lanesR n c T b ≠ .ok l) → ∀ s d h', h <+: h' → Sh P h' (rfD s d) (lanT (lanesR n c T b)) → Q (rfD s d) h') : WE (callK D (k + 2) i_law_due_lanes [dn, dc, dp, db] h) Q X := by
  refine call_wp (md := D_law_due_lanes) rfl rfl fun O oN oQ oX => ?_
  obtain ⟨a, ds, rfl, pa, e0, sr⟩ := s.list
  have hdl := sr.length
  simp only [m_law_due_lanes, run_seq]
  refine run_sIf (!nOk n) (h1 := h) ?_ (fun hn => ?_) (fun hn => ?_)
  · cases sn with
    | int i =>
      simp [law_is_whole (P := P) (.int i), Tr.whole, nOk, if_ok]
    | lst u v w => simp [law_is_whole (P := P) (.lst u v w), Tr.whole, nOk]
    | tup r => simp [law_is_whole (P := P) (.tup r), Tr.whole, nOk]
    | str x e => simp [law_is_whole (P := P) (.str x e), Tr.whole, nOk]
    | non => simp [law_is_whole (P := P) .non, Tr.whole, nOk]
    | bl x => simp [law_is_whole (P := P) (.bl x), Tr.whole, nOk]
  · have hn : nOk n = false := by simpa using hn
    have hR : lanesR n c T b = .badSize n := by unfold lanesR; rw [if_pos hn]
    simp [law_refused]
    exact oQ _ _ (q2 (by rw [hR]; intro l hl; cases hl) "BadSize" dn h (pre_refl _) (by rw [hR]; exact rf_sh so_bs sn))
  have hn : nOk n = true := by simpa using hn
  have hn' : ¬ nOk n = false := by rw [hn]; simp
  cases sn with
  | int N =>
    simp only [nOk, Bool.and_eq_true, decide_eq_true_eq] at hn
    obtain ⟨n1, n2⟩ := hn
    simp only [sSkip_s, run_nx, run_seq]
    refine run_sIf (!cOk c) (h1 := h) ?_ (fun hc => ?_) (fun hc => ?_)
    · cases sc with
      | int i =>
        simp [law_is_whole (P := P) (.int i), Tr.whole, cOk, if_ok]
      | lst u v w => simp [law_is_whole (P := P) (.lst u v w), Tr.whole, cOk]
      | tup r => simp [law_is_whole (P := P) (.tup r), Tr.whole, cOk]
      | str x e => simp [law_is_whole (P := P) (.str x e), Tr.whole, cOk]
      | non => simp [law_is_whole (P := P) .non, Tr.whole, cOk]
      | bl x => simp [law_is_whole (P := P) (.bl x), Tr.whole, cOk]
    · have hc : cOk c = false := by simpa using hc
      have hR : lanesR (.int N) c T b = .badSize c := by unfold lanesR; rw [if_neg hn', if_pos hc]
      simp [law_refused]
      exact oQ _ _ (q2 (by rw [hR]; intro l hl; cases hl) "BadSize" dc h (pre_refl _) (by rw [hR]; exact rf_sh so_bs sc))
    have hc : cOk c = true := by simpa using hc
    have hc' : ¬ cOk c = false := by rw [hc]; simp
    cases sc with
    | int v =>
      simp only [cOk, Bool.and_eq_true, decide_eq_true_eq] at hc
      obtain ⟨v1, v2⟩ := hc
      simp only [sSkip_s, run_nx, run_seq]
      refine run_sFor (iRg1_wp ?_)
      simp [len_lst e0]
      refine ⟨sm_nat (by omega), ?_⟩
      have hpw : pw v T = (List.range T.length).findSome? (plV v T) := rfl
      have hRn : ∀ t, pw v T = some (.noPl t) → lanesR (.int N) (.int v) T b = .noPl t := fun t e => by unfold lanesR; rw [if_neg hn', if_neg hc']; simp only [Tr.val]; rw [e]
      have hRt : ∀ t, pw v T = some (.twice t) → lanesR (.int N) (.int v) T b = .twice t := fun t e => by unfold lanesR; rw [if_neg hn', if_neg hc']; simp only [Tr.val]; rw [e]
      refine run_rng (fun i ρ h' => h <+: h' ∧ (∀ j, j < i → plV v T j = none) ∧ ∃ x4, ρ = [some (.int N), some (.int v), some (.loc a), some db, x4, none, none]) ⟨pre_refl _, fun j hj => absurd hj (Nat.not_lt_zero _), none, rfl⟩ ?_ ?_
      · rintro x ρ h1 hx ⟨pr, hv, x4, rfl⟩ O2 t2
        have hT : x < T.length := by omega
        have sx := (sr.at_ hT).pre pr
        have gx : T.getD x .non = T[x] := by simp [hT]
        have gy : oGet (.loc a) (.int (x : Nat)) h1 = .ok (ds.getD x .non) h1 := get_lst (pre_get pr e0) (by omega) (sr.ix hT)
        generalize ds.getD x Dt.non = dx at sx gy
        simp [-sIf_s]
        refine run_sIf (!T[x].blw v) (h1 := h1) ?_ (fun hb => ?_) (fun hb => ?_)
        · have hw := law_is_whole (k := k) sx
          generalize T[x] = t at sx hw
          cases sx with
          | int i =>
            simp [gy, hw, Tr.whole, Tr.blw, if_ok]
          | _ => simp [gy, hw, Tr.whole, Tr.blw]
        · have hb : T[x].blw v = false := by simpa using hb
          have hp : pw v T = some (.noPl T[x]) := findSome_at hT hv (by unfold plV; rw [gx, if_pos hb])
          have hR := hRn _ hp
          simp [gy, law_refused]
          exact t2.Q _ _ (oQ _ _ (q2 (by rw [hR]; intro l hl; cases hl) "NoPlace" dx h1 pr (by rw [hR]; exact rf_sh so_np sx)))
        · have hb : T[x].blw v = true := by simpa using hb
          have hall : ∀ t ∈ T.take x, t.blw v = true := fun t ht => by
            rw [List.mem_take_iff_getElem] at ht
            obtain ⟨j, hj, rfl⟩ := ht
            have hjT : j < T.length := by omega
            have := hv j (by omega)
            unfold plV at this
            have g : T.getD j .non = T[j] := by simp [hjT]
            rw [g] at this
            cases hbj : T[j].blw v with
            | true => rfl
            | false => rw [hbj] at this; simp at this
          obtain ⟨i1, i2, i3⟩ := intsT_of hall
          have sds : Shs P h (ds.take x) (T.take x) := by
            have key : ∀ {ds : List Dt} {ts : List Tr} (n : Nat), Shs P h ds ts → Shs P h (ds.take n) (ts.take n) := by
              intro ds
              induction ds with
              | nil => intro ts n z; cases z; simp; exact .nil
              | cons a r ih =>
                intro ts n z
                cases z with
                | cons za zr =>
                  cases n with
                  | zero => exact .nil
                  | succ n => exact .cons za (ih n zr)
            exact key x sr
          rw [i1] at sds
          have etk := Shs.ints_eq sds
          cases hT2 : T[x] with
          | int w =>
            rw [hT2] at sx
            cases sx
            have hcut : oCut (.loc a) none (some (x : Int)) h1 = .ok (.loc h1.length) (h1 ++ [.lst (ds.take x)]) := by
              have : cutD ds none (some (x : Int)) = ds.take x := by
                unfold cutD
                have h1 : HT.sIx ds.length 0 none = 0 := rfl
                have h2 : HT.sIx ds.length ds.length (some (x : Int)) = x := by
                  rw [HT.sIx_nat]; omega
                rw [h1, h2]
                simp
              simp [oCut, getL, pre_get pr e0, this]
            have e9 : (h1 ++ [MO.lst (ds.take x)])[h1.length]? = some (.lst ((intsT (T.take x)).map .int)) := by simp [etk]
            simp [-sIf_s]
            refine run_sIf (decide (w ∈ intsT (T.take x))) (h1 := h1 ++ [.lst (ds.take x)]) (by simp [gy, hcut, in_iL e9]) (fun hm => ?_) (fun hm => ?_)
            · have hm : w ∈ intsT (T.take x) := by simpa using hm
              have hp : pw v T = some (.twice w) := findSome_at hT hv (by unfold plV; rw [gx, if_neg (by simp [hb]), hT2]; exact if_pos hm)
              have hR := hRt _ hp
              have gy2 : oGet (.loc a) (.int (x : Nat)) (h1 ++ [.lst (ds.take x)]) = .ok (.int w) (h1 ++ [.lst (ds.take x)]) := by
                have : ds[x]? = some (.int w) := by
                  have hxd : x < ds.length := by omega
                  have gy3 : oGet (.loc a) (.int (x : Nat)) h1 = .ok ds[x] h1 := get_lst (pre_get pr e0) (by omega) (by simp [hxd])
                  rw [gy3] at gy
                  rw [List.getElem?_eq_getElem hxd]
                  injection gy with gy _
                  rw [gy]
                exact get_lst (pre_get (pr.trans (pre_app _ _)) e0) (by omega) this
              simp [gy2, law_refused]
              exact t2.Q _ _ (oQ _ _ (q2 (by rw [hR]; intro l hl; cases hl) "Twice" (.int w) _ (pr.trans (pre_app _ _)) (by rw [hR]; exact rf_sh so_tw (.int _))))
            · have hm : ¬ w ∈ intsT (T.take x) := by simpa using hm
              simp
              refine t2.N _ _ ⟨pr.trans (pre_app _ _), fun j hj => ?_, _, rfl⟩
              by_cases hjx : j = x
              · subst hjx; unfold plV; rw [gx, if_neg (by simp [hb]), hT2]; exact if_neg hm
              · exact hv j (by omega)
          | _ => rw [hT2] at hb; simp [Tr.blw] at hb
      · rintro ρ h1 ⟨pr, hv, x4, rfl⟩
        rw [hdl] at hv
        have hp : pw v T = none := findSome_none hv
        simp only [run_nx, run_seq]
        have sb1 := sb.pre pr
        refine run_sIf (!b.blw 61) (h1 := h1) ?_ (fun hb => ?_) (fun hb => ?_)
        · have hw := law_is_whole (k := k) sb1
          cases sb1 with
          | int i =>
            simp [hw, Tr.whole, Tr.blw, if_ok]
            by_cases h5 : 0 ≤ i
            · simp [h5]; omega
            · simp [h5]
          | _ => simp [hw, Tr.whole, Tr.blw]
        · have hb : b.blw 61 = false := by simpa using hb
          have hR : lanesR (.int N) (.int v) T b = .badAhead b := by unfold lanesR; rw [if_neg hn', if_neg hc']; simp only [Tr.val]; rw [hp]; exact if_pos hb
          simp [law_refused]
          exact oQ _ _ (q2 (by rw [hR]; intro l hl; cases hl) "BadAhead" db h1 pr (by rw [hR]; exact rf_sh so_ba sb1))
        have hb : b.blw 61 = true := by simpa using hb
        have hb' : ¬ b.blw 61 = false := by rw [hb]; simp
        cases sb1 with
        | int β =>
          have hR : lanesR (.int N) (.int v) T (.int β) = if 40 < N * v then .badSize (.int (N * v)) else .ok (lanesL N v (intsT T) β) := by
            unfold lanesR; rw [if_neg hn', if_neg hc']; simp only [Tr.val]; rw [hp]; exact if_neg hb'
          have mulx : ∀ {h : MH} (x : Int), oMul (.int N) (.int x) h = .ok (.int (N * x)) h := fun x => mul_l (by omega) (by omega)
          have mulr : ∀ {h : MH} (x : Int), oMul (.int x) (.int N) h = .ok (.int (x * N)) h := fun x => mul_r (by omega) (by omega)
          simp [mulx]
          refine run_ite (fun h40 => ?_) (fun h40 => ?_)
          · rw [if_pos h40] at hR
            simp [mulx, law_refused]
            exact oQ _ _ (q2 (by rw [hR]; intro l hl; cases hl) "BadSize" (.int (N * v)) h1 pr (by rw [hR]; exact rf_sh so_bs (.int _)))
          · rw [if_neg h40] at hR
            obtain ⟨hbT, hnd⟩ := pw_none hp
            obtain ⟨i1, i2, i3⟩ := intsT_of hbT
            rw [i1] at sr
            have ed := Shs.ints_eq sr
            rw [ed] at e0
            simp
            refine lc_it ?_
            simp [itOf_lst (pre_get pr e0)]
            have hi0 : HI (itL a (intsT T).length) (fun h' => h1 <+: h') ((intsT T).map Dt.int) := by
              have := hi_lst (n := a) (H := fun h' => h1 <+: h') fun h' p => pre_get p (pre_get pr e0)
              rwa [List.length_map] at this
            refine lc_wpm (f := Dt.int) (xs := intsT T) rfl hi0 (fun p => .tup [wD (runW (N * p) N), .int β]) (by rw [sizeLine_eq, i2]; omega) ?_ ?_
            · intro p hp2
              refine ⟨_, rfl, fun h' pr => ?_⟩
              have hpv := i3 p hp2
              have m1 : N * p ≤ 40 * 8 := Int.mul_le_mul (by omega) (by omega) (by omega) (by omega)
              have m0 : 0 ≤ N * p := Int.mul_nonneg (by omega) (by omega)
              have hcm : p * N = N * p := Int.mul_comm _ _
              simp [mulr, hcm, rgOk_of (m := N * p) (n := N * p + N) (by omega) (by omega) (by omega) (by omega), rgD_runW]
            · intro h2 p2 e2
              simp [tuple_lst e2, mulx]
              refine oQ _ _ (Q_eq (q1 _ hR h2 (pr.trans p2)) ?_)
              simp [lanesL, lD, sD, eD]
        | _ => simp [Tr.blw] at hb
    | _ => simp [cOk] at hc
  | _ => simp [nOk] at hn
end K77
end
section
set_option maxRecDepth 20000
namespace EP
open PySem L2
theorem pow_k {h : MH} {i : Int} {j : Int} (a : -1000000 ≤ i) (b : i ≤ 1000000) (c : 0 ≤ j) (d : j ≤ 1000) : oPow (.int i) (.int j) h = .ok (.int (i ^ j.toNat)) h := by
  have e := lim64_big
  show (if _ then _ else _) = _
  rw [if_pos (by generalize lim64 = l at *; omega)]
theorem big_mul {h : MH} : oMul (.int (10 ^ 60)) (.int (10 ^ 60)) h = .ok (.int (10 ^ 60 * 10 ^ 60)) h := by
  have h1 : (10 ^ 60 : Int) < lim200 := by decide +kernel
  have h0 : -lim200 < (10 ^ 60 : Int) := by decide +kernel
  show (if ((-lim64 < (10 ^ 60 : Int) ∧ (10 ^ 60 : Int) < lim64) ∨ (-lim64 < (10 ^ 60 : Int) ∧ (10 ^ 60 : Int) < lim64)) ∨ (-lim200 < (10 ^ 60 : Int) ∧ (10 ^ 60 : Int) < lim200 ∧ -lim200 < (10 ^ 60 : Int) ∧ (10 ^ 60 : Int) < lim200) then RE.ok (Dt.int (10 ^ 60 * 10 ^ 60)) h else .bad) = _
  exact if_pos (.inr ⟨h0, h1, h0, h1⟩)
/-- different numbers that all stand in a list -/
theorem nodup_sub : ∀ (l m : List Int), l.Nodup → (∀ x ∈ l, x ∈ m) → l.length ≤ m.length
  | [], m, _, _ => Nat.zero_le _
  | a :: l, m, hn, hs => by
    have ha : a ∈ m := hs a (by simp)
    have hn' := List.nodup_cons.mp hn
    have := nodup_sub l (m.erase a) hn'.2 fun x hx => by
      have hxa : x ≠ a := fun e => hn'.1 (e ▸ hx)
      exact (List.mem_erase_of_ne hxa).mpr (hs x (by simp [hx]))
    rw [List.length_erase_of_mem ha] at this
    have : 0 < m.length := List.length_pos_of_mem ha
    simp only [List.length_cons]
    omega
/-- a walk round all numbers below c meets one that is not in a short list -/
theorem probe {c x : Int} {L : List Int} (hx : 0 ≤ x ∧ x < c) (hL : (L.length : Int) < c) (h : ∀ j : Nat, j < L.length → (x + (j : Int)) % c ∈ L) : (x + (L.length : Int)) % c ∉ L := by
  intro hm
  have hall : ∀ j : Nat, j ≤ L.length → (x + (j : Int)) % c ∈ L := fun j hj => by
    by_cases e : j = L.length
    · rw [e]; exact hm
    · exact h j (by omega)
  have := nodup_sub ((List.range (L.length + 1)).map fun j : Nat => (x + (j : Int)) % c) L (by
    rw [List.nodup_iff_pairwise_ne, List.pairwise_map]
    refine List.Pairwise.imp_of_mem ?_ List.pairwise_lt_range
    intro a b ha hb hab e
    have ha : a < L.length + 1 := by simpa using ha
    have hb : b < L.length + 1 := by simpa using hb
    have q1 := Int.emod_def (x + (a : Int)) c
    have q2 := Int.emod_def (x + (b : Int)) c
    have e : (x + (a : Int)) % c = (x + (b : Int)) % c := e
    generalize (x + (a : Int)) / c = u at q1
    generalize (x + (b : Int)) / c = v at q2
    have h1 : (b : Int) - a = c * (v - u) := by rw [Int.mul_sub]; omega
    have h2 : 0 < c * (v - u) := by omega
    have h3 : c * (v - u) < c * 1 := by omega
    have h4 : v - u < 1 := Int.lt_of_mul_lt_mul_left h3 (by omega)
    have h5 : v - u ≤ 0 := by omega
    have h6 : c * (v - u) ≤ c * 0 := Int.mul_le_mul_of_nonneg_left h5 (by omega)
    omega) (by
    intro y hy
    obtain ⟨j, hj, rfl⟩ := List.mem_map.mp hy
    exact hall j (by have : j < L.length + 1 := by simpa using hj
                     omega))
  simp at this
  omega
end EP
namespace K77
open PySem L2 EP
variable {k : Nat} {h : MH} {Q : Dt → MH → Prop} {X : Str → Fs → MH → Prop}
theorem law_great {m n : Nat} (hs : St m n h) (hm : m ≤ h.length) (q : ∀ (r : Int) h', Kp m n h h' → Q (.int r) h') : WE (callK D (k + 3) i_law_great [.loc n] h) Q X := by
  refine call_wp (md := D_law_great) rfl rfl fun O oN oQ oX => ?_
  simp only [m_law_great, run_seq]
  have e60 : ∀ {h : MH}, oPow (.int 10) (.int 60) h = .ok (.int (10 ^ 60)) h := pow_k (by omega) (by omega) (by omega) (by omega)
  have eS : ∀ {G : Orc} {ρ : EP.Env} {h : MH}, eOp oSub (eOp oMul (eOp oPow (eC (.int 10)) (eC (.int 60))) (eOp oPow (eC (.int 10)) (eC (.int 60)))) (eC (.int 1)) G ρ h = .ok (.int (10 ^ 60 * 10 ^ 60 - 1)) h := by
    intro G ρ h
    simp only [eOp_s, eC_s, bnd_ok, e60, big_mul, sub_int]
  rw [sSet_s, eS]
  generalize (10 ^ 60 * 10 ^ 60 - 1 : Int) = big
  simp only [bndS_ok, assign_nm, run_nx, run_seq]
  refine run_join (fun ρ h' => Kp m n h h' ∧ ∃ (v : Int) (x : Option Dt), ρ = [some (.loc n), some (.int v), x]) (fun O2 a1 a2 a3 a4 a5 => ?_) ?_
  · simp
    refine law_take hs hm (lt200 (by omega)) fun r h1 k1 r0 r1 => ?_
    simp
    refine run_ite (fun hb => ?_) (fun hb => ?_)
    · simp
      refine law_take k1.st (Nat.le_trans hm k1.len) (lt200 (by omega)) fun r2 h2 k2 r20 r21 => ?_
      simp
      have k12 := k1.trans k2
      refine run_sFor (iRg1_wp ?_)
      simp
      refine law_take k12.st (Nat.le_trans hm k12.len) (lt200 (by omega)) fun r3 h3 k3 r30 r31 => ?_
      simp
      refine ⟨sm_int (by omega) (by have := r31 (by omega); omega), ?_⟩
      have k13 := k12.trans k3
      refine run_rng (fun i ρ h' => Kp m n h h' ∧ ∃ (v : Int) (x : Option Dt), ρ = [some (.loc n), some (.int v), x]) ⟨k13, _, _, rfl⟩ ?_ ?_
      · rintro i ρ h4 hi ⟨k4, v, x, rfl⟩ O3 t3
        simp
        rw [mul_r (by omega) (by omega)]
        simp
        refine law_take k4.st (Nat.le_trans hm k4.len) (lt200 (by omega)) fun r5 h5 k5 r50 r51 => ?_
        simp
        exact t3.N _ _ ⟨k4.trans k5, _, _, rfl⟩
      · rintro ρ h4 ⟨k4, v, x, rfl⟩
        simp
        exact a1 _ _ ⟨k4, _, _, rfl⟩
    · simp
      exact a1 _ _ ⟨k1, _, _, rfl⟩
  · rintro ρ h1 ⟨k1, v, x, rfl⟩
    simp
    refine law_take k1.st (Nat.le_trans hm k1.len) (lt200 (by omega)) fun r2 h2 k2 r20 r21 => ?_
    simp
    refine run_ite (fun hb => ?_) (fun hb => ?_)
    · simp
      exact oQ _ _ (q _ h2 (k1.trans k2))
    · simp
      exact oQ _ _ (q _ h2 (k1.trans k2))
theorem str_ok {i : Int} (h0 : 0 ≤ i) (h1 : i < 5) : PyData.strOk (Str.ofString (toString i)) = true := by
  have : i = 0 ∨ i = 1 ∨ i = 2 ∨ i = 3 ∨ i = 4 := by omega
  rcases this with rfl | rfl | rfl | rfl | rfl <;> decide +kernel
theorem str_int {i : Int} (h0 : 0 ≤ i) (h1 : i < 5) : bStr [.int i] h = .ok (.str (Str.ofString (toString i))) h := by
  have e := lim200_big
  have h2 : -lim200 < i ∧ i < lim200 := by generalize lim200 = l at *; omega
  simp only [bStr, if_pos h2]
theorem law_no_number {m n : Nat} (hs : St m n h) (hm : m ≤ h.length) (q : ∀ d t h', Kp m n h h' → Sh (fun i => h.length ≤ i) h' d t → Odd t → Q d h') : WE (callK D (k + 3) i_law_no_number [.loc n] h) Q X := by
  refine call_wp (md := D_law_no_number) rfl rfl fun O oN oQ oX => ?_
  simp [m_law_no_number]
  refine law_take hs hm (lt200 (by omega)) fun r h1 k1 r0 r1 => ?_
  have r1 := r1 (by omega)
  have hl1 := k1.len
  simp [str_int r0 r1]
  rw [newL_le (by rw [sizeLine_eq]; simp)]
  simp
  have g0 : ∀ L : MH, (h1 ++ ([MO.lst [], MO.lst [Dt.int r], MO.lst [Dt.int r], MO.lst [Dt.loc (h1.length + 1 + 1)]] ++ L))[h1.length]? = some (.lst []) := fun L => by simp
  have g1 : ∀ L : MH, (h1 ++ ([MO.lst [], MO.lst [Dt.int r], MO.lst [Dt.int r], MO.lst [Dt.loc (h1.length + 1 + 1)]] ++ L))[h1.length + 1]? = some (.lst [.int r]) := fun L => by simp
  have g2 : ∀ L : MH, (h1 ++ ([MO.lst [], MO.lst [Dt.int r], MO.lst [Dt.int r], MO.lst [Dt.loc (h1.length + 1 + 1)]] ++ L))[h1.length + 1 + 1]? = some (.lst [.int r]) := fun L => by
    rw [Nat.add_assoc]; simp
  have g3 : ∀ L : MH, (h1 ++ ([MO.lst [], MO.lst [Dt.int r], MO.lst [Dt.int r], MO.lst [Dt.loc (h1.length + 1 + 1)]] ++ L))[h1.length + 1 + 1 + 1]? = some (.lst [.loc (h1.length + 1 + 1)]) := fun L => by
    rw [Nat.add_assoc, Nat.add_assoc]; simp
  have g4 : ∀ x : MO, (h1 ++ ([MO.lst [], MO.lst [Dt.int r], MO.lst [Dt.int r], MO.lst [Dt.loc (h1.length + 1 + 1)]] ++ [x]))[h1.length + 4]? = some x := fun x => by simp
  simp only [List.cons_append, List.nil_append] at g0 g1 g2 g3 g4
  generalize hx : (Dt.str (Str.ofString r.repr)) = sx
  have hsx : Sh (fun i => h.length ≤ i) h1 sx (.str (Str.ofString r.repr)) := by rw [← hx]; exact .str _ (str_ok r0 r1)
  generalize hM : (MO.lst [Dt.bl true, Dt.bl false, Dt.non, Dt.str (Str.ofString ""), sx, Dt.loc h1.length, Dt.tup [], Dt.loc (h1.length + 1), Dt.tup [Dt.int r], Dt.str (Str.ofString "a"), Dt.loc (h1.length + 1 + 1 + 1), Dt.tup [Dt.bl true, Dt.non]]) = M
  have g0 := g0 [M]
  have g1 := g1 [M]
  have g2 := g2 [M]
  have g3 := g3 [M]
  have g4 := g4 M
  have p2 : h1 <+: h1 ++ [MO.lst [], MO.lst [Dt.int r], MO.lst [Dt.int r], MO.lst [Dt.loc (h1.length + 1 + 1)], M] := pre_app _ _
  generalize h1 ++ [MO.lst [], MO.lst [Dt.int r], MO.lst [Dt.int r], MO.lst [Dt.loc (h1.length + 1 + 1)], M] = H2 at g0 g1 g2 g3 g4 p2
  have k2 := k1.thenPre p2
  refine law_take k2.st (Nat.le_trans hm k2.len) (lt200 (by omega)) fun r2 h3 k3 r20 r21 => ?_
  have r21 := r21 (by omega)
  have k4 := k2.trans k3
  have g0 := k3.ge _ _ (by omega) g0
  have g1 := k3.ge _ _ (by omega) g1
  have g2 := k3.ge _ _ (by omega) g2
  have g3 := k3.ge _ _ (by omega) g3
  have g4 := k3.ge _ _ (by omega) g4
  rw [← hM] at g4
  have hsx := (hsx.pre p2).mono (h' := h3) (fun i o hi e => k3.ge i o (Nat.le_trans hm hi) e)
  have fin : ∀ d t, oGet (.loc (h1.length + 4)) (.int r2) h3 = .ok d h3 → Sh (fun i => h.length ≤ i) h3 d t → Odd t → EP.WE (oGet (.loc (h1.length + 4)) (.int r2) h3) (fun a h => O.Q a h) fun C fs h => O.X C fs [some (Dt.loc n), some (Dt.int r), some (Dt.loc (h1.length + 4))] h := fun d t e s o => by
    rw [e, we_ok]
    exact oQ _ _ (q d t h3 k4 s o)
  have cs : r2 = 0 ∨ r2 = 1 ∨ r2 = 2 ∨ r2 = 3 ∨ r2 = 4 ∨ r2 = 5 ∨ r2 = 6 ∨ r2 = 7 ∨ r2 = 8 ∨ r2 = 9 ∨ r2 = 10 ∨ r2 = 11 := by omega
  rcases cs with rfl | rfl | rfl | rfl | rfl | rfl | rfl | rfl | rfl | rfl | rfl | rfl
  · exact fin _ _ (get_lst g4 (by omega) rfl) (.bl true) ⟨by simp [Tr.dep, depTs], by simp [Tr.nodes, nodesTs]⟩
  · exact fin _ _ (get_lst g4 (by omega) rfl) (.bl false) ⟨by simp [Tr.dep, depTs], by simp [Tr.nodes, nodesTs]⟩
  · exact fin _ _ (get_lst g4 (by omega) rfl) .non ⟨by simp [Tr.dep, depTs], by simp [Tr.nodes, nodesTs]⟩
  · exact fin _ _ (get_lst g4 (by omega) rfl) (.str _ (by decide +kernel)) ⟨by simp [Tr.dep], by simp [Tr.nodes]⟩
  · exact fin _ _ (get_lst g4 (by omega) rfl) hsx ⟨by simp [Tr.dep], by simp [Tr.nodes]⟩
  · exact fin _ _ (get_lst g4 (by omega) rfl) (.lst (by omega) g0 .nil) ⟨by simp [Tr.dep, depTs], by simp [Tr.nodes, nodesTs]⟩
  · exact fin _ _ (get_lst g4 (by omega) rfl) (.tup .nil) ⟨by simp [Tr.dep, depTs], by simp [Tr.nodes, nodesTs]⟩
  · exact fin _ _ (get_lst g4 (by omega) rfl) (.lst (by omega) g1 (.one (.int r))) ⟨by simp [Tr.dep, depTs], by simp [Tr.nodes, nodesTs]⟩
  · exact fin _ _ (get_lst g4 (by omega) rfl) (.tup (.one (.int r))) ⟨by simp [Tr.dep, depTs], by simp [Tr.nodes, nodesTs]⟩
  · exact fin _ _ (get_lst g4 (by omega) rfl) (.str _ (by decide +kernel)) ⟨by simp [Tr.dep], by simp [Tr.nodes]⟩
  · exact fin _ _ (get_lst g4 (by omega) rfl) (.lst (by omega) g3 (.one (.lst (by omega) g2 (.one (.int r))))) ⟨by simp [Tr.dep, depTs], by simp [Tr.nodes, nodesTs]⟩
  · exact fin _ _ (get_lst g4 (by omega) rfl) (.tup (.cons (.bl _) (.one .non))) ⟨by simp [Tr.dep, depTs], by simp [Tr.nodes, nodesTs]⟩
theorem law_outside {m n : Nat} {a b : Int} (hs : St m n h) (hm : m ≤ h.length) (q : ∀ d t h', Kp m n h h' → Sh (fun i => h.length ≤ i) h' d t → Odd t → Q d h') : WE (callK D (k + 4) i_law_outside [.loc n, .int a, .int b] h) Q X := by
  refine call_wp (md := D_law_outside) rfl rfl fun O oN oQ oX => ?_
  have oi : ∀ i : Int, Odd (.int i) := fun i => ⟨by simp [Tr.dep], by simp [Tr.nodes]⟩
  simp [m_law_outside]
  refine law_take hs hm (lt200 (by omega)) fun r h1 k1 r0 r1 => ?_
  simp
  refine run_ite (fun hb => ?_) (fun hb => ?_)
  · simp
    exact oQ _ _ (q _ _ h1 k1 (.int _) (oi _))
  simp
  refine run_ite (fun hb => ?_) (fun hb => ?_)
  · simp
    exact oQ _ _ (q _ _ h1 k1 (.int _) (oi _))
  simp
  refine run_ite (fun hb => ?_) (fun hb => ?_)
  · simp
    refine law_take k1.st (Nat.le_trans hm k1.len) (lt200 (by omega)) fun r2 h2 k2 r20 r21 => ?_
    simp
    exact oQ _ _ (q _ _ h2 (k1.trans k2) (.int _) (oi _))
  simp
  refine run_ite (fun hb => ?_) (fun hb => ?_)
  · simp
    refine law_great k1.st (Nat.le_trans hm k1.len) fun r2 h2 k2 => ?_
    simp
    by_cases h9 : r2 < a
    · simp [h9]
      exact oQ _ _ (q _ _ h2 (k1.trans k2) (.int _) (oi _))
    · by_cases h8 : b < r2
      · simp [h9, h8]
        exact oQ _ _ (q _ _ h2 (k1.trans k2) (.int _) (oi _))
      · simp [h9, h8]
        exact oQ _ _ (q _ _ h2 (k1.trans k2) (.int _) (oi _))
  simp
  refine law_no_number k1.st (Nat.le_trans hm k1.len) fun d t h2 k2 s o => ?_
  exact oQ _ _ (q _ _ h2 (k1.trans k2) (s.low fun i hi => Nat.le_trans k1.len hi) o)
end K77
end
section
set_option maxRecDepth 20000
namespace K77
open PySem L2 EP
variable {k : Nat} {h : MH} {Q : Dt → MH → Prop} {X : Str → Fs → MH → Prop}
theorem law_unlike {m n : Nat} {H c : Int} (hs : St m n h) (hm : m ≤ h.length) (H1 : 1 ≤ H) (HL : H < lim200) (c0 : 0 ≤ c) (c1 : c ≤ 1000)
    (q : ∀ (ns : List Int) a h', Kp m n h h' → h.length ≤ a → h'[a]? = some (.lst (ns.map .int)) → ns.Nodup → (∀ x ∈ ns, 0 ≤ x ∧ x < H) → (ns.length : Int) = (if H < c then H else c) → Q (.loc a) h') : WE (callK D (k + 3) i_law_unlike [.loc n, .int H, .int c] h) Q X := by
  refine call_wp (md := D_law_unlike) rfl rfl fun O oN oQ oX => ?_
  simp [m_law_unlike]
  refine run_sFor (iRg1_wp ?_)
  have hmin : bMin [.int c, .int H] = fun h => RE.ok (Dt.int (if H < c then H else c)) h := rfl
  simp [hmin]
  have hmc : 0 ≤ (if H < c then H else c) ∧ (if H < c then H else c) ≤ c ∧ (if H < c then H else c) ≤ H := by split <;> omega
  generalize (if H < c then H else c) = T at hmc q
  refine ⟨sm_int (by omega) (by omega), ?_⟩
  refine run_rng (fun i ρ h' => ∃ ns : List Int, ns.length = i ∧ (ns.Nodup ∧ ∀ x ∈ ns, 0 ≤ x ∧ x < H) ∧ Kp m n h h' ∧ h'[h.length]? = some (.lst (ns.map .int)) ∧ ∃ x4 x5 x6, ρ = [some (.loc n), some (.int H), some (.int c), some (.loc h.length), x4, x5, x6])
    ⟨[], rfl, by simp, .pre hs (pre_app _ _), by simp, _, _, _, rfl⟩ ?_ ?_
  · rintro i ρ h2 hi ⟨ns, hns, ⟨hnd, hr⟩, k2, e2, x4, x5, x6, rfl⟩ O2 t2
    have hl2 := k2.len
    simp
    refine law_take k2.st (Nat.le_trans hm k2.len) HL fun r1 h3 k3 r10 r11 => ?_
    have r11 := r11 (by omega)
    have e3 := k3.ge _ _ (by omega) e2
    have k23 := k2.trans k3
    refine run_sFor (iRg1_wp ?_)
    simp [len_lst e3]
    refine ⟨sm_nat (by omega), ?_⟩
    have hiH : (ns.length : Int) < H := by omega
    have fin : ∀ (x6 : Option Dt) (M : Int), 0 ≤ M → M < H → M ∉ ns → Run (callK D (k + 2)) O2 [sExpr (eMf mAppend (eVar 3) (aCons (eVar 5) aNil))] (.nx [some (.loc n), some (.int H), some (.int c), some (.loc h.length), some (.int (i : Nat)), some (.int M), x6] h3) := by
      intro x6 M M0 M1 hn
      obtain ⟨h4, f4, u⟩ := app_ex (v := .int M) e3 (by rw [sizeLine_eq, List.length_map]; omega)
      simp [isLst_lst e3, f4]
      refine t2.N _ _ ⟨ns ++ [M], by simp [hns], ⟨?_, fun x hx => ?_⟩, k23.up u (Nat.le_refl _) hm, ?_, _, _, _, rfl⟩
      · rw [List.nodup_append]
        exact ⟨hnd, by simp, fun a ha b hb => by simp at hb; subst hb; intro e; subst e; exact hn ha⟩
      · rcases List.mem_append.mp hx with z | z
        · exact hr x z
        · simp at z; subst z; exact ⟨M0, M1⟩
      · rw [u.at_]; simp
    have emod0 : ∀ x : Int, 0 ≤ x % H ∧ x % H < H := fun x => ⟨Int.emod_nonneg _ (by omega), Int.emod_lt_of_pos _ (by omega)⟩
    refine run_rng (fun j ρ h' => h' = h3 ∧ (∀ i : Nat, i < j → (r1 + (i : Int)) % H ∈ ns) ∧ ∃ x6, ρ = [some (.loc n), some (.int H), some (.int c), some (.loc h.length), some (.int (i : Nat)), some (.int ((r1 + (j : Int)) % H)), x6]) ⟨rfl, fun i hi => absurd hi (Nat.not_lt_zero _), x6, ?_⟩ ?_ ?_
    · simp [Int.emod_eq_of_lt r10 r11]
    · rintro j ρ h' hj ⟨rfl, hv, x6, rfl⟩ O3 t3
      have hb := emod0 (r1 + (j : Int))
      simp [in_iL e3]
      refine run_ite (fun hb2 => ?_) (fun hb2 => ?_)
      · simp
        rw [mod_k (by omega)]
        simp
        refine t3.N _ _ ⟨rfl, fun i' hi' => ?_, some (.int (j : Nat)), ?_⟩
        · by_cases e : i' = j
          · subst e; exact hb2
          · exact hv i' (by omega)
        · have : (r1 + (j : Int) + 1) % H = (r1 + ((j + 1 : Nat) : Int)) % H := by congr 1; omega
          simp [Int.emod_add_emod, Int.add_assoc]
          try rfl
      · simp
        exact t3.B _ _ (fin _ _ hb.1 hb.2 hb2)
    · rintro ρ h' ⟨rfl, hv, x6, rfl⟩
      have hb := emod0 (r1 + (ns.length : Int))
      exact fin _ _ hb.1 hb.2 (probe ⟨r10, r11⟩ hiH hv)
  · rintro ρ h2 ⟨ns, hns, ⟨hnd, hr⟩, k2, e2, x4, x5, x6, rfl⟩
    simp
    exact oQ _ _ (q ns _ _ k2 (Nat.le_refl _) e2 hnd hr (by omega))
end K77
end
section
set_option maxRecDepth 20000
namespace EP
open PySem L2
section
variable {P : Nat → Prop} {h : MH}
theorem mulL {n : Nat} {xs : List Dt} {k : Int} (e : h[n]? = some (.lst xs)) (k0 : 0 ≤ k) (k1 : k ≤ 1000) (l : (List.replicate k.toNat xs).flatten.length ≤ sizeLine) : oMul (.loc n) (.int k) h = .ok (.loc h.length) (h ++ [.lst (List.replicate k.toNat xs).flatten]) := by
  obtain ⟨a, b⟩ := lim62_big
  have h1 : k < lim62 ∧ -lim62 ≤ k := by generalize lim62 = l at *; omega
  simp only [oMul, e, if_pos h1, newL_le l]
theorem cutN {xs : List Dt} {u : Int} (h0 : 0 ≤ u) : cutD xs none (some u) = xs.take u.toNat := by
  unfold cutD
  have h1 : HT.sIx xs.length 0 none = 0 := rfl
  obtain ⟨v, rfl⟩ := Int.eq_ofNat_of_zero_le h0
  have h2 : HT.sIx xs.length xs.length (some (v : Int)) = min v xs.length := HT.sIx_nat _ _ _
  rw [h1, h2]
  simp
theorem cutL {n : Nat} {xs : List Dt} {u : Int} (e : h[n]? = some (.lst xs)) (h0 : 0 ≤ u) : oCut (.loc n) none (some u) h = .ok (.loc h.length) (h ++ [.lst (xs.take u.toNat)]) := by
  simp only [oCut, getL, e, cutN h0]
theorem Shs.take : ∀ {ds : List Dt} {ts : List Tr} (n : Nat), Shs P h ds ts → Shs P h (ds.take n) (ts.take n)
  | _, _, 0, _ => .nil
  | _, _, n + 1, .nil => .nil
  | _, _, n + 1, .cons a r => .cons a (r.take n)
theorem Shs.drop : ∀ {ds : List Dt} {ts : List Tr} (n : Nat), Shs P h ds ts → Shs P h (ds.drop n) (ts.drop n)
  | _, _, 0, s => s
  | _, _, n + 1, .nil => .nil
  | _, _, n + 1, .cons _ r => r.drop n
theorem Shs.flat {ds : List Dt} {ts : List Tr} (s : Shs P h ds ts) : ∀ k : Nat, Shs P h (List.replicate k ds).flatten (List.replicate k ts).flatten
  | 0 => .nil
  | k + 1 => by
    rw [List.replicate_succ, List.replicate_succ, List.flatten_cons, List.flatten_cons]
    exact s.append (s.flat k)
theorem Shs.set {d : Dt} {t : Tr} (x : Sh P h d t) : ∀ {ds : List Dt} {ts : List Tr} (i : Nat), Shs P h ds ts → Shs P h (ds.set i d) (ts.set i t)
  | _, _, _, .nil => .nil
  | _, _, 0, .cons _ r => .cons x r
  | _, _, i + 1, .cons a r => .cons a (r.set x i)
theorem insL {n : Nat} {xs : List Dt} {i : Int} {v : Dt} (e : h[n]? = some (.lst xs)) (l : xs.length < sizeLine) (h0 : 0 ≤ i) (h1 : i ≤ 1000000) : ∃ h', mInsert (.loc n) [.int i, v] h = .ok .non h' ∧ Up n h h' (.lst (xs.take i.toNat ++ [v] ++ xs.drop i.toNat)) := by
  obtain ⟨a, b⟩ := lim62_big
  have h2 : i < lim62 := by generalize lim62 = l at *; omega
  exact ⟨_, by simp only [mInsert, e, if_pos (And.intro l (And.intro h0 h2))], Up.of e⟩
/-- rows of what a law hands in -/
structure RowsOk (R : List (List Tr)) : Prop where
  len : R.length ≤ 70
  one : ∀ r ∈ R, r.length ≤ 9 ∧ ∀ t ∈ r, t.dep ≤ 2 ∧ t.nodes ≤ 1000
/-- one row's list is written anew; rows that stand in the same list change with it -/
theorem rows_up {h' : MH} {b : Nat} {new : List Dt} {newT : List Tr} (u : Up b h h' (.lst new)) (hn : Shs P h' new newT) (hb : P b) : ∀ {ds : List Dt} {S : List (List Int)}, Shs P h ds (S.map rT) → ∃ R : List (List Tr), Shs P h' ds (R.map .lst) ∧ R.length = S.length ∧ ∀ r ∈ R, r = newT ∨ ∃ s ∈ S, r = s.map .int
  | _, [], .nil => ⟨[], .nil, rfl, fun _ h => nomatch h⟩
  | _, s :: S, .cons a r => by
    obtain ⟨R, k1, k2, k3⟩ := rows_up u hn hb r
    obtain ⟨c, es, rfl, pc, ec, se⟩ := a.list
    have ee := Shs.ints_eq se
    subst ee
    by_cases hcb : c = b
    · subst hcb
      refine ⟨newT :: R, .cons (.lst hb u.at_ hn) k1, by simp [k2], fun x hx => ?_⟩
      rcases List.mem_cons.mp hx with rfl | hx
      · exact .inl rfl
      · rcases k3 x hx with z | ⟨y, hy, z⟩
        · exact .inl z
        · exact .inr ⟨y, by simp [hy], z⟩
    · refine ⟨s.map .int :: R, .cons (.lst pc (u.get hcb ec) (Shs.ints s)) k1, by simp [k2], fun x hx => ?_⟩
      rcases List.mem_cons.mp hx with rfl | hx
      · exact .inr ⟨s, by simp, rfl⟩
      · rcases k3 x hx with z | ⟨y, hy, z⟩
        · exact .inl z
        · exact .inr ⟨y, by simp [hy], z⟩
end
end EP
namespace K77
open PySem L2 EP
variable {k : Nat} {h : MH} {Q : Dt → MH → Prop} {X : Str → Fs → MH → Prop}
theorem law_spelled {m n : Nat} {base size c : Int} (hs : St m n h) (hm : m ≤ h.length) (b1 : 1 ≤ base) (b2 : base ≤ 64) (s1 : 1 ≤ size) (s2 : size ≤ 8) (c0 : 1 ≤ c) (c1 : c ≤ 64)
    (q : ∀ (S : List (List Int)) d h', Kp m n h h' → Sh (fun i => m ≤ i) h' d (.lst (S.map rT)) → S ≠ [] → S.length ≤ 64 → (∀ r ∈ S, (r.length : Int) = size) → Q d h') : WE (callK D (k + 4) i_law_spelled [.loc n, .int base, .int size, .int c] h) Q X := by
  refine call_wp (md := D_law_spelled) rfl rfl fun O oN oQ oX => ?_
  simp [m_law_spelled]
  refine run_sFor ?_
  simp
  refine law_power (by omega) (by omega) (by omega) (by omega) ?_
  have k0 : Kp m n h (h ++ [.lst []]) := .pre hs (pre_app _ _)
  have hp1 : 1 ≤ base ^ size.toNat := Int.pow_pos (by omega)
  have hp2 : base ^ size.toNat < lim200 := by
    have h1 : base ^ size.toNat ≤ 64 ^ 8 := by
      obtain ⟨b, rfl⟩ := Int.eq_ofNat_of_zero_le (show 0 ≤ base by omega)
      have h3 : b ^ size.toNat ≤ 64 ^ 8 := Nat.le_trans (Nat.pow_le_pow_left (by omega) _) (Nat.pow_le_pow_right (by omega) (by omega))
      have : ((b ^ size.toNat : Nat) : Int) ≤ ((64 ^ 8 : Nat) : Int) := Int.ofNat_le.mpr h3
      simpa using this
    have h2 : (64 : Int) ^ 8 < lim200 := by decide +kernel
    exact Int.lt_of_le_of_lt h1 h2
  refine law_unlike k0.st (Nat.le_trans hm k0.len) hp1 hp2 (by omega) (by omega) fun ns a h2 k2 la ea nd hr hl => ?_
  have hne : 1 ≤ (ns.length : Int) ∧ (ns.length : Int) ≤ 64 := by rw [hl]; split <;> omega
  simp [itOf_lst ea]
  have k02 := k0.trans k2
  have ef := k2.ge _ _ hm (new_get h (.lst []))
  simp at la
  have hal := lt_of_get ea
  refine run_wk (f := Dt.int) (xs := ns) (H := fun h' => h'[a]? = some (.lst (ns.map .int))) (by
    have := hi_lst (n := a) (xs := ns.map Dt.int) (H := fun h' => h'[a]? = some (.lst (ns.map .int))) (fun h' e => e)
    rwa [List.length_map] at this) (fun i ρ h' => h'[a]? = some (.lst (ns.map .int)) ∧ Kp m n h h' ∧ h2.length ≤ h'.length ∧ (∃ x5 x6 x7 x8, ρ = [some (.loc n), some (.int base), some (.int size), some (.int c), some (.loc h.length), x5, x6, x7, x8]) ∧ ∃ (ds : List Dt) (S : List (List Int)), S.length = i ∧ (∀ r ∈ S, (r.length : Int) = size) ∧ h'[h.length]? = some (.lst ds) ∧ Shs (fun i => h2.length ≤ i) h' ds (S.map rT)) (fun _ _ _ q => q.1) ⟨ea, k02, Nat.le_refl _, ⟨_, _, _, _, rfl⟩, [], [], rfl, by simp, ef, .nil⟩ ?_ ?_
  · rintro i x ρ h3 hx ⟨e3, k3, l3, ⟨x5, x6, x7, x8, rfl⟩, ds, S, hS, hsz, ed, sd⟩
    have hil : i < ns.length := (List.getElem?_eq_some_iff.mp hx).1
    refine ⟨_, rfl, fun O2 t2 => ?_⟩
    simp
    refine run_sFor (iRg1_wp ?_)
    simp
    refine ⟨sm_int (by omega) (by omega), ?_⟩
    refine run_rng (fun j ρ h' => h3 <+: h' ∧ (∃ (y : Int) (x8 : Option Dt), ρ = [some (.loc n), some (.int base), some (.int size), some (.int c), some (.loc h.length), some (.int x), some (.loc h3.length), some (.int y), x8]) ∧ ∃ r : List Int, r.length = j ∧ h'[h3.length]? = some (.lst (r.map .int))) ⟨pre_app _ _, ⟨_, _, rfl⟩, [], rfl, by simp⟩ ?_ ?_
    · rintro j ρ h4 hj ⟨pr, ⟨y, x8, rfl⟩, r, hrl, er⟩ O3 t3
      obtain ⟨h5, f5, u5⟩ := app1 (v := .int (y % base)) er (by rw [sizeLine_eq, List.length_map]; omega)
      simp [isLst_lst er]
      rw [mod_k (by omega)]
      simp [f5]
      rw [fdiv_s (by omega) (by omega)]
      simp
      refine t3.N _ _ ⟨u5.pre pr (Nat.le_refl _), ⟨_, _, rfl⟩, r ++ [y % base], by simp [hrl], ?_⟩
      rw [u5.at_]; simp
    · rintro ρ h4 ⟨pr, ⟨y, x8, rfl⟩, r, hrl, er⟩
      obtain ⟨h5, f5, u5⟩ := app1 (v := .loc h3.length) (pre_get pr ed) (by rw [sizeLine_eq]; have := sd.length; simp at this; omega)
      simp [isLst_lst (pre_get pr ed), f5]
      have hne3 : h.length ≠ a := by omega
      refine t2.N _ _ ⟨u5.get (Ne.symm hne3) (pre_get pr e3), (k3.thenPre pr).up u5 (Nat.le_refl _) hm, by rw [u5.len]; have := pre_len pr; omega, ⟨_, _, _, _, rfl⟩, ds ++ [.loc h3.length], S ++ [r], by simp [hS], fun z hz => ?_, u5.at_, ?_⟩
      · rcases List.mem_append.mp hz with z1 | z1
        · exact hsz z z1
        · simp at z1; subst z1; omega
      · have hmono : Ge (fun i => h2.length ≤ i) h4 h5 := fun i o hi e => u5.get (by omega) e
        rw [List.map_append]
        exact ((sd.pre pr).mono hmono).append (.one (.lst l3 (hmono _ _ l3 er) (Shs.ints r)))
  · rintro ρ h3 ⟨e3, k3, l3, ⟨x5, x6, x7, x8, rfl⟩, ds, S, hS, hsz, ed, sd⟩
    simp
    refine oQ _ _ (q S _ h3 k3 (.lst hm ed (sd.low fun i hi => by have := k02.len; omega)) ?_ (by omega) hsz)
    rintro rfl
    simp at hS
    omega
end K77
end
section
set_option maxRecDepth 20000
namespace EP
open PySem L2
theorem Shs.mem {P : Nat → Prop} {h : MH} : ∀ {ds : List Dt} {ts : List Tr}, Shs P h ds ts → ∀ t ∈ ts, ∃ d ∈ ds, Sh P h d t
  | _, _, .nil, t, ht => nomatch ht
  | _, _, .cons a r, t, ht => by
    rcases List.mem_cons.mp ht with rfl | ht
    · exact ⟨_, by simp, a⟩
    · obtain ⟨d, hd, s⟩ := r.mem t ht
      exact ⟨d, by simp [hd], s⟩
theorem Shs.both {P P' : Nat → Prop} {h : MH} : ∀ {ds : List Dt} {ts : List Tr}, Shs P h ds ts → (∀ d t, Sh P h d t → Sh P' h d t) → Shs P' h ds ts
  | _, _, .nil, _ => .nil
  | _, _, .cons a r, k => .cons (k _ _ a) (r.both k)
mutual
theorem Sh.inb {P : Nat → Prop} {h : MH} : ∀ {d : Dt} {t : Tr}, Sh P h d t → Sh (fun i => P i ∧ i < h.length) h d t
  | _, _, .non => .non
  | _, _, .bl b => .bl b
  | _, _, .int i => .int i
  | _, _, .str x e => .str x e
  | _, _, .tup r => .tup (Shs.inb r)
  | _, _, .lst l e r => .lst ⟨l, lt_of_get e⟩ e (Shs.inb r)
theorem Shs.inb {P : Nat → Prop} {h : MH} : ∀ {d : List Dt} {t : List Tr}, Shs P h d t → Shs (fun i => P i ∧ i < h.length) h d t
  | _, _, .nil => .nil
  | _, _, .cons a b => .cons (Sh.inb a) (Shs.inb b)
end
theorem flat_len {α : Type} (xs : List α) : ∀ k : Nat, (List.replicate k xs).flatten.length = k * xs.length
  | 0 => by simp
  | k + 1 => by rw [List.replicate_succ, List.flatten_cons, List.length_append, flat_len xs k, Nat.succ_mul]; omega
theorem mulK {h : MH} {n K : Nat} {xs : List Dt} {k : Int} (e : h[n]? = some (.lst xs)) (hk : k = (K : Int)) (k1 : K ≤ 1000) (l : K * xs.length ≤ sizeLine) : oMul (.loc n) (.int k) h = .ok (.loc h.length) (h ++ [.lst (List.replicate K xs).flatten]) := by
  subst hk
  have := mulL (k := (K : Int)) e (by omega) (by omega) (by rw [flat_len]; simpa using l)
  simpa using this
theorem list_loc {h : MH} {n : Nat} {xs : List Dt} (e : h[n]? = some (.lst xs)) : bList [.loc n] h = .ok (.loc h.length) (h ++ [.lst xs]) := by simp [bList, seqOf, getL, e]
end EP
namespace K77
open PySem L2 EP
variable {k : Nat} {h : MH} {P : Nat → Prop} {Q : Dt → MH → Prop} {X : Str → Fs → MH → Prop}
theorem oddI (i : Int) : Odd (.int i) := ⟨by simp [Tr.dep], by simp [Tr.nodes]⟩
/-- [list(row) for row in rows] -/
theorem copy_rows {G : Orc} {ρ : EP.Env} {i : SI} {v : Nat} {I : Wk} {es : List Dt} {T : List (List Tr)} {h1 : MH} (hv : v < ρ.length) (hi : i G ρ h = .ok I h1) (its : HI I (fun h' => h1 <+: h') es) (sr : Shs P h1 es (T.map .lst)) (hl : T.length ≤ 100000)
    (q : ∀ ds h', h1 <+: h' → h'[h1.length]? = some (.lst ds) → Shs (fun i => (P i ∨ h1.length ≤ i) ∧ i ≠ h1.length) h' ds (T.map .lst) → Q (.loc h1.length) h') : WE (eLc i (.nm v) EP.tYes (eBf bList (aCons (eVar v) aNil)) [v] G ρ h) Q X := by
  have hdl := sr.length
  rw [List.length_map] at hdl
  refine lc_sh (f := fun x : Nat => es.getD x .non) (xs := List.range es.length) (fun i => (P i ∨ h1.length ≤ i) ∧ i ≠ h1.length) hi (hi_ix its) (fun x => .lst (T.getD x [])) (by rw [sizeLine_eq, List.length_range]; omega) ?_ ?_
  · intro x hx
    have hx : x < es.length := by simpa using hx
    have hxT : x < T.length := by omega
    refine ⟨_, rfl, fun h' pr hlt => ?_⟩
    have sx := (sr.at_ (i := x) (by simpa using hxT)).inb.pre pr
    rw [List.getElem_map] at sx
    obtain ⟨b, bs, eb, pb, eb0, sb⟩ := sx.list
    rw [eb]
    have hg : (wipeE ρ [v]).set v (some (.loc b)) = (wipeE ρ [v]).set v (some (.loc b)) := rfl
    have ev : eVar v G ((wipeE ρ [v]).set v (some (.loc b))) h' = .ok (.loc b) h' := by
      rw [eVar_s]
      simp [hv]
    simp only [eBf_s, aCons_s, aNil_s, ev, bnd_ok, list_loc eb0, we_ok]
    have gT : T.getD x [] = T[x] := by simp [hxT]
    rw [gT]
    refine ⟨pre_app _ _, .lst ⟨⟨.inr (by omega), by omega⟩, by omega⟩ (new_get _ _) ?_⟩
    exact (sb.low fun i (hi : P i ∧ i < h1.length) => ⟨⟨.inl hi.1, by omega⟩, by omega⟩).pre (pre_app _ _)
  · intro h' ds pr e s
    refine q ds h' pr e ?_
    have : (List.range es.length).map (fun x => Tr.lst (T.getD x [])) = T.map .lst := by
      apply List.ext_getElem
      · simp [hdl]
      · intro i u w
        have : i < T.length := by simpa using w
        simp [this]
    rw [this] at s
    exact s
theorem copy_rowsI {G : Orc} {ρ : EP.Env} {i : SI} {v : Nat} {I : Wk} {es : List Dt} {S : List (List Int)} {h1 : MH} (hv : v < ρ.length) (hi : i G ρ h = .ok I h1) (its : HI I (fun h' => h1 <+: h') es) (sr : Shs P h1 es (S.map rT)) (hl : S.length ≤ 100000)
    (q : ∀ ds h', h1 <+: h' → h'[h1.length]? = some (.lst ds) → Shs (fun i => h1.length < i) h' ds (S.map rT) → Q (.loc h1.length) h') : WE (eLc i (.nm v) EP.tYes (eBf bList (aCons (eVar v) aNil)) [v] G ρ h) Q X := by
  have hdl := sr.length
  rw [List.length_map] at hdl
  refine lc_sh (f := fun x : Nat => es.getD x .non) (xs := List.range es.length) (fun i => h1.length < i) hi (hi_ix its) (fun x => rT (S.getD x [])) (by rw [sizeLine_eq, List.length_range]; omega) ?_ ?_
  · intro x hx
    have hx : x < es.length := by simpa using hx
    have hxT : x < S.length := by omega
    refine ⟨_, rfl, fun h' pr hlt => ?_⟩
    have sx := (sr.at_ (i := x) (by simpa using hxT)).pre pr
    rw [List.getElem_map] at sx
    obtain ⟨b, bs, eb, pb, eb0, sb⟩ := sx.list
    have ebs := Shs.ints_eq sb
    subst ebs
    rw [eb]
    have ev : eVar v G ((wipeE ρ [v]).set v (some (.loc b))) h' = .ok (.loc b) h' := by
      rw [eVar_s]
      simp [hv]
    simp only [eBf_s, aCons_s, aNil_s, ev, bnd_ok, list_loc eb0, we_ok]
    have gT : S.getD x [] = S[x] := by simp [hxT]
    rw [gT]
    exact ⟨pre_app _ _, .lst ⟨by omega, by omega⟩ (new_get _ _) (Shs.ints _)⟩
  · intro h' ds pr e s
    refine q ds h' pr e ?_
    have : (List.range es.length).map (fun x => rT (S.getD x [])) = S.map rT := by
      apply List.ext_getElem
      · simp [hdl]
      · intro i u w
        have : i < S.length := by simpa using w
        simp [this]
    rw [this] at s
    exact s
theorem law_bent_rows {m n : Nat} {base : Int} {rows : Dt} {S : List (List Int)} (hs : St m n h) (hm : m ≤ h.length) (s : Sh (fun i => m ≤ i) h rows (.lst (S.map rT))) (hne : S ≠ []) (h64 : S.length ≤ 64) (hsz : ∀ r ∈ S, 1 ≤ r.length ∧ r.length ≤ 8)
    (q : ∀ d R h', Kp m n h h' → Sh (fun i => m ≤ i) h' d (.lst (R.map .lst)) → RowsOk R → Q d h') : WE (callK D (k + 5) i_law_bent_rows [.loc n, rows, .int base] h) Q X := by
  refine call_wp (md := D_law_bent_rows) rfl rfl fun O oN oQ oX => ?_
  obtain ⟨a, es, rfl, pa, e0, sr⟩ := s.list
  simp only [m_law_bent_rows, run_seq, sSet_s, run_bndS]
  have rTm : S.map rT = (S.map fun r => r.map Tr.int).map .lst := by rw [List.map_map]; rfl
  refine copy_rowsI (h1 := h) (by simp) (by simp [itOf_lst e0]) (hi_lst fun h' p => pre_get p e0) sr (by omega) fun ds h1 p1 e1 s1 => ?_
  have k1 : Kp m n h h1 := .pre hs p1
  have hdl := s1.length
  simp only [List.length_map] at hdl
  have hS0 : 0 < S.length := List.length_pos_iff.mpr hne
  have rok : ∀ R : List (List Tr), R.length ≤ 70 → (∀ r ∈ R, ∃ s ∈ S, r = s.map .int) → RowsOk R := fun R hl hr => ⟨hl, fun r hrr => by
    obtain ⟨s, hs, rfl⟩ := hr r hrr
    refine ⟨by have := (hsz s hs).2; simp; omega, fun t ht => ?_⟩
    obtain ⟨i, _, rfl⟩ := List.mem_map.mp ht
    exact oddI i⟩
  simp
  refine law_take k1.st (Nat.le_trans hm k1.len) (lt200 (by omega)) fun r1 h2 k2 r10 r11 => ?_
  have k12 := k1.trans k2
  have e2 := k2.ge _ _ hm e1
  have gm : Ge (fun i => h.length < i) h1 h2 := fun i o hi e => k2.ge i o (by omega) e
  have s2 := s1.mono gm
  simp [len_lst e2]
  refine law_take k12.st (Nat.le_trans hm k12.len) (lt200 (by omega)) fun r2 h3 k3 r20 r21 => ?_
  have r21 := r21 (by omega)
  have k13 := k12.trans k3
  have e3 := k3.ge _ _ hm e2
  have gm3 : Ge (fun i => h.length < i) h2 h3 := fun i o hi e => k3.ge i o (by omega) e
  have s3 := s2.mono gm3
  have hl3 := k13.len
  -- the row at hand
  have hat : r2.toNat < S.length := by omega
  have sat := s3.at_ (i := r2.toNat) (by simpa using hat)
  rw [List.getElem_map] at sat
  obtain ⟨b, bs, eb, pb, eb0, sb⟩ := sat.list
  have ebs := Shs.ints_eq sb
  subst ebs
  have gat : oGet (.loc h.length) (.int r2) h3 = .ok (.loc b) h3 := get_lst e3 r20 (by rw [← eb]; exact s3.ix (by simpa using hat))
  have ob := hsz _ (List.getElem_mem hat)
  refine run_ite (fun hb => ?_) (fun hb => ?_)
  · simp
    exact oQ _ _ (q (.loc h3.length) [] _ (k13.thenPre (pre_app _ _)) (.lst (by omega) (new_get _ _) .nil) (rok _ (by simp) (by simp)))
  simp
  refine run_ite (fun hb => ?_) (fun hb => ?_)
  · have em := mulK (K := 65) (k := 65) e3 rfl (by omega) (by rw [hdl, sizeLine_eq]; omega)
    have hflS := (s3.flat 65)
    have hflR : (List.replicate 65 (S.map rT)).flatten = ((List.replicate 65 (S.map fun r => r.map Tr.int)).flatten).map .lst := by
      rw [List.map_flatten, List.map_replicate, ← rTm]
    rw [hflR] at hflS
    have hmem : ∀ r ∈ (List.replicate 65 (S.map fun r => r.map Tr.int)).flatten, ∃ s ∈ S, r = s.map .int := fun r hr => by
      obtain ⟨l, hl, hrl⟩ := List.mem_flatten.mp hr
      have hl := (List.mem_replicate.mp hl).2
      subst hl
      obtain ⟨s, hs, rfl⟩ := List.mem_map.mp hrl
      exact ⟨s, hs, rfl⟩
    generalize (List.replicate 65 (S.map fun r => r.map Tr.int)).flatten = FR at hflS hmem
    generalize (List.replicate 65 ds).flatten = F at em hflS
    clear hflR
    have k4 := k13.thenPre (pre_app h3 [.lst F])
    simp only [sRet_s, run_bndS]
    refine lc_it ?_
    simp [em]
    refine law_take k4.st (Nat.le_trans hm k4.len) (lt200 (by omega)) fun r5 h5 k5 r50 r51 => ?_
    have r51 := r51 (by omega)
    have k45 := k4.trans k5
    have e5 := k5.ge _ _ (by omega) (new_get h3 (.lst F))
    have s5 := ((hflS.pre (pre_app h3 [.lst F])).mono (fun i o (hi : h.length < i) e => k5.ge i o (by omega) e))
    simp [cutL e5 (show 0 ≤ 64 + r5 by omega)]
    have hsh := s5.take (64 + r5).toNat
    rw [← List.map_take] at hsh
    have e6 := new_get h5 (.lst (F.take (64 + r5).toNat))
    have hlen : (FR.take (64 + r5).toNat).length ≤ 66 := by rw [List.length_take]; omega
    have hmem6 : ∀ r ∈ FR.take (64 + r5).toNat, ∃ s ∈ S, r = s.map .int := fun r hr => hmem r (List.mem_of_mem_take hr)
    generalize FR.take (64 + r5).toNat = TR at hsh hlen hmem6
    generalize F.take (64 + r5).toNat = TF at hsh e6
    simp [itOf_lst e6]
    refine copy_rows (P := fun i => m ≤ i) (i := fun _ _ h => .ok _ h) (h1 := h5 ++ [.lst TF]) (by simp) rfl (hi_lst (n := h5.length) (xs := TF) fun h' p => pre_get p e6) ((hsh.pre (pre_app _ _)).low fun i hi => (by omega : m ≤ i)) (by omega) fun ds7 h7 p7 e7 s7 => ?_
    refine oQ _ _ (q _ _ h7 (k45.thenPre ((pre_app _ _).trans p7)) (.lst ?_ e7 (s7.low fun i hi => ?_)) (rok _ (by omega) hmem6))
    · have := k45.len; simp; omega
    · have := k45.len
      rcases hi.1 with z | z
      · exact z
      · simp at z; omega
  have hdl3 : ds.length = S.length := hdl
  have fin : ∀ {h9 : MH} {ds9 : List Dt} {R : List (List Tr)}, Kp m n h h9 → h9[h.length]? = some (.lst ds9) → Shs (fun i => m ≤ i) h9 ds9 (R.map .lst) → RowsOk R → O.Q (.loc h.length) h9 := by
    intro h9 ds9 R k9 e9 s9 ok
    exact oQ _ _ (q (.loc h.length) R h9 k9 (.lst hm e9 s9) ok)
  simp [-sIf_s]
  refine run_sIf (decide (r1 = 2)) (h1 := h3) (by simp) (fun hb2 => ?_) (fun hb2 => ?_)
  · have em := mulK (K := 9) (k := 9) eb0 rfl (by omega) (by rw [sizeLine_eq, List.length_map]; omega)
    have hG : (List.replicate 9 (S[r2.toNat].map Dt.int)).flatten = ((List.replicate 9 S[r2.toNat]).flatten).map Dt.int := by
      rw [List.map_flatten, List.map_replicate]
    rw [hG] at em
    generalize (List.replicate 9 S[r2.toNat]).flatten = G at em
    have k4 := k13.thenPre (pre_app h3 [.lst (G.map .int)])
    simp [gat, em]
    refine law_take k4.st (Nat.le_trans hm k4.len) (lt200 (by omega)) fun r5 h5 k5 r50 r51 => ?_
    have r51 := r51 (by omega)
    have k45 := k4.trans k5
    have e5 := k5.ge _ _ (by omega) (new_get h3 (.lst (G.map .int)))
    have s5 := ((s3.pre (pre_app h3 [.lst (G.map .int)])).mono (fun i o (hi : h.length < i) e => k5.ge i o (by omega) e))
    have ef5 := k5.ge _ _ hm (pre_get (pre_app h3 [.lst (G.map .int)]) e3)
    simp [cutL e5 r50]
    rw [← List.map_take]
    have hlen : (G.take r5.toNat).length ≤ 9 := by rw [List.length_take]; omega
    generalize G.take r5.toNat = X at hlen
    have hl5 := k45.len
    have hlt5 := lt_of_get ef5
    obtain ⟨h7, f7, u7⟩ := setL_ex (i := r2) (v := .loc h5.length) (pre_get (pre_app h5 [.lst (X.map .int)]) ef5) r20 (by omega)
    simp [f7]
    have s7 : Shs (fun i => m ≤ i) h7 (ds.set r2.toNat (.loc h5.length)) ((((S.map fun r => r.map Tr.int)).set r2.toNat (X.map .int)).map .lst) := by
      have hx : Sh (fun i => m ≤ i) h7 (.loc h5.length) (.lst (X.map .int)) := .lst (by omega) (u7.get (by omega) (new_get h5 _)) (Shs.ints X)
      have h0 : Shs (fun i => m ≤ i) h7 ds (S.map rT) := ((s5.pre (pre_app h5 [.lst (X.map .int)])).mono (fun i o hi e => u7.get (by omega) e)).low fun i hi => (by omega : m ≤ i)
      rw [rTm] at h0
      have := Shs.set hx r2.toNat h0
      rwa [← List.map_set] at this
    refine fin ((k45.thenPre (pre_app h5 [.lst (X.map .int)])).up u7 (Nat.le_refl _) hm) u7.at_ s7 ⟨by simp; omega, fun r hr => ?_⟩
    rcases List.mem_or_eq_of_mem_set hr with z | z
    · exact (rok (S.map fun r => r.map Tr.int) (by simp; omega) (fun r hr => by
        obtain ⟨s, hs, rfl⟩ := List.mem_map.mp hr
        exact ⟨s, hs, rfl⟩)).one r z
    · subst z
      refine ⟨by simpa using hlen, fun t ht => ?_⟩
      obtain ⟨i, _, rfl⟩ := List.mem_map.mp ht
      exact oddI i
  refine run_sIf (decide (r1 = 3)) (h1 := h3) (by simp) (fun hb3 => ?_) (fun hb3 => ?_)
  · simp [isLst_lst e3, len_lst e3]
    refine law_take k13.st (Nat.le_trans hm k13.len) (lt200 (by omega)) fun r5 h5 k5 r50 r51 => ?_
    have r51 := r51 (by omega)
    have k15 := k13.trans k5
    have ef5 := k5.ge _ _ hm e3
    have eb5 := k5.ge _ _ (by omega) eb0
    have s5 := s3.mono (fun i o (hi : h.length < i) e => k5.ge i o (by omega) e)
    have gat5 : oGet (.loc h.length) (.int r2) h5 = .ok (.loc b) h5 := get_lst ef5 r20 (by rw [← eb]; exact s3.ix (by simpa using hat))
    have hlt5 := lt_of_get ef5
    obtain ⟨h7, f7, u7⟩ := insL (i := r5) (v := .loc h5.length) (pre_get (pre_app h5 [.lst (S[r2.toNat].map .int)]) ef5) (by rw [sizeLine_eq]; omega) r50 (by omega)
    simp [gat5, list_loc eb5, f7]
    have h0 : Shs (fun i => m ≤ i) h7 ds (S.map rT) := ((s5.pre (pre_app h5 [.lst (S[r2.toNat].map .int)])).mono (fun i o hi e => u7.get (by omega) e)).low fun i hi => (by omega : m ≤ i)
    have hx : Sh (fun i => m ≤ i) h7 (.loc h5.length) (rT S[r2.toNat]) := .lst (by have := k15.len; omega) (u7.get (by omega) (new_get h5 _)) (Shs.ints _)
    have s7 := ((h0.take r5.toNat).append (.one hx)).append (h0.drop r5.toNat)
    have hR : (S.map rT).take r5.toNat ++ [rT S[r2.toNat]] ++ (S.map rT).drop r5.toNat = (((S.take r5.toNat ++ [S[r2.toNat]] ++ S.drop r5.toNat)).map fun r => r.map Tr.int).map .lst := by
      rw [List.map_map, List.map_append, List.map_append, List.map_take, List.map_drop]; rfl
    rw [hR] at s7
    refine fin ((k15.thenPre (pre_app h5 [.lst (S[r2.toNat].map .int)])).up u7 (Nat.le_refl _) hm) u7.at_ s7 (rok _ (by simp; omega) fun r hr => ?_)
    obtain ⟨s, hs, rfl⟩ := List.mem_map.mp hr
    refine ⟨s, ?_, rfl⟩
    rcases List.mem_append.mp hs with z | z
    · rcases List.mem_append.mp z with z | z
      · exact List.mem_of_mem_take z
      · simp at z; subst z; exact List.getElem_mem hat
    · exact List.mem_of_mem_drop z
  have put : ∀ (d : Dt) (t : Tr) (h5 : MH), Kp m n h3 h5 → Sh (fun i => h3.length ≤ i) h5 d t → Odd t → ∀ {ρ : EP.Env}, ρ[0]? = some (some (.loc n)) → ρ[3]? = some (some (.loc h.length)) → ρ[6]? = some (some (.int r2)) →
      Run (callK D (k + 4)) O [sRet (eVar 3)] (bndS ρ (eOp oGet (eVar 3) (eVar 6) (callK D (k + 4)) ρ h5) fun x h2 => bndS ρ (eCall i_law_take (aCons (eVar 0) (aCons (eBf bLen (aCons (eOp oGet (eVar 3) (eVar 6)) aNil)) aNil)) (callK D (k + 4)) ρ h2) fun y h3 => match oSet x y d h3 with | some h4 => .nx ρ h4 | none => .bad) := by
    intro d t h5 k5 sd od ρ r0 r3 r6
    have k15 := k13.trans k5
    have ef5 := k5.ge _ _ hm e3
    have eb5 := k5.ge _ _ (by omega) eb0
    have s5 := s3.mono (fun i o (hi : h.length < i) e => k5.ge i o (by omega) e)
    have gat5 : oGet (.loc h.length) (.int r2) h5 = .ok (.loc b) h5 := get_lst ef5 r20 (by rw [← eb]; exact s3.ix (by simpa using hat))
    simp [r0, r3, r6, gat5, len_lst eb5]
    refine law_take k15.st (Nat.le_trans hm k15.len) (lt200 (by omega)) fun r7 h7 k7 r70 r71 => ?_
    have r71 := r71 (by omega)
    have k17 := k15.trans k7
    have eb7 := k7.ge _ _ (by omega) eb5
    have ef7 := k7.ge _ _ hm ef5
    have s7 := s5.mono (fun i o (hi : h.length < i) e => k7.ge i o (by omega) e)
    obtain ⟨h8, f8, u8⟩ := setL_ex (i := r7) (v := d) eb7 r70 (by simpa using r71)
    simp [f8, r3]
    have hb3 := lt_of_get eb0
    have sd8 : Sh (fun i => h.length < i) h8 d t := ((sd.mono (fun i o hi e => k7.ge i o (by omega) e)).mono (h' := h8) (fun i o hi e => u8.get (by omega) e)).low fun i hi => (by have := lt_of_get e3; omega : h.length < i)
    obtain ⟨R, q1, q2, q3⟩ := rows_up (P := fun i => h.length < i) u8 (Shs.set sd8 r7.toNat (Shs.ints S[r2.toNat])) pb s7
    refine fin (k17.up u8 (by omega) hm) (u8.get (by omega) ef7) (q1.low fun i hi => (by omega : m ≤ i)) ⟨by omega, fun r hr => ?_⟩
    · rcases q3 r hr with rfl | ⟨s, hs, rfl⟩
      · refine ⟨by simp; omega, fun t' ht => ?_⟩
        rcases List.mem_or_eq_of_mem_set ht with z | z
        · obtain ⟨i, _, rfl⟩ := List.mem_map.mp z
          exact oddI i
        · subst z; exact od
      · exact (rok [s.map .int] (by simp) (fun r hr => by simp at hr; exact ⟨s, hs, hr⟩)).one _ (by simp)
  refine run_sIf (decide (r1 = 4)) (h1 := h3) (by simp) (fun hb4 => ?_) (fun hb4 => ?_)
  · rw [sSetI_s, run_bndS]
    have ex : ∀ {ρ : EP.Env}, ρ[0]? = some (some (.loc n)) → eCall i_law_take (aCons (eVar 0) (aCons (eC (.int 64)) aNil)) (callK D (k + 4)) ρ h3 = callK D (k + 4) i_law_take [.loc n, .int 64] h3 := fun e => by simp [e]
    rw [ex rfl]
    refine law_take k13.st (Nat.le_trans hm k13.len) (lt200 (by omega)) fun r5 h5 k5 r50 r51 => ?_
    exact put (.int r5) (.int r5) h5 k5 (.int _) (oddI _) rfl rfl rfl
  · rw [sSetI_s, run_bndS]
    have ex : ∀ {ρ : EP.Env}, ρ[0]? = some (some (.loc n)) → ρ[2]? = some (some (.int base)) → eCall i_law_outside (aCons (eVar 0) (aCons (eC (.int 0)) (aCons (eOp oSub (eVar 2) (eC (.int 1))) aNil))) (callK D (k + 4)) ρ h3 = callK D (k + 4) i_law_outside [.loc n, .int 0, .int (base - 1)] h3 := fun e e2 => by simp [e, e2]
    rw [ex rfl rfl]
    refine law_outside k13.st (Nat.le_trans hm k13.len) fun d t h5 k5 sd od => ?_
    exact put d t h5 k5 sd od rfl rfl rfl
end K77
end
section
set_option maxRecDepth 20000
namespace EP
open PySem L2
mutual
theorem tr_nodes : ∀ d : Dt, d.tr.nodes = nodes d
  | .non => by unfold Dt.tr; simp [Tr.nodes, nodes]
  | .bl b => by unfold Dt.tr; simp [Tr.nodes, nodes]
  | .int i => by unfold Dt.tr; simp [Tr.nodes, nodes]
  | .str x => by unfold Dt.tr; simp [Tr.nodes, nodes]
  | .tup ds => by unfold Dt.tr; simp [Tr.nodes, nodes, trs_nodes ds]
  | .loc n => by unfold Dt.tr; simp [Tr.nodes, nodes]
theorem trs_nodes : ∀ ds : List Dt, nodesTs (trs ds) = nodesL ds
  | [] => by unfold trs; simp [nodesTs, nodesL]
  | d :: r => by unfold trs; simp [nodesTs, nodesL, tr_nodes d, trs_nodes r]
end
theorem nodes_wD (w : List Int) : nodes (wD w) ≤ w.length + 1 := by
  show nodesL (w.map .int) + 1 ≤ _
  have := nodesL_map Dt.int 1 w (fun x _ => by simp [nodes])
  omega
theorem nodes_eD (e : Word × Int) (c : Nat) (h : e.1.length ≤ c) : nodes (eD e) ≤ c + 3 := by
  have := nodes_wD e.1
  show (nodes (wD e.1) + (nodes (.int e.2) + 0)) + 1 ≤ c + 3
  have h2 : nodes (.int e.2) = 1 := by simp [nodes]
  omega
theorem nodes_sD (r : Row) (c : Nat) (h : ∀ e ∈ r, e.1.length ≤ c) : nodes (sD r) ≤ r.length * (c + 3) + 1 := by
  show nodesL (r.map eD) + 1 ≤ _
  have := nodesL_map eD (c + 3) r (fun e he => nodes_eD e c (h e he))
  omega
/-- what is given out by the three deeds -/
inductive OuOk : Ou → Prop
  | nb (m : Int) : OuOk (.notBook m)
  | wr (w : Wr) : OuOk (.wr w)
  | big (m : Int) : OuOk (.big m)
  | opt (v : Option Int) : OuOk (.ok (optD v))
  | book (n : Int) (r : Row) : r.length ≤ 64 → (∀ e ∈ r, e.1.length ≤ 600) → OuOk (.ok (pD (n, [r])))
theorem optD_plain (v : Option Int) : (optD v).plain = true := by cases v <;> rfl
theorem rfD_plain {s : Str} {d : Dt} (so : PyData.strOk s = true) (h : d.plain = true) : (rfD s d).plain = true := by
  show plains [.str "refused", .str s, d, .bl true, .bl false] = true
  have : PyData.strOk "refused" = true := by decide +kernel
  simp [plains, Dt.plain, so, h, this]
theorem ouD_ok {o : Ou} (k : OuOk o) : (ouD o).plain = true ∧ nodes (ouD o) ≤ 100000 ∧ ∃ s r, ouD o = .tup (.str s :: r) ∧ PyData.strOk s = true := by
  have s1 : PyData.strOk "refused" = true := by decide +kernel
  have s2 : PyData.strOk "given" = true := by decide +kernel
  cases k with
  | nb m => exact ⟨rfD_plain (by decide +kernel) rfl, by simp [ouD, rfD, nodes, nodesL], _, _, rfl, s1⟩
  | wr w =>
    cases w with
    | noSp => exact ⟨rfD_plain (by decide +kernel) rfl, by simp [ouD, wrD, rfD, nodes, nodesL], _, _, rfl, s1⟩
    | many => exact ⟨rfD_plain (by decide +kernel) (plains2 (by decide +kernel) rfl), by simp [ouD, wrD, rfD, nodes, nodesL], _, _, rfl, s1⟩
    | badSp i => exact ⟨rfD_plain (by decide +kernel) rfl, by simp [ouD, wrD, rfD, nodes, nodesL], _, _, rfl, s1⟩
    | badNum i => exact ⟨rfD_plain (by decide +kernel) rfl, by simp [ouD, wrD, rfD, nodes, nodesL], _, _, rfl, s1⟩
  | big m => exact ⟨rfD_plain (by decide +kernel) rfl, by simp [ouD, rfD, nodes, nodesL], _, _, rfl, s1⟩
  | opt v => exact ⟨plains2 s2 (optD_plain v), by cases v <;> simp [ouD, optD, nodes, nodesL], _, _, rfl, s2⟩
  | book n r h1 h2 =>
    refine ⟨plains2 s2 (pD_plain _), ?_, _, _, rfl, s2⟩
    have := nodes_sD r 600 h2
    have h3 : r.length * (600 + 3) ≤ 64 * 603 := Nat.mul_le_mul h1 (Nat.le_refl _)
    have h4 : nodes (.str "given") = 1 := by simp [nodes]
    have h5 : nodes (.int n) = 1 := by simp [nodes]
    show (nodes (.str "given") + (((nodes (.int n) + (((nodes (sD r) + 0) + 1) + 0)) + 1) + 0)) + 1 ≤ 100000
    omega
end EP
end
section
set_option maxRecDepth 20000
namespace EP
open PySem L2
theorem spW_le {n : Int} {ws : List Word} (hw : ∀ w ∈ ws, w.length ≤ 64) (r : List Int) (hr : ∀ i ∈ r, 0 ≤ i ∧ i < ws.length) (hl : r.length ≤ 8) : (spW n ws r).length ≤ 600 := by
  unfold spW
  have : ∀ (zs : List (Int × Nat)), (∀ z ∈ zs, 0 ≤ z.1 ∧ z.1 < ws.length) → (zs.flatMap fun q => (ws.getD q.1.toNat []).map (· + n * (q.2 : Nat))).length ≤ 64 * zs.length := by
    intro zs
    induction zs with
    | nil => simp
    | cons z zs ih =>
      intro hz
      have h1 := ih fun y hy => hz y (by simp [hy])
      have h2 := hz z (by simp)
      have h3 : z.1.toNat < ws.length := by omega
      have h4 : ws.getD z.1.toNat [] = ws[z.1.toNat] := by simp [h3]
      have h5 := hw _ (List.getElem_mem h3)
      rw [List.flatMap_cons, List.length_append, List.length_map, h4, List.length_cons]
      omega
  have h2 := this r.zipIdx (fun z hz => by
    have := List.mem_zipIdx' hz
    obtain ⟨h1, h2⟩ := this
    exact hr z.1 (by rw [h2]; exact List.getElem_mem h1))
  rw [List.length_zipIdx] at h2
  omega
theorem lettersR_ok {p : Plan} (wp : Wf p) (R : List (List Tr)) : OuOk (lettersR p R) := by
  unfold lettersR
  by_cases hb : p.2.length ≠ 1
  · rw [if_pos hb]; exact .nb _
  rw [if_neg hb]
  cases hf : fwR p R with
  | some w => exact .wr w
  | none =>
    obtain ⟨S, ok, eR⟩ := fw_none hf
    subst eR
    by_cases h40 : 40 < p.1 * (((S.map fun r => r.map Tr.int).getD 0 []).length : Nat)
    · simp only [if_pos h40]; exact .big _
    · simp only [if_neg h40]
      rw [map_intsT]
      refine .book _ _ (by simp; exact ok.len) fun e he => ?_
      obtain ⟨r, hr, rfl⟩ := List.mem_map.mp he
      have o := ok.one r hr
      refine spW_le (fun w hw => ?_) r o.2.2.2 o.2.1
      unfold bookW bookRow at hw
      obtain ⟨e, he, rfl⟩ := List.mem_map.mp hw
      obtain ⟨a, l, ep⟩ := List.exists_cons_of_ne_nil wp.c1
      rw [ep] at he
      have := wp.row a (by rw [ep]; simp)
      exact (this.2.2 e he).2.2.2.2
theorem evenR_ok (p : Plan) (R : List (List Tr)) : OuOk (evenR p R) := by
  unfold evenR
  by_cases hb : p.2.length ≠ 1
  · rw [if_pos hb]; exact .nb _
  rw [if_neg hb]
  cases hf : fwR p R with
  | some w => exact .wr w
  | none => exact .opt _
theorem distR_ok (R : List (List Tr)) : OuOk (distR R) := by
  unfold distR
  cases hf : fw 64 R with
  | some w => exact .wr w
  | none => exact .opt _
theorem rows_nodes {R : List (List Tr)} (ok : RowsOk R) : (Tr.lst (R.map .lst)).nodes < 900000 := by
  have h1 : ∀ r ∈ R, (Tr.lst r).nodes ≤ 9001 := fun r hr => by
    have := nodesTs_le r 1000 fun t ht => ((ok.one r hr).2 t ht).2
    have h2 : r.length * 1000 ≤ 9 * 1000 := Nat.mul_le_mul (ok.one r hr).1 (Nat.le_refl _)
    simp only [Tr.nodes]
    omega
  have h2 := nodesTs_le (R.map .lst) 9001 fun t ht => by
    obtain ⟨r, hr, rfl⟩ := List.mem_map.mp ht
    exact h1 r hr
  rw [List.length_map] at h2
  have h3 : R.length * 9001 ≤ 70 * 9001 := Nat.mul_le_mul ok.len (Nat.le_refl _)
  simp only [Tr.nodes]
  omega
end EP
namespace K77
open PySem L2 EP
variable {k : Nat} {h : MH} {P : Nat → Prop} {Q : Dt → MH → Prop} {X : Str → Fs → MH → Prop}
theorem law_all_hold {p : Plan} {rows : Dt} {R : List (List Tr)} (wp : Wf p) (n40 : p.1 ≤ 40) (s : Sh P h rows (.lst (R.map .lst))) (ok : RowsOk R) (q : ∀ h', h <+: h' → Q (.bl true) h') : WE (callK D (k + 8) i_law_all_hold [pD p, rows] h) Q X := by
  refine call_wp (md := D_law_all_hold) rfl rfl fun O oN oQ oX => ?_
  obtain ⟨a, es, rfl, pa, e0, sr⟩ := s.list
  simp only [m_law_all_hold, run_seq, sSet_s, run_bndS]
  refine copy_rows (h1 := h) (by simp) (by simp [itOf_lst e0]) (hi_lst fun h' p => pre_get p e0) sr (by have := ok.len; omega) fun ds h1 p1 e1 s1 => ?_
  have sh : Sh (fun _ => True) h1 (.loc h.length) (.lst (R.map .lst)) := .lst trivial e1 (s1.low fun _ _ => trivial)
  have sr1 : Sh (fun _ => True) h1 (.loc a) (.lst (R.map .lst)) := (s.pre p1).low fun _ _ => trivial
  simp
  refine run_sFor ?_
  have l4 : newL [Dt.str "letters", .str "even", .str "distance", .str "letters"] h1 = .ok (.loc h1.length) (h1 ++ [.lst [Dt.str "letters", .str "even", .str "distance", .str "letters"]]) := newL_le (by rw [sizeLine_eq]; simp)
  simp [l4]
  have hw := hi_lst (n := h1.length) (xs := [Dt.str "letters", .str "even", .str "distance", .str "letters"]) (H := fun h' => h1 ++ [.lst [Dt.str "letters", .str "even", .str "distance", .str "letters"]] <+: h') fun h' p => pre_get p (new_get _ _)
  simp [itOf_lst (new_get h1 (.lst [Dt.str "letters", .str "even", .str "distance", .str "letters"]))]
  have p2 : h1 <+: h1 ++ [.lst [Dt.str "letters", .str "even", .str "distance", .str "letters"]] := pre_app _ _
  generalize h1 ++ [.lst [Dt.str "letters", .str "even", .str "distance", .str "letters"]] = hb at hw p2
  refine run_wk (f := fun x : Str => Dt.str x) (xs := ["letters", "even", "distance", "letters"]) hw (fun i ρ h' => hb <+: h' ∧ ∃ x4 x5, ρ = [some (pD p), some (.loc a), some (.loc h.length), none, x4, x5]) (fun _ _ _ q => q.1) ⟨pre_refl _, none, none, rfl⟩ ?_ ?_
  · rintro i x ρ h2 hx ⟨pr, x4, x5, rfl⟩
    refine ⟨_, rfl, fun O2 t2 => ?_⟩
    have pr2 := p2.trans pr
    have hx3 : x = "letters" ∨ x = "even" ∨ x = "distance" := by
      have := List.mem_of_getElem? hx
      simp at this
      rcases this with rfl | rfl | rfl | rfl
      · exact .inl rfl
      · exact .inr (.inl rfl)
      · exact .inr (.inr rfl)
      · exact .inl rfl
    have go : ∀ (o : Ou), OuOk o → (∀ (h' : MH) (Q' : Dt → MH → Prop) (X' : Str → Fs → MH → Prop), h1 <+: h' → (∀ h'', h' <+: h'' → Q' (ouD o) h'') → WE (callK D (k + 7) i_law_ask [.str x, pD p, .loc h.length] h') Q' X') →
        (∀ (h' : MH) (Q' : Dt → MH → Prop) (X' : Str → Fs → MH → Prop), h1 <+: h' → (∀ h'', h' <+: h'' → Q' (ouD o) h'') → WE (callK D (k + 7) i_law_due [.str x, pD p, .loc a] h') Q' X') →
        Run (callK D (k + 7)) O2 [] (sSeq (sSet (.nm 5) (eCall i_law_ask (aCons (eVar 4) (aCons (eVar 0) (aCons (eVar 2) aNil))))) (sIf (EP.tOr (EP.tNot (tVal (eCall i_law_holds (aCons (eVar 5) (aCons (eCall i_law_due (aCons (eVar 4) (aCons (eVar 0) (aCons (eVar 1) aNil)))) aNil))))) (EP.tNot (tVal (eCall i_law_equal (aCons (eVar 2) (aCons (eVar 1) (aCons (eC (.bl false)) aNil))))))) (sRet (eC (.bl false))) sSkip) (callK D (k + 7)) [some (pD p), some (.loc a), some (.loc h.length), none, some (.str x), x5] h2) := by
      intro o oo ask due
      obtain ⟨opl, ond, os, orr, oe, oso⟩ := ouD_ok oo
      simp
      refine ask h2 _ _ pr2 fun h3 p3 => ?_
      refine due h3 _ _ (pr2.trans p3) fun h4 p4 => ?_
      rw [oe]
      refine law_holds (P := P) oso (by rw [← oe]; exact Sh.plain opl) (by rw [← oe]; exact Sh.plain opl) (by rw [tr_nodes]; omega) fun h5 p5 => ?_
      have pr5 := ((pr2.trans p3).trans p4).trans p5
      simp
      refine law_equal (sh.pre pr5) (sr1.pre pr5) (rows_nodes ok) fun h6 p6 => ?_
      simp
      exact t2.N _ _ ⟨(((pr.trans p3).trans p4).trans p5).trans p6, _, _, rfl⟩
    rcases hx3 with rfl | rfl | rfl
    · exact go _ (lettersR_ok wp R) (fun h' Q' X' p' q' => ask_letters wp n40 (sh.pre p') q') (fun h' Q' X' p' q' => due_letters (k := k + 4) wp (sr1.pre p') q')
    · exact go _ (evenR_ok p R) (fun h' Q' X' p' q' => ask_even wp (sh.pre p') q') (fun h' Q' X' p' q' => due_even (k := k + 4) wp (sr1.pre p') q')
    · exact go _ (distR_ok R) (fun h' Q' X' p' q' => ask_dist (sh.pre p') q') (fun h' Q' X' p' q' => due_dist (k := k + 4) wp (sr1.pre p') q')
  · rintro ρ h2 ⟨pr, x4, x5, rfl⟩
    simp
    exact oQ _ _ (q h2 ((p1.trans p2).trans pr))
end K77
end
section
set_option maxRecDepth 20000
namespace EP
open PySem L2
theorem runW_len (a n : Int) : (runW a n).length = n.toNat := by simp [runW]
theorem intsT_len (l : List Tr) : (intsT l).length ≤ l.length := by
  induction l with
  | nil => simp [intsT]
  | cons a r ih => cases a <;> simp [intsT] <;> omega
theorem pw_mem {v : Int} {T : List Tr} {t : Tr} (e : pw v T = some (.noPl t)) : t ∈ T := by
  unfold pw at e
  obtain ⟨i, hi, h⟩ := List.exists_of_findSome?_eq_some e
  have hi : i < T.length := by simpa using hi
  unfold plV at h
  have g : T.getD i .non = T[i] := by simp [hi]
  rw [g] at h
  split at h
  · cases h; exact List.getElem_mem hi
  · split at h <;> cases h
theorem lanesR_cases (n c : Tr) (T : List Tr) (a : Tr) : (∃ l, lanesR n c T a = .ok l ∧ l.2.length ≤ T.length ∧ (∀ e ∈ l.2, e.1.length ≤ 40)) ∨ ((∀ l, lanesR n c T a ≠ .ok l) ∧ (K77.Odd n → K77.Odd c → K77.Odd a → (∀ t ∈ T, K77.Odd t) → (lanT (lanesR n c T a)).nodes ≤ 2000)) := by
  have nt : ∀ (s : Str) (t : Tr), t.nodes ≤ 1000 → (rfT s t).nodes ≤ 2000 := fun s t h => by
    simp only [rfT, Tr.nodes, nodesTs]
    omega
  have n1 : ∀ i : Int, (Tr.int i).nodes ≤ 1000 := fun i => by simp [Tr.nodes]
  unfold lanesR
  by_cases h1 : nOk n = false
  · rw [if_pos h1]; exact .inr ⟨fun l e => (by cases e), fun o _ _ _ => nt _ _ o.2⟩
  rw [if_neg h1]
  by_cases h2 : cOk c = false
  · rw [if_pos h2]; exact .inr ⟨fun l e => (by cases e), fun _ o _ _ => nt _ _ o.2⟩
  rw [if_neg h2]
  cases hp : pw c.val T with
  | some r =>
    cases r with
    | noPl t => exact .inr ⟨fun l e => (by cases e), fun _ _ _ o => nt _ _ (o t (pw_mem hp)).2⟩
    | twice i => exact .inr ⟨fun l e => (by cases e), fun _ _ _ _ => nt _ _ (n1 i)⟩
  | none =>
    by_cases h3 : a.blw 61 = false
    · simp only [if_pos h3]; exact .inr ⟨fun l e => (by cases e), fun _ _ o _ => nt _ _ o.2⟩
    simp only [if_neg h3]
    by_cases h4 : 40 < n.val * c.val
    · simp only [if_pos h4]; exact .inr ⟨fun l e => (by cases e), fun _ _ _ _ => nt _ _ (n1 _)⟩
    simp only [if_neg h4]
    refine .inl ⟨_, rfl, by simp [lanesL]; exact intsT_len T, fun e he => ?_⟩
    simp only [lanesL] at he
    obtain ⟨p, _, rfl⟩ := List.mem_map.mp he
    rw [runW_len]
    cases n with
    | int i => simp [nOk] at h1; simp [Tr.val]; omega
    | _ => simp [nOk] at h1
theorem lD_nodes {l : Lim} {m : Nat} (h1 : l.2.length ≤ m) (hm : m ≤ 500) (h2 : ∀ e ∈ l.2, e.1.length ≤ 40) : nodes (Dt.tup [.str "given", lD l]) ≤ 100000 := by
  have := nodes_sD l.2 40 h2
  have h3 : l.2.length * (40 + 3) ≤ 500 * 43 := Nat.mul_le_mul (by omega) (Nat.le_refl _)
  have h4 : nodes (.str "given") = 1 := by simp [nodes]
  have h5 : nodes (.int l.1) = 1 := by simp [nodes]
  show (nodes (.str "given") + (((nodes (.int l.1) + (nodes (sD l.2) + 0)) + 1) + 0)) + 1 ≤ 100000
  omega
end EP
namespace K77
open PySem L2 EP
variable {k : Nat} {h : MH} {P : Nat → Prop} {Q : Dt → MH → Prop} {X : Str → Fs → MH → Prop}
theorem law_lanes_hold {n c b : Tr} {dn dc db dr : Dt} {T : List Tr} (sn : Sh P h dn n) (sc : Sh P h dc c) (sb : Sh P h db b) (s : Sh P h dr (.lst T)) (hl : T.length ≤ 500) (on : Odd n) (oc : Odd c) (ob : Odd b) (ho : ∀ t ∈ T, Odd t) (q : ∀ h', h <+: h' → Q (.bl true) h') : WE (callK D (k + 8) i_law_lanes_hold [dn, dc, dr, db] h) Q X := by
  refine call_wp (md := D_law_lanes_hold) rfl rfl fun O oN oQ oX => ?_
  obtain ⟨a, es, rfl, pa, e0, sr⟩ := s.list
  simp [m_law_lanes_hold, list_loc e0]
  have p1 : h <+: h ++ [.lst es] := pre_app _ _
  have sN := (sn.pre p1).low (P' := fun _ => True) fun _ _ => trivial
  have sC := (sc.pre p1).low (P' := fun _ => True) fun _ _ => trivial
  have sB := (sb.pre p1).low (P' := fun _ => True) fun _ _ => trivial
  have sR := (s.pre p1).low (P' := fun _ => True) fun _ _ => trivial
  have sL : Sh (fun _ => True) (h ++ [.lst es]) (.loc h.length) (.lst T) := .lst trivial (new_get _ _) ((sr.pre p1).low fun _ _ => trivial)
  generalize h ++ [MO.lst es] = h1 at p1 sN sC sB sR sL
  rcases lanesR_cases n c T b with ⟨l, el, l1, l2⟩ | ⟨no, nd⟩
  · refine ask_lanes sN sC sB (.l sL) hl on oc ob ho (fun l' e h2 p2 => ?_) (fun hno => absurd el (hno l))
    rw [el] at e; cases e
    refine due_lanes (k := k + 5) (sN.pre p2) (sC.pre p2) (sB.pre p2) (sR.pre p2) hl (fun l' e h3 p3 => ?_) (fun hno => absurd el (hno l))
    rw [el] at e; cases e
    have pl : (Dt.tup [.str "given", lD l]).plain = true := plains2 so_giv (lD_plain l)
    refine law_holds (P := P) so_giv (Sh.plain pl) (Sh.plain pl) (by rw [tr_nodes]; have := lD_nodes l1 hl l2; omega) fun h4 p4 => ?_
    exact oQ _ _ (q h4 (((p1.trans p2).trans p3).trans p4))
  · refine ask_lanes sN sC sB (.l sL) hl on oc ob ho (fun l' e => absurd e (no l')) (fun _ s d h2 p2 sf => ?_)
    refine due_lanes (k := k + 5) (sN.pre p2) (sC.pre p2) (sB.pre p2) (sR.pre p2) hl (fun l' e => absurd e (no l')) (fun _ s' d' h3 p3 sf' => ?_)
    refine law_holds (P := fun _ => True) so_ref (sf.pre p3) sf' (by have := nd on oc ob ho; omega) fun h4 p4 => ?_
    exact oQ _ _ (q h4 (((p1.trans p2).trans p3).trans p4))
/-- what a law draws -/
structure DrawOk (n size : Int) (ws : List Word) (S : List (List Int)) : Prop where
  n1 : 1 ≤ n
  n40 : n ≤ 40
  s1 : 1 ≤ size
  s8 : size ≤ 8
  wne : ws ≠ []
  wl : ws.length ≤ 64
  wok : ∀ w ∈ ws, WdOk n w
  Sne : S ≠ []
  Sl : S.length ≤ 64
  Ssz : ∀ r ∈ S, (r.length : Int) = size
theorem law_drawn {m n : Nat} (hs : St m n h) (hm : m ≤ h.length) (q : ∀ N size ws S w d h', Kp m n h h' → h.length ≤ w → h'[w]? = some (.lst (ws.map wD)) → Sh (fun i => m ≤ i) h' d (.lst (S.map rT)) → DrawOk N size ws S → Q (.tup [.int N, .int size, .loc w, d]) h') : WE (callK D (k + 5) i_law_drawn [.loc n] h) Q X := by
  refine call_wp (md := D_law_drawn) rfl rfl fun O oN oQ oX => ?_
  simp only [m_law_drawn, run_seq, sPar_s, run_bndS]
  simp
  refine law_take hs hm (lt200 (by omega)) fun r1 h1 k1 a1 b1 => ?_
  have b1 := b1 (by omega)
  simp
  refine law_take k1.st (Nat.le_trans hm k1.len) (lt200 (by omega)) fun r2 h2 k2' a2 b2 => ?_
  have b2 := b2 (by omega)
  have k2 := k1.trans k2'
  simp
  refine law_take k2.st (Nat.le_trans hm k2.len) (lt200 (by omega)) fun r3 h3 k3' a3 b3 => ?_
  have b3 := b3 (by omega)
  have k3 := k2.trans k3'
  simp
  refine law_take k3.st (Nat.le_trans hm k3.len) (lt200 (by omega)) fun r4 h4 k4' a4 b4 => ?_
  have b4 := b4 (by omega)
  have k4 := k3.trans k4'
  simp
  refine law_take k4.st (Nat.le_trans hm k4.len) (lt200 (by omega)) fun r5 h5 k5' a5 b5 => ?_
  have b5 := b5 (by omega)
  have k5 := k4.trans k5'
  simp [-sIf_s]
  refine run_join (fun ρ h' => Kp m n h h' ∧ ∃ (N size : Int), 1 ≤ N ∧ N ≤ 40 ∧ 1 ≤ size ∧ size ≤ 8 ∧ ρ = [some (.loc n), some (.int N), some (.int size), some (.int (1 + r3)), some (.int (1 + r4)), some (.int r5), none]) (fun O2 u1 u2 u3 u4 u5 => ?_) ?_
  · refine run_ite (fun hc => ?_) (fun hc => ?_)
    · simp
      rw [newL_le (by rw [sizeLine_eq]; simp)]
      simp
      have e0 := new_get h5 (.lst [Dt.tup [.int 5, .int 8], .tup [.int 10, .int 4], .tup [.int 13, .int 3], .tup [.int 20, .int 2], .tup [.int 40, .int 1], .tup [.int 14, .int 3], .tup [.int 6, .int 7], .tup [.int 7, .int 6], .tup [.int 4, .int 8]])
      have k6 := k5.thenPre (pre_app h5 [.lst [Dt.tup [.int 5, .int 8], .tup [.int 10, .int 4], .tup [.int 13, .int 3], .tup [.int 20, .int 2], .tup [.int 40, .int 1], .tup [.int 14, .int 3], .tup [.int 6, .int 7], .tup [.int 7, .int 6], .tup [.int 4, .int 8]]])
      refine law_take k6.st (Nat.le_trans hm k6.len) (lt200 (by omega)) fun r7 h7 k7' a7 b7 => ?_
      have b7 := b7 (by omega)
      have k7 := k6.trans k7'
      have e7 := k7'.ge _ _ (by have := k5.len; omega) e0
      have fin : ∀ N size : Int, 1 ≤ N → N ≤ 40 → 1 ≤ size → size ≤ 8 → oGet (.loc h5.length) (.int r7) h7 = .ok (.tup [.int N, .int size]) h7 → EP.WE (oGet (.loc h5.length) (.int r7) h7) (fun a h => Run (callK D (k + 4)) O2 [] (match assignP (.tp [.nm 1, .nm 2]) a [some (.loc n), some (.int (1 + r1)), some (.int (1 + r2)), some (.int (1 + r3)), some (.int (1 + r4)), some (.int r5), none] with | some ρ' => .nx ρ' h | none => .bad)) fun C fs h => O2.X C fs [some (.loc n), some (.int (1 + r1)), some (.int (1 + r2)), some (.int (1 + r3)), some (.int (1 + r4)), some (.int r5), none] h := fun N size x1 x2 x3 x4 e => by
        rw [e]
        simp
        exact u1 _ _ ⟨k7, N, size, x1, x2, x3, x4, rfl⟩
      have cs : r7 = 0 ∨ r7 = 1 ∨ r7 = 2 ∨ r7 = 3 ∨ r7 = 4 ∨ r7 = 5 ∨ r7 = 6 ∨ r7 = 7 ∨ r7 = 8 := by omega
      rcases cs with rfl | rfl | rfl | rfl | rfl | rfl | rfl | rfl | rfl <;> exact fin _ _ (by omega) (by omega) (by omega) (by omega) (get_lst e7 (by omega) rfl)
    · simp
      exact u1 _ _ ⟨k5, _, _, by omega, by omega, by omega, by omega, rfl⟩
  · rintro ρ h6 ⟨k6, N, size, x1, x2, x3, x4, rfl⟩
    rw [run_nx, run_seq]
    refine run_join (fun ρ h' => Kp m n h h' ∧ ∃ (N size base count : Int), 1 ≤ N ∧ N ≤ 40 ∧ 1 ≤ size ∧ size ≤ 8 ∧ 1 ≤ base ∧ base ≤ 64 ∧ 1 ≤ count ∧ count ≤ 64 ∧ ρ = [some (.loc n), some (.int N), some (.int size), some (.int base), some (.int count), some (.int r5), none]) (fun O2 u1 u2 u3 u4 u5 => ?_) ?_
    · refine run_sIf (decide (r5 = 2)) (h1 := h6) (by simp) (fun hc => ?_) (fun hc => ?_)
      · simp
        refine law_take k6.st (Nat.le_trans hm k6.len) (lt200 (by omega)) fun r7 h7 k7' a7 b7 => ?_
        have b7 := b7 (by omega)
        have k7 := k6.trans k7'
        simp
        refine law_take k7.st (Nat.le_trans hm k7.len) (lt200 (by omega)) fun r8 h8 k8' a8 b8 => ?_
        have b8 := b8 (by omega)
        have k8 := k7.trans k8'
        simp
        exact u1 _ _ ⟨k8, _, _, _, _, by omega, by omega, by omega, by omega, by omega, by omega, by omega, by omega, rfl⟩
      · simp
        exact u1 _ _ ⟨k6, _, _, _, _, by omega, by omega, by omega, by omega, by omega, by omega, by omega, by omega, rfl⟩
    · rintro ρ h7 ⟨k7, N, size, base, count, x1, x2, x3, x4, y1, y2, y3, y4, rfl⟩
      simp
      refine law_words k7.st (Nat.le_trans hm k7.len) x1 (by omega) (by omega) (by omega) fun ws w h8 k8' lw ew wok wl wne => ?_
      have k8 := k7.trans k8'
      have wne := wne (by omega)
      refine law_take k8.st (Nat.le_trans hm k8.len) (lt200 (by omega)) fun r9 h9 k9' a9 b9 => ?_
      have k9 := k8.trans k9'
      have lw' : h.length ≤ w := Nat.le_trans k7.len lw
      have e9 := k9'.ge _ _ (by omega) ew
      simp
      refine run_join (fun ρ h' => Kp m n h h' ∧ ∃ (ws : List Word) (w : Nat), h.length ≤ w ∧ h'[w]? = some (.lst (ws.map wD)) ∧ ws ≠ [] ∧ ws.length ≤ 64 ∧ (∀ w ∈ ws, WdOk N w) ∧ ρ = [some (.loc n), some (.int N), some (.int size), some (.int base), some (.int count), some (.int r5), some (.loc w)]) (fun O2 u1 u2 u3 u4 u5 => ?_) ?_
      · refine run_ite (fun hc => ?_) (fun hc => ?_)
        · simp
          refine law_pruned e9 (by omega) (fun w hw => by have := (wok w hw).len; omega) fun us b h10 p10 lb eb hu hul hun => ?_
          exact u1 _ _ ⟨k9.thenPre p10, us, b, by have := k9.len; omega, eb, hun wne, by omega, fun w hw => wok w (hu w hw), rfl⟩
        · simp
          exact u1 _ _ ⟨k9, ws, w, lw', e9, wne, by omega, wok, rfl⟩
      · rintro ρ h9 ⟨k9, ws, w, lw, ew, wne, wl, wok, rfl⟩
        have hw0 := List.length_pos_iff.mpr wne
        simp [len_lst ew]
        refine law_spelled k9.st (Nat.le_trans hm k9.len) (by omega) (by omega) x3 x4 y3 y4 fun S d h10 k10 sS sne sl ssz => ?_
        exact oQ _ _ (q N size ws S w d h10 (k9.trans k10) lw (k10.ge _ _ (by omega) ew) sS ⟨x1, x2, x3, x4, wne, wl, wok, sne, sl, ssz⟩)
end K77
end
section
set_option maxRecDepth 20000
namespace EP
open PySem L2
def dW (ws : List Word) (S : List (List Int)) (i j : Nat) (p : Int) : Int := mAt (lessM ws) ((S.getD i []).getD p.toNat 0) ((S.getD j []).getD p.toNat 0)
def okP (ws : List Word) (S : List (List Int)) (ps : List Int) (b : Int) (i j : Nat) : Bool := decide (i = j) || ps.any fun p => decide (b < dW ws S i j p)
def rightB (ws : List Word) (S : List (List Int)) (ps : List Int) (b : Int) : Bool := (List.range S.length).all fun i => (List.range S.length).all fun j => okP ws S ps b i j
theorem rightB_iff {ws : List Word} {S : List (List Int)} {ps : List Int} {b : Int} : rightB ws S ps b = true ↔ ∀ i j, i < S.length → j < S.length → okP ws S ps b i j = true := by
  unfold rightB
  simp only [List.all_eq_true, List.mem_range]
  exact ⟨fun h i j hi hj => h i hi j hj, fun h i hi j hj => h i j hi hj⟩
theorem all_len {ps : List Int} {f : Int → Bool} : (ps.filter f).length = ps.length ↔ ∀ p ∈ ps, f p = true := by
  induction ps with
  | nil => simp
  | cons a r ih =>
    have := List.length_filter_le f r
    by_cases h : f a = true
    · rw [List.filter_cons_of_pos h]
      simp [h, ih]
    · rw [List.filter_cons_of_neg h]
      simp [h]
      omega
end EP
namespace K77
open PySem L2 EP
variable {k : Nat} {h : MH} {P : Nat → Prop} {Q : Dt → MH → Prop} {X : Str → Fs → MH → Prop}
theorem law_right_places {w pl : Nat} {ws : List Word} {rows : Dt} {S : List (List Int)} {ps : List Int} {b : Int} {size : Nat} (ew : h[w]? = some (.lst (ws.map wD))) (hw : ∀ x ∈ ws, x.length ≤ 64) (s : Sh P h rows (.lst (S.map rT))) (h64 : S.length ≤ 64) (nd : S.Nodup) (hsz : ∀ r ∈ S, r.length = size ∧ ∀ i ∈ r, 0 ≤ i ∧ i < ws.length)
    (ep : h[pl]? = some (.lst (ps.map .int))) (hps : ∀ p ∈ ps, 0 ≤ p ∧ p < size) (hpl : ps.length ≤ 64) (q : ∀ h', h <+: h' → Q (.bl (rightB ws S ps b)) h') : WE (callK D (k + 2) i_law_right_places [.loc w, rows, .loc pl, .int b] h) Q X := by
  refine call_wp (md := D_law_right_places) rfl rfl fun O oN oQ oX => ?_
  obtain ⟨a, ds, rfl, pa, e0, sr⟩ := s.list
  have hdl := sr.length
  rw [List.length_map] at hdl
  simp only [m_law_right_places, run_seq]
  refine run_sFor ?_
  simp [itOf_lst e0]
  have hi0 : HI (itL a ds.length) (fun h' => h <+: h') ds := hi_lst fun h' p => pre_get p e0
  refine run_wk (hi_ix hi0) (fun i ρ h' => (h <+: h' ∧ ∀ c, c < i → ∀ d, d < S.length → okP ws S ps b c d = true) ∧ ∃ x4 x5 x6, ρ = [some (.loc w), some (.loc a), some (.loc pl), some (.int b), x4, x5, x6, none]) (fun _ _ _ q => q.1.1) ⟨⟨pre_refl _, fun c hc => absurd hc (Nat.not_lt_zero _)⟩, none, none, none, rfl⟩ ?_ ?_
  · rintro i x ρ h1 hx ⟨⟨pr, hv⟩, x4, x5, x6, rfl⟩
    obtain ⟨hi, rfl⟩ := range_at hx
    refine ⟨_, rfl, fun O2 t2 => ?_⟩
    have hxS : x < S.length := by omega
    have sx := (sr.at_ (i := x) (by simpa using hxS))
    rw [List.getElem_map] at sx
    obtain ⟨c1, cs1, ec1, pc1, ec10, sc1⟩ := sx.list
    have ecs1 := Shs.ints_eq sc1
    subst ecs1
    rw [ec1]
    refine run_sFor ?_
    simp [itOf_lst (pre_get pr e0)]
    refine run_wk (hi_ix hi0) (fun j ρ h' => (h <+: h' ∧ ∀ d, d < j → okP ws S ps b x d = true) ∧ ∃ x5 x6, ρ = [some (.loc w), some (.loc a), some (.loc pl), some (.int b), some (.loc c1), x5, x6, none]) (fun _ _ _ q => q.1.1) ⟨⟨pr, fun d hd => absurd hd (Nat.not_lt_zero _)⟩, x5, x6, rfl⟩ ?_ ?_
    · rintro j y ρ h2 hy ⟨⟨pr2, hv2⟩, x5, x6, rfl⟩
      obtain ⟨hj, rfl⟩ := range_at hy
      refine ⟨_, rfl, fun O3 t3 => ?_⟩
      have hyS : y < S.length := by omega
      have sy := (sr.at_ (i := y) (by simpa using hyS))
      rw [List.getElem_map] at sy
      obtain ⟨c2, cs2, ec2, pc2, ec20, sc2⟩ := sy.list
      have ecs2 := Shs.ints_eq sc2
      subst ecs2
      rw [ec2]
      have z1 := hsz _ (List.getElem_mem hxS)
      have z2 := hsz _ (List.getElem_mem hyS)
      have gSx : S.getD x [] = S[x] := by simp [hxS]
      have gSy : S.getD y [] = S[y] := by simp [hyS]
      simp only [run_seq, sSet_s, run_bndS]
      refine lc_it ?_
      simp [itOf_lst (pre_get pr2 ep)]
      have hip : HI (itL pl ps.length) (fun h' => h2 <+: h') (ps.map Dt.int) := by
        have := hi_lst (n := pl) (xs := ps.map Dt.int) (H := fun h' => h2 <+: h') fun h' p => pre_get (pr2.trans p) ep
        rwa [List.length_map] at this
      refine lc_wp (f := Dt.int) (xs := ps) rfl hip (fun p => decide (dW ws S x y p ≤ b)) Dt.int (by rw [sizeLine_eq]; omega) ?_ ?_
      · intro p hp
        refine ⟨_, rfl, fun h' p' => ?_⟩
        have hpb := hps p hp
        have l1 : p.toNat < S[x].length := by omega
        have l2 : p.toNat < S[y].length := by omega
        have q1 : oGet (.loc c1) (.int p) h' = .ok (.int S[x][p.toNat]) h' := get_lst (pre_get (pr2.trans p') ec10) hpb.1 (by rw [List.getElem?_map, List.getElem?_eq_getElem l1]; rfl)
        have q2 : ∀ {h''}, h' <+: h'' → oGet (.loc c2) (.int p) h'' = .ok (.int S[y][p.toNat]) h'' := fun p'' => get_lst (pre_get ((pr2.trans p').trans p'') ec20) hpb.1 (by rw [List.getElem?_map, List.getElem?_eq_getElem l2]; rfl)
        have i1 := z1.2 _ (List.getElem_mem l1)
        have i2 := z2.2 _ (List.getElem_mem l2)
        have m1 : S[x][p.toNat].toNat < ws.length := by omega
        have m2 : S[y][p.toNat].toNat < ws.length := by omega
        have w1 : oGet (.loc w) (.int S[x][p.toNat]) h' = .ok (wD ws[S[x][p.toNat].toNat]) h' := get_lst (pre_get (pr2.trans p') ew) i1.1 (by rw [List.getElem?_map, List.getElem?_eq_getElem m1]; rfl)
        have w2 : oGet (.loc w) (.int S[y][p.toNat]) h' = .ok (wD ws[S[y][p.toNat].toNat]) h' := get_lst (pre_get (pr2.trans p') ew) i2.1 (by rw [List.getElem?_map, List.getElem?_eq_getElem m2]; rfl)
        have hd : dW ws S x y p = ((EP.less ws[S[x][p.toNat].toNat] ws[S[y][p.toNat].toNat]).length : Int) := by
          unfold dW mAt lessM
          rw [gSx, gSy]
          simp [l1, l2, m1, m2]
        have hwx := hw _ (List.getElem_mem m1)
        simp [q1, q2 (pre_refl _), w1, w2]
        refine law_less_wp (by omega) fun h3 p3 => ?_
        simp [hd]
        exact p3
      · intro h3 p3 e3
        have pr3 := pr2.trans p3
        have rx : RowAt false h3 (.loc c1) S[x] := ⟨c1, rfl, pre_get pr3 ec10⟩
        have ry : RowAt false h3 (.loc c2) S[y] := ⟨c2, rfl, pre_get pr3 ec20⟩
        have hne := rx.ne ry
        have hdec : decide (S[x] = S[y]) = decide (x = y) := by
          by_cases hxy : x = y
          · subst hxy; simp
          · have : S[x] ≠ S[y] := fun e => hxy ((List.getElem_inj nd).mp e)
            simp [hxy, this]
        rw [hdec] at hne
        have hl1 : bLen [.loc h2.length] h3 = .ok (.int ((ps.filter fun p => decide (dW ws S x y p ≤ b)).length : Nat)) h3 := by rw [len_lst e3, List.length_map]
        have hl2 : bLen [.loc pl] h3 = .ok (.int (ps.length : Nat)) h3 := by rw [len_lst (pre_get pr3 ep), List.length_map]
        have hok : okP ws S ps b x y = !((!decide (x = y)) && decide ((ps.filter fun p => decide (dW ws S x y p ≤ b)).length = ps.length)) := by
          unfold okP
          rw [Bool.eq_iff_iff]
          simp only [Bool.or_eq_true, decide_eq_true_eq, List.any_eq_true, Bool.not_eq_true', Bool.and_eq_false_iff, Bool.not_eq_false', decide_eq_false_iff_not, all_len]
          constructor
          · rintro (z | ⟨p, hp, z⟩)
            · exact .inl z
            · exact .inr fun hall => by have := hall p hp; omega
          · rintro (z | z)
            · exact .inl z
            · right
              simpa [Classical.not_forall] using z
        have nxt : okP ws S ps b x y = true → O3.N [some (.loc w), some (.loc a), some (.loc pl), some (.int b), some (.loc c1), some (.loc c2), some (.loc h2.length), none] h3 := fun hc => by
          refine t3.N _ _ ⟨⟨pr3, fun d hd => ?_⟩, _, _, rfl⟩
          by_cases hdy : d = y
          · subst hdy; exact hc
          · exact hv2 d (by omega)
        by_cases hxy : x = y
        · have hne' : oEq true (.loc c1) (.loc c2) h3 = .ok (.bl false) h3 := by rw [hne]; simp [hxy]
          simp [hne']
          exact nxt (by rw [hok]; simp [hxy])
        · have hne' : oEq true (.loc c1) (.loc c2) h3 = .ok (.bl true) h3 := by rw [hne]; simp [hxy]
          simp [hne', hl1, hl2]
          by_cases hlen : (ps.filter fun p => decide (dW ws S x y p ≤ b)).length = ps.length
          · have hlen' : ((ps.filter fun p => decide (dW ws S x y p ≤ b)).length : Int) = ps.length := by omega
            have hf : okP ws S ps b x y = false := by rw [hok]; simp [hxy, hlen]
            have : rightB ws S ps b = false := by
              cases hr : rightB ws S ps b with
              | false => rfl
              | true => have := rightB_iff.mp hr x y hxS hyS; rw [this] at hf; cases hf
            rw [if_pos (by exact hlen')]
            simp
            exact t3.Q _ _ (t2.Q _ _ (oQ _ _ (Q_eq (q h3 pr3) (by rw [this]))))
          · have hlen' : ¬ ((ps.filter fun p => decide (dW ws S x y p ≤ b)).length : Int) = ps.length := by omega
            rw [if_neg (by exact hlen')]
            simp
            exact nxt (by rw [hok, decide_eq_false hxy, decide_eq_false hlen]; rfl)
    · rintro ρ h2 ⟨⟨pr2, hv2⟩, x5, x6, rfl⟩
      rw [List.length_range, hdl] at hv2
      simp
      refine t2.N _ _ ⟨⟨pr2, fun c hc d hd => ?_⟩, _, _, _, rfl⟩
      by_cases hcx : c = x
      · subst hcx; exact hv2 d hd
      · exact hv c (by omega) d hd
  · rintro ρ h1 ⟨⟨pr, hv⟩, x4, x5, x6, rfl⟩
    rw [List.length_range, hdl] at hv
    simp
    exact oQ _ _ (Q_eq (q h1 pr) (by rw [rightB_iff.mpr fun i j hi hj => hv i hi j hj]))
end K77
end
section
set_option maxRecDepth 20000
namespace EP
open PySem L2
theorem zip_range2 (r : List Int) : r.zipIdx = (List.range r.length).map fun q => (r.getD q 0, q) := by
  apply List.ext_getElem
  · simp
  · intro i h1 h2
    have : i < r.length := by simpa using h1
    simp [this]
def wAt (ws : List Word) (r : List Int) (q : Nat) : Word := ws.getD (r.getD q 0).toNat []
theorem spW_range (n : Int) (ws : List Word) (r : List Int) : spW n ws r = (List.range r.length).flatMap fun q => (wAt ws r q).map (· + n * (q : Nat)) := by
  unfold spW
  rw [zip_range2, List.flatMap_map]
  rfl
section
variable {n : Int} {ws : List Word} (n1 : 1 ≤ n) (hw : ∀ w ∈ ws, ∀ x ∈ w, 0 ≤ x ∧ x < n)
include hw
theorem wAt_rng (r : List Int) (q : Nat) : ∀ x ∈ wAt ws r q, 0 ≤ x ∧ x < n := by
  intro x hx
  unfold wAt at hx
  generalize (r.getD q 0).toNat = i at hx
  by_cases h : i < ws.length
  · have : ws.getD i [] = ws[i] := by simp [h]
    rw [this] at hx
    exact hw _ (List.getElem_mem h) x hx
  · have : ws.getD i [] = [] := by simp [List.getD_eq_getElem?_getD, List.getElem?_eq_none (Nat.not_lt.mp h)]
    rw [this] at hx; cases hx
include n1
theorem blk_eq {p q : Nat} {x y : Int} (hx : 0 ≤ x ∧ x < n) (hy : 0 ≤ y ∧ y < n) (e : x + n * (p : Nat) = y + n * (q : Nat)) : p = q ∧ x = y := by
  have h1 : p = q := by
    rcases Nat.lt_trichotomy p q with z | z | z
    · have : n * ((p : Int) + 1) ≤ n * (q : Int) := Int.mul_le_mul_of_nonneg_left (by omega) (by omega)
      rw [Int.mul_add] at this; omega
    · exact z
    · have : n * ((q : Int) + 1) ≤ n * (p : Int) := Int.mul_le_mul_of_nonneg_left (by omega) (by omega)
      rw [Int.mul_add] at this; omega
  subst h1
  exact ⟨rfl, by omega⟩
theorem mem_spW (s : List Int) {q : Nat} {y : Int} (hq : q < s.length) (hy : 0 ≤ y ∧ y < n) : y + n * (q : Nat) ∈ spW n ws s ↔ y ∈ wAt ws s q := by
  rw [spW_range]
  simp only [List.mem_flatMap, List.mem_range, List.mem_map]
  constructor
  · rintro ⟨p, hp, x, hx, e⟩
    obtain ⟨rfl, rfl⟩ := blk_eq n1 hw (wAt_rng hw s p x hx) hy e
    exact hx
  · intro h
    exact ⟨q, hq, y, h, rfl⟩
theorem less_spW (r s : List Int) (e : r.length = s.length) : less (spW n ws r) (spW n ws s) = (List.range r.length).flatMap fun q => (less (wAt ws r q) (wAt ws s q)).map (· + n * (q : Nat)) := by
  unfold less
  rw [spW_range (r := r), List.filter_flatMap]
  have key : ∀ l : List Nat, (∀ q ∈ l, q < s.length) → (l.flatMap fun q => ((wAt ws r q).map (· + n * (q : Nat))).filter fun x => !decide (x ∈ spW n ws s)) = l.flatMap fun q => ((wAt ws r q).filter fun x => !decide (x ∈ wAt ws s q)).map (· + n * (q : Nat)) := by
    intro l
    induction l with
    | nil => intro _; rfl
    | cons q l ih =>
      intro hl
      rw [List.flatMap_cons, List.flatMap_cons, ih fun x hx => hl x (by simp [hx]), List.filter_map]
      congr 2
      refine List.filter_congr fun y hy => ?_
      have := mem_spW n1 hw s (hl q (by simp)) (wAt_rng hw r q y hy)
      simp only [Function.comp, this]
  exact key _ fun q hq => by have : q < r.length := by simpa using hq
                             omega
theorem less_spW_len (r s : List Int) (e : r.length = s.length) : ((less (spW n ws r) (spW n ws s)).length : Int) = ((List.range r.length).map fun q => ((less (wAt ws r q) (wAt ws s q)).length : Int)).sum := by
  rw [less_spW n1 hw r s e, List.length_flatMap]
  generalize List.range r.length = l
  induction l with
  | nil => rfl
  | cons q l ih =>
    simp only [List.map_cons, List.sum_cons, List.length_map, Int.natCast_add] at ih ⊢
    rw [ih]
theorem count_blk (r s : List Int) (e : r.length = s.length) {p : Nat} (hp : p < r.length) : ((less (spW n ws r) (spW n ws s)).filter fun x => decide (x ∈ runW (n * (p : Nat)) n)).length = (less (wAt ws r p) (wAt ws s p)).length := by
  have hrun : ∀ {q : Nat} {y : Int}, 0 ≤ y ∧ y < n → (y + n * (q : Nat) ∈ runW (n * (p : Nat)) n ↔ q = p) := by
    intro q y hy
    unfold runW
    simp only [List.mem_map, List.mem_range]
    constructor
    · rintro ⟨i, hi, e⟩
      exact (blk_eq n1 hw (x := (i : Int)) (y := y) (by omega) hy (by omega)).1.symm
    · rintro rfl
      exact ⟨y.toNat, by omega, by omega⟩
  rw [less_spW n1 hw r s e, List.filter_flatMap]
  have key : ∀ l : List Nat, l.Nodup → (l.flatMap fun q => ((less (wAt ws r q) (wAt ws s q)).map (· + n * (q : Nat))).filter fun x => decide (x ∈ runW (n * (p : Nat)) n)).length = if p ∈ l then (less (wAt ws r p) (wAt ws s p)).length else 0 := by
    intro l
    induction l with
    | nil => intro _; simp
    | cons q l ih =>
      intro hn
      have hn := List.nodup_cons.mp hn
      rw [List.flatMap_cons, List.length_append, ih hn.2, List.filter_map, List.length_map]
      have hless : ∀ y ∈ less (wAt ws r q) (wAt ws s q), 0 ≤ y ∧ y < n := fun y hy => by
        unfold less at hy
        exact wAt_rng hw r q y (List.mem_filter.mp hy).1
      by_cases hqp : q = p
      · subst hqp
        have : (less (wAt ws r q) (wAt ws s q)).filter ((fun x => decide (x ∈ runW (n * (q : Nat)) n)) ∘ fun x => x + n * (q : Nat)) = less (wAt ws r q) (wAt ws s q) := by
          refine List.filter_eq_self.mpr fun y hy => ?_
          simp only [Function.comp, decide_eq_true_eq]
          exact (hrun (hless y hy)).mpr rfl
        rw [this, if_neg hn.1, if_pos (by simp)]
        omega
      · have : (less (wAt ws r q) (wAt ws s q)).filter ((fun x => decide (x ∈ runW (n * (p : Nat)) n)) ∘ fun x => x + n * (q : Nat)) = [] := by
          rw [List.filter_eq_nil_iff]
          intro y hy
          simp only [Function.comp, decide_eq_true_eq]
          exact fun z => hqp ((hrun (hless y hy)).mp z)
        rw [this]
        by_cases hpl : p ∈ l
        · rw [if_pos hpl, if_pos (by simp [hpl])]; simp
        · rw [if_neg hpl, if_neg (by simp [hpl, Ne.symm hqp])]; simp
  rw [key _ List.nodup_range, if_pos (by simpa using hp)]
end
/-- pairs of a book -/
theorem mem_ppairs {N : Int} {r : Row} {t : Nat × Nat × Nat × Word} : t ∈ ppairs (N, [r]) ↔ ∃ i j, i < r.length ∧ j < r.length ∧ i ≠ j ∧ t = (0, i, j, less ((r.map (·.1)).getD i []) ((r.map (·.1)).getD j [])) := by
  unfold ppairs wpairs
  simp only [List.zipIdx_cons, List.zipIdx_nil, List.flatMap_cons, List.flatMap_nil, List.append_nil, List.mem_map, List.mem_flatMap, List.mem_filter, Bool.not_eq_true', decide_eq_false_iff_not]
  constructor
  · rintro ⟨u, ⟨l, hl, v, ⟨hv, hne⟩, rfl⟩, rfl⟩
    obtain ⟨l1, l2⟩ := List.mem_zipIdx' hl
    obtain ⟨v1, v2⟩ := List.mem_zipIdx' hv
    refine ⟨l.2, v.2, by simpa using l1, by simpa using v1, hne, ?_⟩
    have a1 : (r.map (·.1)).getD l.2 [] = l.1 := by rw [l2]; exact getD_of (List.getElem?_eq_getElem l1)
    have a2 : (r.map (·.1)).getD v.2 [] = v.1 := by rw [v2]; exact getD_of (List.getElem?_eq_getElem v1)
    rw [a1, a2]
  · rintro ⟨i, j, hi, hj, hne, rfl⟩
    have hi' : i < (r.map (·.1)).length := by simpa using hi
    have hj' : j < (r.map (·.1)).length := by simpa using hj
    have e1 := List.getElem?_eq_getElem hi'
    have e2 := List.getElem?_eq_getElem hj'
    rw [getD_of e1, getD_of e2]
    generalize (r.map (·.1))[i] = wi at e1
    generalize (r.map (·.1))[j] = wj at e2
    exact ⟨(i, j, less wi wj), ⟨(wi, i), List.mem_zipIdx_iff_getElem?.mpr e1, (wj, j), ⟨List.mem_zipIdx_iff_getElem?.mpr e2, hne⟩, rfl⟩, rfl⟩
end EP
end
section
set_option maxRecDepth 20000
namespace EP
open PySem L2
theorem wAt_get {ws : List Word} {r : List Int} {q : Nat} (hq : q < r.length) (hr : ∀ i ∈ r, 0 ≤ i ∧ i < ws.length) : ∃ h : (r[q]).toNat < ws.length, wAt ws r q = ws[(r[q]).toNat] := by
  have h1 := hr _ (List.getElem_mem hq)
  have h2 : (r[q]).toNat < ws.length := by omega
  refine ⟨h2, ?_⟩
  unfold wAt
  have : r.getD q 0 = r[q] := by simp [hq]
  rw [this]; simp [h2]
theorem mAt_less {ws : List Word} {r s : List Int} {q : Nat} (hq : q < r.length) (hq2 : q < s.length) (hr : ∀ i ∈ r, 0 ≤ i ∧ i < ws.length) (hs : ∀ i ∈ s, 0 ≤ i ∧ i < ws.length) : mAt (lessM ws) (r.getD q 0) (s.getD q 0) = ((less (wAt ws r q) (wAt ws s q)).length : Int) := by
  obtain ⟨h1, e1⟩ := wAt_get hq hr
  obtain ⟨h2, e2⟩ := wAt_get hq2 hs
  rw [e1, e2]
  have g1 : r.getD q 0 = r[q] := by simp [hq]
  have g2 : s.getD q 0 = s[q] := by simp [hq2]
  rw [g1, g2]
  unfold mAt lessM
  simp [h1, h2]
section
variable {n N : Int} {ws : List Word} {S : List (List Int)} (n1 : 1 ≤ n) (hw : ∀ w ∈ ws, ∀ x ∈ w, 0 ≤ x ∧ x < n) (ok : SpOk ws.length S)
theorem S_len (ok : SpOk ws.length S) {i j : Nat} (hi : i < S.length) (hj : j < S.length) : (S.getD i []).length = (S.getD j []).length := by
  have := (ok.one _ (getD_mem hi)).2.2.1
  have := (ok.one _ (getD_mem hj)).2.2.1
  omega
theorem mapJ (i : Nat) (hi : i < S.length) : ((S.map fun r => (spW n ws r, (0 : Int))).map (·.1)).getD i [] = spW n ws (S.getD i []) := by
  simp [hi]
include n1 hw ok
theorem bars_right {ps : List Int} {b c : Int} (hps : ∀ p ∈ ps, 0 ≤ p ∧ p < (S.getD 0 []).length) : ((ppairs (N, [S.map fun r => (spW n ws r, 0)])).all fun t => !K77.fits (lanesL n c ps b).2 t.2.2.2) = rightB ws S ps b := by
  rw [Bool.eq_iff_iff, rightB_iff, List.all_eq_true]
  have key : ∀ i j, i < S.length → j < S.length → (K77.fits (lanesL n c ps b).2 (less (spW n ws (S.getD i [])) (spW n ws (S.getD j []))) = false ↔ ∃ p ∈ ps, b < dW ws S i j p) := by
    intro i j hi hj
    have hlen := S_len ok hi hj
    have h0 := S_len ok hi (show 0 < S.length by omega)
    have oi := ok.one _ (getD_mem hi)
    have oj := ok.one _ (getD_mem hj)
    unfold K77.fits lanesL
    simp only [List.all_map, List.all_eq_false, Function.comp, decide_eq_true_eq, Int.not_le]
    have e : ∀ p ∈ ps, (((less (spW n ws (S.getD i [])) (spW n ws (S.getD j []))).filter fun x => decide (x ∈ runW (n * p) n)).length : Int) = dW ws S i j p := by
      intro p hp
      obtain ⟨p0, p1⟩ := hps p hp
      obtain ⟨q, rfl⟩ := Int.eq_ofNat_of_zero_le p0
      have hq : q < (S.getD i []).length := by omega
      have := count_blk n1 hw (S.getD i []) (S.getD j []) hlen hq
      rw [this]
      unfold dW
      rw [Int.toNat_natCast, mAt_less hq (by omega) oi.2.2.2 oj.2.2.2]
    constructor
    · rintro ⟨p, hp, h⟩
      rw [e p hp] at h
      exact ⟨p, hp, h⟩
    · rintro ⟨p, hp, h⟩
      rw [← e p hp] at h
      exact ⟨p, hp, h⟩
  constructor
  · intro h i j hi hj
    unfold okP
    by_cases hij : i = j
    · simp [hij]
    · have := h (0, i, j, less (spW n ws (S.getD i [])) (spW n ws (S.getD j []))) (mem_ppairs.mpr ⟨i, j, by simpa using hi, by simpa using hj, hij, by rw [mapJ i hi, mapJ j hj]⟩)
      simp only [Bool.not_eq_true'] at this
      obtain ⟨p, hp, hb⟩ := (key i j hi hj).mp this
      simp only [Bool.or_eq_true, decide_eq_true_eq, List.any_eq_true]
      exact .inr ⟨p, hp, hb⟩
  · intro h t ht
    obtain ⟨i, j, hi, hj, hij, rfl⟩ := mem_ppairs.mp ht
    have hi : i < S.length := by simpa using hi
    have hj : j < S.length := by simpa using hj
    have := h i j hi hj
    unfold okP at this
    simp only [Bool.or_eq_true, decide_eq_true_eq, List.any_eq_true] at this
    rcases this with z | ⟨p, hp, hb⟩
    · exact absurd z hij
    · rw [mapJ i hi, mapJ j hj]
      simp only [Bool.not_eq_true']
      exact (key i j hi hj).mpr ⟨p, hp, hb⟩
theorem gap_even : K77.gapD ((ppairs (N, [S.map fun r => (spW n ws r, 0)])).map fun t => t.2.2.2.length) = optD (evenV ws S) := by
  have hmem : ∀ x : Int, x ∈ ((ppairs (N, [S.map fun r => (spW n ws r, 0)])).map fun t => t.2.2.2.length).map (fun (k : Nat) => (k : Int)) ↔ x ∈ allL (sumF (lessM ws) S) S.length S.length := by
    intro x
    rw [mem_allL]
    have val : ∀ i j, i < S.length → j < S.length → ((less (spW n ws (S.getD i [])) (spW n ws (S.getD j []))).length : Int) = sumF (lessM ws) S i j := by
      intro i j hi hj
      have hlen := S_len ok hi hj
      have oi := ok.one _ (getD_mem hi)
      have oj := ok.one _ (getD_mem hj)
      rw [less_spW_len n1 hw _ _ hlen, sumF_Z ok _ hi hj]
      unfold sumZ
      congr 1
      refine List.map_congr_left fun q hq => ?_
      have hq : q < (S.getD i []).length := by simpa using hq
      exact (mAt_less hq (by omega) oi.2.2.2 oj.2.2.2).symm
    simp only [List.mem_map]
    constructor
    · rintro ⟨k, ⟨t, ht, rfl⟩, rfl⟩
      obtain ⟨i, j, hi, hj, hij, rfl⟩ := mem_ppairs.mp ht
      have hi : i < S.length := by simpa using hi
      have hj : j < S.length := by simpa using hj
      refine ⟨i, j, hi, hj, hij, ?_⟩
      rw [mapJ i hi, mapJ j hj]
      exact val i j hi hj
    · rintro ⟨i, j, hi, hj, hij, rfl⟩
      refine ⟨_, ⟨_, mem_ppairs.mpr ⟨i, j, by simpa using hi, by simpa using hj, hij, rfl⟩, rfl⟩, ?_⟩
      rw [mapJ i hi, mapJ j hj]
      exact val i j hi hj
  unfold K77.gapD evenV
  rw [← minO_ext hmem]
  generalize (ppairs (N, [S.map fun r => (spW n ws r, 0)])).map (fun t => t.2.2.2.length) = ks
  by_cases hk : ks = []
  · subst hk; rfl
  · rw [if_neg hk, minL_spec (by simpa using hk)]
    rfl
end
/-! ### far apart -/
def singles (m : Nat) : List (List Int) := (List.range m).map fun a => [((a : Nat) : Int)]
theorem single_get {m a : Nat} (h : a < m) : (singles m).getD a [] = [(a : Int)] := by simp [singles, h]
theorem single_val {M : List (List Int)} {m a b : Nat} (ha : a < m) (hb : b < m) : sumZ M (singles m) a b = mAt M a b := by
  unfold sumZ
  rw [single_get ha, single_get hb]
  simp
theorem ham_count (L : Nat) (f : Nat → Bool) : ((List.range L).map fun x => if f x = true then (0 : Int) else 1).sum = L - ((List.range L).filter f).length := by
  induction L with
  | zero => rfl
  | succ L ih =>
    rw [List.range_succ, List.map_append, List.sum_append, ih, List.filter_append, List.length_append]
    by_cases h : f L = true <;> simp [h] <;> omega
theorem far_ok {ws : List Word} {S : List (List Int)} {ps : List Int} {b least far : Int} {size : Nat} (ok : SpOk ws.length S) (ok64 : SpOk 64 S) (hsz : ∀ r ∈ S, r.length = size) (nd : ps.Nodup) (hps : ∀ p ∈ ps, 0 ≤ p ∧ p < size)
    (hl : minO (allL (lawF false ws (singles ws.length)) ws.length ws.length) = some least) (hb : b ≤ least) (hf : distV S = some far) (hr : rightB ws S ps b = false) : (ps.length : Int) ≤ size - far := by
  have : ¬ ∀ i j, i < S.length → j < S.length → okP ws S ps b i j = true := fun h => by rw [rightB_iff.mpr h] at hr; cases hr
  simp only [Classical.not_forall] at this
  obtain ⟨i, j, hi, hj, hno⟩ := this
  unfold okP at hno
  simp only [Bool.or_eq_true, decide_eq_true_eq, List.any_eq_true, not_or, not_exists, not_and, Int.not_lt] at hno
  obtain ⟨hij, hno⟩ := hno
  have hl := minO_some.mp hl
  have hfs := minO_some.mp hf
  have li := hsz _ (getD_mem hi)
  have lj := hsz _ (getD_mem hj)
  have oi := ok.one _ (getD_mem hi)
  have oj := ok.one _ (getD_mem hj)
  have hfar : far ≤ hamF S i j := hfs.2 _ (mem_allL.mpr ⟨i, j, hi, hj, hij, (sumF_ham ok64 hi hj).symm⟩)
  have hag : ∀ p ∈ ps, (S.getD i []).getD p.toNat 0 = (S.getD j []).getD p.toNat 0 := by
    intro p hp
    obtain ⟨p0, p1⟩ := hps p hp
    have hd := hno p hp
    by_cases he : (S.getD i []).getD p.toNat 0 = (S.getD j []).getD p.toNat 0
    · exact he
    · exfalso
      have m1 := oi.2.2.2 _ (getD_mem0 (l := S.getD i []) (x := p.toNat) (by omega))
      have m2 := oj.2.2.2 _ (getD_mem0 (l := S.getD j []) (x := p.toNat) (by omega))
      unfold dW at hd
      generalize (S.getD i []).getD p.toNat 0 = u at he m1 hd
      generalize (S.getD j []).getD p.toNat 0 = v at he m2 hd
      have hx := hl.2 _ (mem_allL.mpr ⟨u.toNat, v.toNat, by omega, by omega, by omega, rfl⟩)
      unfold lawF at hx
      rw [if_neg (by simp), single_val (by omega) (by omega)] at hx
      have e1 : ((u.toNat : Nat) : Int) = u := by omega
      have e2 : ((v.toNat : Nat) : Int) = v := by omega
      rw [e1, e2] at hx
      omega
  have hcount : (ps.length : Int) ≤ ((List.range size).filter fun x => decide ((S.getD i []).getD x 0 = (S.getD j []).getD x 0)).length := by
    have := nodup_sub ps (((List.range size).filter fun x => decide ((S.getD i []).getD x 0 = (S.getD j []).getD x 0)).map fun x => ((x : Nat) : Int)) nd fun p hp => by
      obtain ⟨p0, p1⟩ := hps p hp
      refine List.mem_map.mpr ⟨p.toNat, List.mem_filter.mpr ⟨by simp; omega, by simpa using hag p hp⟩, by omega⟩
    rw [List.length_map] at this
    omega
  have hh : hamF S i j = size - ((List.range size).filter fun x => decide ((S.getD i []).getD x 0 = (S.getD j []).getD x 0)).length := by
    unfold hamF
    rw [li]
    have := ham_count size fun x => decide ((S.getD i []).getD x 0 = (S.getD j []).getD x 0)
    simp only [decide_eq_true_eq] at this
    exact this
  omega
end EP
end
section
set_option maxRecDepth 20000
namespace EP
open PySem L2
theorem rowsAt_of {P : Nat → Prop} {h : MH} {ds : List Dt} {S : List (List Int)} (s : Shs P h ds (S.map rT)) : RowsAt false h ds S := by
  refine ⟨by have := s.length; simpa using this, fun i hi => ?_⟩
  have := s.at_ (i := i) (by simpa using hi)
  rw [List.getElem_map] at this
  obtain ⟨b, bs, eb, pb, eb0, sb⟩ := this.list
  have ebs := Shs.ints_eq sb
  subst ebs
  exact ⟨b, eb, eb0⟩
theorem pw_ok {v : Int} {ps : List Int} (nd : ps.Nodup) (hr : ∀ x ∈ ps, 0 ≤ x ∧ x < v) : pw v (ps.map .int) = none := by
  unfold pw
  refine findSome_none fun j hj => ?_
  have hj : j < ps.length := by simpa using hj
  unfold plV
  have g : (ps.map Tr.int).getD j .non = .int ps[j] := by simp [hj]
  have := hr _ (List.getElem_mem hj)
  rw [g, if_neg (by simp [Tr.blw]; omega), ← List.map_take, intsT_map]
  refine if_neg fun hm => ?_
  simp only [Tr.val] at hm
  rw [List.mem_take_iff_getElem] at hm
  obtain ⟨i, hi, e⟩ := hm
  have := (List.getElem_inj nd).mp e
  omega
theorem lanesR_int {N size b : Int} {ps : List Int} (n1 : 1 ≤ N) (n40 : N ≤ 40) (s1 : 1 ≤ size) (s8 : size ≤ 8) (nd : ps.Nodup) (hr : ∀ x ∈ ps, 0 ≤ x ∧ x < size) (b0 : 0 ≤ b) (b60 : b ≤ 60) (h40 : N * size ≤ 40) : lanesR (.int N) (.int size) (ps.map .int) (.int b) = .ok (lanesL N size ps b) := by
  unfold lanesR
  rw [if_neg (by simp [nOk]; omega), if_neg (by simp [cOk]; omega)]
  simp only [Tr.val, pw_ok nd hr]
  rw [if_neg (by simp [Tr.blw]; omega), intsT_map]
  exact if_neg (show ¬ 40 < N * size by omega)
theorem runW_nodup (a n : Int) : (runW a n).Nodup := by
  unfold runW
  rw [List.nodup_iff_pairwise_ne, List.pairwise_map]
  refine List.Pairwise.imp ?_ List.pairwise_lt_range
  intro x y h e
  omega
theorem spW_nodup {n : Int} {ws : List Word} (n1 : 1 ≤ n) (hw : ∀ w ∈ ws, ∀ x ∈ w, 0 ≤ x ∧ x < n) (hn : ∀ w ∈ ws, w.Nodup) (r : List Int) : (spW n ws r).Nodup := by
  rw [spW_range]
  have key : ∀ l : List Nat, l.Nodup → (l.flatMap fun q => (wAt ws r q).map (· + n * (q : Nat))).Nodup := by
    intro l
    induction l with
    | nil => intro _; simp
    | cons q l ih =>
      intro h
      have h := List.nodup_cons.mp h
      rw [List.flatMap_cons, List.nodup_append]
      refine ⟨?_, ih h.2, fun x hx y hy e => ?_⟩
      · rw [List.nodup_iff_pairwise_ne, List.pairwise_map]
        have : (wAt ws r q).Nodup := by
          unfold wAt
          generalize (r.getD q 0).toNat = i
          by_cases hi : i < ws.length
          · have : ws.getD i [] = ws[i] := by simp [hi]
            rw [this]; exact hn _ (List.getElem_mem hi)
          · have : ws.getD i [] = [] := by simp [List.getD_eq_getElem?_getD, List.getElem?_eq_none (Nat.not_lt.mp hi)]
            rw [this]; simp
        refine List.Pairwise.imp ?_ (List.nodup_iff_pairwise_ne.mp this)
        intro a b hab e
        omega
      · obtain ⟨a, ha, rfl⟩ := List.mem_map.mp hx
        obtain ⟨p, hp, hy⟩ := List.mem_flatMap.mp hy
        obtain ⟨b, hb, rfl⟩ := List.mem_map.mp hy
        obtain ⟨rfl, _⟩ := blk_eq n1 hw (wAt_rng hw r q a ha) (wAt_rng hw r p b hb) e
        exact h.1 hp
  exact key _ List.nodup_range
theorem spW_rng {n : Int} {ws : List Word} (n1 : 1 ≤ n) (hw : ∀ w ∈ ws, ∀ x ∈ w, 0 ≤ x ∧ x < n) (r : List Int) : ∀ x ∈ spW n ws r, 0 ≤ x ∧ x < n * (r.length : Nat) := by
  intro x hx
  rw [spW_range] at hx
  obtain ⟨q, hq, hx⟩ := List.mem_flatMap.mp hx
  obtain ⟨y, hy, rfl⟩ := List.mem_map.mp hx
  have hq : q < r.length := by simpa using hq
  have := wAt_rng hw r q y hy
  have h1 : n * ((q : Int) + 1) ≤ n * (r.length : Int) := Int.mul_le_mul_of_nonneg_left (by omega) (by omega)
  have h0 : 0 ≤ n * (q : Int) := Int.mul_nonneg (by omega) (by omega)
  rw [Int.mul_add] at h1
  omega
theorem spW_len40 {n : Int} {ws : List Word} (n1 : 1 ≤ n) (hw : ∀ w ∈ ws, ∀ x ∈ w, 0 ≤ x ∧ x < n) (hn : ∀ w ∈ ws, w.Nodup) (r : List Int) (h : n * (r.length : Nat) ≤ 40) : (spW n ws r).length ≤ 40 := by
  have := nodup_sub (spW n ws r) ((List.range 40).map fun i => ((i : Nat) : Int)) (spW_nodup n1 hw hn r) fun x hx => by
    have := spW_rng n1 hw r x hx
    exact List.mem_map.mpr ⟨x.toNat, by simp; omega, by omega⟩
  simpa using this
theorem least_le {n : Int} {ws : List Word} {v : Int} (n40 : n ≤ 40) (hw : ∀ w ∈ ws, WdOk n w) (h : minO (allL (lawF false ws (singles ws.length)) ws.length ws.length) = some v) : v ≤ 39 := by
  have := (minO_some.mp h).1
  obtain ⟨i, j, hi, hj, hij, rfl⟩ := mem_allL.mp this
  unfold lawF
  rw [if_neg (by simp), single_val hi hj]
  unfold mAt lessM
  have l1 := (hw _ (List.getElem_mem hi)).len
  have l2 : (less ws[i] ws[j]).length ≤ ws[i].length := List.length_filter_le _ _
  simp [hi, hj]
  omega
theorem asc_nodup {w : Word} (h : Asc w) : w.Nodup := by
  rw [List.nodup_iff_pairwise_ne]
  exact List.Pairwise.imp (fun h e => by omega) h
theorem book_wf {N : Int} {ws : List Word} (n1 : 1 ≤ N) (n40 : N ≤ 40) (wne : ws ≠ []) (wl : ws.length ≤ 64) (wok : ∀ w ∈ ws, WdOk N w) : Wf (N, [ws.map fun w => (w, 0)]) := by
  refine ⟨n1, by show N ≤ 64; omega, by simp, by simp, fun r hr => ?_⟩
  simp at hr
  subst hr
  refine ⟨by simpa using wne, by simpa using wl, fun e he => ?_⟩
  obtain ⟨w, hw, rfl⟩ := List.mem_map.mp he
  have := wok w hw
  exact ⟨by simp, by simp, this.asc, this.rng, by have := this.len; simp only; omega⟩
end EP
end
section
set_option maxRecDepth 20000
namespace K77
open PySem L2 EP
variable {k : Nat} {h : MH} {Q : Dt → MH → Prop} {X : Str → Fs → MH → Prop}
theorem oddInts (ps : List Int) : ∀ t ∈ ps.map Tr.int, Odd t := fun t ht => by
  obtain ⟨i, _, rfl⟩ := List.mem_map.mp ht
  exact oddI i
theorem bkW {N : Int} {ws : List Word} : bookW (N, [ws.map fun w => (w, 0)]) = ws := by
  unfold bookW bookRow
  show (ws.map fun w => (w, (0 : Int))).map (·.1) = ws
  rw [List.map_map]
  exact List.map_id ws
/-- [[at] for at in range(len(words))] -/
theorem single_rows {ρ : EP.Env} {G : Orc} {w : Nat} {ws : List Word} {Q : Dt → MH → Prop} {X : Str → Fs → MH → Prop} (e5 : ρ[5]? = some (some (.loc w))) (hl8 : 8 < ρ.length) (ew : h[w]? = some (.lst (ws.map wD))) (hl : ws.length ≤ 64)
    (q : ∀ a ds h', h <+: h' → h'[a]? = some (.lst ds) → RowsAt false h' ds (singles ws.length) → Q (.loc a) h') : WE (eLc (iRg (rg1 (eBf bLen (aCons (eVar 5) aNil)))) (.nm 8) EP.tYes (eLst (aCons (eVar 8) aNil)) [8] G ρ h) Q X := by
  refine lc_it ?_
  refine iRg1_wp ?_
  simp [e5, len_lst ew]
  refine ⟨sm_nat (by omega), ?_⟩
  refine lc_sh (f := fun i : Nat => Dt.int (i : Nat)) (xs := List.range ws.length) (fun _ => True) (h1 := h) rfl hi_rng0 (fun a => rT [(a : Int)]) (by rw [sizeLine_eq, List.length_range]; omega) ?_ ?_
  · intro a ha
    refine ⟨_, rfl, fun h' pr hlt => ?_⟩
    have ev : eVar 8 G ((wipeE ρ [8]).set 8 (some (.int (a : Nat)))) h' = .ok (.int (a : Nat)) h' := by
      rw [eVar_s]
      simp [hl8]
    simp only [eLst_s, aCons_s, aNil_s, ev, bnd_ok, newL1, we_ok]
    exact ⟨pre_app _ _, .lst (by simp; omega) (new_get _ _) (.one (.int _))⟩
  · intro h' ds pr e s
    refine q _ ds h' pr e (rowsAt_of (P := fun _ => True) ?_)
    have : (singles ws.length).map rT = (List.range ws.length).map fun a => rT [((a : Nat) : Int)] := by unfold singles; rw [List.map_map]; rfl
    rw [this]; exact s
theorem law_book_holds {m n w0 : Nat} {N size : Int} {ws : List Word} {rows : Dt} {S : List (List Int)} (hs : St m n h) (hm : m ≤ h.length) (dr : DrawOk N size ws S) (s : Sh (fun i => m ≤ i) h rows (.lst (S.map rT))) (q : ∀ h', Kp m n h h' → Q (.bl true) h') :
    WE (callK D (k + 9) i_law_book_holds [.loc n, pD (N, [ws.map fun w => (w, 0)]), rows, .int size] h) Q X := by
  refine call_wp (md := D_law_book_holds) rfl rfl fun O oN oQ oX => ?_
  have wf := book_wf dr.n1 dr.n40 dr.wne dr.wl dr.wok
  have hw64 : ∀ x ∈ ws, x.length ≤ 64 := fun x hx => by have := (dr.wok x hx).len; have := dr.n40; omega
  have hwl := dr.wl
  have hw0 := List.length_pos_iff.mpr dr.wne
  have rTm := rT_map S
  have sR : Sh (fun i => m ≤ i) h rows (.lst ((S.map fun r => r.map Tr.int).map .lst)) := by rw [← rTm]; exact s
  simp only [m_law_book_holds, run_seq, sSet_s, run_bndS]
  simp
  refine ask_letters (k := k + 1) wf dr.n40 sR fun h1 p1 => ?_
  have k1 : Kp m n h h1 := .pre hs p1
  refine lc_it ?_
  simp
  refine lc_wpm (f := fun w : Word => eD (w, 0)) (xs := ws) (h1 := h1) rfl hi_tup wD (by rw [sizeLine_eq]; omega) (fun w hw => ⟨_, rfl, fun h' p' => by simp⟩) fun h2 p2 e2 => ?_
  have k2 := k1.thenPre p2
  refine single_rows (by rfl) (by simp) e2 hwl fun a ds h3 p3 ea ra => ?_
  have k3 := k2.thenPre p3
  have n1 : ¬ (("even" : Str) = "distance") := by decide +kernel
  have sl : (singles ws.length).length = ws.length := by simp [singles]
  have ss : ∀ r ∈ singles ws.length, r.length = 1 ∧ ∀ i ∈ r, 0 ≤ i ∧ i < ws.length := fun r hr => by
    unfold singles at hr
    obtain ⟨x, hx, rfl⟩ := List.mem_map.mp hr
    have hx : x < ws.length := by simpa using hx
    exact ⟨rfl, fun i hi => by simp at hi; omega⟩
  refine law_least (k := k + 6) so_even (pre_get p3 e2) hwl hw64 ea ra (by omega) ?_ (fun r hr => ⟨?_, by rw [(ss r hr).1]; omega⟩) (fun _ r hr => (ss r hr).2) fun h4 p4 => ?_
  · unfold singles
    rw [List.nodup_iff_pairwise_ne, List.pairwise_map]
    refine List.Pairwise.imp ?_ List.pairwise_lt_range
    intro x y hxy e
    simp at e; omega
  · have h0 : 0 < (singles ws.length).length := by omega
    rw [(ss r hr).1, (ss _ (getD_mem h0)).1]
  rw [sl, decide_eq_false n1]
  generalize hLO : minO (allL (lawF false ws (singles ws.length)) ws.length ws.length) = lo
  have k4 := k3.thenPre p4
  have e4 := pre_get (p3.trans p4) e2
  have s4 := s.mono (h' := h4) (fun i o hi e => k4.ge i o hi e)
  have ds1 := dr.s1
  have ds8 := dr.s8
  refine law_take k4.st (Nat.le_trans hm k4.len) (lt200 (by omega)) fun r5 h5 k5' a5 b5 => ?_
  have b5 := b5 (by omega)
  have k5 := k4.trans k5'
  refine law_unlike k5.st (Nat.le_trans hm k5.len) ds1 (lt200 (by omega)) (by omega) (by omega) fun ps pl h6 k6' lp ep nd hps hpl => ?_
  have k6 := k5.trans k6'
  have hpl2 : (ps.length : Int) ≤ 8 := by rw [hpl]; split <;> omega
  refine law_take k6.st (Nat.le_trans hm k6.len) (lt200 (by omega)) fun r7 h7 k7' a7 b7 => ?_
  have b7 := b7 (by omega)
  have k7 := k6.trans k7'
  have ep7 := k7'.ge _ _ (by have := k5.len; omega) ep
  have e7 := (k5'.trans (k6'.trans k7')).ge _ _ (by have := k1.len; omega) e4
  have s7 := s4.mono (h' := h7) (fun i o hi e => (k5'.trans (k6'.trans k7')).ge i o hi e)
  have hlo : ∀ v, lo = some v → v ≤ 39 := fun v hv => least_le dr.n40 dr.wok (hLO.trans hv)
  generalize hoD : ouD (lettersR (N, [ws.map fun w => (w, 0)]) (S.map fun r => r.map Tr.int)) = oD
  generalize hT : ((sSeq (sIf (EP.tNot (tVal (eCall i_law_lanes_hold (aCons (eOp oGet (eVar 1) (eC (.int 0))) (aCons (eVar 3) (aCons (eVar 9) (aCons (eVar 10) aNil))))))) (sRet (eC (.bl false))) sSkip)
  (sSeq (sIf (tBl (eOp (oEq false) (eOp oGet (eVar 4) (eC (.int 0))) (eC (.str "refused")))) (sRet (eC (.bl true))) sSkip)
  (sSeq (sSet (.nm 11) (eCall i_law_right_places (aCons (eVar 5) (aCons (eVar 2) (aCons (eVar 9) (aCons (eVar 10) aNil))))))
  (sSeq (sSet (.nm 12) (eCall i_law_least (aCons (eLst aNil) (aCons (eVar 2) (aCons (eC (.str "distance")) aNil)))))
  (sSeq (sIf (EP.tAnd (tBl (eOp (oIs true) (eVar 7) (eC .non))) (EP.tAnd (tBl (eOp oLe (eVar 10) (eVar 7))) (EP.tAnd (tBl (eOp (oIs true) (eVar 12) (eC .non))) (EP.tAnd (tBl (eOp oGt (eBf bLen (aCons (eVar 9) aNil)) (eOp oSub (eVar 3) (eVar 12)))) (EP.tNot (tVal (eVar 11))))))) (sRet (eC (.bl false))) sSkip)
  (sSeq (sSet (.nm 13) (eOp oGet (eCall i_law_ask_lanes (aCons (eOp oGet (eVar 1) (eC (.int 0))) (aCons (eVar 3) (aCons (eBf bTuple (aCons (eVar 9) aNil)) (aCons (eVar 10) aNil))))) (eC (.int 1))))
  (sSeq (sIf (EP.tNot (tVal (eCall i_law_equal (aCons (eCall i_is_right (aCons (eOp oGet (eVar 4) (eC (.int 1))) (aCons (eVar 13) aNil))) (aCons (eVar 11) (aCons (eC (.bl false)) aNil)))))) (sRet (eC (.bl false))) sSkip)
  (sRet (eCall i_law_equal (aCons (eCall i_greatest_even (aCons (eOp oGet (eVar 4) (eC (.int 1))) aNil)) (aCons (eCall i_law_least (aCons (eVar 5) (aCons (eVar 2) (aCons (eC (.str "even")) aNil)))) (aCons (eC (.bl false)) aNil)))))))))))) : SS) = T
  have rest : ∀ (B : Int) (h8 : MH) (x6 x8 : Option Dt), Kp m n h h8 → h8[h1.length]? = some (.lst (ws.map wD)) → h8[pl]? = some (.lst (ps.map .int)) → Sh (fun i => m ≤ i) h8 rows (.lst (S.map rT)) → 0 ≤ B → B ≤ 60 →
      Run (callK D (k + 8)) O [] (T (callK D (k + 8)) [some (.loc n), some (pD (N, [ws.map fun w => (w, 0)])), some rows, some (.int size), some oD, some (.loc h1.length), x6, some (optD lo), x8, some (.loc pl), some (.int B), none, none, none] h8) := by
    intro B h8 x6 x8 k8 e8 ep8 s8 B0 B60
    subst hT
    obtain ⟨ra, rds, er, pra, era, srs⟩ := s8.list
    subst er
    have pR : m ≤ pl := by have := k5.len; omega
    have hc1 : (∃ r, oD = .tup (.str "refused" :: r)) ∨ (SpOk ws.length S ∧ N * size ≤ 40 ∧ oD = .tup [.str "given", pD (N * size, [S.map fun r => (spW N ws r, 0)])]) := by
      rw [← hoD]
      unfold lettersR
      rw [if_neg (by simp)]
      cases hf : fwR (N, [ws.map fun w => (w, 0)]) (S.map fun r => r.map Tr.int) with
      | some w => cases w <;> exact .inl ⟨_, rfl⟩
      | none =>
        have hf2 := hf
        unfold fwR at hf2
        rw [bkW] at hf2
        obtain ⟨S', ok, eS⟩ := fw_none hf2
        have eSS : S = S' := by
          have := congrArg (List.map intsT) eS
          rwa [map_intsT, map_intsT] at this
        subst eSS
        have hS0 : 0 < S.length := List.length_pos_iff.mpr ok.ne
        have hlen : ((((S.map fun r => r.map Tr.int).getD 0 []).length : Nat) : Int) = size := by
          have : (S.map fun r => r.map Tr.int).getD 0 [] = S[0].map Tr.int := by simp [List.getD_eq_getElem?_getD, hS0]
          rw [this, List.length_map]
          exact dr.Ssz _ (List.getElem_mem hS0)
        simp only [hlen, map_intsT, bkW]
        by_cases h40 : 40 < N * size
        · simp only [if_pos h40]; exact .inl ⟨_, rfl⟩
        · simp only [if_neg h40]; exact .inr ⟨ok, by omega, rfl⟩
    simp
    refine law_lanes_hold (P := fun i => m ≤ i) (n := .int N) (c := .int size) (b := .int B) (T := ps.map .int) (.int _) (.int _) (.int _) (.lst pR ep8 (Shs.ints ps)) (by simp; omega) (oddI _) (oddI _) (oddI _) (oddInts ps) fun h9 p9 => ?_
    simp
    rcases hc1 with ⟨r, rfl⟩ | ⟨ok, h40, rfl⟩
    · simp [eq_str so_ref so_ref]
      exact oQ _ _ (q h9 (k8.thenPre p9))
    have ng : ¬ (("given" : Str) = "refused") := by decide +kernel
    simp [eq_str so_giv so_ref, ng]
    have hSsz : ∀ r ∈ S, r.length = size.toNat := fun r hr => by have := dr.Ssz r hr; omega
    have hps2 : ∀ p ∈ ps, 0 ≤ p ∧ p < (size.toNat : Nat) := fun p hp => by have := hps p hp; omega
    have hwr : ∀ w ∈ ws, ∀ x ∈ w, 0 ≤ x ∧ x < N := fun w hw => (dr.wok w hw).rng
    have hwn : ∀ w ∈ ws, w.Nodup := fun w hw => asc_nodup (dr.wok w hw).asc
    refine law_right_places (k := k + 6) (P := fun i => m ≤ i) (size := size.toNat) (pre_get p9 e8) hw64 (s8.pre p9) dr.Sl ok.nd (fun r hr => ⟨hSsz r hr, (ok.one r hr).2.2.2⟩) (pre_get p9 ep8) hps2 (by omega) fun h10 p10 => ?_
    have ok64 : SpOk 64 S := ⟨ok.ne, ok.len, fun r hr => by
      have := ok.one r hr
      exact ⟨this.1, this.2.1, this.2.2.1, fun i hi => by have := this.2.2.2 i hi; omega⟩, ok.nd⟩
    have p10' : h8 <+: h10 ++ [.lst []] := (p9.trans p10).trans (pre_app _ _)
    refine law_least (k := k + 6) (tp := false) (ws := []) so_dist (by simp) (by simp) (fun x hx => nomatch hx) (pre_get p10' era) (rowsAt_of (srs.pre p10')) dr.Sl ok.nd (fun r hr => ⟨(ok.one r hr).2.2.1, by have := (ok.one r hr).2.1; omega⟩) (fun hne => absurd rfl hne) fun h11 p11 => ?_
    rw [show decide (("distance" : Str) = "distance") = true from by decide +kernel, lawF_dist ok64]
    have p8 := p10'.trans p11
    have k11 := k8.thenPre p8
    have ep11 := pre_get p8 ep8
    have hlenp : bLen [.loc pl] h11 = .ok (.int (ps.length : Nat)) h11 := by rw [len_lst ep11, List.length_map]
    generalize hT2 : ((sSeq (sSet (.nm 13) (eOp oGet (eCall i_law_ask_lanes (aCons (eOp oGet (eVar 1) (eC (.int 0))) (aCons (eVar 3) (aCons (eBf bTuple (aCons (eVar 9) aNil)) (aCons (eVar 10) aNil))))) (eC (.int 1))))
  (sSeq (sIf (EP.tNot (tVal (eCall i_law_equal (aCons (eCall i_is_right (aCons (eOp oGet (eVar 4) (eC (.int 1))) (aCons (eVar 13) aNil))) (aCons (eVar 11) (aCons (eC (.bl false)) aNil)))))) (sRet (eC (.bl false))) sSkip)
  (sRet (eCall i_law_equal (aCons (eCall i_greatest_even (aCons (eOp oGet (eVar 4) (eC (.int 1))) aNil)) (aCons (eCall i_law_least (aCons (eVar 5) (aCons (eVar 2) (aCons (eC (.str "even")) aNil)))) (aCons (eC (.bl false)) aNil))))))) : SS) = T2
    have rest2 : ∀ x7 x8 : Option Dt, Run (callK D (k + 8)) O [] (T2 (callK D (k + 8)) [some (.loc n), some (pD (N, [ws.map fun w => (w, 0)])), some (.loc ra), some (.int size), some (.tup [.str "given", pD (N * size, [S.map fun r => (spW N ws r, 0)])]), some (.loc h1.length), x6, x7, x8, some (.loc pl), some (.int B), some (.bl (rightB ws S ps B)), some (optD (distV S)), none] h11) := by
      intro x7 x8
      subst hT2
      have n1' := dr.n1
      have n40' := dr.n40
      have hS0 : 0 < S.length := List.length_pos_iff.mpr ok.ne
      have hg0 : (S.getD 0 []).length = size.toNat := hSsz _ (getD_mem hS0)
      have eL := lanesR_int n1' n40' ds1 ds8 nd hps B0 B60 h40
      have wpJ : Pw (N * size, [S.map fun r => (spW N ws r, (0 : Int))]) := ⟨by simp, fun r hr => by
        simp at hr
        subst hr
        refine ⟨by simp; exact ok.len, fun e he => ?_⟩
        obtain ⟨r, hr, rfl⟩ := List.mem_map.mp he
        have := dr.Ssz r hr
        refine ⟨spW_nodup n1' hwr hwn r, ?_⟩
        have := spW_len40 n1' hwr hwn r (by rw [dr.Ssz r hr]; exact h40)
        simp only
        omega⟩
      simp [tuple_lst ep11]
      refine ask_lanes (k := k + 1) (P := fun i => m ≤ i) (n := .int N) (c := .int size) (a := .int B) (T := ps.map .int) (.int _) (.int _) (.int _) (.t (.tup (Shs.ints ps))) (by simp; omega) (oddI _) (oddI _) (oddI _) (oddInts ps) (fun l el h12 p12 => ?_) (fun hno => absurd eL (hno _))
      rw [eL] at el
      cases el
      have k12 := k11.thenPre p12
      simp
      refine wp_val (is_right (k := k + 3) wpJ rfl (by simp [lanesL]; omega) (fun c hc => by
        simp only [lanesL] at hc
        obtain ⟨p, _, rfl⟩ := List.mem_map.mp hc
        exact ⟨runW_nodup _ _, by rw [runW_len]; omega⟩)) fun h13 p13 => ?_
      rw [bars_right n1' hwr ok (fun p hp => by rw [hg0]; exact hps2 p hp)]
      refine law_equal (k := k + 6) (P := fun i => m ≤ i) (.bl _) (.bl _) (by simp [Tr.nodes]) fun h14 p14 => ?_
      simp
      refine wp_val (greatest_even (k := k + 4) wpJ) fun h15 p15 => ?_
      rw [gap_even n1' hwr ok]
      have p15' := (((p8.trans p12).trans p13).trans p14).trans p15
      refine law_least (k := k + 6) (tp := false) so_even (pre_get p15' e8) hwl hw64 (pre_get p15' era) (rowsAt_of (srs.pre p15')) dr.Sl ok.nd (fun r hr => ⟨(ok.one r hr).2.2.1, by have := (ok.one r hr).2.1; omega⟩) (fun _ r hr => (ok.one r hr).2.2.2) fun h16 p16 => ?_
      rw [decide_eq_false n1, lawF_even ok]
      have pl1 := optD_plain (evenV ws S)
      refine law_equal (k := k + 6) (P := fun i => m ≤ i) (Sh.plain pl1) (Sh.plain pl1) (by rw [tr_nodes]; cases evenV ws S <;> simp [optD, nodes]) fun h17 p17 => ?_
      exact oQ _ _ (q h17 (k8.thenPre ((p15'.trans p16).trans p17)))
    have far := fun v f (e1 : lo = some v) (e2 : distV S = some f) (hb : B ≤ v) (hr : rightB ws S ps B = false) => far_ok ok ok64 hSsz nd hps2 (hLO.trans e1) hb e2 hr
    generalize distV S = fo at rest2 far
    generalize rightB ws S ps B = rB at rest2 far
    cases lo with
    | none =>
      simp [optD]
      exact rest2 _ _
    | some v =>
      by_cases hbv : B ≤ v
      · cases fo with
        | none =>
          simp [optD, hbv]
          exact rest2 _ _
        | some f =>
          have far := far v f rfl rfl hbv
          by_cases hlf : size - f < (ps.length : Int)
          · cases rB with
            | true =>
              simp [optD, hbv, hlenp, hlf]
              exact rest2 _ _
            | false =>
              have := far rfl
              omega
          · simp [optD, hbv, hlenp, hlf]
            exact rest2 _ _
      · simp [optD, hbv]
        exact rest2 _ _
  cases lo with
  | none =>
    simp [optD]
    exact rest r7 h7 _ _ k7 e7 ep7 s7 (by omega) (by omega)
  | some v =>
    have hv := hlo v rfl
    simp [optD]
    refine law_take k7.st (Nat.le_trans hm k7.len) (lt200 (by omega)) fun r8 h8 k8' a8 b8 => ?_
    have k8 := k7.trans k8'
    have ep8 := k8'.ge _ _ (by have := k5.len; omega) ep7
    have e8 := k8'.ge _ _ (by have := k1.len; omega) e7
    have s8 := s7.mono (h' := h8) (fun i o hi e => k8'.ge i o hi e)
    simp
    refine run_ite (fun hc => ?_) (fun hc => ?_)
    · simp
      refine law_take k8.st (Nat.le_trans hm k8.len) (lt200 (by omega)) fun r9 h9 k9' a9 b9 => ?_
      have b9 := b9 (by omega)
      have k9 := k8.trans k9'
      have ep9 := k9'.ge _ _ (by have := k5.len; omega) ep8
      have e9 := k9'.ge _ _ (by have := k1.len; omega) e8
      have s9 := s8.mono (h' := h9) (fun i o hi e => k9'.ge i o hi e)
      have hmax : bMax [.int 0, .int (v + r9)] h9 = .ok (.int (if v + r9 > 0 then v + r9 else 0)) h9 := rfl
      simp [hmax]
      exact rest (if 0 < v + r9 then v + r9 else 0) h9 _ _ k9 e9 ep9 s9 (by split <;> omega) (by split <;> omega)
    · rw [run_nx]
      exact rest r7 h8 _ _ k8 e8 ep8 s8 (by omega) (by omega)
end K77
end
section
set_option maxRecDepth 20000
namespace K77
open PySem L2 EP
theorem plan2_wf {N : Int} {ws : List Word} (n1 : 1 ≤ N) (n40 : N ≤ 40) (wne : ws ≠ []) (wl : ws.length ≤ 64) (wok : ∀ w ∈ ws, WdOk N w) (w0 : Word) (h0 : w0 ∈ ws) : Wf (N, [(ws.take 63).map fun w => (w, 1), [(w0, 0)]]) := by
  have hw0 := List.length_pos_iff.mpr wne
  refine ⟨n1, by show N ≤ 64; omega, by simp, by simp, fun r hr => ?_⟩
  rcases List.mem_cons.mp hr with rfl | hr
  · refine ⟨by simp [wne], by simp; omega, fun e he => ?_⟩
    obtain ⟨w, hw, rfl⟩ := List.mem_map.mp he
    have := wok w (List.mem_of_mem_take hw)
    exact ⟨by simp, by simp, this.asc, this.rng, by have := this.len; simp only; omega⟩
  · rw [List.mem_singleton] at hr
    subst hr
    refine ⟨by simp, by simp, fun e he => ?_⟩
    rw [List.mem_singleton] at he
    subst he
    have := wok w0 h0
    exact ⟨by simp, by simp, this.asc, this.rng, by have := this.len; simp only; omega⟩
theorem hT (ns : List Int) (hl : ns.length ≤ 63) : ∃ h', callK D 61 79 [.loc 0] [.fro (ns.map Dt.int)] = .ok (.bl true) h' := by
  have W : WE (callK D (60 + 1) i_law [.loc 0] [.fro (ns.map Dt.int)]) (fun d _ => d = .bl true) noX := by
    refine call_wp (md := D_law) rfl rfl fun O oN oQ oX => ?_
    simp [m_law, -sIf_s]
    refine law_store (k := 59) (h := [.fro (ns.map Dt.int)]) (a := 0) rfl hl fun n h1 s1 => ?_
    try simp [-sIf_s]
    generalize hmm : h1.length = m at s1
    have hm : m ≤ h1.length := by omega
    refine law_drawn (k := 55) s1 hm fun N size ws S w d h2 k2 lw ew sS dr => ?_
    have hw0 := List.length_pos_iff.mpr dr.wne
    have wl := dr.wl
    try simp [-sIf_s]
    refine law_book (k := 59) ew (by omega) fun h3 p3 => ?_
    have k3 := k2.thenPre p3
    have wf := book_wf dr.n1 dr.n40 dr.wne dr.wl dr.wok
    have s3 := sS.pre p3
    have s3' : Sh (fun i => m ≤ i) h3 d (.lst ((S.map fun r => r.map Tr.int).map .lst)) := by rw [← rT_map]; exact s3
    have rok : RowsOk (S.map fun r => r.map Tr.int) := ⟨by simp; have := dr.Sl; omega, fun r hr => by
      obtain ⟨x, hx, rfl⟩ := List.mem_map.mp hr
      have := dr.Ssz x hx
      have := dr.s8
      refine ⟨by simp; omega, fun t ht => ?_⟩
      obtain ⟨i, _, rfl⟩ := List.mem_map.mp ht
      exact oddI i⟩
    have hsz : ∀ r ∈ S, 1 ≤ r.length ∧ r.length ≤ 8 := fun r hr => by have := dr.Ssz r hr; have := dr.s1; have := dr.s8; omega
    simp
    refine law_all_hold (k := 52) wf dr.n40 s3' rok fun h4 p4 => ?_
    have k4 := k3.thenPre p4
    have e4 := pre_get (p3.trans p4) ew
    have s4 := s3.pre p4
    try simp [len_lst e4]
    refine law_bent_rows (k := 55) k4.st (Nat.le_trans hm k4.len) s4 dr.Sne dr.Sl hsz fun d5 R5 h5 k5' s5 o5 => ?_
    have k5 := k4.trans k5'
    try simp
    refine law_all_hold (k := 52) wf dr.n40 s5 o5 fun h6 p6 => ?_
    have k6 := k5.thenPre p6
    have e6 := (k5'.thenPre p6).ge _ _ (by omega) e4
    have s6 := s4.mono (h' := h6) (fun i o hi e => (k5'.thenPre p6).ge i o hi e)
    simp
    refine lc_it ?_
    have et7 := new_get h6 (.lst ((ws.map wD).take 63))
    simp [-List.map_take, cutL e6 (show (0:Int) ≤ 63 by omega), itOf_lst et7]
    rw [← List.map_take] at et7 ⊢
    refine lc_wpm (f := wD) (xs := ws.take 63) rfl (by have := hi_lst (n := h6.length) (xs := (ws.take 63).map wD) (H := fun h' => (h6 ++ [MO.lst ((ws.take 63).map wD)]) <+: h') (fun h' p => pre_get p et7); simpa using this) (fun w => eD (w, 1)) (by rw [sizeLine_eq, List.length_take]; omega) (fun w hw => ⟨_, rfl, fun h' p' => by simp⟩) fun h8 p8 e8 => ?_
    have k8 := k6.thenPre ((pre_app h6 _).trans p8)
    have q8 := (pre_app h6 [MO.lst ((ws.take 63).map wD)]).trans p8
    have w8 := pre_get q8 e6
    have s8 := s6.pre q8
    have g0 : oGet (.loc w) (.int 0) h8 = .ok (wD ws[0]) h8 := get_lst w8 (by omega) (by rw [List.getElem?_map]; show (ws[0]?).map wD = _; rw [List.getElem?_eq_getElem hw0]; rfl)
    have e8' : h8[h6.length + 1]? = some (.lst ((ws.take 63).map fun w => eD (w, 1))) := by simpa using e8
    have hb8 : bTuple [.loc (h6.length+1)] h8 = .ok (.tup ((ws.take 63).map fun w => eD (w, 1))) h8 := tuple_lst e8'
    generalize hL8 : (ws.take 63).map (fun w => eD (w, 1)) = L8 at hb8
    simp [hb8, g0, len_lst w8]
    refine law_bent_rows (k := 55) k8.st (Nat.le_trans hm k8.len) s8 dr.Sne dr.Sl hsz fun d9 R9 h9 k9' s9 o9 => ?_
    have k9 := k8.trans k9'
    have wf2 := plan2_wf dr.n1 dr.n40 dr.wne dr.wl dr.wok ws[0] (List.getElem_mem hw0)
    have epl : Dt.tup [.int N, .tup [.tup L8, .tup [.tup [wD ws[0], .int 0]]]] = pD (N, [(ws.take 63).map fun w => (w, 1), [(ws[0], 0)]]) := by
      rw [← hL8]
      show _ = Dt.tup [.int N, .tup [.tup (((ws.take 63).map fun w => (w, (1 : Int))).map eD), .tup [.tup [wD ws[0], .int 0]]]]
      rw [List.map_map]; rfl
    try simp
    rw [epl]
    refine law_all_hold (k := 52) wf2 dr.n40 s9 o9 fun h10 p10 => ?_
    have k10 := k9.thenPre p10
    have w10 := (k9'.thenPre p10).ge _ _ (by omega) w8
    have s10 := s8.mono (h' := h10) (fun i o hi e => (k9'.thenPre p10).ge i o hi e)
    simp
    refine law_book_holds (k := 51) (w0 := 0) k10.st (Nat.le_trans hm k10.len) dr s10 fun h11 k11' => ?_
    have k11 := k10.trans k11'
    simp
    refine law_take k11.st (Nat.le_trans hm k11.len) (lt200 (by omega)) fun r12 h12 k12' a12 b12 => ?_
    have b12 := b12 (by omega)
    have k12 := k11.trans k12'
    simp
    refine law_take k12.st (Nat.le_trans hm k12.len) (lt200 (by omega)) fun r13 h13 k13' a13 b13 => ?_
    have b13 := b13 (by omega)
    have k13 := k12.trans k13'
    simp
    refine run_sFor ?_
    simp
    have m13 := Nat.le_trans hm k13.len
    refine law_outside (k := 56) k13.st m13 fun x tx h14 k14' sx ox => ?_
    have k14 := k13.trans k14'
    refine law_take (k := 58) k14.st (Nat.le_trans hm k14.len) (lt200 (by omega)) fun r15 h15 k15' a15 b15 => ?_
    have k15 := k14.trans k15'
    have m15 := Nat.le_trans hm k15.len
    have k16 := k15.thenPre (pre_app h15 [.lst [x, .int r15]])
    have e16 := new_get h15 (.lst [x, .int r15])
    have hxs : ∀ p ∈ [(x, tx), (Dt.int r15, Tr.int r15)], Sh (fun i => m ≤ i) (h15 ++ [.lst [x, .int r15]]) p.1 p.2 ∧ Odd p.2 := by
      intro p hp
      have hp : p = (x, tx) ∨ p = (Dt.int r15, Tr.int r15) := by simpa using hp
      rcases hp with rfl | rfl
      · exact ⟨((sx.low (P' := fun i => m ≤ i) (fun i hi => by omega)).mono (fun i o hi e => k15'.ge i o hi e)).pre (pre_app _ _), ox⟩
      · exact ⟨.int _, oddI _⟩
    simp [itOf_lst e16]
    have m16 : m ≤ (h15 ++ [MO.lst [x, .int r15]]).length := Nat.le_trans hm k16.len
    have hne16 : h15.length < (h15 ++ [MO.lst [x, .int r15]]).length := by simp
    generalize h15 ++ [MO.lst [x, .int r15]] = hb at k16 e16 hxs m16 hne16
    refine run_wk (f := fun p : Dt × Tr => p.1) (xs := [(x, tx), (Dt.int r15, Tr.int r15)]) (H := fun h' => h'[h15.length]? = some (.lst [x, .int r15])) (hi_lst (n := h15.length) (xs := [x, Dt.int r15]) (fun h' e => e)) (fun i ρ h' => h'[h15.length]? = some (.lst [x, .int r15]) ∧ Kp m n hb h' ∧ ∃ x7 x8 x11 x12, ρ = [some (.loc 0), some (.loc n), some (.int N), some (.int size), some (.loc w), some d, some (pD (N, [ws.map fun w => (w, 0)])), x7, x8, some (.int (1 + r12)), some (.int (1 + r13)), x11, x12]) (fun _ _ _ q => q.1) ⟨e16, .refl k16.st, _, _, _, _, rfl⟩ ?_ ?_
    · rintro i p ρ hc hx ⟨ec, kc, x7, x8, x11, x12, rfl⟩
      have hpm : p ∈ [(x, tx), (Dt.int r15, Tr.int r15)] := List.mem_of_getElem? hx
      obtain ⟨sp, op⟩ := hxs p hpm
      have sp := sp.mono (h' := hc) (fun i o hi e => kc.ge i o hi e)
      have mc := Nat.le_trans m16 kc.len
      refine ⟨_, rfl, fun O2 t2 => ?_⟩
      simp
      refine law_unlike (k := 57) kc.st mc (by omega) (lt200 (by omega)) (by omega) (by omega) fun ns a h17 k17 la ea nd hr hl => ?_
      have hn3 : (ns.length : Int) ≤ 3 := by rw [hl]; split <;> omega
      simp [len_lst ea, isLst_lst ea]
      refine law_take (k := 58) k17.st (Nat.le_trans mc k17.len) (lt200 (by omega)) fun r18 h18 k18' a18 b18 => ?_
      have b18 := b18 (by omega)
      have k18 := k17.trans k18'
      have ea18 := k18'.ge _ _ (by omega) ea
      obtain ⟨h19, f19, u19⟩ := insL (i := r18) (v := p.1) ea18 (by rw [sizeLine_eq, List.length_map]; omega) a18 (by omega)
      have k19 := k18.up u19 la mc
      simp [f19]
      have sR : Sh (fun i => m ≤ i) h19 (.loc a) (.lst ((ns.map Tr.int).take r18.toNat ++ [p.2] ++ (ns.map Tr.int).drop r18.toNat)) := by
        refine .lst (by omega) u19.at_ ?_
        exact (((Shs.ints ns).take _).append (.one (sp.mono (fun i o hi e => k19.ge i o hi e)))).append ((Shs.ints ns).drop _)
      have oR : ∀ t ∈ (ns.map Tr.int).take r18.toNat ++ [p.2] ++ (ns.map Tr.int).drop r18.toNat, Odd t := by
        intro t ht
        rcases List.mem_append.mp ht with ht | ht
        · rcases List.mem_append.mp ht with ht | ht
          · exact oddInts ns t (List.mem_of_mem_take ht)
          · rw [List.mem_singleton] at ht; subst ht; exact op
        · exact oddInts ns t (List.mem_of_mem_drop ht)
      have lR : ((ns.map Tr.int).take r18.toNat ++ [p.2] ++ (ns.map Tr.int).drop r18.toNat).length ≤ 500 := by
        simp only [List.length_append, List.length_take, List.length_drop, List.length_map, List.length_cons, List.length_nil]; omega
      generalize (ns.map Tr.int).take r18.toNat ++ [p.2] ++ (ns.map Tr.int).drop r18.toNat = TR at sR oR lR
      refine law_outside (k := 56) k19.st (Nat.le_trans mc k19.len) fun y ty h20 k20' sy oy => ?_
      have k20 := k19.trans k20'
      have k21 := k20.thenPre (pre_app h20 [.lst [.int 3, y]])
      have e21 := new_get h20 (.lst [.int 3, y])
      have sy21 := (sy.low (P' := fun i => m ≤ i) (fun i hi => by have := k19.len; omega)).pre (pre_app h20 [.lst [.int 3, y]])
      skip
      refine law_take (k := 58) k21.st (Nat.le_trans mc k21.len) (lt200 (by omega)) fun r22 h22 k22' a22 b22 => ?_
      have b22 := b22 (by omega)
      have k22 := k21.trans k22'
      have e22 := k22'.ge _ _ (by have := k20.len; omega) e21
      have sy22 := sy21.mono (fun i o hi e => k22'.ge i o hi e)
      have sR22 := sR.mono (fun i o hi e => (k20'.thenPre (pre_app h20 [.lst [.int 3, y]])).trans k22' |>.ge i o hi e)
      obtain ⟨v, tv, eg, sv, ov⟩ : ∃ v tv, oGet (.loc h20.length) (.int r22) h22 = .ok v h22 ∧ Sh (fun i => m ≤ i) h22 v tv ∧ Odd tv := by
        by_cases h0 : r22 = 0
        · subst h0; exact ⟨.int 3, .int 3, get_lst e22 (by omega) rfl, .int _, oddI _⟩
        · have h1 : r22 = 1 := by omega
          subst h1; exact ⟨y, ty, get_lst e22 (by omega) rfl, sy22, oy⟩
      simp [eg]
      refine law_lanes_hold (k := 52) (P := fun i => m ≤ i) (n := .int (1 + r12)) (c := .int (1 + r13)) (b := tv) (T := TR) (.int _) (.int _) sv sR22 lR (oddI _) (oddI _) ov oR fun h23 p23 => ?_
      have k23 := k22.thenPre p23
      simp
      exact t2.N _ _ ⟨k23.ge _ _ m15 ec, kc.trans k23, _, _, _, _, rfl⟩
    · rintro ρ hc ⟨ec, kc, x7, x8, x11, x12, rfl⟩
      have mc := Nat.le_trans m16 kc.len
      simp
      refine law_outside (k := 56) kc.st mc fun y ty h20 k20' sy oy => ?_
      have k20 := kc.trans k20'
      have sy21 := (sy.low (P' := fun i => m ≤ i) (fun i hi => by omega)).pre (pre_app h20 [.lst [.int (1 + r13)]])
      have e21 := new_get h20 (.lst [.int (1 + r13)])
      have m20 := Nat.le_trans m16 k20.len
      skip
      refine law_lanes_hold (k := 52) (P := fun i => m ≤ i) (n := ty) (c := .int (1 + r13)) (b := .int 2) (T := [1 + r13].map Tr.int) sy21 (.int _) (.int _) (.lst m20 e21 (Shs.ints [1 + r13])) (by simp) oy (oddI _) (oddI _) (oddInts _) fun h23 p23 => ?_
      have k23 := (k20.thenPre (pre_app h20 [.lst [.int (1 + r13)]])).thenPre p23
      simp
      refine law_outside (k := 56) k23.st (Nat.le_trans m16 k23.len) fun z tz h24 k24' sz oz => ?_
      have k24 := k23.trans k24'
      have m24 := Nat.le_trans m16 k24.len
      have sz25 := (sz.low (P' := fun i => m ≤ i) (fun i hi => by have := Nat.le_trans m16 k23.len; omega)).pre (pre_app h24 [.lst [.int 0, .int 0]])
      have e25 := new_get h24 (.lst [.int 0, .int 0])
      skip
      refine law_lanes_hold (k := 52) (P := fun i => m ≤ i) (n := .int (1 + r12)) (c := tz) (b := .int 1) (T := [0, 0].map Tr.int) (.int _) sz25 (.int _) (.lst m24 e25 (Shs.ints [0, 0])) (by simp) (oddI _) oz (oddI _) (oddInts _) fun h26 p26 => ?_
      have k26 := (k24.thenPre (pre_app h24 [.lst [.int 0, .int 0]])).thenPre p26
      simp [andK]
      refine law_lanes_hold (k := 52) (P := fun i => m ≤ i) (n := .int (1 + r12)) (c := .int (1 + r13)) (b := .int 60) (T := ([] : List Int).map Tr.int) (.int _) (.int _) (.int _) (.lst (Nat.le_trans m16 k26.len) (new_get h26 (.lst [])) (Shs.ints [])) (by simp) (oddI _) (oddI _) (oddI _) (oddInts _) fun h27 p27 => ?_
      exact oQ _ _ rfl
  obtain ⟨d, h', e, rfl⟩ := W.run
  exact ⟨h', e⟩
end K77
end
theorem PySem.Challenge.cw_earlypulses_k77_spelled_books_holds : PySem.Challenge.rw_earlypulses_k77_spelled_books.Holds :=
  K77.holds K77.hT
