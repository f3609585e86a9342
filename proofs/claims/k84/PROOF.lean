import PyProof.Rows.All
import Wide.All
import OpenK.AllK
import Wide.FinOn
import HandS.ForMost
import HandS.ForExc
import HandS.IsInst
import HandS.Style
import HandS.TupAny
import HandS.Wide
import HandS.Conv
import PyProof.EqLayable
import HandS.Lambda
import HandS.Iter
import HandS.Dict
import HandS.SortInts
import HandS.Zip
import HandS.Deep
import HandS.More
import HandS.SetFor
import HandS.Strs
import KE.KDictPairs
import PySem.Challenge.RW_wholeyard_k84_whole_great_tables
set_option Elab.async false
set_option linter.all false
set_option maxRecDepth 100000
set_option maxHeartbeats 4000000
/-! Y0: a small plain semantics of the part of Python that the laws use: values without addresses, a store of lists and dicts, expressions and statements as functions. -/
namespace Y
open PySem (Str PyData)

/-- a value: tuples by their items, lists and dicts by their place in the store -/
inductive D where
  | undef | non | bl (b : Bool) | int (i : Int) | str (x : Str) | tup (xs : List D) | ref (n : Nat) | fn (i : Nat) | frl (xs : List D)

/-- an object of the store -/
inductive O where
  | lst (xs : List D)
  | dct (tk : Bool) (kvs : List (D × D))
  | set (xs : List D)

abbrev S := List O
abbrev Env := List D

inductive Rs (α : Type) where
  | ok (a : α) (s : S)
  | exc (c : Nat) (fs : List D) (s : S)
  | stk

abbrev M (α : Type) := Env → S → Rs α
abbrev E := M D
abbrev T := M Bool
abbrev A := M (List D)
abbrev Fn := List D → S → Rs D

def Rs.bind {α β : Type} (x : Rs α) (f : α → S → Rs β) : Rs β :=
  match x with
  | .ok a s => f a s
  | .exc c fs s => .exc c fs s
  | .stk => .stk
theorem Rs.bind_ok {α β : Type} (a : α) (s : S) (f : α → S → Rs β) : (Rs.ok a s).bind f = f a s := rfl
theorem Rs.bind_exc {α β : Type} (c fs) (s : S) (f : α → S → Rs β) : (Rs.exc c fs s : Rs α).bind f = .exc c fs s := rfl
theorem Rs.bind_stk {α β : Type} (f : α → S → Rs β) : (Rs.stk : Rs α).bind f = .stk := rfl

mutual
def D.pure : D → Bool
  | .undef => false
  | .ref _ => false
  | .tup xs => D.pureL xs
  | .frl xs => D.pureL xs
  | .non => true
  | .bl _ => true
  | .int _ => true
  | .str _ => true
  | .fn _ => true
def D.pureL : List D → Bool
  | [] => true
  | x :: xs => x.pure && D.pureL xs
end
def D.pureKV : List (D × D) → Bool
  | [] => true
  | p :: ps => p.1.pure && p.2.pure && D.pureKV ps
def O.pure : O → Bool
  | .lst xs => D.pureL xs
  | .dct _ kvs => D.pureKV kvs
  | .set xs => D.pureL xs

/-! ### expressions -/
def eC (d : D) : E := fun _ s => .ok d s
def eV (i : Nat) : E := fun r s => match r[i]? with
  | some .undef => .stk
  | none => .stk
  | some d => .ok d s
abbrev P1 := D → S → Rs D
abbrev P2 := D → D → S → Rs D
abbrev PN := List D → S → Rs D
def e1 (p : P1) (a : E) : E := fun r s => (a r s).bind fun x s1 => p x s1
def e2 (p : P2) (a b : E) : E := fun r s => (a r s).bind fun x s1 => (b r s1).bind fun y s2 => p x y s2
def aN : A := fun _ s => .ok [] s
def aC (a : E) (t : A) : A := fun r s => (a r s).bind fun x s1 => (t r s1).bind fun xs s2 => .ok (x :: xs) s2
def eN (p : PN) (a : A) : E := fun r s => (a r s).bind fun xs s1 => p xs s1

/-- a value as a test: only a bool -/
def tst (a : E) : T := fun r s => (a r s).bind fun x s1 => match x with
  | .bl b => .ok b s1
  | _ => .stk
def tAnd (a b : T) : T := fun r s => (a r s).bind fun c s1 => if c = true then b r s1 else .ok false s1
def tOr (a b : T) : T := fun r s => (a r s).bind fun c s1 => if c = true then .ok true s1 else b r s1
def tNot (a : T) : T := fun r s => (a r s).bind fun c s1 => .ok (!c) s1
def eAnd (a b : E) : E := fun r s => (a r s).bind fun x s1 => match x with
  | .bl true => b r s1
  | .bl false => .ok (.bl false) s1
  | _ => .stk
def eOr (a b : E) : E := fun r s => (a r s).bind fun x s1 => match x with
  | .bl true => .ok (.bl true) s1
  | .bl false => b r s1
  | _ => .stk
def eNot (a : E) : E := fun r s => (a r s).bind fun x s1 => match x with
  | .bl c => .ok (.bl (!c)) s1
  | _ => .stk
def eIf (t : T) (a b : E) : E := fun r s => (t r s).bind fun c s1 => if c = true then a r s1 else b r s1
def eTup (a : A) : E := fun r s => (a r s).bind fun xs s1 => if xs.length ≤ 1000000 then .ok (.tup xs) s1 else .stk
def eLst (a : A) : E := fun r s => (a r s).bind fun xs s1 => if xs.length ≤ 1000000 then .ok (.ref s1.length) (s1 ++ [.lst xs]) else .stk
/-- a < b < c -/
def eCh (p q : P2) (a b c : E) : E := fun r s => (a r s).bind fun x s1 => (b r s1).bind fun y s2 => (p x y s2).bind fun z s3 => match z with
  | .bl true => (c r s3).bind fun w s4 => q y w s4
  | .bl false => .ok (.bl false) s3
  | _ => .stk

/-! ### what the operators do -/
def mulOk (i j : Int) : Bool := decide (i.natAbs < 18446744073709551616) || decide (j.natAbs < 18446744073709551616) || decide (i.natAbs.log2 + j.natAbs.log2 < 1000000)
def pdiv (i j : Int) : Int := if 0 < j then i / j else i.fdiv j
def pmod (i j : Int) : Int := if 0 < j then i % j else i.fmod j
/-- the items of a list that is read -/
def seqL (d : D) (s : S) : Option (List D) := match d with
  | .ref n => match s[n]? with
    | some (.lst xs) => some xs
    | _ => none
  | .frl xs => some xs
  | _ => none
def seqX (d : D) (s : S) : Option (List D) := match d with
  | .tup xs => some xs
  | d => seqL d s

def LINE : Nat := 1000000
def newL (xs : List D) (s : S) : Rs D := if xs.length ≤ LINE then .ok (.ref s.length) (s ++ [.lst xs]) else .stk

def oAdd : P2 := fun x y s => match x, y with
  | .int i, .int j => .ok (.int (i + j)) s
  | .str a, .str b => if a.length + b.length ≤ LINE then .ok (.str (a ++ b)) s else .stk
  | .tup xs, .tup ys => if xs.length + ys.length ≤ LINE then .ok (.tup (xs ++ ys)) s else .stk
  | .ref a, .ref b => match s[a]?, s[b]? with
    | some (.lst xs), some (.lst ys) => if xs.length + ys.length ≤ LINE then .ok (.ref s.length) (s ++ [.lst (xs ++ ys)]) else .stk
    | _, _ => .stk
  | _, _ => .stk
def oSub : P2 := fun x y s => match x, y with
  | .int i, .int j => .ok (.int (i - j)) s
  | _, _ => .stk
def oMul : P2 := fun x y s => match x, y with
  | .int i, .int j => if mulOk i j = true then .ok (.int (i * j)) s else .stk
  | .ref a, .int k => match s[a]? with
    | some (.lst xs) => if k.natAbs < 1000000000 ∧ xs.length * k.toNat ≤ LINE then .ok (.ref s.length) (s ++ [.lst (List.replicate k.toNat xs).flatten]) else .stk
    | _ => .stk
  | _, _ => .stk
def oDiv : P2 := fun x y s => match x, y with
  | .int i, .int j => if j ≠ 0 ∧ j.natAbs.log2 < 9000 then .ok (.int (pdiv i j)) s else .stk
  | _, _ => .stk
def oMod : P2 := fun x y s => match x, y with
  | .int i, .int j => if j ≠ 0 then .ok (.int (pmod i j)) s else .stk
  | _, _ => .stk
def oPow : P2 := fun x y s => match x, y with
  | .int i, .int j => if 0 ≤ j ∧ j ≤ 1000000 ∧ i.natAbs < 18446744073709551616 then .ok (.int (i ^ j.toNat)) s else .stk
  | _, _ => .stk
def oNeg : P1 := fun x s => match x with
  | .int i => .ok (.int (-i)) s
  | _ => .stk
def oLt : P2 := fun x y s => match x, y with
  | .int i, .int j => .ok (.bl (decide (i < j))) s
  | _, _ => .stk
def oLe : P2 := fun x y s => match x, y with
  | .int i, .int j => .ok (.bl (decide (i ≤ j))) s
  | _, _ => .stk
def oGt : P2 := fun x y s => match x, y with
  | .int i, .int j => .ok (.bl (decide (j < i))) s
  | _, _ => .stk
def oGe : P2 := fun x y s => match x, y with
  | .int i, .int j => .ok (.bl (decide (j ≤ i))) s
  | _, _ => .stk
def mapO {α β : Type} (f : α → Option β) : List α → Option (List β)
  | [] => some []
  | x :: xs => match f x, mapO f xs with
    | some y, some ys => some (y :: ys)
    | _, _ => none
/-- as the model's data (a list: what it holds), to a depth -/
def D.py (s : S) : Nat → D → Option PyData
  | 0 => fun d => match d with
    | .non => some .none
    | .bl b => some (.bool b)
    | .int i => some (.int i)
    | .str x => some (.str x)
    | _ => none
  | k + 1 => fun d => match d with
    | .non => some .none
    | .bl b => some (.bool b)
    | .int i => some (.int i)
    | .str x => some (.str x)
    | .tup xs => (mapO (D.py s k) xs).map .tuple
    | .frl xs => (mapO (D.py s k) xs).map .list
    | .ref n => match s[n]? with
      | some (.lst xs) => (mapO (D.py s k) xs).map .list
      | _ => none
    | _ => none
def eqD (x y : D) (s : S) : Option Bool := match D.py s 20 x, D.py s 20 y with
  | some p, some q => if PySem.SeqAt.shaped p = true ∧ PySem.SeqAt.shaped q = true then some (PyData.eqv p q) else none
  | _, _ => none
def oEq : P2 := fun x y s => match eqD x y s with
  | some b => .ok (.bl b) s
  | none => .stk
def oNe : P2 := fun x y s => match eqD x y s with
  | some b => .ok (.bl (!b)) s
  | none => .stk
def oIsN : P1 := fun x s => match x with
  | .undef => .stk
  | .non => .ok (.bl true) s
  | _ => .ok (.bl false) s
def oNotN : P1 := fun x s => match x with
  | .undef => .stk
  | .non => .ok (.bl false) s
  | _ => .ok (.bl true) s
/-- is, is not of two boolsOf -/
def oIsB : P2 := fun x y s => match x, y with
  | .bl a, .bl b => .ok (.bl (decide (a = b))) s
  | _, _ => .stk
/-- a place of a sequence -/
def atD (xs : List D) (i : Int) : Option D := if 0 ≤ i then (if i < xs.length then xs[i.toNat]? else none) else if -(xs.length : Int) ≤ i then xs[(i + xs.length).toNat]? else none
def oIx : P2 := fun x y s => match y with
  | .int i => match seqX x s with
    | some xs => match atD xs i with
      | some d => .ok d s
      | none => .stk
    | none => .stk
  | _ => .stk
/-- where a slice's part lies -/
def cutIx (n d : Nat) : Option Int → Nat
  | none => d
  | some i => if i < 0 then (i + n).toNat else min i.toNat n
def cutD {α : Type} (xs : List α) (lo hi : Option Int) : List α := (xs.drop (cutIx xs.length 0 lo)).take (cutIx xs.length xs.length hi - cutIx xs.length 0 lo)
inductive Part where
  | no
  | at (e : E)
def Part.run (p : Part) (r : Env) (s : S) : Rs (Option Int) := match p with
  | .no => .ok none s
  | .at e => (e r s).bind fun x s1 => match x with
    | .int i => .ok (some i) s1
    | _ => .stk
def eCut (a : E) (lo hi : Part) : E := fun r s => (a r s).bind fun x s1 => (lo.run r s1).bind fun l s2 => (hi.run r s2).bind fun h s3 => match x with
  | .tup xs => .ok (.tup (cutD xs l h)) s3
  | x => match seqL x s3 with
    | some xs => .ok (.ref s3.length) (s3 ++ [.lst (cutD xs l h)])
    | none => .stk
/-- xs[::-1] -/
def oRev : P1 := fun x s => match x with
  | .tup xs => .ok (.tup xs.reverse) s
  | x => match seqL x s with
    | some xs => .ok (.ref s.length) (s ++ [.lst xs.reverse])
    | none => .stk

/-! ### built-in functions -/
def bLen : PN := fun ds s => match ds with
  | [.str x] => if x.length ≤ LINE then .ok (.int x.length) s else .stk
  | [.ref n] => match s[n]? with
    | some (.lst xs) => .ok (.int xs.length) s
    | _ => .stk
  | [x] => match seqX x s with
    | some xs => .ok (.int xs.length) s
    | none => .stk
  | _ => .stk
def bInt : PN := fun ds s => match ds with
  | [.int i] => .ok (.int i) s
  | [.bl b] => .ok (.int (if b then 1 else 0)) s
  | _ => .stk
def bStr : PN := fun ds s => match ds with
  | [.int i] => if i.natAbs.log2 < 1920 then .ok (.str (Str.ofString (toString i))) s else .stk
  | [.str x] => .ok (.str x) s
  | _ => .stk
def bAbs : PN := fun ds s => match ds with
  | [.int i] => .ok (.int (if i < 0 then -i else i)) s
  | _ => .stk
def bMax2 : PN := fun ds s => match ds with
  | [.int i, .int j] => .ok (.int (if j > i then j else i)) s
  | _ => .stk
def bMin2 : PN := fun ds s => match ds with
  | [.int i, .int j] => .ok (.int (if j < i then j else i)) s
  | _ => .stk
def bList : PN := fun ds s => match ds with
  | [x] => match seqX x s with
    | some xs => .ok (.ref s.length) (s ++ [.lst xs])
    | none => .stk
  | _ => .stk
def bTuple : PN := fun ds s => match ds with
  | [x] => match seqX x s with
    | some xs => .ok (.tup xs) s
    | none => .stk
  | _ => .stk
def intsOf : List D → Option (List Int)
  | [] => some []
  | .int i :: r => match intsOf r with
    | some is => some (i :: is)
    | none => none
  | _ :: _ => none
def boolsOf : List D → Option (List Bool)
  | [] => some []
  | .bl b :: r => match boolsOf r with
    | some bs => some (b :: bs)
    | none => none
  | _ :: _ => none
def bSum : PN := fun ds s => match ds with
  | [x] => match seqL x s with
    | some xs => match intsOf xs with
      | some is => .ok (.int is.sum) s
      | none => .stk
    | none => .stk
  | _ => .stk
def bAll : PN := fun ds s => match ds with
  | [x] => match seqL x s with
    | some xs => match boolsOf xs with
      | some bs => .ok (.bl (bs.all id)) s
      | none => .stk
    | none => .stk
  | _ => .stk
def bAny : PN := fun ds s => match ds with
  | [x] => match seqL x s with
    | some xs => match boolsOf xs with
      | some bs => .ok (.bl (bs.any id)) s
      | none => .stk
    | none => .stk
  | _ => .stk
/-- isinstance(x, T) -/
inductive Ty where
  | int | bool | str | tuple | list | dict
  deriving DecidableEq
def isTy (t : Ty) (x : D) (s : S) : Option Bool := match x with
  | .undef => none
  | .fn _ => none
  | .non => some false
  | .bl _ => some (t == .bool || t == .int)
  | .int _ => some (t == .int)
  | .str _ => some (t == .str)
  | .tup _ => some (t == .tuple)
  | .frl _ => some (t == .list)
  | .ref n => match s[n]? with
    | some (.lst _) => some (t == .list)
    | some (.dct _ _) => some (t == .dict)
    | _ => none
def oIsI (t : Ty) : P1 := fun x s => match isTy t x s with
  | some b => .ok (.bl b) s
  | none => .stk

/-! ### statements -/
inductive F where
  | nx (r : Env) (s : S)
  | rt (d : D) (s : S)
  | bk (r : Env) (s : S)
  | ct (r : Env) (s : S)
  | exc (c : Nat) (fs : List D) (r : Env) (s : S)
  | stk
abbrev Sm := Env → S → F
def Rs.then {α : Type} (x : Rs α) (r : Env) (f : α → S → F) : F := match x with
  | .ok a s => f a s
  | .exc c fs s => .exc c fs r s
  | .stk => .stk
theorem Rs.then_ok {α : Type} (a : α) (s : S) (r) (f : α → S → F) : (Rs.ok a s).then r f = f a s := rfl
theorem Rs.then_exc {α : Type} (c fs) (s : S) (r) (f : α → S → F) : (Rs.exc c fs s : Rs α).then r f = .exc c fs r s := rfl
theorem Rs.then_stk {α : Type} (r) (f : α → S → F) : (Rs.stk : Rs α).then r f = .stk := rfl
def F.andThen (x : F) (f : Env → S → F) : F := match x with
  | .nx r s => f r s
  | x => x
def zNil : Sm := fun r s => .nx r s
def zCons (a b : Sm) : Sm := fun r s => (a r s).andThen b
/-- targets -/
abbrev Tg := D → Env → S → Option (Env × S)
def gV (i : Nat) : Tg := fun d r s => if i < r.length then some (r.set i d, s) else none
def gsN : List D → Env → S → Option (Env × S) := fun ds r s => if ds.isEmpty then some (r, s) else none
def gsC (g : Tg) (t : List D → Env → S → Option (Env × S)) : List D → Env → S → Option (Env × S) := fun ds r s => match ds with
  | [] => none
  | d :: ds => match g d r s with
    | some (r1, s1) => t ds r1 s1
    | none => none
def gT (t : List D → Env → S → Option (Env × S)) : Tg := fun d r s => match d with
  | .tup xs => t xs r s
  | _ => none
/-- xs[i] = d of a list, d[k] = v of a dict: by the store -/
def ixN (n : Nat) (i : Int) : Option Nat := if 0 ≤ i then (if i < n then some i.toNat else none) else if -(n : Int) ≤ i then some (i + n).toNat else none
def putL (o i v : D) (s : S) : Option S := match o, i with
  | .ref n, .int k => match s[n]? with
    | some (.lst xs) => match ixN xs.length k with
      | some j => some (s.set n (.lst (xs.set j v)))
      | none => none
    | _ => none
  | _, _ => none
def zSet (g : Tg) (e : E) : Sm := fun r s => (e r s).then r fun d s1 => match g d r s1 with
  | some (r2, s2) => .nx r2 s2
  | none => .stk
/-- a, b = x, y : two plain names -/
def zPar (i j : Nat) (a b : E) : Sm := fun r s => (a r s).then r fun x s1 => (b r s1).then r fun y s2 => if i < r.length ∧ j < r.length then .nx ((r.set i x).set j y) s2 else .stk
/-- xs[i] = e -/
def zPutL (o i e : E) : Sm := fun r s => (e r s).then r fun v s1 => (o r s1).then r fun x s2 => (i r s2).then r fun k s3 => match putL x k v s3 with
  | some s4 => .nx r s4
  | none => .stk
/-- x += e -/
def zAug (i : Nat) (p : P2) (e : E) : Sm := fun r s => match r[i]? with
  | none => .stk
  | some .undef => .stk
  | some x => (e r s).then r fun y s1 => (p x y s1).then r fun z s2 => .nx (r.set i z) s2
def zEx (e : E) : Sm := fun r s => (e r s).then r fun _ s1 => .nx r s1
def zRet (e : E) : Sm := fun r s => (e r s).then r fun d s1 => .rt d s1
def zRetN : Sm := fun _ s => .rt .non s
def zIf (t : T) (a b : Sm) : Sm := fun r s => (t r s).then r fun c s1 => if c = true then a r s1 else b r s1
def zPass : Sm := fun r s => .nx r s
def zBrk : Sm := fun r s => .bk r s
def zCnt : Sm := fun r s => .ct r s
def zRaise (c : Nat) : Sm := fun r s => .exc c [] r s
/-- X(e) raised, X having one field -/
def zRaise1 (c : Nat) (e : E) : Sm := fun r s => (e r s).then r fun d s1 => .exc c [d] r s1

/-- one turn is done: go on, or leave -/
def F.turn (x : F) (f : Env → S → F) : F := match x with
  | .nx r s => f r s
  | .ct r s => f r s
  | .bk r s => .nx r s
  | x => x
def whileM (c : T) (b : Sm) : Nat → Sm
  | 0 => fun _ _ => .stk
  | n + 1 => fun r s => (c r s).then r fun k s1 => if k = true then (b r s1).turn (whileM c b n) else .nx r s1
def FUEL : Nat := 2 ^ 10000
def zWhile (c : T) (b : Sm) : Sm := whileM c b FUEL

/-- what a loop walks: the items ahead of it, and what must stay so -/
inductive Wk where
  | items (xs : List D)
  | list (n : Nat)
  | dyn (f : S → Option (List D))
abbrev IW := Env → S → Rs Wk
def forM (g : Tg) (b : Sm) : List D → Sm
  | [] => fun r s => .nx r s
  | x :: xs => fun r s => match g x r s with
    | some (r1, s1) => (b r1 s1).turn (forM g b xs)
    | none => .stk
/-- over a list in the store, by its places -/
def forR (g : Tg) (b : Sm) (n : Nat) : Nat → Nat → Sm
  | 0, _ => fun _ _ => .stk
  | k + 1, i => fun r s => match s[n]? with
    | some (.lst xs) => match xs[i]? with
      | some x => match g x r s with
        | some (r1, s1) => (b r1 s1).turn (forR g b n k (i + 1))
        | none => .stk
      | none => .nx r s
    | _ => .stk
/-- over what is read anew at each turn -/
def forF (g : Tg) (b : Sm) (f : S → Option (List D)) : Nat → Nat → Sm
  | 0, _ => fun _ _ => .stk
  | k + 1, i => fun r s => match f s with
    | some xs => match xs[i]? with
      | some x => match g x r s with
        | some (r1, s1) => (b r1 s1).turn (forF g b f k (i + 1))
        | none => .stk
      | none => .nx r s
    | none => .stk
def zFor (it : IW) (g : Tg) (b : Sm) : Sm := fun r s => (it r s).then r fun j s1 => match j with
  | .items xs => forM g b xs r s1
  | .list n => forR g b n FUEL 0 r s1
  | .dyn f => forF g b f FUEL 0 r s1
def range2 (i j : Int) : List D := (List.range (j - i).toNat).map fun (k : Nat) => .int (i + k)
def iRng1 (a : E) : IW := fun r s => (a r s).bind fun x s1 => match x with
  | .int j => if j.natAbs < 4611686018427387904 then .ok (.items (range2 0 j)) s1 else .stk
  | _ => .stk
def iRng2 (a b : E) : IW := fun r s => (a r s).bind fun x s1 => (b r s1).bind fun y s2 => match x, y with
  | .int i, .int j => if i.natAbs < 4611686018427387904 ∧ j.natAbs < 4611686018427387904 then .ok (.items (range2 i j)) s2 else .stk
  | _, _ => .stk
/-- a tuple's walk, or a list's -/
def iTup (a : E) : IW := fun r s => (a r s).bind fun x s1 => match x with
  | .tup xs => .ok (.items xs) s1
  | _ => .stk
def iLst (a : E) : IW := fun r s => (a r s).bind fun x s1 => match x with
  | .frl xs => .ok (.items xs) s1
  | .ref n => match s1[n]? with
    | some (.lst _) => .ok (.list n) s1
    | _ => .stk
  | _ => .stk

/-! ### comprehensions: the new list stands at n -/
def appendAt (n : Nat) (d : D) (s : S) : Option S := match s[n]? with
  | some (.lst xs) => if xs.length < LINE then some (s.set n (.lst (xs ++ [d]))) else none
  | _ => none
def compM (g : Tg) (t : T) (e : E) (n : Nat) : List D → Env → S → Rs D
  | [], _, s => .ok (.ref n) s
  | x :: xs, r, s => match g x r s with
    | none => .stk
    | some (r1, s1) => match t r1 s1 with
      | .ok false s2 => compM g t e n xs r s2
      | .ok true s2 => match e r1 s2 with
        | .ok d s3 => match appendAt n d s3 with
          | some s4 => compM g t e n xs r s4
          | none => .stk
        | _ => .stk
      | _ => .stk
def compR (g : Tg) (t : T) (e : E) (n m : Nat) : Nat → Nat → Env → S → Rs D
  | 0, _, _, _ => .stk
  | k + 1, i, r, s => match s[m]? with
    | some (.lst xs) => match xs[i]? with
      | none => .ok (.ref n) s
      | some x => match g x r s with
        | none => .stk
        | some (r1, s1) => match t r1 s1 with
          | .ok false s2 => compR g t e n m k (i + 1) r s2
          | .ok true s2 => match e r1 s2 with
            | .ok d s3 => match appendAt n d s3 with
              | some s4 => compR g t e n m k (i + 1) r s4
              | none => .stk
            | _ => .stk
          | _ => .stk
    | _ => .stk
def compF (g : Tg) (t : T) (e : E) (n : Nat) (f : S → Option (List D)) : Nat → Nat → Env → S → Rs D
  | 0, _, _, _ => .stk
  | k + 1, i, r, s => match f s with
    | some xs => match xs[i]? with
      | none => .ok (.ref n) s
      | some x => match g x r s with
        | none => .stk
        | some (r1, s1) => match t r1 s1 with
          | .ok false s2 => compF g t e n f k (i + 1) r s2
          | .ok true s2 => match e r1 s2 with
            | .ok d s3 => match appendAt n d s3 with
              | some s4 => compF g t e n f k (i + 1) r s4
              | none => .stk
            | _ => .stk
          | _ => .stk
    | none => .stk
/-- the block's own slots are forgotten -/
def wipeD (r : Env) : List Nat → Env
  | [] => r
  | v :: vs => (wipeD r vs).set v .undef
def eLc (it : IW) (g : Tg) (t : T) (e : E) (own : List Nat) : E := fun r s => (it r s).bind fun j s1 => match j with
  | .items xs => compM g t e s1.length xs (wipeD r own) (s1 ++ [.lst []])
  | .list m => compR g t e s1.length m FUEL 0 (wipeD r own) (s1 ++ [.lst []])
  | .dyn f => compF g t e s1.length f FUEL 0 (wipeD r own) (s1 ++ [.lst []])
def tYes : T := fun _ s => .ok true s

/-! ### defs and calls -/
def mkFn (n k : Nat) (body : Sm) : Fn := fun ds s => if ds.length = k then match body (ds ++ List.replicate (n - k) .undef) s with
  | .nx _ s1 => .ok .non s1
  | .rt d s1 => .ok d s1
  | .exc c fs _ s1 => .exc c fs s1
  | _ => .stk else .stk

def refsOf : List D → List Nat
  | [] => []
  | .ref n :: r => n :: refsOf r
  | _ :: r => refsOf r
/-- the refs by their places among the refs -/
def renum : Nat → List D → List D
  | _, [] => []
  | k, .ref _ :: r => .ref k :: renum (k + 1) r
  | k, d :: r => d :: renum k r
def argOk : D → Bool
  | .ref _ => true
  | d => d.pure
def getAll (s : S) : List Nat → Option S
  | [] => some []
  | n :: ns => match s[n]?, getAll s ns with
    | some o, some os => if o.pure = true then some (o :: os) else none
    | _, _ => none
def putAll : List Nat → S → S → S
  | n :: ns, o :: os, s => putAll ns os (s.set n o)
  | _, _, s => s
def nodupN : List Nat → Bool
  | [] => true
  | n :: ns => !ns.contains n && nodupN ns
/-- a call by what the arguments are and hold: of what the def made only what it hands back stays -/
def callK (f : Fn) (ds : List D) (s : S) : Rs D :=
  if nodupN (refsOf ds) = true ∧ ds.all argOk = true then
    match getAll s (refsOf ds) with
    | none => .stk
    | some os => match f (renum 0 ds) os with
      | .stk => .stk
      | .exc c fs s1 => if D.pureL fs = true ∧ (s1.take os.length).all O.pure = true then .exc c fs (putAll (refsOf ds) s1 s) else .stk
      | .ok d s1 => if (s1.take os.length).all O.pure = true then
          match d with
          | .ref j => match (refsOf ds)[j]? with
            | some n => .ok (.ref n) (putAll (refsOf ds) s1 s)
            | none => match s1[j]? with
              | some o => if o.pure = true then .ok (.ref s.length) (putAll (refsOf ds) s1 s ++ [o]) else .stk
              | none => .stk
          | d => if d.pure = true then .ok d (putAll (refsOf ds) s1 s) else .stk
        else .stk
  else .stk
end Y

/-! Y1: that the model's program does what the plain semantics says. -/
namespace Y
open PySem L2

/-- what is fixed: the written part, the defs by number, the classes of errors with their fields -/
structure Tb where
  K : PySem.W.Frag
  fa : Nat → Option Addr
  xc : Nat → Option (Addr × List Str)
  T : List (Addr × Str)

def FrL (K : PySem.W.Frag) (H : Hp) (a : Addr) (vs : List V) : Prop :=
  (∃ o, H a = some (.frz o (.lst vs))) ∨ ∃ (o : Obj) (its : Array Value) (n : Nat), K.lookup a = some o ∧ o.cls = .type "list" ∧ o.dict = none ∧ o.data = .seq its n ∧ its.size ≤ sizeLine ∧ Vals vs its.toList
theorem FrL.sq {K : PySem.W.Frag} {H : Hp} {a : Addr} {vs : List V} (h : FrL K H a vs) : SqL K H a vs := by
  rcases h with ⟨o, h⟩ | h
  · exact .inl (.inr ⟨o, h⟩)
  · exact .inr h

theorem _root_.LamX.Tabs.put {T : List (Addr × Str)} {H : Hp} {p : Addr} {u : HO} (x : LamX.Tabs T H) (h1 : ∀ ps, H p ≠ some (.tbl ps)) (h2 : ∀ f, H p ≠ some (.ext f)) : LamX.Tabs T (L2.upd H p u) := fun q hq => by
  obtain ⟨ps, a, b, c⟩ := x q hq
  refine ⟨ps, ?_, b, fun pos cv hc => ?_⟩
  · rw [upd_ne]
    · exact a
    · rintro rfl; exact h1 ps a
  · obtain ⟨c', e1, e2⟩ := c pos cv hc
    refine ⟨c', e1, ?_⟩
    rw [upd_ne]
    · exact e2
    · rintro rfl; exact h2 _ e2
mutual
def Rep (t : Tb) (am : List Addr) (H : Hp) : D → V → Prop
  | .undef, _ => False
  | .non, v => v = .non
  | .bl b, v => v = .bl b
  | .int i, v => v = .int i
  | .str x, v => v = .str x
  | .tup ds, v => ∃ a vs, v = .ref a ∧ H a = some (.tup vs) ∧ Reps t am H ds vs
  | .frl ds, v => ∃ a vs, v = .ref a ∧ FrL t.K H a vs ∧ Reps t am H ds vs
  | .ref n, v => ∃ a, v = .ref a ∧ am[n]? = some a
  | .fn i, v => ∃ a, v = .ref a ∧ t.fa i = some a
def Reps (t : Tb) (am : List Addr) (H : Hp) : List D → List V → Prop
  | [], vs => vs = []
  | d :: ds, vs => ∃ v r, vs = v :: r ∧ Rep t am H d v ∧ Reps t am H ds r
end

def keyD : D → Option Key
  | .int i => some (.inl i)
  | .str x => some (.inr x)
  | _ => none
def keysD : List D → Option (List Key)
  | [] => some []
  | d :: ds => match keyD d, keysD ds with
    | some k, some ks => some (k :: ks)
    | _, _ => none
def keyT : D → Option (List Key)
  | .tup ds => keysD ds
  | _ => none
def RKV {κ : Type} (f : D → Option κ) (t : Tb) (am : List Addr) (H : Hp) : List (D × D) → List (κ × V) → Prop
  | [], ks => ks = []
  | p :: ps, ks => ∃ k v r, ks = (k, v) :: r ∧ f p.1 = some k ∧ Rep t am H p.2 v ∧ RKV f t am H ps r
/-- an object of the store as it stands in the heap -/
def OM (t : Tb) (am : List Addr) (H : Hp) : O → Addr → Prop
  | .lst ds, a => ∃ vs, H a = some (.lst vs) ∧ Reps t am H ds vs
  | .dct false kvs, a => ∃ ks, H a = some (.dK ks) ∧ RKV keyD t am H kvs ks
  | .dct true kvs, a => ∃ ks, H a = some (.dT ks) ∧ RKV keyT t am H kvs ks
  | .set xs, a => ∃ (S : Int → Bool) (is : List Int), xs = is.map D.int ∧ H a = some (.set S is.length) ∧ is.Nodup ∧ ∀ i, S i = true ↔ i ∈ is
structure Ms (t : Tb) (am : List Addr) (s : S) (H : Hp) : Prop where
  nd : am.Nodup
  len : am.length = s.length
  ob : ∀ (n : Nat) (o : O), s[n]? = some o → ∃ a, am[n]? = some a ∧ OM t am H o a
  tb : LamX.Tabs t.T H

/-- what is never written -/
def Imm : HO → Prop
  | .tup _ => True
  | .frz _ _ => True
  | _ => False
structure Post (am : List Addr) (H : Hp) (am' : List Addr) (H' : Hp) : Prop where
  pre : ∃ l, am' = am ++ l ∧ ∀ a ∈ l, H a = none
  imm : ∀ a o, H a = some o → Imm o → H' a = some o
  keep : ∀ a o, H a = some o → a ∉ am → (∀ ps, o ≠ .tbl ps) → H' a = some o
  dom : ∀ a o, H a = some o → ∃ o', H' a = some o'
theorem Post.refl {am : List Addr} {H : Hp} : Post am H am H := ⟨⟨[], by simp, by simp⟩, fun _ _ h _ => h, fun _ _ h _ _ => h, fun _ o h => ⟨o, h⟩⟩
theorem Post.trans {am am1 am2 : List Addr} {H H1 H2 : Hp} (p : Post am H am1 H1) (q : Post am1 H1 am2 H2) : Post am H am2 H2 := by
  obtain ⟨l, e, f⟩ := p.pre
  obtain ⟨m, e2, f2⟩ := q.pre
  have fr : ∀ a o, H a = some o → a ∉ am → a ∉ am1 := fun a o h n hm => by
    rw [e] at hm
    rcases List.mem_append.mp hm with z | z
    · exact n z
    · rw [f a z] at h; cases h
  refine ⟨⟨l ++ m, by rw [e2, e, List.append_assoc], fun a ha => ?_⟩, fun a o h i => q.imm a o (p.imm a o h i) i, fun a o h n z => q.keep a o (p.keep a o h n z) (fr a o h n) z, fun a o h => ?_⟩
  · rcases List.mem_append.mp ha with z | z
    · exact f a z
    · cases hh : H a with
      | none => rfl
      | some o =>
        obtain ⟨o', z1⟩ := p.dom a o hh
        rw [f2 a z] at z1; cases z1
  · obtain ⟨o1, h1⟩ := p.dom a o h
    exact q.dom a o1 h1
theorem Post.at {am am' : List Addr} {H H' : Hp} (p : Post am H am' H') {n : Nat} {a : Addr} (h : am[n]? = some a) : am'[n]? = some a := by
  obtain ⟨l, e, _⟩ := p.pre
  rw [e, List.getElem?_append_left (List.getElem?_eq_some_iff.mp h).1]
  exact h
theorem Post.sqT {am am' : List Addr} {H H' : Hp} (p : Post am H am' H') {K : PySem.W.Frag} {a : Addr} {vs : List V} (h : SqT K H a vs) : SqT K H' a vs := by
  rcases h with (h | ⟨o, h⟩) | h
  · exact .inl (.inl (p.imm _ _ h trivial))
  · exact .inl (.inr ⟨o, p.imm _ _ h trivial⟩)
  · exact .inr h
theorem Post.frL {am am' : List Addr} {H H' : Hp} (p : Post am H am' H') {K : PySem.W.Frag} {a : Addr} {vs : List V} (h : FrL K H a vs) : FrL K H' a vs := by
  rcases h with ⟨o, h⟩ | h
  · exact .inl ⟨o, p.imm _ _ h trivial⟩
  · exact .inr h
/-- what a value leans on is there still -/
structure Lift (am : List Addr) (H : Hp) (am' : List Addr) (H' : Hp) : Prop where
  «at» : ∀ (n : Nat) (a : Addr), am[n]? = some a → am'[n]? = some a
  imm : ∀ a o, H a = some o → Imm o → H' a = some o
theorem Post.lift {am am' : List Addr} {H H' : Hp} (p : Post am H am' H') : Lift am H am' H' := ⟨fun _ _ => p.at, p.imm⟩
theorem Lift.sqT {am am' : List Addr} {H H' : Hp} (p : Lift am H am' H') {K : PySem.W.Frag} {a : Addr} {vs : List V} (h : SqT K H a vs) : SqT K H' a vs := by
  rcases h with (h | ⟨o, h⟩) | h
  · exact .inl (.inl (p.imm _ _ h trivial))
  · exact .inl (.inr ⟨o, p.imm _ _ h trivial⟩)
  · exact .inr h
theorem Lift.frL {am am' : List Addr} {H H' : Hp} (p : Lift am H am' H') {K : PySem.W.Frag} {a : Addr} {vs : List V} (h : FrL K H a vs) : FrL K H' a vs := by
  rcases h with ⟨o, h⟩ | h
  · exact .inl ⟨o, p.imm _ _ h trivial⟩
  · exact .inr h
mutual
theorem Rep.lift {t : Tb} {am am' : List Addr} {H H' : Hp} (p : Lift am H am' H') : ∀ (d : D) (v : V), Rep t am H d v → Rep t am' H' d v
  | .undef, _, h => h
  | .non, _, h => h
  | .bl _, _, h => h
  | .int _, _, h => h
  | .str _, _, h => h
  | .tup ds, v, h => by
    obtain ⟨a, vs, e, h1, h2⟩ := h
    exact ⟨a, vs, e, p.imm _ _ h1 trivial, Reps.lift p ds vs h2⟩
  | .frl ds, v, h => by
    obtain ⟨a, vs, e, h1, h2⟩ := h
    exact ⟨a, vs, e, p.frL h1, Reps.lift p ds vs h2⟩
  | .ref n, v, h => by
    obtain ⟨a, e, h1⟩ := h
    exact ⟨a, e, p.at _ _ h1⟩
  | .fn i, v, h => h
theorem Reps.lift {t : Tb} {am am' : List Addr} {H H' : Hp} (p : Lift am H am' H') : ∀ (ds : List D) (vs : List V), Reps t am H ds vs → Reps t am' H' ds vs
  | [], _, h => h
  | d :: ds, vs, h => by
    obtain ⟨v, r, e, h1, h2⟩ := h
    exact ⟨v, r, e, Rep.lift p d v h1, Reps.lift p ds r h2⟩
end
theorem Rep.mono {t : Tb} {am am' : List Addr} {H H' : Hp} (p : Post am H am' H') (d : D) (v : V) (h : Rep t am H d v) : Rep t am' H' d v := Rep.lift p.lift d v h
theorem Reps.mono {t : Tb} {am am' : List Addr} {H H' : Hp} (p : Post am H am' H') (ds : List D) (vs : List V) (h : Reps t am H ds vs) : Reps t am' H' ds vs := Reps.lift p.lift ds vs h
/-! a value without places of the store -/
mutual
theorem Rep.pure {t : Tb} {am am' : List Addr} {H H' : Hp} (imm : ∀ a o, H a = some o → Imm o → H' a = some o) : ∀ (d : D) (v : V), d.pure = true → Rep t am H d v → Rep t am' H' d v
  | .undef, _, _, h => h
  | .non, _, _, h => h
  | .bl _, _, _, h => h
  | .int _, _, _, h => h
  | .str _, _, _, h => h
  | .tup ds, v, q, h => by
    obtain ⟨a, vs, e, h1, h2⟩ := h
    exact ⟨a, vs, e, imm _ _ h1 trivial, Reps.pure imm ds vs q h2⟩
  | .frl ds, v, q, h => by
    obtain ⟨a, vs, e, h1, h2⟩ := h
    exact ⟨a, vs, e, Lift.frL (am := []) (am' := []) ⟨fun _ _ h => h, imm⟩ h1, Reps.pure imm ds vs q h2⟩
  | .ref n, v, q, h => absurd q (by unfold D.pure; exact Bool.false_ne_true)
  | .fn i, v, _, h => h
theorem Reps.pure {t : Tb} {am am' : List Addr} {H H' : Hp} (imm : ∀ a o, H a = some o → Imm o → H' a = some o) : ∀ (ds : List D) (vs : List V), D.pureL ds = true → Reps t am H ds vs → Reps t am' H' ds vs
  | [], _, _, h => h
  | d :: ds, vs, q, h => by
    obtain ⟨v, r, e, h1, h2⟩ := h
    unfold D.pureL at q
    rw [Bool.and_eq_true] at q
    exact ⟨v, r, e, Rep.pure imm d v q.1 h1, Reps.pure imm ds r q.2 h2⟩
end
section
variable {t : Tb} {am am' : List Addr} {H H' : Hp}
theorem Reps.length : ∀ {ds : List D} {vs : List V}, Reps t am H ds vs → ds.length = vs.length
  | [], vs, h => by
    have e : vs = [] := h
    rw [e]; rfl
  | d :: ds, vs, h => by
    obtain ⟨v, r, e, _, h2⟩ := h
    rw [e, List.length_cons, List.length_cons, Reps.length h2]
theorem Reps.get : ∀ {ds : List D} {vs : List V} {i : Nat} {d : D}, Reps t am H ds vs → ds[i]? = some d → ∃ v, vs[i]? = some v ∧ Rep t am H d v
  | [], _, _, _, _, h => by simp at h
  | d :: ds, vs, 0, d', h, e => by
    obtain ⟨v, r, e1, h1, h2⟩ := h
    have : d = d' := by simpa using e
    subst this
    exact ⟨v, by rw [e1]; rfl, h1⟩
  | d :: ds, vs, i + 1, d', h, e => by
    obtain ⟨v, r, e1, h1, h2⟩ := h
    obtain ⟨v', e2, r2⟩ := Reps.get (i := i) h2 (by simpa using e)
    exact ⟨v', by rw [e1]; simpa using e2, r2⟩
theorem Reps.append : ∀ {ds es : List D} {vs ws : List V}, Reps t am H ds vs → Reps t am H es ws → Reps t am H (ds ++ es) (vs ++ ws)
  | [], _, _, _, h, h' => by rw [show _ = [] from h]; exact h'
  | d :: ds, es, vs, ws, h, h' => by
    obtain ⟨v, r, e, h1, h2⟩ := h
    rw [e]
    exact ⟨v, r ++ ws, rfl, h1, Reps.append h2 h'⟩
theorem Reps.one {d : D} {v : V} (h : Rep t am H d v) : Reps t am H [d] [v] := ⟨v, [], rfl, h, rfl⟩
theorem Reps.take : ∀ {ds : List D} {vs : List V} (n : Nat), Reps t am H ds vs → Reps t am H (ds.take n) (vs.take n)
  | _, _, 0, _ => by simp [Reps]
  | [], vs, n + 1, h => by rw [show vs = [] from h]; simp [Reps]
  | d :: ds, vs, n + 1, h => by
    obtain ⟨v, r, e, h1, h2⟩ := h
    rw [e]
    exact ⟨v, r.take n, rfl, h1, Reps.take n h2⟩
theorem Reps.drop : ∀ {ds : List D} {vs : List V} (n : Nat), Reps t am H ds vs → Reps t am H (ds.drop n) (vs.drop n)
  | _, _, 0, h => h
  | [], vs, n + 1, h => by rw [show vs = [] from h]; simp [Reps]
  | d :: ds, vs, n + 1, h => by
    obtain ⟨v, r, e, h1, h2⟩ := h
    rw [e]
    exact Reps.drop n h2
theorem Reps.set {d : D} {v : V} (h' : Rep t am H d v) : ∀ {ds : List D} {vs : List V} (n : Nat), Reps t am H ds vs → Reps t am H (ds.set n d) (vs.set n v)
  | [], vs, n, h => by rw [show vs = [] from h]; simp [Reps]
  | _ :: ds, vs, 0, h => by
    obtain ⟨v', r, e, h1, h2⟩ := h
    rw [e]
    exact ⟨v, r, rfl, h', h2⟩
  | _ :: ds, vs, n + 1, h => by
    obtain ⟨v', r, e, h1, h2⟩ := h
    rw [e]
    exact ⟨v', r.set n v, rfl, h1, Reps.set h' n h2⟩
theorem Reps.reverse : ∀ {ds : List D} {vs : List V}, Reps t am H ds vs → Reps t am H ds.reverse vs.reverse
  | [], _, h => by rw [show _ = [] from h]; simp [Reps]
  | d :: ds, vs, h => by
    obtain ⟨v, r, e, h1, h2⟩ := h
    rw [e, List.reverse_cons, List.reverse_cons]
    exact Reps.append (Reps.reverse h2) (.one h1)
theorem Reps.nil_iff {ds : List D} {vs : List V} (h : Reps t am H ds vs) : ds = [] ↔ vs = [] := by
  have := h.length
  constructor
  · rintro rfl; exact h
  · rintro rfl; exact List.eq_nil_of_length_eq_zero (by simpa using this)
theorem RKV.lift {κ : Type} {f : D → Option κ} (p : Lift am H am' H') : ∀ {kvs : List (D × D)} {ks : List (κ × V)}, RKV f t am H kvs ks → RKV f t am' H' kvs ks
  | [], _, h => h
  | _ :: _, _, ⟨k, v, r, e, h1, h2, h3⟩ => ⟨k, v, r, e, h1, Rep.lift p _ _ h2, RKV.lift p h3⟩
theorem RKV.pure {κ : Type} {f : D → Option κ} (imm : ∀ a o, H a = some o → Imm o → H' a = some o) : ∀ {kvs : List (D × D)} {ks : List (κ × V)}, D.pureKV kvs = true → RKV f t am H kvs ks → RKV f t am' H' kvs ks
  | [], _, _, h => h
  | _ :: _, _, q, ⟨k, v, r, e, h1, h2, h3⟩ => by
    unfold D.pureKV at q
    simp only [Bool.and_eq_true] at q
    exact ⟨k, v, r, e, h1, Rep.pure imm _ _ q.1.2 h2, RKV.pure imm q.2 h3⟩
/-- an object that was not written -/
theorem OM.lift (p : Lift am H am' H') {o : O} {a : Addr} (h : OM t am H o a) (e : H' a = H a) : OM t am' H' o a := by
  cases o with
  | lst ds =>
    obtain ⟨vs, h1, h2⟩ := h
    exact ⟨vs, by rw [e]; exact h1, Reps.lift p _ _ h2⟩
  | dct tk kvs =>
    cases tk with
    | false =>
      obtain ⟨ks, h1, h2⟩ := h
      exact ⟨ks, by rw [e]; exact h1, h2.lift p⟩
    | true =>
      obtain ⟨ks, h1, h2⟩ := h
      exact ⟨ks, by rw [e]; exact h1, h2.lift p⟩
  | set xs =>
    obtain ⟨S, is, h1, h2, h3⟩ := h
    exact ⟨S, is, h1, by rw [e]; exact h2, h3⟩
theorem OM.mono (p : Post am H am' H') {o : O} {a : Addr} (h : OM t am H o a) (e : H' a = H a) : OM t am' H' o a := h.lift p.lift e
theorem OM.pure {o : O} {a : Addr} (q : o.pure = true) (h : OM t am H o a) : OM t am' H o a := by
  have imm : ∀ a o, H a = some o → Imm o → H a = some o := fun _ _ h _ => h
  cases o with
  | lst ds =>
    obtain ⟨vs, h1, h2⟩ := h
    exact ⟨vs, h1, Reps.pure imm _ _ q h2⟩
  | dct tk kvs =>
    cases tk with
    | false =>
      obtain ⟨ks, h1, h2⟩ := h
      exact ⟨ks, h1, h2.pure imm q⟩
    | true =>
      obtain ⟨ks, h1, h2⟩ := h
      exact ⟨ks, h1, h2.pure imm q⟩
  | set xs => exact h
/-- .. is tracked, no tuple, no table -/
theorem OM.obj {o : O} {a : Addr} (h : OM t am H o a) : ∃ u, H a = some u ∧ ¬ Imm u ∧ ∀ ps, u ≠ .tbl ps := by
  cases o with
  | lst ds => obtain ⟨vs, h1, h2⟩ := h; exact ⟨_, h1, fun z => z, fun ps z => by cases z⟩
  | dct tk kvs => cases tk with
    | false => obtain ⟨vs, h1, h2⟩ := h; exact ⟨_, h1, fun z => z, fun ps z => by cases z⟩
    | true => obtain ⟨vs, h1, h2⟩ := h; exact ⟨_, h1, fun z => z, fun ps z => by cases z⟩
  | set xs => obtain ⟨S, is, h1, h2, h3⟩ := h; exact ⟨_, h2, fun z => z, fun ps z => by cases z⟩
/-- .. and no code object -/
theorem OM.noext {o : O} {a : Addr} (h : OM t am H o a) : ∀ f, H a ≠ some (.ext f) := by
  intro f z
  cases o with
  | lst ds => obtain ⟨vs, h1, h2⟩ := h; rw [h1] at z; cases z
  | dct tk kvs => cases tk with
    | false => obtain ⟨vs, h1, h2⟩ := h; rw [h1] at z; cases z
    | true => obtain ⟨vs, h1, h2⟩ := h; rw [h1] at z; cases z
  | set xs => obtain ⟨S, is, h1, h2, h3⟩ := h; rw [h2] at z; cases z
variable {s : S}
theorem Ms.mem (m : Ms t am s H) {a : Addr} (h : a ∈ am) : ∃ u, H a = some u ∧ ¬ Imm u ∧ ∀ ps, u ≠ .tbl ps := by
  obtain ⟨n, hn⟩ := List.getElem?_of_mem h
  have hl : n < s.length := by rw [← m.len]; exact (List.getElem?_eq_some_iff.mp hn).1
  obtain ⟨a', h1, h2⟩ := m.ob n s[n] (List.getElem?_eq_getElem hl)
  rw [hn] at h1; cases h1
  exact h2.obj
theorem Ms.noext (m : Ms t am s H) {a : Addr} (h : a ∈ am) : ∀ f, H a ≠ some (.ext f) := by
  obtain ⟨n, hn⟩ := List.getElem?_of_mem h
  have hl : n < s.length := by rw [← m.len]; exact (List.getElem?_eq_some_iff.mp hn).1
  obtain ⟨a', h1, h2⟩ := m.ob n s[n] (List.getElem?_eq_getElem hl)
  rw [hn] at h1; cases h1
  exact h2.noext
theorem Ms.out (m : Ms t am s H) {p : Addr} (h : H p = none) : p ∉ am := fun z => by
  obtain ⟨u, e, _⟩ := m.mem z
  rw [h] at e; cases e
/-- a new object outside the store -/
theorem Post.upd {p : Addr} {o : HO} (hn : H p = none) : Post am H am (L2.upd H p o) :=
  ⟨⟨[], by simp, by simp⟩, fun a u h _ => by rw [upd_ne (ne_of_none h hn)]; exact h, fun a u h _ _ => by rw [upd_ne (ne_of_none h hn)]; exact h, fun a u h => ⟨u, by rw [upd_ne (ne_of_none h hn)]; exact h⟩⟩
theorem Ms.upd {p : Addr} {o : HO} (m : Ms t am s H) (hn : H p = none) : Ms t am s (L2.upd H p o) :=
  ⟨m.nd, m.len, fun n ob h => by
    obtain ⟨a, h1, h2⟩ := m.ob n ob h
    refine ⟨a, h1, h2.mono (.upd hn) (upd_ne ?_)⟩
    rintro rfl
    exact m.out hn (List.mem_of_getElem? h1), m.tb.ext fun b o h => by rw [upd_ne (ne_of_none h hn)]; exact h⟩
/-- a new object of the store -/
theorem Post.new {p : Addr} {o : HO} (hn : H p = none) : Post am H (am ++ [p]) (L2.upd H p o) :=
  ⟨⟨[p], rfl, by intro a h; rw [List.mem_singleton] at h; rw [h]; exact hn⟩, fun a u h _ => by rw [upd_ne (ne_of_none h hn)]; exact h, fun a u h _ _ => by rw [upd_ne (ne_of_none h hn)]; exact h, fun a u h => ⟨u, by rw [upd_ne (ne_of_none h hn)]; exact h⟩⟩
theorem Ms.new {p : Addr} {u : HO} {o : O} (m : Ms t am s H) (hn : H p = none) (ho : OM t (am ++ [p]) (L2.upd H p u) o p) : Ms t (am ++ [p]) (s ++ [o]) (L2.upd H p u) := by
  have np := m.out hn
  refine ⟨?_, by simp [m.len], fun n ob h => ?_, m.tb.ext fun b o h => by rw [upd_ne (ne_of_none h hn)]; exact h⟩
  · rw [List.nodup_append]
    exact ⟨m.nd, by simp, fun a ha b hb => by rw [List.mem_singleton] at hb; rintro rfl; exact np (hb ▸ ha)⟩
  · by_cases hl : n < s.length
    · rw [List.getElem?_append_left hl] at h
      obtain ⟨a, h1, h2⟩ := m.ob n ob h
      refine ⟨a, by rw [List.getElem?_append_left (by rw [m.len]; exact hl)]; exact h1, h2.mono (.new hn) (upd_ne ?_)⟩
      rintro rfl
      exact np (List.mem_of_getElem? h1)
    · rw [List.getElem?_append_right (by omega)] at h
      have e : n - s.length = 0 := by
        have := (List.getElem?_eq_some_iff.mp h).1
        simp at this; omega
      rw [e] at h
      have : o = ob := by simpa using h
      subst this
      refine ⟨p, ?_, ho⟩
      rw [List.getElem?_append_right (by rw [m.len]; omega), m.len, e]; rfl
/-- an object of the store is written -/
theorem Post.put {p : Addr} {o u : HO} (hm : p ∈ am) (h : H p = some u) (hu : ¬ Imm u) : Post am H am (L2.upd H p o) :=
  ⟨⟨[], by simp, by simp⟩, fun a z h' hi => by rw [upd_ne (by rintro rfl; rw [h] at h'; cases h'; exact hu hi)]; exact h', fun a z h' hn _ => by rw [upd_ne (by rintro rfl; exact hn hm)]; exact h',
    fun a z h' => by
      by_cases e : a = p
      · subst e; exact ⟨o, upd_same⟩
      · exact ⟨z, by rw [upd_ne e]; exact h'⟩⟩
theorem Ms.put {n : Nat} {p : Addr} {u : HO} {o : O} (m : Ms t am s H) (hp : am[n]? = some p) (ho : OM t am (L2.upd H p u) o p) : Post am H am (L2.upd H p u) ∧ Ms t am (s.set n o) (L2.upd H p u) := by
  have hm := List.mem_of_getElem? hp
  obtain ⟨u0, h0, i0, t0⟩ := m.mem hm
  have P : Post am H am (L2.upd H p u) := .put hm h0 i0
  refine ⟨P, m.nd, by rw [List.length_set]; exact m.len, fun k ob h => ?_, m.tb.put (fun ps z => by rw [h0] at z; cases z; exact t0 _ rfl) (m.noext hm)⟩
  by_cases e : n = k
  · subst e
    have hl : n < s.length := by rw [← m.len]; exact (List.getElem?_eq_some_iff.mp hp).1
    rw [List.getElem?_set_self hl] at h
    cases h
    exact ⟨p, hp, ho⟩
  · rw [List.getElem?_set_ne e] at h
    obtain ⟨a, h1, h2⟩ := m.ob k ob h
    refine ⟨a, h1, h2.mono P (upd_ne ?_)⟩
    rintro rfl
    exact e ((List.getElem_inj m.nd).mp ((List.getElem?_eq_some_iff.mp hp).2.trans (List.getElem?_eq_some_iff.mp h1).2.symm))
end
end Y

/-! Y2: the judgements, and the rules for expressions. -/
namespace Y
open PySem L2

/-- how an error lies in the heap -/
def XRep (t : Tb) (c : Nat) (fs : List D) (am : List Addr) (H : Hp) (cls : Value) (dd : Option Addr) : Prop :=
  ∃ C names, t.xc c = some (C, names) ∧ cls = .ref C ∧ ((names = [] ∧ fs = [] ∧ dd = none) ∨ (∃ d vs, names ≠ [] ∧ dd = some d ∧ H d = some (.xd (names.zip vs)) ∧ names.length = vs.length ∧ Reps t am H fs vs))
abbrev XW := St → XK
/-- what is wanted of a result -/
def RQ {α β : Type} (t : Tb) (am : List Addr) (H : Hp) (x : Rs α) (rep : List Addr → Hp → α → β → Prop) (Ex : XK) (Q : β → Hp → Prop) : Prop := match x with
  | .ok a s' => ∀ am' H' b, Post am H am' H' → Ms t am' s' H' → rep am' H' a b → Q b H'
  | .exc c fs s' => ∀ am' H' cls dd, Post am H am' H' → Ms t am' s' H' → XRep t c fs am' H' cls dd → Ex cls dd H'
  | .stk => False
abbrev repB : List Addr → Hp → Bool → Bool → Prop := fun _ _ a b => a = b
section
variable {α β α' β' : Type} {t : Tb} {am am1 : List Addr} {H H1 : Hp} {s : S} {Ex : XK}
theorem RQ.re {x : Rs α} {rep : List Addr → Hp → α → β → Prop} {Q : β → Hp → Prop} (h : RQ t am H x rep Ex Q) (p : Post am H am1 H1) : RQ t am1 H1 x rep Ex Q := by
  cases x with
  | ok a s' => exact fun am' H' b q m r => h am' H' b (p.trans q) m r
  | exc c fs s' => exact fun am' H' cls dd q m r => h am' H' cls dd (p.trans q) m r
  | stk => exact h
theorem RQ.seq {x : Rs α} {f : α → S → Rs α'} {rep1 : List Addr → Hp → α → β → Prop} {rep2 : List Addr → Hp → α' → β' → Prop} {Q : β' → Hp → Prop} {K : β → Hp → Prop} (h : RQ t am H (x.bind f) rep2 Ex Q)
    (hk : ∀ a s1 am1 H1 b, Post am H am1 H1 → Ms t am1 s1 H1 → rep1 am1 H1 a b → RQ t am1 H1 (f a s1) rep2 Ex Q → K b H1) : RQ t am H x rep1 Ex K := by
  cases x with
  | ok a s' => exact fun am' H' b q m r => hk a s' am' H' b q m r (RQ.re (Rs.bind_ok a s' f ▸ h) q)
  | exc c fs s' => exact h
  | stk => exact h
theorem RQ.ok {a : α} {rep : List Addr → Hp → α → β → Prop} {Q : β → Hp → Prop} {b : β} (h : RQ t am H (.ok a s) rep Ex Q) (p : Post am H am1 H1) (m : Ms t am1 s H1) (r : rep am1 H1 a b) : Q b H1 := h am1 H1 b p m r
theorem RQ.ok0 {a : α} {rep : List Addr → Hp → α → β → Prop} {Q : β → Hp → Prop} {b : β} (h : RQ t am H (.ok a s) rep Ex Q) (m : Ms t am s H) (r : rep am H a b) : Q b H := h am H b .refl m r
end

/-- the slots -/
structure EnvR (t : Tb) (am : List Addr) (H : Hp) (r : Env) (σ : St) : Prop where
  len : r.length = σ.length
  get : ∀ (i : Nat) (d : D), r[i]? = some d → d ≠ .undef → ∃ v, σ[i]? = some (some v) ∧ Rep t am H d v
section
variable {t : Tb} {am am' : List Addr} {H H' : Hp} {r : Env} {σ : St}
theorem EnvR.mono (e : EnvR t am H r σ) (p : Post am H am' H') : EnvR t am' H' r σ := ⟨e.len, fun i d h n => let ⟨v, h1, h2⟩ := e.get i d h n; ⟨v, h1, h2.mono p⟩⟩
theorem EnvR.set {d : D} {v : V} (e : EnvR t am H r σ) (i : Nat) (h : Rep t am H d v) : EnvR t am H (r.set i d) (σ.set i (some v)) := by
  refine ⟨by simp [e.len], fun j d' h1 n => ?_⟩
  by_cases hj : i = j
  · subst hj
    have hl : i < r.length := by have := (List.getElem?_eq_some_iff.mp h1).1; simpa using this
    rw [List.getElem?_set_self hl] at h1
    cases h1
    exact ⟨v, List.getElem?_set_self (by rw [← e.len]; exact hl), h⟩
  · rw [List.getElem?_set_ne hj] at h1
    obtain ⟨v', h2, h3⟩ := e.get j d' h1 n
    exact ⟨v', by rw [List.getElem?_set_ne hj]; exact h2, h3⟩
theorem EnvR.wipe (e : EnvR t am H r σ) : ∀ vs : List Nat, EnvR t am H (wipeD r vs) (L2.wipe σ vs)
  | [] => e
  | v :: vs => by
    have ih := EnvR.wipe e vs
    unfold wipeD L2.wipe
    refine ⟨by simp [ih.len], fun j d' h1 n => ?_⟩
    by_cases hj : v = j
    · subst hj
      have hl : v < (wipeD r vs).length := by have := (List.getElem?_eq_some_iff.mp h1).1; simpa using this
      rw [List.getElem?_set_self hl] at h1
      cases h1
      exact absurd rfl n
    · rw [List.getElem?_set_ne hj] at h1
      obtain ⟨v', h2, h3⟩ := ih.get j d' h1 n
      exact ⟨v', by rw [List.getElem?_set_ne hj]; exact h2, h3⟩
end

def tyE (t : Tb) (W : XW) (m : E) : TE := fun σ H Q => ∃ am r s, EnvR t am H r σ ∧ Ms t am s H ∧ RQ t am H (m r s) (Rep t) (W σ) Q
def tyT (t : Tb) (W : XW) (m : T) : TT := fun σ H Q => ∃ am r s, EnvR t am H r σ ∧ Ms t am s H ∧ RQ t am H (m r s) repB (W σ) Q
def tyA (t : Tb) (W : XW) (m : A) : TA := fun σ H Q => ∃ am r s, EnvR t am H r σ ∧ Ms t am s H ∧ RQ t am H (m r s) (Reps t) (W σ) Q
def SE (X : Cx) (t : Tb) (W : XW) (e : Expr) (m : E) : Prop := PE X e (tyE t W m)
def ST (X : Cx) (t : Tb) (W : XW) (e : Expr) (m : T) : Prop := PT X e (tyT t W m)
def SW (X : Cx) (t : Tb) (W : XW) (e : Expr) (m : T) : Prop := PW X e (tyT t W m)
def SA (X : Cx) (t : Tb) (W : XW) (es : List Expr) (m : A) : Prop := PA X es (tyA t W m)

section
variable {X : Cx} {t : Tb} {W : XW} {e a b c : Expr} {es rest : List Expr} {pos : Pos} {ma mb mc : E} {m : E} {mt mu : T} {ms : A}
theorem _root_.L2.PE.imp {u u' : TE} (h : PE X e u) (f : ∀ σ H Q, u' σ H Q → u σ H Q) : PE X e u' := ⟨fun pins s σ H Q I q => h.run pins s σ H Q I (f σ H Q q)⟩
theorem _root_.L2.PT.imp {u u' : TT} (h : PT X e u) (f : ∀ σ H Q, u' σ H Q → u σ H Q) : PT X e u' := ⟨fun pins s σ H Q I q => h.run pins s σ H Q I (f σ H Q q)⟩
theorem _root_.L2.PW.imp {u u' : TT} (h : PW X e u) (f : ∀ σ H Q, u' σ H Q → u σ H Q) : PW X e u' := ⟨fun wh pins s σ H Q I q => h.run wh pins s σ H Q I (f σ H Q q)⟩
theorem _root_.L2.PA.imp {u u' : TA} (h : PA X es u) (f : ∀ σ H Q, u' σ H Q → u σ H Q) : PA X es u' := ⟨fun pos pins s σ H Q I q => h.run pos pins s σ H Q I (f σ H Q q)⟩

/-- a part's reading, from the whole's result -/
theorem tyE.of {σ : St} {H : Hp} {am : List Addr} {r : Env} {s : S} {α β : Type} {f : D → S → Rs α} {rep : List Addr → Hp → α → β → Prop} {Q : β → Hp → Prop} {K : V → Hp → Prop} (en : EnvR t am H r σ) (mm : Ms t am s H)
    (h : RQ t am H ((m r s).bind f) rep (W σ) Q)
    (hk : ∀ d s1 am1 H1 v, EnvR t am1 H1 r σ → Ms t am1 s1 H1 → Post am H am1 H1 → Rep t am1 H1 d v → RQ t am1 H1 (f d s1) rep (W σ) Q → K v H1) : tyE t W m σ H K :=
  ⟨am, r, s, en, mm, h.seq fun d s1 am1 H1 v p m1 rp h1 => hk d s1 am1 H1 v (en.mono p) m1 p rp h1⟩
theorem tyT.of {σ : St} {H : Hp} {am : List Addr} {r : Env} {s : S} {α β : Type} {f : Bool → S → Rs α} {rep : List Addr → Hp → α → β → Prop} {Q : β → Hp → Prop} {K : Bool → Hp → Prop} (en : EnvR t am H r σ) (mm : Ms t am s H)
    (h : RQ t am H ((mt r s).bind f) rep (W σ) Q)
    (hk : ∀ d s1 am1 H1, EnvR t am1 H1 r σ → Ms t am1 s1 H1 → Post am H am1 H1 → RQ t am1 H1 (f d s1) rep (W σ) Q → K d H1) : tyT t W mt σ H K :=
  ⟨am, r, s, en, mm, h.seq fun d s1 am1 H1 v p m1 rp h1 => by cases rp; exact hk d s1 am1 H1 (en.mono p) m1 p h1⟩
theorem tyA.of {σ : St} {H : Hp} {am : List Addr} {r : Env} {s : S} {α β : Type} {f : List D → S → Rs α} {rep : List Addr → Hp → α → β → Prop} {Q : β → Hp → Prop} {K : List V → Hp → Prop} (en : EnvR t am H r σ) (mm : Ms t am s H)
    (h : RQ t am H ((ms r s).bind f) rep (W σ) Q)
    (hk : ∀ d s1 am1 H1 v, EnvR t am1 H1 r σ → Ms t am1 s1 H1 → Post am H am1 H1 → Reps t am1 H1 d v → RQ t am1 H1 (f d s1) rep (W σ) Q → K v H1) : tyA t W ms σ H K :=
  ⟨am, r, s, en, mm, h.seq fun d s1 am1 H1 v p m1 rp h1 => hk d s1 am1 H1 v (en.mono p) m1 p rp h1⟩

/-! ### constants, names -/
theorem s_int {i j} : SE X t W (.Constant (.int i) j pos) (eC (.int i)) := pe_int.imp fun σ H Q ⟨am, r, s, en, mm, h⟩ => h.ok0 mm rfl
theorem s_bl {i j} : SE X t W (.Constant (.bool i) j pos) (eC (.bl i)) := pe_bl.imp fun σ H Q ⟨am, r, s, en, mm, h⟩ => h.ok0 mm rfl
theorem s_non {j} : SE X t W (.Constant .none j pos) (eC .non) := pe_non.imp fun σ H Q ⟨am, r, s, en, mm, h⟩ => h.ok0 mm rfl
theorem s_str {i j} : SE X t W (.Constant (.str i) j pos) (eC (.str i)) := pe_str.imp fun σ H Q ⟨am, r, s, en, mm, h⟩ => h.ok0 mm rfl
theorem s_var (i : Nat) {x : Str} (hN : X.N[i]? = some x := by rfl) (hv : Vis X.env.scope x := by first | exact Or.inl rfl | exact Or.inr (Or.inl rfl) | exact Or.inr (Or.inr rfl)) (hd : (x == ("__debug__" : Str)) = false := by decide)
    (hcd : (x == ("__classdict__" : Str)) = false := by decide) : SE X t W (.Name x pos) (eV i) := (pe_var hN hv hd hcd).imp fun σ H Q ⟨am, r, s, en, mm, h⟩ => by
  unfold eV at h
  cases e : r[i]? with
  | none => rw [e] at h; exact h.elim
  | some d =>
    rw [e] at h
    by_cases hu : d = .undef
    · subst hu; exact h.elim
    · obtain ⟨v, h1, h2⟩ := en.get i d e hu
      have h' : RQ t am H (.ok d s) (Rep t) (W σ) Q := by cases d <;> first | exact h | exact absurd rfl hu
      exact ⟨v, h1, h'.ok0 mm h2⟩
/-- a module's constant int, by the facts of the top -/
theorem s_glob {i : Int} {x : Str} (hg : Gl X x) (hm' : ∃ k, X.mg x = some (.int i k)) (hd : (x == ("__debug__" : Str)) = false := by decide) : SE X t W (.Name x pos) (eC (.int i)) :=
  let ⟨k, hm⟩ := hm'
  (pe_glob hg hm (v := .int i) ⟨k, rfl⟩ hd).imp fun σ H Q ⟨am, r, s, en, mm, h⟩ => h.ok0 mm rfl
theorem s_fn {i : Nat} {f : Addr} {x : Str} (hg : Gl X x) (hm : X.mg x = some (.ref f)) (hf : t.fa i = some f) (hd : (x == ("__debug__" : Str)) = false := by decide) : SE X t W (.Name x pos) (eC (.fn i)) :=
  (pe_glob hg hm (v := .ref f) rfl hd).imp fun σ H Q ⟨am, r, s, en, mm, h⟩ => h.ok0 mm ⟨f, rfl, hf⟩

/-! ### operators by values -/
/-- o does what the rule r asks -/
def Op2 (t : Tb) (r : R2) (o : P2) : Prop := ∀ (am : List Addr) (s : S) (H : Hp) (d1 d2 : D) (v1 v2 : V) (Ex : XK) (Q : VK), Ms t am s H → Rep t am H d1 v1 → Rep t am H d2 v2 → RQ t am H (o d1 d2 s) (Rep t) Ex Q → r v1 v2 H Q
def Op1 (t : Tb) (r : V → Hp → VK → Prop) (o : P1) : Prop := ∀ (am : List Addr) (s : S) (H : Hp) (d : D) (v : V) (Ex : XK) (Q : VK), Ms t am s H → Rep t am H d v → RQ t am H (o d s) (Rep t) Ex Q → r v H Q
theorem s_op {op : Operator} {r : R2} {o : P2} (ho : OpR X (binaryOp op) r) (h2 : Op2 t r o) (ha : SE X t W a ma) (hb : SE X t W b mb) : SE X t W (.BinOp a op b pos) (e2 o ma mb) :=
  (pe_op ho ha hb).imp fun σ H Q ⟨am, r, s, en, mm, h⟩ => tyE.of en mm h fun d1 s1 am1 H1 v1 en1 m1 p1 r1 h1 => tyE.of en1 m1 h1 fun d2 s2 am2 H2 v2 en2 m2 p2 r2 h2' => h2 am2 s2 H2 d1 d2 v1 v2 _ Q m2 (r1.mono p2) r2 h2'
theorem s_cmp {op : CmpOp} {r : R2} {o : P2} (ho : OpR X (compareOp op) r) (h2 : Op2 t r o) (ha : SE X t W a ma) (hb : SE X t W b mb) (hm : behindInMarks op b = false) : SE X t W (.Compare a [op] [b] pos) (e2 o ma mb) :=
  (pe_cmpR ho ha hb hm).imp fun σ H Q ⟨am, r, s, en, mm, h⟩ => tyE.of en mm h fun d1 s1 am1 H1 v1 en1 m1 p1 r1 h1 => tyE.of en1 m1 h1 fun d2 s2 am2 H2 v2 en2 m2 p2 r2 h2' => h2 am2 s2 H2 d1 d2 v1 v2 _ Q m2 (r1.mono p2) r2 h2'
theorem s_ix {r : R2} {o : P2} (ho : IxR X r) (h2 : Op2 t r o) (ha : SE X t W a ma) (hb : SE X t W b mb) (hs : PlainIx b) : SE X t W (.Subscript a b pos) (e2 o ma mb) :=
  (pe_ix ho ha hb hs).imp fun σ H Q ⟨am, r, s, en, mm, h⟩ => tyE.of en mm h fun d1 s1 am1 H1 v1 en1 m1 p1 r1 h1 => tyE.of en1 m1 h1 fun d2 s2 am2 H2 v2 en2 m2 p2 r2 h2' => h2 am2 s2 H2 d1 d2 v1 v2 _ Q m2 (r1.mono p2) r2 h2'
theorem s_un {op : UnaryOp} {r : V → Hp → VK → Prop} {o : P1} (ho : UnR X (unaryOp op) r) (h2 : Op1 t r o) (ha : SE X t W a ma) : SE X t W (.UnaryOp op a pos) (e1 o ma) :=
  (pe_un ho ha).imp fun σ H Q ⟨am, r, s, en, mm, h⟩ => tyE.of en mm h fun d1 s1 am1 H1 v1 en1 m1 p1 r1 h1 => h2 am1 s1 H1 d1 v1 _ Q m1 r1 h1
/-- f(..) of a built-in -/
def OpN (t : Tb) (r : List V → Hp → VK → Prop) (o : PN) : Prop := ∀ (am : List Addr) (s : S) (H : Hp) (ds : List D) (vs : List V) (Ex : XK) (Q : VK), Ms t am s H → Reps t am H ds vs → RQ t am H (o ds s) (Rep t) Ex Q → r vs H Q
theorem s_nil : SA X t W [] aN := pa_nil.imp fun σ H Q ⟨am, r, s, en, mm, h⟩ => h.ok0 mm rfl
theorem s_cons (ha : SE X t W e m) (hr : SA X t W es ms) (hs : starEach (e :: es) X.env = (false, eval e X.env) :: starEach es X.env := by rfl) : SA X t W (e :: es) (aC m ms) :=
  (pa_cons ha hr hs).imp fun σ H Q ⟨am, r, s, en, mm, h⟩ => tyE.of en mm h fun d1 s1 am1 H1 v1 en1 m1 p1 r1 h1 => tyA.of en1 m1 h1 fun ds s2 am2 H2 vs en2 m2 p2 r2 h2' => h2'.ok0 m2 ⟨v1, vs, rfl, r1.mono p2, r2⟩
theorem s_bltB {id : String} {r : List V → Hp → VK → Prop} {o : PN} {x : Str} {p : Pos} (hc : CallR X (.builtin id) r) (h2 : OpN t r o) (hg : Gl X x) (hm : X.mg x = none) (hv : bootBuiltins x = some (.builtin id)) (ha : SA X t W (e :: es) ms)
    (hn : x ≠ "__name__" := by decide) (hdb : (x == ("__debug__" : Str)) = false := by decide) (he : starEach (e :: es) X.env = (false, eval e X.env) :: starEach es X.env := by rfl) (hpl : (backTo pos (starEach es X.env)).any (·.1) = false := by rfl) :
    SE X t W (.Call (.Name x p) (e :: es) [] pos) (eN o ms) :=
  (pe_callB hc hg hm hv ha hn hdb he hpl).imp fun σ H Q ⟨am, r, s, en, mm, h⟩ => tyA.of en mm h fun ds s1 am1 H1 vs en1 m1 p1 r1 h1 => h2 am1 s1 H1 ds vs _ Q m1 r1 h1
theorem s_bltT {id : String} {r : List V → Hp → VK → Prop} {o : PN} {x : Str} {p : Pos} (hc : CallR X (.type id) r) (h2 : OpN t r o) (hg : Gl X x) (hm : X.mg x = none) (hv : bootBuiltins x = some (.type id)) (ha : SA X t W (e :: es) ms)
    (hn : x ≠ "__name__" := by decide) (hdb : (x == ("__debug__" : Str)) = false := by decide) (he : starEach (e :: es) X.env = (false, eval e X.env) :: starEach es X.env := by rfl) (hpl : (backTo pos (starEach es X.env)).any (·.1) = false := by rfl) :
    SE X t W (.Call (.Name x p) (e :: es) [] pos) (eN o ms) :=
  (pe_callTy hc hg hm hv ha hn hdb he hpl).imp fun σ H Q ⟨am, r, s, en, mm, h⟩ => tyA.of en mm h fun ds s1 am1 H1 vs en1 m1 p1 r1 h1 => h2 am1 s1 H1 ds vs _ Q m1 r1 h1

/-! ### tests -/
theorem s_tst (h : SE X t W e m) (he : ∀ whole, isTrue e X.env whole = (do let v ← whole; standAt e.pos; holding [v] (truthy v)) := by intro _; rfl) : ST X t W e (tst m) :=
  (pt_val h he).imp fun σ H Q ⟨am, r, s, en, mm, h⟩ => tyE.of en mm h fun d s1 am1 H1 v en1 m1 p1 r1 h1 => by
    cases d with
    | bl b => exact ⟨b, r1, h1.ok0 m1 rfl⟩
    | _ => exact h1.elim
/-- a comparison as a test -/
theorem s_tcmp {op : CmpOp} {r : R2} {o : P2} (ho : OpR X (compareOp op) r) (h2 : Op2 t r o) (ha : SE X t W a ma) (hb : SE X t W b mb) (hm : behindInMarks op b = false) : ST X t W (.Compare a [op] [b] pos) (tst (e2 o ma mb)) :=
  (pt_cmpR ho ha hb hm).imp fun σ H Q ⟨am, r, s, en, mm, h⟩ => by
    have h : RQ t am H ((ma r s).bind fun x s1 => (mb r s1).bind fun y s2 => (o x y s2).bind fun z s3 => match z with
      | .bl b => .ok b s3
      | _ => .stk) repB (W σ) Q := by
      have e : tst (e2 o ma mb) r s = ((ma r s).bind fun x s1 => (mb r s1).bind fun y s2 => (o x y s2).bind fun z s3 => match z with
        | .bl b => .ok b s3
        | _ => .stk) := by
        unfold tst e2
        cases ma r s with
        | ok x s1 =>
          simp only [Rs.bind_ok]
          cases mb r s1 <;> rfl
        | exc => rfl
        | stk => rfl
      rw [← e]; exact h
    refine tyE.of en mm h fun d1 s1 am1 H1 v1 en1 m1 p1 r1 h1 => tyE.of en1 m1 h1 fun d2 s2 am2 H2 v2 en2 m2 p2 r2 h2' => ?_
    refine h2 am2 s2 H2 d1 d2 v1 v2 (W σ) _ m2 (r1.mono p2) r2 (h2'.seq fun z s3 am3 H3 v3 p3 m3 r3 h3 => ?_)
    cases z with
    | bl b => exact ⟨b, r3, h3.ok0 m3 rfl⟩
    | _ => exact h3.elim
theorem s_pw (h : SW X t W e mt) : ST X t W e mt := PW.pt h
theorem s_and1 (ha : ST X t W a mt) : SW X t W (.BoolOp .And [a] pos) mt := pw_and1 ha
theorem s_or1 (ha : ST X t W a mt) : SW X t W (.BoolOp .Or [a] pos) mt := pw_or1 ha
theorem s_and (ha : ST X t W a mt) (hb : SW X t W (.BoolOp .And (b :: rest) pos) mu) : SW X t W (.BoolOp .And (a :: b :: rest) pos) (tAnd mt mu) :=
  (pw_and ha hb).imp fun σ H Q ⟨am, r, s, en, mm, h⟩ => tyT.of en mm h fun c s1 am1 H1 en1 m1 p1 h1 => by
    cases c with
    | true => exact ⟨am1, r, s1, en1, m1, h1⟩
    | false => exact h1.ok0 m1 rfl
theorem s_or (ha : ST X t W a mt) (hb : SW X t W (.BoolOp .Or (b :: rest) pos) mu) : SW X t W (.BoolOp .Or (a :: b :: rest) pos) (tOr mt mu) :=
  (pw_or ha hb).imp fun σ H Q ⟨am, r, s, en, mm, h⟩ => tyT.of en mm h fun c s1 am1 H1 en1 m1 p1 h1 => by
    cases c with
    | false => exact ⟨am1, r, s1, en1, m1, h1⟩
    | true => exact h1.ok0 m1 rfl
theorem s_tnot (ha : ST X t W a mt) : ST X t W (.UnaryOp .Not a pos) (tNot mt) :=
  (pt_not ha).imp fun σ H Q ⟨am, r, s, en, mm, h⟩ => tyT.of en mm h fun c s1 am1 H1 en1 m1 p1 h1 => h1.ok0 m1 rfl
theorem s_one {op} (h : SE X t W a m) : SE X t W (.BoolOp op [a] pos) m := pe_one h
theorem s_vand (ha : SE X t W a ma) (hb : SE X t W (.BoolOp .And (b :: rest) pos) mb) : SE X t W (.BoolOp .And (a :: b :: rest) pos) (eAnd ma mb) :=
  (pe_and ha hb).imp fun σ H Q ⟨am, r, s, en, mm, h⟩ => tyE.of en mm h fun d s1 am1 H1 v en1 m1 p1 r1 h1 => by
    cases d with
    | bl c =>
      refine ⟨c, r1, ?_⟩
      cases c with
      | true => exact ⟨am1, r, s1, en1, m1, h1⟩
      | false => exact h1.ok0 m1 rfl
    | _ => exact h1.elim
theorem s_vor (ha : SE X t W a ma) (hb : SE X t W (.BoolOp .Or (b :: rest) pos) mb) : SE X t W (.BoolOp .Or (a :: b :: rest) pos) (eOr ma mb) :=
  (pe_or ha hb).imp fun σ H Q ⟨am, r, s, en, mm, h⟩ => tyE.of en mm h fun d s1 am1 H1 v en1 m1 p1 r1 h1 => by
    cases d with
    | bl c =>
      refine ⟨c, r1, ?_⟩
      cases c with
      | false => exact ⟨am1, r, s1, en1, m1, h1⟩
      | true => exact h1.ok0 m1 rfl
    | _ => exact h1.elim
theorem s_vnot (ha : SE X t W a ma) : SE X t W (.UnaryOp .Not a pos) (eNot ma) :=
  (pe_not ha).imp fun σ H Q ⟨am, r, s, en, mm, h⟩ => tyE.of en mm h fun d s1 am1 H1 v en1 m1 p1 r1 h1 => by
    cases d with
    | bl c => exact ⟨c, r1, h1.ok0 m1 rfl⟩
    | _ => exact h1.elim
theorem s_if (hc : ST X t W c mt) (ha : SE X t W a ma) (hb : SE X t W b mb) : SE X t W (.IfExp c a b pos) (eIf mt ma mb) :=
  (pe_ifExp hc ha hb).imp fun σ H Q ⟨am, r, s, en, mm, h⟩ => tyT.of en mm h fun c s1 am1 H1 en1 m1 p1 h1 => by
    cases c with
    | true => exact ⟨am1, r, s1, en1, m1, h1⟩
    | false => exact ⟨am1, r, s1, en1, m1, h1⟩
theorem line_le {n : Nat} (h : n ≤ 1000000) : n ≤ sizeLine := Nat.le_trans h (by decide)
theorem s_tup {x1} (h : SA X t W es ms) : SE X t W (.Tuple es x1 pos) (eTup ms) :=
  (pe_tup h).imp fun σ H Q ⟨am, r, s, en, mm, h⟩ => tyA.of en mm h fun ds s1 am1 H1 vs en1 m1 p1 r1 h1 => by
    by_cases hl : ds.length ≤ 1000000
    · simp only [hl, if_true] at h1
      refine ⟨by rw [← r1.length]; exact line_le hl, fun p hp => ?_⟩
      exact h1.ok (.upd hp) (m1.upd hp) ⟨p, vs, rfl, upd_same, r1.mono (.upd hp)⟩
    · simp only [hl, if_false] at h1
      exact h1.elim
theorem s_lst (h : SA X t W es ms) : SE X t W (.List es pos) (eLst ms) :=
  (pe_lst h).imp fun σ H Q ⟨am, r, s, en, mm, h⟩ => tyA.of en mm h fun ds s1 am1 H1 vs en1 m1 p1 r1 h1 => by
    by_cases hl : ds.length ≤ 1000000
    · simp only [hl, if_true] at h1
      refine ⟨by rw [← r1.length]; exact line_le hl, fun p hp => ?_⟩
      refine h1.ok (.new hp) (m1.new hp ⟨vs, upd_same, r1.mono (.new hp)⟩) ⟨p, rfl, ?_⟩
      rw [← m1.len]
      simp
    · simp only [hl, if_false] at h1
      exact h1.elim
/-- a < b < c -/
theorem s_chain {op op' : CmpOp} {r r' : R2} {o o' : P2} (ho : OpR X (compareOp op) r) (ho' : OpR X (compareOp op') r') (h2 : Op2 t r o) (h2' : Op2 t r' o') (ha : SE X t W a ma) (hb : SE X t W b mb) (hc : SE X t W c mc)
    (hm : lastMarks [op, op'] [b, c] = false := by with_unfolding_all rfl) : SE X t W (.Compare a [op, op'] [b, c] pos) (eCh o o' ma mb mc) :=
  (pe_chain ho ho' ha hb hc hm).imp fun σ H Q ⟨am, r, s, en, mm, h⟩ => tyE.of en mm h fun d1 s1 am1 H1 v1 en1 m1 p1 r1 h1 => tyE.of en1 m1 h1 fun d2 s2 am2 H2 v2 en2 m2 p2 r2 h3 => by
    refine h2 am2 s2 H2 d1 d2 v1 v2 (W σ) _ m2 (r1.mono p2) r2 (h3.seq fun z s3 am3 H3 v3 p3 m3 r3 h4 => ?_)
    cases z with
    | bl k =>
      refine ⟨k, r3, ?_⟩
      cases k with
      | true => exact tyE.of (en2.mono p3) m3 h4 fun d4 s4 am4 H4 v4 en4 m4 p4 r4 h5 => h2' am4 s4 H4 d2 d4 v2 v4 _ Q m4 ((r2.mono p3).mono p4) r4 h5
      | false => exact h4.ok0 m3 rfl
    | _ => exact h4.elim
theorem s_tchain {op op' : CmpOp} {r r' : R2} {o o' : P2} (ho : OpR X (compareOp op) r) (ho' : OpR X (compareOp op') r') (h2 : Op2 t r o) (h2' : Op2 t r' o') (ha : SE X t W a ma) (hb : SE X t W b mb) (hc : SE X t W c mc)
    (hm : lastMarks [op, op'] [b, c] = false := by with_unfolding_all rfl) : ST X t W (.Compare a [op, op'] [b, c] pos) (tst (eCh o o' ma mb mc)) :=
  (pt_chain ho ho' ha hb hc hm).imp fun σ H Q ⟨am, r, s, en, mm, h⟩ => by
    have h : RQ t am H ((ma r s).bind fun x s1 => (mb r s1).bind fun y s2 => (o x y s2).bind fun z s3 => match z with
      | .bl true => (mc r s3).bind fun w s4 => (o' y w s4).bind fun z s5 => match z with
        | .bl b => .ok b s5
        | _ => .stk
      | .bl false => .ok false s3
      | _ => .stk) repB (W σ) Q := by
      have e : tst (eCh o o' ma mb mc) r s = ((ma r s).bind fun x s1 => (mb r s1).bind fun y s2 => (o x y s2).bind fun z s3 => match z with
        | .bl true => (mc r s3).bind fun w s4 => (o' y w s4).bind fun z s5 => match z with
          | .bl b => .ok b s5
          | _ => .stk
        | .bl false => .ok false s3
        | _ => .stk) := by
        unfold tst eCh
        cases ma r s with
        | ok x s1 =>
          simp only [Rs.bind_ok]
          cases mb r s1 with
          | ok y s2 =>
            simp only [Rs.bind_ok]
            cases o x y s2 with
            | ok z s3 =>
              simp only [Rs.bind_ok]
              cases z with
              | bl k =>
                cases k with
                | true =>
                  dsimp only
                  cases mc r s3 <;> rfl
                | false => rfl
              | _ => rfl
            | exc => rfl
            | stk => rfl
          | exc => rfl
          | stk => rfl
        | exc => rfl
        | stk => rfl
      rw [← e]; exact h
    refine tyE.of en mm h fun d1 s1 am1 H1 v1 en1 m1 p1 r1 h1 => tyE.of en1 m1 h1 fun d2 s2 am2 H2 v2 en2 m2 p2 r2 h3 => ?_
    refine h2 am2 s2 H2 d1 d2 v1 v2 (W σ) _ m2 (r1.mono p2) r2 (h3.seq fun z s3 am3 H3 v3 p3 m3 r3 h4 => ?_)
    cases z with
    | bl k =>
      refine ⟨k, r3, ?_⟩
      cases k with
      | true =>
        refine tyE.of (en2.mono p3) m3 h4 fun d4 s4 am4 H4 v4 en4 m4 p4 r4 h5 => h2' am4 s4 H4 d2 d4 v2 v4 (W σ) _ m4 ((r2.mono p3).mono p4) r4 (h5.seq fun z s5 am5 H5 v5 p5 m5 r5 h6 => ?_)
        cases z with
        | bl b => exact ⟨b, r5, h6.ok0 m5 rfl⟩
        | _ => exact h6.elim
      | false => exact ⟨false, rfl, h4.ok0 m3 rfl⟩
    | _ => exact h4.elim
end
end Y

/-! Y3: the operators and built-in functions do what the plain ones say. -/
namespace Y
open PySem L2
section
variable {X : Cx} {t : Tb}
theorem Op2.or {r r' : R2} {o o' : P2} (c : D → D → S → Bool) (h : Op2 t r o) (h' : Op2 t r' o') : Op2 t (fun x y H Q => r x y H Q ∨ r' x y H Q) (fun x y s => if c x y s = true then o x y s else o' x y s) :=
  fun am s H d1 d2 v1 v2 Ex Q m r1 r2 q => by
    by_cases e : c d1 d2 s = true
    · simp only [e, if_true] at q
      exact .inl (h am s H d1 d2 v1 v2 Ex Q m r1 r2 q)
    · simp only [e, if_false] at q
      exact .inr (h' am s H d1 d2 v1 v2 Ex Q m r1 r2 q)
theorem Rep.intE {am : List Addr} {H : Hp} {i : Int} {v : V} (h : Rep t am H (.int i) v) : v = .int i := h
theorem Rep.blE {am : List Addr} {H : Hp} {i : Bool} {v : V} (h : Rep t am H (.bl i) v) : v = .bl i := h
theorem Rep.strE {am : List Addr} {H : Hp} {i : Str} {v : V} (h : Rep t am H (.str i) v) : v = .str i := h
theorem Rep.tupE {am : List Addr} {H : Hp} {ds : List D} {v : V} (h : Rep t am H (.tup ds) v) : ∃ a vs, v = .ref a ∧ SqT t.K H a vs ∧ Reps t am H ds vs := let ⟨a, vs, e, h1, h2⟩ := h; ⟨a, vs, e, .of h1, h2⟩
theorem Rep.tupH {am : List Addr} {H : Hp} {ds : List D} {v : V} (h : Rep t am H (.tup ds) v) : ∃ a vs, v = .ref a ∧ H a = some (.tup vs) ∧ Reps t am H ds vs := h
theorem Rep.frlE {am : List Addr} {H : Hp} {ds : List D} {v : V} (h : Rep t am H (.frl ds) v) : ∃ a vs, v = .ref a ∧ FrL t.K H a vs ∧ Reps t am H ds vs := h
theorem Rep.refE {am : List Addr} {H : Hp} {n : Nat} {v : V} (h : Rep t am H (.ref n) v) : ∃ a, v = .ref a ∧ am[n]? = some a := h
/-- what stands at a place of the store -/
theorem Ms.at {am : List Addr} {s : S} {H : Hp} (m : Ms t am s H) {n : Nat} {a : Addr} {o : O} (e : s[n]? = some o) (h : am[n]? = some a) : OM t am H o a := by
  obtain ⟨a', h1, h2⟩ := m.ob n o e
  rw [h] at h1; cases h1
  exact h2
theorem Ms.lst {am : List Addr} {s : S} {H : Hp} (m : Ms t am s H) {n : Nat} {a : Addr} {ds : List D} (e : s[n]? = some (.lst ds)) (h : am[n]? = some a) : ∃ vs, H a = some (.lst vs) ∧ Reps t am H ds vs := m.at e h
/-- a new list -/
theorem new_list {am : List Addr} {s : S} {H : Hp} {Ex : XK} {Q : VK} {ds : List D} {vs : List V} (m : Ms t am s H) (h : RQ t am H (.ok (.ref s.length) (s ++ [.lst ds])) (Rep t) Ex Q) (r : Reps t am H ds vs) : ∀ p, H p = none → Q (.ref p) (L2.upd H p (.lst vs)) := fun p hp =>
  h.ok (.new hp) (m.new hp ⟨vs, upd_same, r.mono (.new hp)⟩) ⟨p, rfl, by rw [← m.len]; simp⟩
theorem new_tup {am : List Addr} {s : S} {H : Hp} {Ex : XK} {Q : VK} {ds : List D} {vs : List V} (m : Ms t am s H) (h : RQ t am H (.ok (.tup ds) s) (Rep t) Ex Q) (r : Reps t am H ds vs) : ∀ p, H p = none → Q (.ref p) (L2.upd H p (.tup vs)) := fun p hp =>
  h.ok (.upd hp) (m.upd hp) ⟨p, vs, rfl, upd_same, r.mono (.upd hp)⟩

/-! ### + -/
def rAdd4 (K : PySem.W.Frag) : R2 := fun x y H Q => rI0 (fun i j => .int (i + j)) x y H Q ∨ (∃ i j, x = .str i ∧ y = .str j ∧ i.length + j.length ≤ sizeLine ∧ Q (.str (i ++ j)) H) ∨ rCatA K x y H Q ∨ rCat x y H Q
theorem op_add4 : OpR X (binaryOp .Add) (rAdd4 X.K) := op_add.or (op_add_str.or (op_catA.or op_cat))
theorem o_add : Op2 t (rAdd4 t.K) oAdd := fun am s H d1 d2 v1 v2 Ex Q m r1 r2 q => by
  unfold oAdd at q
  split at q
  · cases r1.intE; cases r2.intE
    exact .inl ⟨_, _, rfl, rfl, q.ok0 m rfl⟩
  · cases r1.strE; cases r2.strE
    rename_i a b
    by_cases hl : a.length + b.length ≤ LINE
    · rw [if_pos hl] at q
      exact .inr (.inl ⟨_, _, rfl, rfl, line_le hl, q.ok0 m rfl⟩)
    · rw [if_neg hl] at q; exact q.elim
  · rename_i xs ys
    obtain ⟨a, vs, rfl, h1, h2⟩ := r1.tupH
    obtain ⟨b, ws, rfl, h3, h4⟩ := r2.tupH
    by_cases hl : xs.length + ys.length ≤ LINE
    · rw [if_pos hl] at q
      refine .inr (.inr (.inl ⟨a, b, vs, ws, rfl, rfl, .of h1, .of h3, by rw [← h2.length, ← h4.length]; exact line_le hl, fun e => ?_, fun _ e => ?_, fun _ _ => new_tup m q (h2.append h4)⟩))
      · rw [h2.nil_iff.mpr e, List.nil_append] at q
        exact q.ok0 m ⟨b, ws, rfl, h3, h4⟩
      · rw [h4.nil_iff.mpr e, List.append_nil] at q
        exact q.ok0 m ⟨a, vs, rfl, h1, h2⟩
    · rw [if_neg hl] at q; exact q.elim
  · obtain ⟨a, rfl, ha⟩ := r1.refE
    obtain ⟨b, rfl, hb⟩ := r2.refE
    split at q
    · rename_i xs ys e1 e2
      obtain ⟨vs, h1, h2⟩ := m.lst e1 ha
      obtain ⟨ws, h3, h4⟩ := m.lst e2 hb
      by_cases hl : xs.length + ys.length ≤ LINE
      · rw [if_pos hl] at q
        exact .inr (.inr (.inr ⟨a, b, vs, ws, rfl, rfl, h1, h3, by rw [← h2.length, ← h4.length]; exact line_le hl, new_list m q (h2.append h4)⟩))
      · rw [if_neg hl] at q; exact q.elim
    · exact q.elim
  · exact q.elim
theorem o_sub : Op2 t (rI0 fun i j => .int (i - j)) oSub := fun am s H d1 d2 v1 v2 Ex Q m r1 r2 q => by
  unfold oSub at q
  split at q
  · cases r1.intE; cases r2.intE
    exact ⟨_, _, rfl, rfl, q.ok0 m rfl⟩
  · exact q.elim

/-! ### *, //, %, ** -/
theorem natAbs_lt {i : Int} (h : i.natAbs < 18446744073709551616) : -(2 ^ 64) < i ∧ i < 2 ^ 64 := by omega
def rMul2 : R2 := fun x y H Q => (rI CMul fun i j => .int (i * j)) x y H Q ∨ (rI CMulW fun i j => .int (i * j)) x y H Q ∨ rRep x y H Q
theorem op_mul2 : OpR X (binaryOp .Mult) rMul2 := op_mul.or (op_mulW.or op_rep)
theorem Reps.rep {am : List Addr} {H : Hp} {ds : List D} {vs : List V} (h : Reps t am H ds vs) : ∀ k : Nat, Reps t am H (List.replicate k ds).flatten (List.replicate k vs).flatten
  | 0 => by simp [Reps]
  | k + 1 => by
    rw [List.replicate_succ, List.replicate_succ, List.flatten_cons, List.flatten_cons]
    exact h.append (Reps.rep h k)
theorem o_mul : Op2 t rMul2 oMul := fun am s H d1 d2 v1 v2 Ex Q m r1 r2 q => by
  unfold oMul at q
  split at q
  · rename_i i j
    cases r1.intE; cases r2.intE
    by_cases hm : mulOk i j = true
    · rw [if_pos hm] at q
      unfold mulOk at hm
      simp only [Bool.or_eq_true, decide_eq_true_eq] at hm
      rcases hm with (h | h) | h
      · exact .inl ⟨_, _, rfl, rfl, .inl (natAbs_lt h), q.ok0 m rfl⟩
      · exact .inl ⟨_, _, rfl, rfl, .inr (natAbs_lt h), q.ok0 m rfl⟩
      · exact .inr (.inl ⟨_, _, rfl, rfl, h, q.ok0 m rfl⟩)
    · rw [if_neg hm] at q; exact q.elim
  · rename_i a k
    obtain ⟨a, rfl, ha⟩ := r1.refE
    cases r2.intE
    split at q
    · rename_i xs e1
      obtain ⟨vs, h1, h2⟩ := m.lst e1 ha
      by_cases hl : k.natAbs < 1000000000 ∧ xs.length * k.toNat ≤ LINE
      · rw [if_pos hl] at q
        exact .inr (.inr ⟨a, k, vs, rfl, rfl, h1, by omega, by omega, by rw [← h2.length]; exact line_le hl.2, new_list m q (h2.rep _)⟩)
      · rw [if_neg hl] at q; exact q.elim
    · exact q.elim
  · exact q.elim
def CDivG (i j : Int) : Prop := j ≠ 0 ∧ j.natAbs.log2 < 9000
theorem op_divG : OpR X (binaryOp .FloorDiv) (rI CDivG fun i j => .int (pdiv i j)) := opI fun i j _ _ _ _ _ hc q => by
  refine PyProof.Rows.floordiv_int hc.1 ?_ (.inl (PyProof.noPylong_of_log2 hc.2))
  unfold pdiv at q
  by_cases h : 0 < j
  · rw [if_pos h] at q
    rw [Int.fdiv_eq_ediv_of_nonneg i (by omega)]; exact q
  · rw [if_neg h] at q; exact q
theorem op_modG : OpR X (binaryOp .Mod) (rI (fun _ j => j ≠ 0) fun i j => .int (pmod i j)) := opI fun i j _ _ _ _ _ hc q => by
  refine PyProof.Rows.mod_int' hc ?_
  unfold pmod at q
  by_cases h : 0 < j
  · rw [if_pos h] at q
    rw [Int.fmod_eq_emod_of_nonneg i (by omega)]; exact q
  · rw [if_neg h] at q; exact q
theorem o_div : Op2 t (rI CDivG fun i j => .int (pdiv i j)) oDiv := fun am s H d1 d2 v1 v2 Ex Q m r1 r2 q => by
  unfold oDiv at q
  split at q
  · rename_i i j
    cases r1.intE; cases r2.intE
    by_cases hm : j ≠ 0 ∧ j.natAbs.log2 < 9000
    · rw [if_pos hm] at q
      exact ⟨_, _, rfl, rfl, hm, q.ok0 m rfl⟩
    · rw [if_neg hm] at q; exact q.elim
  · exact q.elim
theorem o_mod : Op2 t (rI (fun _ j => j ≠ 0) fun i j => .int (pmod i j)) oMod := fun am s H d1 d2 v1 v2 Ex Q m r1 r2 q => by
  unfold oMod at q
  split at q
  · rename_i i j
    cases r1.intE; cases r2.intE
    by_cases hm : j ≠ 0
    · rw [if_pos hm] at q
      exact ⟨_, _, rfl, rfl, hm, q.ok0 m rfl⟩
    · rw [if_neg hm] at q; exact q.elim
  · exact q.elim
theorem o_pow : Op2 t (rI CPow fun i j => .int (i ^ j.toNat)) oPow := fun am s H d1 d2 v1 v2 Ex Q m r1 r2 q => by
  unfold oPow at q
  split at q
  · rename_i i j
    cases r1.intE; cases r2.intE
    by_cases hm : 0 ≤ j ∧ j ≤ 1000000 ∧ i.natAbs < 18446744073709551616
    · rw [if_pos hm] at q
      exact ⟨_, _, rfl, rfl, ⟨hm.1, hm.2.1, hm.2.2⟩, q.ok0 m rfl⟩
    · rw [if_neg hm] at q; exact q.elim
  · exact q.elim
theorem o_neg : Op1 t (rU fun i => .int (-i)) oNeg := fun am s H d v Ex Q m r q => by
  unfold oNeg at q
  split at q
  · cases r.intE
    exact ⟨_, rfl, q.ok0 m rfl⟩
  · exact q.elim

/-! ### comparisons -/
theorem o_lt : Op2 t (rI0 fun i j => .bl (decide (i < j))) oLt := fun am s H d1 d2 v1 v2 Ex Q m r1 r2 q => by
  unfold oLt at q
  split at q
  · cases r1.intE; cases r2.intE
    exact ⟨_, _, rfl, rfl, q.ok0 m rfl⟩
  · exact q.elim
theorem o_le : Op2 t (rI0 fun i j => .bl (decide (i ≤ j))) oLe := fun am s H d1 d2 v1 v2 Ex Q m r1 r2 q => by
  unfold oLe at q
  split at q
  · cases r1.intE; cases r2.intE
    exact ⟨_, _, rfl, rfl, q.ok0 m rfl⟩
  · exact q.elim
theorem o_gt : Op2 t (rI0 fun i j => .bl (decide (j < i))) oGt := fun am s H d1 d2 v1 v2 Ex Q m r1 r2 q => by
  unfold oGt at q
  split at q
  · cases r1.intE; cases r2.intE
    exact ⟨_, _, rfl, rfl, q.ok0 m rfl⟩
  · exact q.elim
theorem o_ge : Op2 t (rI0 fun i j => .bl (decide (j ≤ i))) oGe := fun am s H d1 d2 v1 v2 Ex Q m r1 r2 q => by
  unfold oGe at q
  split at q
  · cases r1.intE; cases r2.intE
    exact ⟨_, _, rfl, rfl, q.ok0 m rfl⟩
  · exact q.elim
theorem mapO_dp {am : List Addr} {s : S} {H : Hp} {f : D → Option PyData} (hf : ∀ d p v, f d = some p → Rep t am H d v → Dp t.K H v p) : ∀ (ds : List D) (ps : List PyData) (vs : List V), mapO f ds = some ps → Reps t am H ds vs → DpAll t.K H vs ps
  | [], ps, vs, h, r => by
    have e : vs = [] := r
    subst e
    cases h
    exact .nil
  | d :: ds, ps, vs, h, r => by
    obtain ⟨v, w, e, r1, r2⟩ := r
    subst e
    unfold mapO at h
    split at h
    · rename_i p qs e1 e2
      cases h
      exact .cons (hf _ _ _ e1 r1) (mapO_dp (s := s) hf ds qs w e2 r2)
    · cases h
theorem py_dp {am : List Addr} {s : S} {H : Hp} (m : Ms t am s H) : ∀ (k : Nat) (d : D) (p : PyData) (v : V), D.py s k d = some p → Rep t am H d v → Dp t.K H v p
  | 0, d, p, v, h, r => by
    unfold D.py at h
    cases d <;> first | (cases h; cases r; constructor) | (cases h)
  | k + 1, d, p, v, h, r => by
    unfold D.py at h
    cases d with
    | undef => cases h
    | fn i => cases h
    | non => cases h; cases r; constructor
    | bl b => cases h; cases r; constructor
    | int i => cases h; cases r; constructor
    | str x => cases h; cases r; constructor
    | tup xs =>
      obtain ⟨a, vs, rfl, h1, h2⟩ := r.tupE
      simp only [Option.map_eq_some_iff] at h
      obtain ⟨ps, e, rfl⟩ := h
      exact .tup h1 (mapO_dp (s := s) (fun d p v => py_dp m k d p v) xs ps vs e h2)
    | frl xs =>
      obtain ⟨a, vs, rfl, h1, h2⟩ := r.frlE
      simp only [Option.map_eq_some_iff] at h
      obtain ⟨ps, e, rfl⟩ := h
      exact .lst h1.sq (mapO_dp (s := s) (fun d p v => py_dp m k d p v) xs ps vs e h2)
    | ref n =>
      obtain ⟨a, rfl, ha⟩ := r.refE
      simp only at h
      split at h
      · rename_i xs e1
        obtain ⟨vs, h1, h2⟩ := m.lst e1 ha
        simp only [Option.map_eq_some_iff] at h
        obtain ⟨ps, e, rfl⟩ := h
        exact .lst (.of h1) (mapO_dp (s := s) (fun d p v => py_dp m k d p v) xs ps vs e h2)
      · cases h
theorem eqD_dp {am : List Addr} {s : S} {H : Hp} (m : Ms t am s H) {d1 d2 : D} {v1 v2 : V} {b : Bool} (h : eqD d1 d2 s = some b) (r1 : Rep t am H d1 v1) (r2 : Rep t am H d2 v2) :
    ∃ d e, Dp t.K H v1 d ∧ Dp t.K H v2 e ∧ SeqAt.shaped d = true ∧ SeqAt.shaped e = true ∧ PyData.eqv d e = b := by
  unfold eqD at h
  split at h
  · rename_i p q e1 e2
    split at h
    · rename_i hs
      cases h
      exact ⟨p, q, py_dp m _ _ _ _ e1 r1, py_dp m _ _ _ _ e2 r2, hs.1, hs.2, rfl⟩
    · cases h
  · cases h
theorem o_eq : Op2 t (rEqD t.K) oEq := fun am s H d1 d2 v1 v2 Ex Q m r1 r2 q => by
  unfold oEq at q
  split at q
  · rename_i b e
    obtain ⟨d, e', h1, h2, h3, h4, rfl⟩ := eqD_dp m e r1 r2
    exact ⟨d, e', h1, h2, h3, h4, q.ok0 m rfl⟩
  · exact q.elim
theorem o_ne : Op2 t (rNeD t.K) oNe := fun am s H d1 d2 v1 v2 Ex Q m r1 r2 q => by
  unfold oNe at q
  split at q
  · rename_i b e
    obtain ⟨d, e', h1, h2, h3, h4, rfl⟩ := eqD_dp m e r1 r2
    exact ⟨d, e', h1, h2, h3, h4, q.ok0 m rfl⟩
  · exact q.elim
theorem o_isB : Op2 t rIsB oIsB := fun am s H d1 d2 v1 v2 Ex Q m r1 r2 q => by
  unfold oIsB at q
  split at q
  · cases r1.blE; cases r2.blE
    exact ⟨_, _, rfl, rfl, q.ok0 m rfl⟩
  · exact q.elim
/-- is None -/
theorem rep_non {am : List Addr} {H : Hp} {d : D} {v : V} (r : Rep t am H d v) : decide (v = V.non) = (match d with | .non => true | _ => false) := by
  cases d with
  | undef => exact r.elim
  | non => cases (show v = V.non from r); rfl
  | bl b => cases r.blE; rfl
  | int b => cases r.intE; rfl
  | str b => cases r.strE; rfl
  | tup ds => obtain ⟨a, vs, rfl, _⟩ := r.tupE; rfl
  | frl ds => obtain ⟨a, vs, rfl, _⟩ := r.frlE; rfl
  | ref n => obtain ⟨a, rfl, _⟩ := r.refE; rfl
  | fn n => obtain ⟨a, rfl, _⟩ := r; rfl
end
section
variable {X : Cx} {t : Tb} {W : XW} {a b : Expr} {ma mb : E} {pos : Pos}
theorem s_isN {j pos'} (ha : SE X t W a ma) : SE X t W (.Compare a [.Is] [.Constant .none j pos'] pos) (e1 oIsN ma) :=
  (pe_cmpR op_isN ha pe_non (nomark _)).imp fun σ H Q ⟨am, r, s, en, mm, h⟩ => tyE.of en mm h fun d1 s1 am1 H1 v1 en1 m1 p1 r1 h1 => by
    refine ⟨rfl, ?_⟩
    rw [rep_non r1]
    cases d1 <;> first | exact h1.elim | exact h1.ok0 m1 rfl
theorem s_notN {j pos'} (ha : SE X t W a ma) : SE X t W (.Compare a [.IsNot] [.Constant .none j pos'] pos) (e1 oNotN ma) :=
  (pe_cmpR op_notN ha pe_non (nomark _)).imp fun σ H Q ⟨am, r, s, en, mm, h⟩ => tyE.of en mm h fun d1 s1 am1 H1 v1 en1 m1 p1 r1 h1 => by
    refine ⟨rfl, ?_⟩
    rw [rep_non r1]
    cases d1 <;> first | exact h1.elim | exact h1.ok0 m1 rfl
theorem s_isB {e : Expr} {m : E} (ha : SE X t W a ma) (hb : SE X t W e m) : SE X t W (.Compare a [.Is] [e] pos) (e2 oIsB ma m) := s_cmp op_isBl o_isB ha hb (nomark _)
end

/-! ### places -/
section
variable {X : Cx} {t : Tb}
theorem seqX_of {am : List Addr} {s : S} {H : Hp} (m : Ms t am s H) {d : D} {v : V} {xs : List D} (r : Rep t am H d v) (h : seqX d s = some xs) : ∃ a vs, v = .ref a ∧ Reps t am H xs vs ∧ (SqL t.K H a vs ∨ SqT t.K H a vs) := by
  unfold seqX at h
  split at h
  · cases h
    obtain ⟨a, vs, e, h1, h2⟩ := r.tupE
    exact ⟨a, vs, e, h2, .inr h1⟩
  · unfold seqL at h
    split at h
    · split at h
      · cases h
        rename_i e1
        obtain ⟨a, e, ha⟩ := r.refE
        obtain ⟨vs, h1, h2⟩ := m.lst e1 ha
        exact ⟨a, vs, e, h2, .inl (.of h1)⟩
      · cases h
    · cases h
      obtain ⟨a, vs, e, h1, h2⟩ := r.frlE
      exact ⟨a, vs, e, h2, .inl h1.sq⟩
    · cases h
theorem seqL_of {am : List Addr} {s : S} {H : Hp} (m : Ms t am s H) {d : D} {v : V} {xs : List D} (r : Rep t am H d v) (h : seqL d s = some xs) : ∃ a vs, v = .ref a ∧ Reps t am H xs vs ∧ SqL t.K H a vs := by
  unfold seqL at h
  split at h
  · split at h
    · cases h
      rename_i e1
      obtain ⟨a, e, ha⟩ := r.refE
      obtain ⟨vs, h1, h2⟩ := m.lst e1 ha
      exact ⟨a, vs, e, h2, .of h1⟩
    · cases h
  · cases h
    obtain ⟨a, vs, e, h1, h2⟩ := r.frlE
    exact ⟨a, vs, e, h2, h1.sq⟩
  · cases h
theorem atD_at {am : List Addr} {H : Hp} {xs : List D} {vs : List V} {i : Int} {d : D} (r : Reps t am H xs vs) (h : atD xs i = some d) : ∃ v, atI vs i = some v ∧ Rep t am H d v := by
  unfold atD at h
  have hl := r.length
  unfold atI L2.ixN
  by_cases h0 : 0 ≤ i
  · rw [if_pos h0] at h ⊢
    by_cases h1 : i < xs.length
    · rw [if_pos h1] at h
      rw [if_pos (by rw [← hl]; exact h1)]
      exact r.get h
    · rw [if_neg h1] at h; cases h
  · rw [if_neg h0] at h ⊢
    by_cases h1 : -(xs.length : Int) ≤ i
    · rw [if_pos h1] at h
      rw [if_pos (by rw [← hl]; exact h1), ← hl]
      exact r.get h
    · rw [if_neg h1] at h; cases h
def rIx2 (K : PySem.W.Frag) : R2 := fun x y H Q => rIxL K x y H Q ∨ rIxT K x y H Q
theorem ix_2 : IxR X (rIx2 X.K) := ix_list.or ix_tup
theorem o_ix : Op2 t (rIx2 t.K) oIx := fun am s H d1 d2 v1 v2 Ex Q m r1 r2 q => by
  unfold oIx at q
  split at q
  · cases r2.intE
    split at q
    · rename_i xs e
      split at q
      · rename_i d e2
        obtain ⟨a, vs, rfl, rv, h | h⟩ := seqX_of m r1 e
        · obtain ⟨v, h1, h2⟩ := atD_at rv e2
          exact .inl ⟨a, vs, _, v, rfl, rfl, h, h1, q.ok0 m h2⟩
        · obtain ⟨v, h1, h2⟩ := atD_at rv e2
          exact .inr ⟨a, vs, _, v, rfl, rfl, h, h1, q.ok0 m h2⟩
      · exact q.elim
    · exact q.elim
  · exact q.elim
theorem cutIx_eq (n d : Nat) (o : Option Int) : cutIx n d o = HT.sIx n d o := by cases o <;> rfl
theorem Reps.cut {am : List Addr} {H : Hp} {xs : List D} {vs : List V} (r : Reps t am H xs vs) (lo hi : Option Int) : Reps t am H (cutD xs lo hi) (cutV vs lo hi) := by
  unfold cutD cutV
  rw [cutIx_eq, cutIx_eq, r.length]
  exact (r.drop _).take _
end
section
variable {X : Cx} {t : Tb} {W : XW} {e : Expr} {m : E} {pos p2 : Pos}
def SPt (X : Cx) (t : Tb) (W : XW) (e : Option Expr) (p : Part) : Prop := match e, p with
  | none, .no => True
  | some e, .at m => SE X t W e m
  | _, _ => False
def tyO (t : Tb) (W : XW) (p : Part) : TO := fun σ H Q => ∃ am r s, EnvR t am H r σ ∧ Ms t am s H ∧ RQ t am H (p.run r s) (fun _ _ a b => a = b) (W σ) Q
theorem po_of {lo : Option Expr} {p : Part} (h : SPt X t W lo p) : PO X lo (tyO t W p) := by
  cases lo with
  | none =>
    cases p with
    | no => exact ⟨fun pins s σ H Q I ⟨am, r, s', en, mm, q⟩ => po_none.run pins s σ H Q I (q.ok0 mm rfl)⟩
    | «at» m => exact h.elim
  | some e =>
    cases p with
    | no => exact h.elim
    | «at» m =>
      refine ⟨fun pins s σ H Q I ⟨am, r, s', en, mm, q⟩ => (po_some (X := X) (e := e) (te := tyE t W m) h).run pins s σ H Q I ?_⟩
      refine tyE.of en mm q fun d s1 am1 H1 v en1 m1 p1 r1 h1 => ?_
      cases d with
      | int i => exact ⟨i, r1, h1.ok0 m1 rfl⟩
      | _ => exact h1.elim
theorem tyO.of {p : Part} {σ : L2.St} {H : Hp} {am : List Addr} {r : Env} {s : S} {α β : Type} {f : Option Int → S → Rs α} {rep : List Addr → Hp → α → β → Prop} {Q : β → Hp → Prop} {K : Option Int → Hp → Prop} (en : EnvR t am H r σ) (mm : Ms t am s H)
    (h : RQ t am H ((p.run r s).bind f) rep (W σ) Q)
    (hk : ∀ d s1 am1 H1, EnvR t am1 H1 r σ → Ms t am1 s1 H1 → Post am H am1 H1 → RQ t am1 H1 (f d s1) rep (W σ) Q → K d H1) : tyO t W p σ H K :=
  ⟨am, r, s, en, mm, h.seq fun d s1 am1 H1 v p m1 rp h1 => by cases rp; exact hk d s1 am1 H1 (en.mono p) m1 p h1⟩
def rSl2 (K : PySem.W.Frag) : V → Option Int → Option Int → Hp → VK → Prop := fun x lo hi H Q => rSlA K x lo hi H Q ∨ rSlL K x lo hi H Q
theorem sl_2 : SlR X (rSl2 X.K) := sl_tupA.or sl_list
theorem s_cut {lo hi : Option Expr} {pl ph : Part} (hK : X.K = t.K) (he : SE X t W e m) (hl : SPt X t W lo pl) (hh : SPt X t W hi ph) : SE X t W (.Subscript e (.Slice lo hi none p2) pos) (eCut m pl ph) :=
  (pe_slice sl_2 he (po_of hl) (po_of hh)).imp fun σ H Q ⟨am, r, s, en, mm, h⟩ => tyE.of en mm h fun d1 s1 am1 H1 v1 en1 m1 p1 r1 h1 => tyO.of en1 m1 h1 fun l s2 am2 H2 en2 m2 p2 h2 => tyO.of en2 m2 h2 fun u s3 am3 H3 en3 m3 p3 h3 => by
    have r3 := (r1.mono p2).mono p3
    unfold rSl2
    rw [hK]
    split at h3
    · rename_i xs
      obtain ⟨a, vs, rfl, h4, h5⟩ := r3.tupH
      refine .inl ⟨a, vs, rfl, .of h4, fun hw => ?_, fun hw => new_tup m3 h3 (h5.cut l u)⟩
      have e : cutD xs l u = xs := by
        unfold cutD
        rw [cutIx_eq, cutIx_eq, h5.length, hw.1, hw.2, List.drop_zero, Nat.sub_zero, ← h5.length, List.take_length]
      rw [e] at h3
      exact h3.ok0 m3 ⟨a, vs, rfl, h4, h5⟩
    · split at h3
      · rename_i xs e
        obtain ⟨a, vs, rfl, rv, hs⟩ := seqL_of m3 r3 e
        exact .inr ⟨a, vs, rfl, hs, new_list m3 h3 (rv.cut l u)⟩
      · exact h3.elim
end
end Y

/-! Y4: statements, loops, comprehensions. -/
namespace Y
open PySem L2

/-- what is wanted of a statement's end -/
def FQ (t : Tb) (am : List Addr) (H : Hp) (x : F) (W : XW) (Dn : Ends) : Prop := match x with
  | .nx r s => ∀ am' H' σ', Post am H am' H' → Ms t am' s H' → EnvR t am' H' r σ' → Dn.nx σ' H'
  | .rt d s => ∀ am' H' v, Post am H am' H' → Ms t am' s H' → Rep t am' H' d v → Dn.rt v H'
  | .bk r s => ∀ am' H' σ', Post am H am' H' → Ms t am' s H' → EnvR t am' H' r σ' → Dn.bk σ' H'
  | .ct r s => ∀ am' H' σ', Post am H am' H' → Ms t am' s H' → EnvR t am' H' r σ' → Dn.ct σ' H'
  | .exc c fs r s => ∀ am' H' σ' cls dd, Post am H am' H' → Ms t am' s H' → EnvR t am' H' r σ' → XRep t c fs am' H' cls dd → W σ' cls dd H'
  | .stk => False
def tyS (t : Tb) (W : XW) (m : Sm) : TS := fun Dn σ H => ∃ am r s, EnvR t am H r σ ∧ Ms t am s H ∧ FQ t am H (m r s) W Dn
def SS (X : Cx) (t : Tb) (W : XW) (st : Stmt) (m : Sm) : Prop := PS X st (tyS t W m)
def SSs (X : Cx) (t : Tb) (W : XW) (st : List Stmt) (m : Sm) : Prop := PSs X st (tyS t W m)

section
variable {t : Tb} {am am1 : List Addr} {H H1 : Hp} {s : S} {W : XW} {Dn : Ends} {σ : L2.St} {r : Env}
theorem FQ.re {x : F} (h : FQ t am H x W Dn) (p : Post am H am1 H1) : FQ t am1 H1 x W Dn := by
  cases x with
  | nx r s => exact fun am' H' σ' q m e => h am' H' σ' (p.trans q) m e
  | rt d s => exact fun am' H' v q m e => h am' H' v (p.trans q) m e
  | bk r s => exact fun am' H' σ' q m e => h am' H' σ' (p.trans q) m e
  | ct r s => exact fun am' H' σ' q m e => h am' H' σ' (p.trans q) m e
  | exc c fs r s => exact fun am' H' σ' cls dd q m e z => h am' H' σ' cls dd (p.trans q) m e z
  | stk => exact h
theorem FQ.imp {x : F} {Dm : Ends} (h : FQ t am H x W Dn) (h1 : ∀ r s, x = .nx r s → ∀ am' H' σ', Post am H am' H' → Ms t am' s H' → EnvR t am' H' r σ' → Dn.nx σ' H' → Dm.nx σ' H') (h2 : ∀ d s, x = .rt d s → ∀ v H', Dn.rt v H' → Dm.rt v H')
    (h3 : ∀ r s, x = .bk r s → ∀ am' H' σ', Post am H am' H' → Ms t am' s H' → EnvR t am' H' r σ' → Dn.bk σ' H' → Dm.bk σ' H') (h4 : ∀ r s, x = .ct r s → ∀ am' H' σ', Post am H am' H' → Ms t am' s H' → EnvR t am' H' r σ' → Dn.ct σ' H' → Dm.ct σ' H') : FQ t am H x W Dm := by
  cases x with
  | nx r s => exact fun am' H' σ' q m e => h1 r s rfl am' H' σ' q m e (h am' H' σ' q m e)
  | rt d s => exact fun am' H' v q m e => h2 d s rfl v H' (h am' H' v q m e)
  | bk r s => exact fun am' H' σ' q m e => h3 r s rfl am' H' σ' q m e (h am' H' σ' q m e)
  | ct r s => exact fun am' H' σ' q m e => h4 r s rfl am' H' σ' q m e (h am' H' σ' q m e)
  | exc c fs r s => exact h
  | stk => exact h
/-- an expression ahead of a statement's rest -/
theorem FQ.seq {α β : Type} {x : Rs α} {f : α → S → F} {rep : List Addr → Hp → α → β → Prop} {K : β → Hp → Prop} (en : EnvR t am H r σ) (h : FQ t am H (x.then r f) W Dn)
    (hk : ∀ a s1 am1 H1 b, Post am H am1 H1 → EnvR t am1 H1 r σ → Ms t am1 s1 H1 → rep am1 H1 a b → FQ t am1 H1 (f a s1) W Dn → K b H1) : RQ t am H x rep (W σ) K := by
  cases x with
  | ok a s' => exact fun am' H' b q m z => hk a s' am' H' b q (en.mono q) m z (FQ.re (Rs.then_ok a s' r f ▸ h) q)
  | exc c fs s' => exact fun am' H' cls dd q m z => h am' H' σ cls dd q m (en.mono q) z
  | stk => exact h
theorem FQ.nx0 (h : FQ t am H (.nx r s) W Dn) (m : Ms t am s H) (e : EnvR t am H r σ) : Dn.nx σ H := h am H σ .refl m e
end
section
variable {X : Cx} {t : Tb} {W : XW} {st : Stmt} {rest body body2 : List Stmt} {e : Expr} {m : E} {a b : Sm} {pos : Pos} {mt : T}
theorem _root_.L2.PS.imp {u u' : TS} (h : PS X st u) (f : ∀ D σ H, u' D σ H → u D σ H) : PS X st u' := ⟨fun pins s σ H D I q => h.run pins s σ H D I (f D σ H q)⟩
theorem _root_.L2.PSs.imp {u u' : TS} (h : PSs X rest u) (f : ∀ D σ H, u' D σ H → u D σ H) : PSs X rest u' := ⟨fun pins s σ H D I q => h.run pins s σ H D I (f D σ H q)⟩
theorem z_nil : SSs X t W [] zNil := pss_nil.imp fun D σ H ⟨am, r, s, en, mm, h⟩ => h.nx0 mm en
theorem z_cons (h1 : SS X t W st a) (h2 : SSs X t W rest b) : SSs X t W (st :: rest) (zCons a b) :=
  (pss_cons h1 h2).imp fun D σ H ⟨am, r, s, en, mm, h⟩ => by
    refine ⟨am, r, s, en, mm, ?_⟩
    have h : FQ t am H ((a r s).andThen b) W D := h
    cases hx : a r s with
    | nx r1 s1 => rw [hx] at h; exact fun am' H' σ' q m z => ⟨am', r1, s1, z, m, FQ.re h q⟩
    | rt d s1 => rw [hx] at h; exact h
    | bk r1 s1 => rw [hx] at h; exact h
    | ct r1 s1 => rw [hx] at h; exact h
    | exc c fs r1 s1 => rw [hx] at h; exact h
    | stk => rw [hx] at h; exact h
theorem z_one (h1 : SS X t W st a) : SSs X t W [st] a := pss_one h1
theorem z_pass : SS X t W (.Pass pos) zPass := ps_pass.imp fun D σ H ⟨am, r, s, en, mm, h⟩ => h.nx0 mm en
theorem z_brk : SS X t W (.Break pos) zBrk := ps_break.imp fun D σ H ⟨am, r, s, en, mm, h⟩ => h am H σ .refl mm en
theorem z_cnt : SS X t W (.Continue pos) zCnt := ps_continue.imp fun D σ H ⟨am, r, s, en, mm, h⟩ => h am H σ .refl mm en
theorem z_expr (he : SE X t W e m) (hs : swapsWith e none pos.line X.env = pure false := by rfl) : SS X t W (.Expr e pos) (zEx m) :=
  (ps_expr he hs).imp fun D σ H ⟨am, r, s, en, mm, h⟩ => ⟨am, r, s, en, mm, FQ.seq en h fun d s1 am1 H1 v p1 en1 m1 r1 h1 => h1.nx0 m1 en1⟩
theorem z_ret (he : SE X t W e m) : SS X t W (.Return (some e) pos) (zRet m) :=
  (ps_ret he).imp fun D σ H ⟨am, r, s, en, mm, h⟩ => ⟨am, r, s, en, mm, FQ.seq en h fun d s1 am1 H1 v p1 en1 m1 r1 h1 => h1 am1 H1 v .refl m1 r1⟩
theorem z_retN : SS X t W (.Return none pos) zRetN := ps_retN.imp fun D σ H ⟨am, r, s, en, mm, h⟩ => h am H .non .refl mm rfl
theorem z_if {c : Expr} (hc : ST X t W c mt) (ha : SSs X t W body a) (hb : SSs X t W body2 b) : SS X t W (.If c body body2 pos) (zIf mt a b) :=
  (ps_if hc ha hb).imp fun D σ H ⟨am, r, s, en, mm, h⟩ => ⟨am, r, s, en, mm, FQ.seq en h fun c s1 am1 H1 v p1 en1 m1 r1 h1 => by
    cases r1
    cases c with
    | true => exact ⟨am1, r, s1, en1, m1, h1⟩
    | false => exact ⟨am1, r, s1, en1, m1, h1⟩⟩

/-! ### targets -/
def tyG (t : Tb) (g : Tg) : TG := fun v σ H Q => ∃ am r s d, EnvR t am H r σ ∧ Ms t am s H ∧ Rep t am H d v ∧ ∃ r2 s2, g d r s = some (r2, s2) ∧ ∀ am' H' σ', Post am H am' H' → Ms t am' s2 H' → EnvR t am' H' r2 σ' → Q σ' H'
def tyGs (t : Tb) (g : List D → Env → S → Option (Env × S)) : TGs := fun vs σ H Q => ∃ am r s ds, EnvR t am H r σ ∧ Ms t am s H ∧ Reps t am H ds vs ∧ ∃ r2 s2, g ds r s = some (r2, s2) ∧ ∀ am' H' σ', Post am H am' H' → Ms t am' s2 H' → EnvR t am' H' r2 σ' → Q σ' H'
def SG (X : Cx) (t : Tb) (e : Expr) (g : Tg) : Prop := PG X e (tyG t g)
def SGs (X : Cx) (t : Tb) (es : List Expr) (g : List D → Env → S → Option (Env × S)) : Prop := PGs X es (tyGs t g)
theorem _root_.L2.PG.imp {u u' : TG} (h : PG X e u) (f : ∀ v σ H Q, u' v σ H Q → u v σ H Q) : PG X e u' := ⟨fun pins s σ H v u Q I r q => h.run pins s σ H v u Q I r (f v σ H Q q)⟩
theorem _root_.L2.PGs.imp {es : List Expr} {u u' : TGs} (h : PGs X es u) (f : ∀ v σ H Q, u' v σ H Q → u v σ H Q) : PGs X es u' := ⟨fun pins s σ H v u Q I r q => h.run pins s σ H v u Q I r (f v σ H Q q)⟩
theorem g_name {i : Nat} {x : Str} (hN : X.N.Nodup) (hi : X.N[i]? = some x) (hx : Loc X.env.scope x) (hf : X.fn x = true ∨ X.env.scope.names.lookup x = some .local := by first | exact .inl rfl | exact .inr rfl | assumption) : SG X t (.Name x pos) (gV i) :=
  (pg_name hN hi hx hf).imp fun v σ H Q ⟨am, r, s, d, en, mm, rp, r2, s2, e, q⟩ => by
    unfold gV at e
    split at e
    · cases e
      exact q am H _ .refl mm (en.set i rp)
    · cases e
theorem gs_nil : SGs X t [] gsN := pgs_nil.imp fun v σ H Q ⟨am, r, s, ds, en, mm, rp, r2, s2, e, q⟩ => by
  unfold gsN at e
  split at e
  · rename_i hd
    cases e
    have : ds = [] := by simpa using hd
    subst this
    exact ⟨rp, q am H σ .refl mm en⟩
  · cases e
theorem gs_cons {es : List Expr} {g : Tg} {u : List D → Env → S → Option (Env × S)} (h1 : SG X t e g) (h2 : SGs X t es u) (hs : (assignEach (e :: es) X.env).map (·.2) = assign e X.env :: (assignEach es X.env).map (·.2) := by rfl) : SGs X t (e :: es) (gsC g u) :=
  (pgs_cons h1 h2 hs).imp fun v σ H Q ⟨am, r, s, ds, en, mm, rp, r2, s2, e, q⟩ => by
    cases ds with
    | nil => cases e
    | cons d ds =>
      obtain ⟨v1, vr, rfl, ra, rb⟩ := rp
      unfold gsC at e
      simp only at e
      split at e
      · rename_i r1 s1 e1
        refine ⟨v1, vr, rfl, am, r, s, d, en, mm, ra, r1, s1, e1, fun am' H' σ' p m z => ?_⟩
        exact ⟨am', r1, s1, ds, z, m, rb.mono p, r2, s2, e, fun am2 H2 σ2 p2 => q am2 H2 σ2 (p.trans p2)⟩
      · cases e
theorem g_tup {es : List Expr} {k : Nat} {u : List D → Env → S → Option (Env × S)} (hK : X.K = t.K) (hc : X.calm = true) (h : SGs X t es u)
    (hlen : ∀ ds r s x, u ds r s = some x → ds.length = (assignEach es X.env).length) (hst : (assignEach es X.env).findIdx? (·.1) = none := by rfl) : SG X t (.Tuple es k pos) (gT u) :=
  (pg_tup (n := (assignEach es X.env).length) hc h rfl hst).imp fun v σ H Q ⟨am, r, s, d, en, mm, rp, r2, s2, e, q⟩ => by
    cases d with
    | tup ds =>
      obtain ⟨a, vs, rfl, h1, h2⟩ := rp.tupE
      have e : u ds r s = some (r2, s2) := e
      exact ⟨a, vs, rfl, by rw [hK]; exact h1, by rw [← h2.length]; exact hlen _ _ _ _ e, am, r, s, ds, en, mm, h2, r2, s2, e, q⟩
    | _ => cases e
theorem len_gsN {ds : List D} {r : Env} {s : S} {x : Env × S} (h : gsN ds r s = some x) : ds.length = 0 := by
  unfold gsN at h
  split at h
  · rename_i hd
    have : ds = [] := by simpa using hd
    rw [this]; rfl
  · cases h
theorem len_gsC {g : Tg} {u : List D → Env → S → Option (Env × S)} {n : Nat} (hu : ∀ ds r s x, u ds r s = some x → ds.length = n) : ∀ (ds : List D) (r : Env) (s : S) (x : Env × S), gsC g u ds r s = some x → ds.length = n + 1 := fun ds r s x h => by
  cases ds with
  | nil => cases h
  | cons d ds =>
    unfold gsC at h
    simp only at h
    split at h
    · rw [List.length_cons, hu _ _ _ _ h]
    · cases h

/-! ### assignments -/
theorem z_asg {tg : Expr} {g : Tg} (he : SE X t W e m) (hg : SG X t tg g) (hs : swapsWithSole [tg] e pos.line X.env = pure false := by rfl) (hw : swappedStores [tg] e X.env = pure none := by rfl)
    (h1 : (assignEach [tg] X.env).map (·.2) = [assign tg X.env] := by rfl) : SS X t W (.Assign [tg] e pos) (zSet g m) :=
  (ps_asg he hg hs hw h1).imp fun D σ H ⟨am, r, s, en, mm, h⟩ => ⟨am, r, s, en, mm, FQ.seq en h fun d s1 am1 H1 v p1 en1 m1 r1 h1 => by
    split at h1
    · rename_i r2 s2 e2
      exact ⟨am1, r, s1, d, en1, m1, r1, r2, s2, e2, fun am' H' σ' p m z => h1 am' H' σ' p m z⟩
    · exact h1.elim⟩
theorem z_set {i : Nat} {x : Str} {pos' : Pos} (hN : X.N.Nodup) (hi : X.N[i]? = some x) (hx : Loc X.env.scope x) (he : SE X t W e m) (hs : swapsWith e (some (.Name x pos')) pos.line X.env = pure false := by rfl)
    (hf : X.fn x = true ∨ X.env.scope.names.lookup x = some .local := by first | exact .inl rfl | exact .inr rfl | assumption) : SS X t W (.Assign [.Name x pos'] e pos) (zSet (gV i) m) :=
  (ps_set hN hi hx he hs hf).imp fun D σ H ⟨am, r, s, en, mm, h⟩ => ⟨am, r, s, en, mm, FQ.seq en h fun d s1 am1 H1 v p1 en1 m1 r1 h1 => by
    unfold gV at h1
    by_cases hl : i < r.length
    · simp only [hl, if_true] at h1
      exact h1.nx0 m1 (en1.set i r1)
    · simp only [hl, if_false] at h1
      exact h1.elim⟩
theorem z_par {i j : Nat} {x y : Str} {ea eb : Expr} {ma mb : E} {px py pt : Pos} {kt k2 pt2} (hc : X.calm = true) (hN : X.N.Nodup) (hi : X.N[i]? = some x) (hj : X.N[j]? = some y) (hij : i ≠ j)
    (hx : X.env.scope.names.lookup x = some .local) (hy : X.env.scope.names.lookup y = some .local) (ha : SE X t W ea ma) (hb : SE X t W eb mb)
    (hw : swappedStores [.Tuple [.Name x px, .Name y py] kt pt] (.Tuple [ea, eb] k2 pt2) X.env = pure (some [x, y]))
    (h1 : starEach [ea, eb] X.env = (false, eval ea X.env) :: starEach [eb] X.env := by rfl) (h2 : starEach [eb] X.env = (false, eval eb X.env) :: starEach [] X.env := by rfl)
    (hs : swapsWithSole [.Tuple [.Name x px, .Name y py] kt pt] (.Tuple [ea, eb] k2 pt2) pos.line X.env = pure false := by rfl) :
    SS X t W (.Assign [.Tuple [.Name x px, .Name y py] kt pt] (.Tuple [ea, eb] k2 pt2) pos) (zPar i j ma mb) :=
  (ps_par hc hN hi hj hij hx hy (pa_cons ha (pa_cons hb pa_nil h2) h1) hw hs).imp fun D σ H ⟨am, r, s, en, mm, h⟩ => by
    refine ⟨am, r, s, en, mm, FQ.seq en h fun d1 s1 am1 H1 v1 p1 en1 m1 r1 h1 => ?_⟩
    refine ⟨am1, r, s1, en1, m1, FQ.seq en1 h1 fun d2 s2 am2 H2 v2 p2 en2 m2 r2 h2 => ?_⟩
    refine ⟨v1, v2, rfl, ?_⟩
    split at h2
    · exact h2.nx0 m2 ((en2.set i (r1.mono p2)).set j r2)
    · exact h2.elim
theorem z_aug {i : Nat} {x : Str} {op : Operator} {rr : R2} {o : P2} {pos' : Pos} (hN : X.N.Nodup) (hi : X.N[i]? = some x) (hx : Loc X.env.scope x) (he : SE X t W e m) (ho : OpR X (inplaceOp op) rr) (h2 : Op2 t rr o)
    (hf : X.fn x = true ∨ X.env.scope.names.lookup x = some .local := by first | exact .inl rfl | exact .inr rfl | assumption) : SS X t W (.AugAssign (.Name x pos') op e pos) (zAug i o m) :=
  (ps_aug hN hi hx he (ti := fun a b H Q => rr a b H Q) (fun pins s σ H x y v u Q I r1 r2 q => ho pins s σ H x y v u Q I r1 r2 q) hf).imp fun D σ H ⟨am, r, s, en, mm, h⟩ => by
    unfold zAug at h
    cases hd : r[i]? with
    | none => rw [hd] at h; exact h.elim
    | some d =>
      rw [hd] at h
      by_cases hu : d = .undef
      · subst hu; exact h.elim
      · obtain ⟨v, h1, hr⟩ := en.get i d hd hu
        have h' : FQ t am H ((m r s).then r fun y s1 => (o d y s1).then r fun z s2 => .nx (r.set i z) s2) W D := by cases d <;> first | exact h | exact absurd rfl hu
        refine ⟨v, h1, am, r, s, en, mm, FQ.seq en h' fun d1 s1 am1 H1 v1 p1 en1 m1 r1 h1 => ?_⟩
        exact h2 am1 s1 H1 d d1 v v1 (W σ) _ m1 (hr.mono p1) r1 (FQ.seq en1 h1 fun z s2 am2 H2 v2 p2 en2 m2 r2 h2 => h2.nx0 m2 (en2.set i r2))
theorem z_putL {o i : Expr} {mo mi : E} {tp : Pos} (he : SE X t W e m) (ho : SE X t W o mo) (hi : SE X t W i mi) (hs : swapsWithSole [.Subscript o i tp] e pos.line X.env = pure false := by rfl) (hw : swappedStores [.Subscript o i tp] e X.env = pure none := by rfl)
    (h1 : (assignEach [.Subscript o i tp] X.env).map (·.2) = [assign (.Subscript o i tp) X.env] := by rfl)
    (ha : ∀ v, assign (.Subscript o i tp) X.env v = (do
      let ov ← holding [v] (eval o X.env)
      let iv ← holding [v, ov] (eval i X.env)
      standAt tp
      holding [v, ov, iv] (setItem ov iv v)
      release [v, ov, iv] []) := by intro _; rfl) : SS X t W (.Assign [.Subscript o i tp] e pos) (zPutL mo mi m) :=
  (ps_asg he (pg_sub ho hi set_list ha) hs hw h1).imp fun D σ H ⟨am, r, s, en, mm, h⟩ => by
    refine ⟨am, r, s, en, mm, FQ.seq en h fun d1 s1 am1 H1 v1 p1 en1 m1 r1 h1 => ?_⟩
    refine ⟨am1, r, s1, en1, m1, FQ.seq en1 h1 fun d2 s2 am2 H2 v2 p2 en2 m2 r2 h2 => ?_⟩
    refine ⟨am2, r, s2, en2, m2, FQ.seq en2 h2 fun d3 s3 am3 H3 v3 p3 en3 m3 r3 h3 => ?_⟩
    split at h3
    · rename_i s4 e4
      unfold putL at e4
      split at e4
      · cases r3.intE
        obtain ⟨a, rfl, ha⟩ := (r2.mono p3).refE
        split at e4
        · rename_i xs e1
          obtain ⟨vs, h4, h5⟩ := m3.lst e1 ha
          split at e4
          · rename_i j e2
            cases e4
            rename_i n k _ _
            have e2 : L2.ixN vs.length k = some j := by rw [← h5.length]; exact e2
            refine ⟨a, vs, k, j, rfl, rfl, h4, e2, ?_⟩
            have rv := (r1.mono p2).mono p3
            have P : Post am3 H3 am3 (L2.upd H3 a (.lst (vs.set j v1))) := .put (List.mem_of_getElem? ha) h4 (fun z => z)
            obtain ⟨_, m4⟩ := m3.put (u := .lst (vs.set j v1)) (o := .lst (xs.set j d1)) ha ⟨_, upd_same, (h5.set rv j).mono P⟩
            exact h3 am3 _ σ P m4 (en3.mono P)
          · cases e4
        · cases e4
      · cases e4
    · exact h3.elim

/-! ### while -/
theorem z_while {c : Expr} (hp : PassesOwn (model X.prog X.w) X.A X.env X.xe) (hc : ST X t W c mt) (hb : SSs X t W body a) : SS X t W (.While c body [] pos) (zWhile mt a) :=
  (ps_while hp hc hb).imp fun D σ H ⟨am, r, s, en, mm, h⟩ => by
    refine ⟨fun n σ1 H1 => ∃ am1 r1 s1, EnvR t am1 H1 r1 σ1 ∧ Ms t am1 s1 H1 ∧ FQ t am1 H1 (whileM mt a n r1 s1) W D, ⟨FUEL, am, r, s, en, mm, h⟩, ?_⟩
    rintro n σ1 H1 ⟨am1, r1, s1, en1, m1, h1⟩
    cases n with
    | zero => exact h1.elim
    | succ n =>
      refine ⟨am1, r1, s1, en1, m1, FQ.seq en1 h1 fun k s2 am2 H2 v p2 en2 m2 e2 h2 => ?_⟩
      cases e2
      cases k with
      | false => exact h2.nx0 m2 en2
      | true =>
        have h2 : FQ t am2 H2 ((a r1 s2).turn (whileM mt a n)) W D := h2
        refine ⟨fun σ' H' => ∃ am3 r3 s3, EnvR t am3 H' r3 σ' ∧ Ms t am3 s3 H' ∧ FQ t am3 H' (whileM mt a n r3 s3) W D, fun σ' H' z => ⟨n, Nat.lt_succ_self n, z⟩, am2, r1, s2, en2, m2, ?_⟩
        cases hx : a r1 s2 with
        | nx r3 s3 => rw [hx] at h2; exact fun am' H' σ' q m z => ⟨am', r3, s3, z, m, FQ.re h2 q⟩
        | ct r3 s3 => rw [hx] at h2; exact fun am' H' σ' q m z => ⟨am', r3, s3, z, m, FQ.re h2 q⟩
        | bk r3 s3 => rw [hx] at h2; exact h2
        | rt d s3 => rw [hx] at h2; exact h2
        | exc c fs r3 s3 => rw [hx] at h2; exact h2
        | stk => rw [hx] at h2; exact h2
end

/-! ### what a loop walks -/
/-- turn by turn: the items xs come, as long as G stands -/
structure ItOk (t : Tb) (J : L2.It) (G : List Addr → Hp → Prop) (xs : List D) : Prop where
  item : ∀ (i : Nat) (d : D) (am : List Addr) (H : Hp), G am H → xs[i]? = some d → J.go i H ∧ ∀ x H', J.yld i H x H' → Post am H am H' ∧ (∀ s, Ms t am s H → Ms t am s H') ∧ Rep t am H' d x
  stop : ∀ (i : Nat) (am : List Addr) (H : Hp), G am H → xs[i]? = none → J.stop i H
  keep : ∀ am H am' H', G am H → Post am H am' H' → G am' H'
/-- .. read anew from the store -/
structure DynOk (t : Tb) (J : L2.It) (Gd : List Addr → Prop) (f : S → Option (List D)) : Prop where
  item : ∀ (i : Nat) (d : D) (xs : List D) (am : List Addr) (s : S) (H : Hp), Gd am → Ms t am s H → f s = some xs → xs[i]? = some d → J.go i H ∧ ∀ x H', J.yld i H x H' → Post am H am H' ∧ Ms t am s H' ∧ Rep t am H' d x
  stop : ∀ (i : Nat) (xs : List D) (am : List Addr) (s : S) (H : Hp), Gd am → Ms t am s H → f s = some xs → xs[i]? = none → J.stop i H
  keep : ∀ am H am' H', Gd am → Post am H am' H' → Gd am'
/-- the walked thing has come -/
def IQ (t : Tb) (am : List Addr) (H : Hp) (x : Rs Wk) (Ex : XK) (R : L2.It → Hp → Prop) : Prop := match x with
  | .ok (.items xs) s' => ∀ am' H' J G, Post am H am' H' → Ms t am' s' H' → ItOk t J G xs → G am' H' → R J H'
  | .ok (.list n) s' => ∀ am' H' a, Post am H am' H' → Ms t am' s' H' → am'[n]? = some a → R (L2.Itl t.K a) H'
  | .ok (.dyn f) s' => ∀ am' H' J Gd, Post am H am' H' → Ms t am' s' H' → DynOk t J Gd f → Gd am' → R J H'
  | .exc c fs s' => ∀ am' H' cls dd, Post am H am' H' → Ms t am' s' H' → XRep t c fs am' H' cls dd → Ex cls dd H'
  | .stk => False
def tyI (t : Tb) (W : XW) (m : IW) : TI := fun σ H R => ∃ am r s, EnvR t am H r σ ∧ Ms t am s H ∧ IQ t am H (m r s) (W σ) R
def SI (X : Cx) (t : Tb) (W : XW) (tg iter : Expr) (m : IW) : Prop := PI X tg iter (tyI t W m)
section
variable {X : Cx} {t : Tb} {W : XW} {tg iter a b : Expr} {m ma mb : E} {pos p : Pos}
theorem _root_.L2.PI.imp {u u' : TI} (h : PI X tg iter u) (f : ∀ σ H R, u' σ H R → u σ H R) : PI X tg iter u' := ⟨fun pins s σ H R I q => h.run pins s σ H R I (f σ H R q)⟩
theorem IQ.re {am am1 : List Addr} {H H1 : Hp} {x : Rs Wk} {Ex : XK} {R : L2.It → Hp → Prop} (h : IQ t am H x Ex R) (p : Post am H am1 H1) : IQ t am1 H1 x Ex R := by
  cases x with
  | ok j s' =>
    cases j with
    | items xs => exact fun am' H' J G q => h am' H' J G (p.trans q)
    | list n => exact fun am' H' a q => h am' H' a (p.trans q)
    | dyn f => exact fun am' H' J Gd q => h am' H' J Gd (p.trans q)
  | exc c fs s' => exact fun am' H' cls dd q => h am' H' cls dd (p.trans q)
  | stk => exact h
theorem tyE.ofI {σ : L2.St} {H : Hp} {am : List Addr} {r : Env} {s : S} {f : D → S → Rs Wk} {R : L2.It → Hp → Prop} {K : V → Hp → Prop} (en : EnvR t am H r σ) (mm : Ms t am s H)
    (h : IQ t am H ((m r s).bind f) (W σ) R)
    (hk : ∀ d s1 am1 H1 v, EnvR t am1 H1 r σ → Ms t am1 s1 H1 → Post am H am1 H1 → Rep t am1 H1 d v → IQ t am1 H1 (f d s1) (W σ) R → K v H1) : tyE t W m σ H K := by
  refine ⟨am, r, s, en, mm, ?_⟩
  cases hx : m r s with
  | ok d s1 => rw [hx] at h; exact fun am' H' b q m z => hk d s1 am' H' b (en.mono q) m q z (IQ.re h q)
  | exc c fs s' => rw [hx] at h; exact h
  | stk => rw [hx] at h; exact h
theorem itok_range (lo : Int) (n : Nat) : ItOk t (Itr lo n) (fun _ _ => True) ((List.range n).map fun (k : Nat) => D.int (lo + k)) where
  item := fun i d am H _ e => by
    rw [List.getElem?_map] at e
    cases h : (List.range n)[i]? with
    | none => rw [h] at e; cases e
    | some k =>
      rw [h] at e
      have hk := List.getElem?_eq_some_iff.mp h
      obtain ⟨hl, hv⟩ := hk
      rw [List.getElem_range] at hv
      subst hv
      cases e
      refine ⟨by have h2 := hl; rw [List.length_range] at h2; exact h2, fun x H' y => ?_⟩
      obtain ⟨rfl, rfl⟩ := y
      exact ⟨.refl, fun _ z => z, rfl⟩
  stop := fun i am H _ e => by
    rw [List.getElem?_eq_none_iff, List.length_map, List.length_range] at e
    exact e
  keep := fun _ _ _ _ _ _ => trivial
theorem i_rng1 (hg : Gl X "range") (hm : X.mg "range" = none) (ha : SE X t W a ma) (hs : starEach [a] X.env = [(false, eval a X.env)] := by rfl) : SI X t W tg (.Call (.Name "range" p) [a] [] pos) (iRng1 ma) :=
  (pi_range1 hg hm (s_cons ha s_nil (by rw [hs]; rfl)) hs).imp fun σ H R ⟨am, r, s, en, mm, h⟩ => by
    refine ⟨am, r, s, en, mm, ?_⟩
    have h : IQ t am H ((ma r s).bind _) (W σ) R := h
    unfold aC aN
    cases hx : ma r s with
    | ok d s1 =>
      rw [hx] at h
      intro am' H' b q m z
      obtain ⟨v, w, rfl, z1, z2⟩ := z
      cases (show w = [] from z2)
      have h := IQ.re h q
      cases d with
      | int j =>
        simp only [Rs.bind_ok] at h
        cases z1.intE
        split at h
        · rename_i hj
          refine ⟨j, rfl, by omega, by omega, ?_⟩
          have := h am' H' (Itr 0 j.toNat) (fun _ _ => True) .refl m (by
            have := itok_range (t := t) 0 j.toNat
            unfold range2
            rw [Int.sub_zero]; exact this) trivial
          exact this
        · exact h.elim
      | _ => exact h.elim
    | exc c fs s' => rw [hx] at h; exact h
    | stk => rw [hx] at h; exact h
theorem i_rng2 (hg : Gl X "range") (hm : X.mg "range" = none) (ha : SE X t W a ma) (hb : SE X t W b mb) (hs : starEach [a, b] X.env = [(false, eval a X.env), (false, eval b X.env)] := by rfl) (hs2 : starEach [b] X.env = [(false, eval b X.env)] := by rfl) :
    SI X t W tg (.Call (.Name "range" p) [a, b] [] pos) (iRng2 ma mb) :=
  (pi_range2 hg hm (s_cons ha (s_cons hb s_nil (by rw [hs2]; rfl)) (by rw [hs, hs2])) hs hs2).imp fun σ H R ⟨am, r, s, en, mm, h⟩ => by
    refine ⟨am, r, s, en, mm, ?_⟩
    have h : IQ t am H ((ma r s).bind _) (W σ) R := h
    simp only [aC, aN]
    cases hx : ma r s with
    | ok d s1 =>
      rw [hx] at h
      simp only [Rs.bind_ok] at h ⊢
      cases hy : mb r s1 with
      | ok d2 s2 =>
        rw [hy] at h
        intro am' H' b q m z
        obtain ⟨v, w, rfl, z1, z2⟩ := z
        obtain ⟨v2, w2, rfl, z3, z4⟩ := z2
        cases (show w2 = [] from z4)
        have h := IQ.re h q
        cases d with
        | int i =>
          cases d2 with
          | int j =>
            simp only [Rs.bind_ok] at h
            cases z1.intE
            cases z3.intE
            split at h
            · rename_i hj
              exact ⟨i, j, rfl, by omega, h am' H' (Itr i (j - i).toNat) (fun _ _ => True) .refl m (itok_range (t := t) i (j - i).toNat) trivial⟩
            · exact h.elim
          | _ => exact h.elim
        | _ => exact h.elim
      | exc c fs s' => rw [hy] at h; exact h
      | stk => rw [hy] at h; exact h
    | exc c fs s' => rw [hx] at h; exact h
    | stk => rw [hx] at h; exact h
/-- over a tuple -/
theorem itok_tup {a : Addr} {vs : List V} {xs : List D} : ItOk t (Itt t.K a) (fun am H => ∃ vs, SqT t.K H a vs ∧ Reps t am H xs vs) xs where
  item := fun i d am H ⟨vs, h1, h2⟩ e => by
    obtain ⟨v, e1, r1⟩ := h2.get e
    refine ⟨⟨vs, v, h1, e1⟩, fun x H' y => ?_⟩
    obtain ⟨rfl, y⟩ := y
    have := y vs h1
    rw [e1] at this; cases this
    exact ⟨.refl, fun _ z => z, r1⟩
  stop := fun i am H ⟨vs, h1, h2⟩ e => ⟨vs, h1, by rw [← h2.length]; exact List.getElem?_eq_none_iff.mp e⟩
  keep := fun am H am' H' ⟨vs, h1, h2⟩ p => ⟨vs, p.sqT h1, h2.mono p⟩
theorem itok_frl {a : Addr} {vs : List V} {xs : List D} : ItOk t (Itl t.K a) (fun am H => ∃ vs, FrL t.K H a vs ∧ Reps t am H xs vs) xs where
  item := fun i d am H ⟨vs, h1, h2⟩ e => by
    obtain ⟨v, e1, r1⟩ := h2.get e
    refine ⟨⟨vs, v, h1.sq, e1⟩, fun x H' y => ?_⟩
    obtain ⟨rfl, y⟩ := y
    have := y vs h1.sq
    rw [e1] at this; cases this
    exact ⟨.refl, fun _ z => z, r1⟩
  stop := fun i am H ⟨vs, h1, h2⟩ e => ⟨vs, h1.sq, by rw [← h2.length]; exact List.getElem?_eq_none_iff.mp e⟩
  keep := fun am H am' H' ⟨vs, h1, h2⟩ p => ⟨vs, p.frL h1, h2.mono p⟩
theorem i_tup (hK : X.K = t.K) (ha : SE X t W a m) : SI X t W tg a (iTup m) :=
  (pi_tup ha).imp fun σ H R ⟨am, r, s, en, mm, h⟩ => tyE.ofI en mm h fun d s1 am1 H1 v en1 m1 p1 r1 h1 => by
    cases d with
    | tup xs =>
      obtain ⟨a, vs, rfl, h2, h3⟩ := r1.tupE
      rw [hK]
      exact ⟨a, rfl, ⟨vs, h2⟩, h1 am1 H1 _ _ .refl m1 (itok_tup (vs := vs)) ⟨vs, h2, h3⟩⟩
    | _ => exact h1.elim
theorem i_lst (hK : X.K = t.K) (ha : SE X t W a m) : SI X t W tg a (iLst m) :=
  (pi_list ha).imp fun σ H R ⟨am, r, s, en, mm, h⟩ => tyE.ofI en mm h fun d s1 am1 H1 v en1 m1 p1 r1 h1 => by
    cases d with
    | frl xs =>
      obtain ⟨a, vs, rfl, h2, h3⟩ := r1.frlE
      rw [hK]
      exact ⟨a, rfl, ⟨vs, h2.sq⟩, h1 am1 H1 _ _ .refl m1 (itok_frl (vs := vs)) ⟨vs, h2, h3⟩⟩
    | ref n =>
      obtain ⟨a, rfl, ha⟩ := r1.refE
      simp only at h1
      split at h1
      · rename_i xs e
        obtain ⟨vs, h2, h3⟩ := m1.lst e ha
        rw [hK]
        exact ⟨a, rfl, ⟨vs, .of h2⟩, h1 am1 H1 a .refl m1 ha⟩
      · exact h1.elim
    | _ => exact h1.elim
end

section
variable {X : Cx} {t : Tb} {W : XW} {tg iter : Expr} {body : List Stmt} {mi : IW} {g : Tg} {b : Sm} {pos : Pos}
theorem z_for (hp : PassesOwn (model X.prog X.w) X.A X.env X.xe) (hc : X.calm = true) (hK : X.K = t.K) (hi : SI X t W tg iter mi) (hg : SG X t tg g) (hb : SSs X t W body b)
    (hs : ∀ x, foldedSetIterable iter X.env x = pure x := by intro _; rfl) : SS X t W (.For tg iter body [] pos) (zFor mi g b) :=
  (ps_for hp hc hi hg hb hs).imp fun Dn σ H ⟨am, r, s, en, mm, h⟩ => by
    refine ⟨am, r, s, en, mm, ?_⟩
    -- one turn: the item is stored, the body runs, N is reached
    have turn : ∀ {am1 : List Addr} {r1 : Env} {s1 : S} {H1 : Hp} {d : Y.D} {x : V} {σ1 : L2.St} {k : Sm} {N : L2.St → Hp → Prop}, EnvR t am1 H1 r1 σ1 → Ms t am1 s1 H1 → Rep t am1 H1 d x →
        FQ t am1 H1 (match g d r1 s1 with | some (r2, s2) => (b r2 s2).turn k | none => .stk) W Dn →
        (∀ am2 r2 s2 σ2 H2, Post am1 H1 am2 H2 → EnvR t am2 H2 r2 σ2 → Ms t am2 s2 H2 → FQ t am2 H2 (k r2 s2) W Dn → N σ2 H2) →
        tyG t g x σ1 H1 (fun σ2 H2 => tyS t W b { Dn with nx := N, ct := N, bk := Dn.nx } σ2 H2) := by
      intro am1 r1 s1 H1 d x σ1 k N en1 m1 rp h1 hN
      split at h1
      · rename_i r2 s2 e2
        refine ⟨am1, r1, s1, d, en1, m1, rp, r2, s2, e2, fun am' H' σ' p m z => ⟨am', r2, s2, z, m, ?_⟩⟩
        have h1 := FQ.re h1 p
        cases hx : b r2 s2 with
        | nx r3 s3 => rw [hx] at h1; exact fun am3 H3 σ3 q m3 z3 => hN am3 r3 s3 σ3 H3 (p.trans q) z3 m3 (FQ.re h1 q)
        | ct r3 s3 => rw [hx] at h1; exact fun am3 H3 σ3 q m3 z3 => hN am3 r3 s3 σ3 H3 (p.trans q) z3 m3 (FQ.re h1 q)
        | bk r3 s3 => rw [hx] at h1; exact h1
        | rt d s3 => rw [hx] at h1; exact h1
        | exc c fs r3 s3 => rw [hx] at h1; exact h1
        | stk => rw [hx] at h1; exact h1
      · exact h1.elim
    have h : FQ t am H ((mi r s).then r fun j s1 => match j with
      | .items xs => forM g b xs r s1
      | .list n => forR g b n FUEL 0 r s1
      | .dyn f => forF g b f FUEL 0 r s1) W Dn := h
    cases hx : mi r s with
    | exc c fs s' => rw [hx] at h; exact fun am' H' cls dd q m z => h am' H' σ cls dd q m (en.mono q) z
    | stk => rw [hx] at h; exact h
    | ok j s0 =>
      rw [hx] at h
      cases j with
      | items xs =>
        have h : FQ t am H (forM g b xs r s0) W Dn := h
        intro am' H' J G p m ok hG
        refine ⟨fun i n σ1 H1 => ∃ am1 r1 s1, n = (xs.drop i).length ∧ EnvR t am1 H1 r1 σ1 ∧ Ms t am1 s1 H1 ∧ G am1 H1 ∧ FQ t am1 H1 (forM g b (xs.drop i) r1 s1) W Dn, ⟨xs.length, am', r, s0, by simp, en.mono p, m, hG, by rw [List.drop_zero]; exact FQ.re h p⟩, ?_⟩
        rintro i n σ1 H1 ⟨am1, r1, s1, rfl, en1, m1, g1, h1⟩
        cases hd : xs[i]? with
        | none =>
          have e : xs.drop i = [] := List.drop_eq_nil_of_le (List.getElem?_eq_none_iff.mp hd)
          rw [e] at h1
          exact .inl ⟨ok.stop i am1 H1 g1 hd, FQ.nx0 h1 m1 en1⟩
        | some d =>
          have hl := (List.getElem?_eq_some_iff.mp hd)
          have e : xs.drop i = d :: xs.drop (i + 1) := by
            rw [List.drop_eq_getElem_cons hl.1, hl.2]
          rw [e] at h1
          obtain ⟨go, yl⟩ := ok.item i d am1 H1 g1 hd
          refine .inr ⟨go, fun σ2 H2 => ∃ am2 r2 s2, EnvR t am2 H2 r2 σ2 ∧ Ms t am2 s2 H2 ∧ G am2 H2 ∧ FQ t am2 H2 (forM g b (xs.drop (i + 1)) r2 s2) W Dn, fun σ2 H2 ⟨am2, r2, s2, z1, z2, z3, z4⟩ => ⟨_, by rw [e]; simp, am2, r2, s2, rfl, z1, z2, z3, z4⟩, fun x H2 y => ?_⟩
          obtain ⟨p2, m2, rp⟩ := yl x H2 y
          have g2 := ok.keep _ _ _ _ g1 p2
          exact turn (en1.mono p2) (m2 s1 m1) rp (FQ.re h1 p2) fun am3 r3 s3 σ3 H3 p3 z1 z2 z3 => ⟨am3, r3, s3, z1, z2, ok.keep _ _ _ _ g2 p3, z3⟩
      | list l =>
        have h : FQ t am H (forR g b l FUEL 0 r s0) W Dn := h
        intro am' H' a p m ha
        refine ⟨fun i n σ1 H1 => ∃ am1 r1 s1, EnvR t am1 H1 r1 σ1 ∧ Ms t am1 s1 H1 ∧ am1[l]? = some a ∧ FQ t am1 H1 (forR g b l n i r1 s1) W Dn, ⟨FUEL, am', r, s0, en.mono p, m, ha, FQ.re h p⟩, ?_⟩
        rintro i n σ1 H1 ⟨am1, r1, s1, en1, m1, a1, h1⟩
        cases n with
        | zero => exact h1.elim
        | succ n =>
          unfold forR at h1
          split at h1
          · rename_i xs e1
            obtain ⟨vs, hv, rv⟩ := m1.lst e1 a1
            cases hd : xs[i]? with
            | none =>
              rw [hd] at h1
              exact .inl ⟨⟨vs, .of hv, by rw [← rv.length]; exact List.getElem?_eq_none_iff.mp hd⟩, FQ.nx0 h1 m1 en1⟩
            | some d =>
              rw [hd] at h1
              obtain ⟨v, ev, rp⟩ := rv.get hd
              refine .inr ⟨⟨vs, v, .of hv, ev⟩, fun σ2 H2 => ∃ am2 r2 s2, EnvR t am2 H2 r2 σ2 ∧ Ms t am2 s2 H2 ∧ am2[l]? = some a ∧ FQ t am2 H2 (forR g b l n (i + 1) r2 s2) W Dn, fun σ2 H2 z => ⟨n, Nat.lt_succ_self n, z⟩, fun x H2 y => ?_⟩
              obtain ⟨rfl, y⟩ := y
              have := y vs (.of hv)
              rw [ev] at this; cases this
              exact turn en1 m1 rp h1 fun am3 r3 s3 σ3 H3 p3 z1 z2 z3 => ⟨am3, r3, s3, z1, z2, p3.at a1, z3⟩
          · exact h1.elim
      | dyn f =>
        have h : FQ t am H (forF g b f FUEL 0 r s0) W Dn := h
        intro am' H' J Gd p m ok hG
        refine ⟨fun i n σ1 H1 => ∃ am1 r1 s1, EnvR t am1 H1 r1 σ1 ∧ Ms t am1 s1 H1 ∧ Gd am1 ∧ FQ t am1 H1 (forF g b f n i r1 s1) W Dn, ⟨FUEL, am', r, s0, en.mono p, m, hG, FQ.re h p⟩, ?_⟩
        rintro i n σ1 H1 ⟨am1, r1, s1, en1, m1, g1, h1⟩
        cases n with
        | zero => exact h1.elim
        | succ n =>
          unfold forF at h1
          split at h1
          · rename_i xs e1
            cases hd : xs[i]? with
            | none =>
              rw [hd] at h1
              exact .inl ⟨ok.stop i xs am1 s1 H1 g1 m1 e1 hd, FQ.nx0 h1 m1 en1⟩
            | some d =>
              rw [hd] at h1
              obtain ⟨go, yl⟩ := ok.item i d xs am1 s1 H1 g1 m1 e1 hd
              refine .inr ⟨go, fun σ2 H2 => ∃ am2 r2 s2, EnvR t am2 H2 r2 σ2 ∧ Ms t am2 s2 H2 ∧ Gd am2 ∧ FQ t am2 H2 (forF g b f n (i + 1) r2 s2) W Dn, fun σ2 H2 z => ⟨n, Nat.lt_succ_self n, z⟩, fun x H2 y => ?_⟩
              obtain ⟨p2, m2, rp⟩ := yl x H2 y
              exact turn (en1.mono p2) m2 rp (FQ.re h1 p2) fun am3 r3 s3 σ3 H3 p3 z1 z2 z3 => ⟨am3, r3, s3, z1, z2, ok.keep _ _ _ _ g1 (p2.trans p3), z3⟩
          · exact h1.elim
end
end Y

/-! Y5: comprehensions, defs and their calls, errors raised. -/
namespace Y
open PySem L2

/-! ### comprehensions -/
/-- a target that stores in the block's own slots alone -/
def tyGw (t : Tb) (g : Tg) (vs : List Nat) : TG := fun v σ H Q => ∃ am r s d, EnvR t am H r σ ∧ Ms t am s H ∧ Rep t am H d v ∧ ∃ r2 s2, g d r s = some (r2, s2) ∧ ∀ am' H' σ', Post am H am' H' → Ms t am' s2 H' → EnvR t am' H' r2 σ' → wipe σ' vs = wipe σ vs → Q σ' H'
def tyGsw (t : Tb) (g : List D → Env → S → Option (Env × S)) (vs : List Nat) : TGs := fun us σ H Q => ∃ am r s ds, EnvR t am H r σ ∧ Ms t am s H ∧ Reps t am H ds us ∧ ∃ r2 s2, g ds r s = some (r2, s2) ∧ ∀ am' H' σ', Post am H am' H' → Ms t am' s2 H' → EnvR t am' H' r2 σ' → wipe σ' vs = wipe σ vs → Q σ' H'
def SGw (X : Cx) (t : Tb) (e : Expr) (g : Tg) (vs : List Nat) : Prop := PG X e (tyGw t g vs)
def SGsw (X : Cx) (t : Tb) (es : List Expr) (g : List D → Env → S → Option (Env × S)) (vs : List Nat) : Prop := PGs X es (tyGsw t g vs)
theorem wipe_set {i : Nat} {x : Option V} : ∀ {vs : List Nat} (σ : L2.St), i ∈ vs → wipe (σ.set i x) vs = wipe σ vs := by
  intro vs
  induction vs with
  | nil => intro σ h; cases h
  | cons v vs ih =>
    intro σ h
    unfold wipe
    by_cases hi : i ∈ vs
    · rw [ih σ hi]
    · have e : i = v := by rcases List.mem_cons.mp h with h | h; exact h; exact absurd h hi
      subst e
      refine List.ext_getElem? fun k => ?_
      by_cases hk : i = k
      · subst hk
        by_cases hl : i < σ.length
        · rw [List.getElem?_set_self (by rw [wipe_length, List.length_set]; exact hl), List.getElem?_set_self (by rw [wipe_length]; exact hl)]
        · rw [List.getElem?_eq_none (by rw [List.length_set, wipe_length, List.length_set]; omega), List.getElem?_eq_none (by rw [List.length_set, wipe_length]; omega)]
      · rw [List.getElem?_set_ne hk, List.getElem?_set_ne hk]
        have : ∀ (vs : List Nat) (σ σ' : L2.St), (∀ j, j ≠ i → σ[j]? = σ'[j]?) → σ.length = σ'.length → ∀ j, j ≠ i → (wipe σ vs)[j]? = (wipe σ' vs)[j]? := by
          intro vs
          induction vs with
          | nil => intro σ σ' h _; exact h
          | cons v vs ih =>
            intro σ σ' h hl j hj
            unfold wipe
            by_cases hv : v = j
            · subst hv
              by_cases hlt : v < σ.length
              · rw [List.getElem?_set_self (by rw [wipe_length]; exact hlt), List.getElem?_set_self (by rw [wipe_length]; omega)]
              · rw [List.getElem?_eq_none (by rw [List.length_set, wipe_length]; omega), List.getElem?_eq_none (by rw [List.length_set, wipe_length]; omega)]
            · rw [List.getElem?_set_ne hv, List.getElem?_set_ne hv]
              exact ih σ σ' h hl j hj
        exact this vs _ _ (fun j hj => List.getElem?_set_ne (Ne.symm hj)) (by simp) k (Ne.symm hk)
section
variable {X : Cx} {t : Tb} {e : Expr} {pos : Pos} {vs : List Nat}
theorem gw_name {i : Nat} {x : Str} (hN : X.N.Nodup) (hi : X.N[i]? = some x) (hx : Loc X.env.scope x) (hv : i ∈ vs) (hf : X.fn x = true ∨ X.env.scope.names.lookup x = some .local := by first | exact .inl rfl | exact .inr rfl | assumption) : SGw X t (.Name x pos) (gV i) vs :=
  (pg_name hN hi hx hf).imp fun v σ H Q ⟨am, r, s, d, en, mm, rp, r2, s2, e, q⟩ => by
    unfold gV at e
    split at e
    · cases e
      exact q am H _ .refl mm (en.set i rp) (wipe_set σ hv)
    · cases e
theorem gsw_nil : SGsw X t [] gsN vs := pgs_nil.imp fun v σ H Q ⟨am, r, s, ds, en, mm, rp, r2, s2, e, q⟩ => by
  unfold gsN at e
  split at e
  · rename_i hd
    cases e
    have : ds = [] := by simpa using hd
    subst this
    exact ⟨rp, q am H σ .refl mm en rfl⟩
  · cases e
theorem gsw_cons {es : List Expr} {g : Tg} {u : List D → Env → S → Option (Env × S)} (h1 : SGw X t e g vs) (h2 : SGsw X t es u vs) (hs : (assignEach (e :: es) X.env).map (·.2) = assign e X.env :: (assignEach es X.env).map (·.2) := by rfl) : SGsw X t (e :: es) (gsC g u) vs :=
  (pgs_cons h1 h2 hs).imp fun v σ H Q ⟨am, r, s, ds, en, mm, rp, r2, s2, e, q⟩ => by
    cases ds with
    | nil => cases e
    | cons d ds =>
      obtain ⟨v1, vr, rfl, ra, rb⟩ := rp
      unfold gsC at e
      simp only at e
      split at e
      · rename_i r1 s1 e1
        refine ⟨v1, vr, rfl, am, r, s, d, en, mm, ra, r1, s1, e1, fun am' H' σ' p m z w => ?_⟩
        exact ⟨am', r1, s1, ds, z, m, rb.mono p, r2, s2, e, fun am2 H2 σ2 p2 m2 z2 w2 => q am2 H2 σ2 (p.trans p2) m2 z2 (w2.trans w)⟩
      · cases e
theorem gw_tup {es : List Expr} {k : Nat} {u : List D → Env → S → Option (Env × S)} (hK : X.K = t.K) (hc : X.calm = true) (h : SGsw X t es u vs)
    (hlen : ∀ ds r s x, u ds r s = some x → ds.length = (assignEach es X.env).length) (hst : (assignEach es X.env).findIdx? (·.1) = none := by rfl) : SGw X t (.Tuple es k pos) (gT u) vs :=
  (pg_tup (n := (assignEach es X.env).length) hc h rfl hst).imp fun v σ H Q ⟨am, r, s, d, en, mm, rp, r2, s2, e, q⟩ => by
    cases d with
    | tup ds =>
      obtain ⟨a, vs, rfl, h1, h2⟩ := rp.tupE
      have e : u ds r s = some (r2, s2) := e
      exact ⟨a, vs, rfl, by rw [hK]; exact h1, by rw [← h2.length]; exact hlen _ _ _ _ e, am, r, s, ds, en, mm, h2, r2, s2, e, q⟩
    | _ => cases e
end
abbrev W0 : XW := fun _ _ _ _ => False
theorem RQ.stk {α β : Type} {t : Tb} {am : List Addr} {H : Hp} {rep : List Addr → Hp → α → β → Prop} {Ex : XK} {Q : β → Hp → Prop} (h : RQ t am H (.stk : Rs α) rep Ex Q) {p : Prop} : p := False.elim h
def SPts (X : Cx) (t : Tb) (W : XW) (ifs : List Expr) (m : T) : Prop := PTs X ifs (tyT t W m)
theorem _root_.L2.PTs.imp {X : Cx} {ifs : List Expr} {u u' : TT} (h : PTs X ifs u) (f : ∀ σ H Q, u' σ H Q → u σ H Q) : PTs X ifs u' := ⟨fun pins s σ H Q I q => h.run pins s σ H Q I (f σ H Q q)⟩
theorem ts_nil {X : Cx} {t : Tb} {W : XW} : SPts X t W [] tYes := pts_nil.imp fun σ H Q ⟨am, r, s, en, mm, h⟩ => h.ok0 mm rfl
theorem ts_one {X : Cx} {t : Tb} {W : XW} {c : Expr} {m : T} (h : ST X t W c m) : SPts X t W [c] m := pts_one h
section
variable {X : Cx} {t : Tb} {W : XW} {elt tg iter : Expr} {ifs : List Expr} {scope : Scope} {own : List (Str × Nat)} {pos : Pos} {mi : IW} {g : Tg} {mt : T} {m : E}
/-- one turn of a block -/
theorem lc_turn {am : List Addr} {r : Env} {s : S} {H : Hp} {d : D} {x : V} {σ : L2.St} {vs : List Nat} {n : Nat} {Dx : Addr} {k : Env → S → Rs D} {Nx : Hp → Prop} {Ex : XK} {Q : VK} (en : EnvR t am H r σ) (mm : Ms t am s H) (rp : Rep t am H d x) (hD : am[n]? = some Dx)
    (h : RQ t am H (match g d r s with
      | none => .stk
      | some (r1, s1) => match mt r1 s1 with
        | .ok false s2 => k r s2
        | .ok true s2 => match m r1 s2 with
          | .ok d s3 => match appendAt n d s3 with
            | some s4 => k r s4
            | none => .stk
          | _ => .stk
        | _ => .stk) (Rep t) Ex Q)
    (hN : ∀ am2 s2 H2, Post am H am2 H2 → Ms t am2 s2 H2 → RQ t am2 H2 (k r s2) (Rep t) Ex Q → Nx H2) :
    tyGw t g vs x σ H fun σ2 H2 => wipe σ2 vs = wipe σ vs ∧ tyT t W0 mt σ2 H2 fun b H3 => if b = true then tyE t W0 m σ2 H3 fun y H4 => ∃ acc, H4 Dx = some (.lst acc) ∧ acc.length < sizeLine ∧ Nx (L2.upd H4 Dx (.lst (acc ++ [y]))) else Nx H3 := by
  split at h
  · exact h.elim
  · rename_i r1 s1 e1
    refine ⟨am, r, s, d, en, mm, rp, r1, s1, e1, fun am1 H1 σ1 p1 m1 en1 w => ⟨w, am1, r1, s1, en1, m1, ?_⟩⟩
    have h := RQ.re h p1
    cases hx : mt r1 s1 with
    | exc c fs s2 => rw [hx] at h; exact h.elim
    | stk => rw [hx] at h; exact h.elim
    | ok b s2 =>
      rw [hx] at h
      intro am2 H2 b' p2 m2 eb
      cases eb
      cases b with
      | false =>
        rw [if_neg Bool.false_ne_true]
        exact hN am2 s2 H2 (p1.trans p2) m2 (RQ.re h p2)
      | true =>
        rw [if_pos rfl]
        refine ⟨am2, r1, s2, en1.mono p2, m2, ?_⟩
        have h := RQ.re h p2
        simp only at h
        cases hy : m r1 s2 with
        | exc c fs s3 => rw [hy] at h; exact h.elim
        | stk => rw [hy] at h; exact h.elim
        | ok d3 s3 =>
          rw [hy] at h
          intro am3 H3 y p3 m3 ry
          have h := RQ.re h p3
          simp only at h
          have hD3 : am3[n]? = some Dx := p3.at (p2.at (p1.at hD))
          unfold appendAt at h
          split at h
          · rename_i s4 e4
            split at e4
            · rename_i xs ex
              split at e4
              · rename_i hl
                cases e4
                obtain ⟨acc, ha, ra⟩ := m3.lst ex hD3
                refine ⟨acc, ha, by rw [← ra.length]; exact Nat.lt_of_lt_of_le hl (by decide), ?_⟩
                have P : Post am3 H3 am3 (L2.upd H3 Dx (.lst (acc ++ [y]))) := .put (List.mem_of_getElem? hD3) ha (fun z => z)
                obtain ⟨_, m4⟩ := m3.put (u := .lst (acc ++ [y])) (o := .lst (xs ++ [d3])) hD3 ⟨_, upd_same, (ra.append (.one ry)).mono P⟩
                exact hN am3 _ _ (((p1.trans p2).trans p3).trans P) m4 (RQ.re h P)
              · cases e4
            · cases e4
          · exact h.elim
theorem wipe_id : ∀ (vs : List Nat) (σ : L2.St), (∀ i ∈ vs, ∀ x, σ[i]? = some x → x = none) → wipe σ vs = σ := by
  intro vs
  induction vs with
  | nil => intro σ _; rfl
  | cons v vs ih =>
    intro σ hh
    unfold wipe
    rw [ih σ fun i hi => hh i (List.mem_cons_of_mem _ hi)]
    refine List.ext_getElem? fun k => ?_
    by_cases hk : v = k
    · subst hk
      cases hv : σ[v]? with
      | none => rw [List.getElem?_eq_none]; rw [List.length_set]; exact List.getElem?_eq_none_iff.mp hv
      | some x =>
        rw [List.getElem?_set_self (List.getElem?_eq_some_iff.mp hv).1, hh v List.mem_cons_self x hv]
    · rw [List.getElem?_set_ne hk]
theorem wipe_wipe (σ : L2.St) (vs : List Nat) : wipe (wipe σ vs) vs = wipe σ vs := wipe_id vs _ fun i hi x hx => by
  cases x with
  | none => rfl
  | some x => exact absurd hi (wipe_some hx).2
theorem lc_ty (hK : X.K = t.K) {vs : List Nat} {σ : L2.St} {H : Hp} {Q : VK} (h : tyE t W (eLc mi g mt m vs) σ H Q) : tLc (tyI t W mi) (tyGw t g vs) (tyT t W0 mt) (tyE t W0 m) vs σ H Q := by
  obtain ⟨am, r, s, en, mm, h⟩ := h
  refine ⟨am, r, s, en, mm, ?_⟩
  have h : RQ t am H ((mi r s).bind _) (Rep t) (W σ) Q := h
  cases hx : mi r s with
  | exc c fs s' => rw [hx] at h; exact h
  | stk => rw [hx] at h; exact h
  | ok j s0 =>
    rw [hx] at h
    cases j with
    | items xs =>
      have h : RQ t am H (compM g mt m s0.length xs (wipeD r vs) (s0 ++ [.lst []])) (Rep t) (W σ) Q := h
      intro am' H' J G p m' ok hG Dx hDx
      have pn : Post am' H' (am' ++ [Dx]) (L2.upd H' Dx (.lst [])) := .new hDx
      have mn : Ms t (am' ++ [Dx]) (s0 ++ [.lst []]) (L2.upd H' Dx (.lst [])) := m'.new hDx ⟨[], upd_same, rfl⟩
      have hn : (am' ++ [Dx])[s0.length]? = some Dx := by rw [← m'.len]; simp
      refine ⟨fun i n H1 => ∃ am1 s1, n = (xs.drop i).length ∧ am1[s0.length]? = some Dx ∧ EnvR t am1 H1 (wipeD r vs) (wipe σ vs) ∧ Ms t am1 s1 H1 ∧ G am1 H1 ∧ RQ t am1 H1 (compM g mt m s0.length (xs.drop i) (wipeD r vs) s1) (Rep t) (W σ) Q,
        ⟨xs.length, am' ++ [Dx], s0 ++ [.lst []], by simp, hn, ((en.mono p).mono pn).wipe vs, mn, ok.keep _ _ _ _ hG pn, by rw [List.drop_zero]; exact RQ.re (RQ.re h p) pn⟩, ?_⟩
      rintro i n H1 ⟨am1, s1, rfl, hd1, en1, m1, g1, h1⟩
      cases hd : xs[i]? with
      | none =>
        have e : xs.drop i = [] := List.drop_eq_nil_of_le (List.getElem?_eq_none_iff.mp hd)
        rw [e] at h1
        exact .inl ⟨ok.stop i am1 H1 g1 hd, RQ.ok0 h1 m1 ⟨Dx, rfl, hd1⟩⟩
      | some d =>
        have hl := (List.getElem?_eq_some_iff.mp hd)
        have e : xs.drop i = d :: xs.drop (i + 1) := by rw [List.drop_eq_getElem_cons hl.1, hl.2]
        rw [e] at h1
        obtain ⟨go, yl⟩ := ok.item i d am1 H1 g1 hd
        refine .inr ⟨go, fun H2 => ∃ am2 s2, am2[s0.length]? = some Dx ∧ EnvR t am2 H2 (wipeD r vs) (wipe σ vs) ∧ Ms t am2 s2 H2 ∧ G am2 H2 ∧ RQ t am2 H2 (compM g mt m s0.length (xs.drop (i + 1)) (wipeD r vs) s2) (Rep t) (W σ) Q, fun H2 ⟨am2, s2, z0, z1, z2, z3, z4⟩ => ⟨_, by rw [e]; simp, am2, s2, rfl, z0, z1, z2, z3, z4⟩, fun x H2 y => ?_⟩
        obtain ⟨p2, m2, rp⟩ := yl x H2 y
        have g2 := ok.keep _ _ _ _ g1 p2
        have en2 := en1.mono p2
        have t1 := lc_turn (vs := vs) (k := fun r s => compM g mt m s0.length (xs.drop (i + 1)) r s) (Nx := fun H2 => ∃ am2 s2, am2[s0.length]? = some Dx ∧ EnvR t am2 H2 (wipeD r vs) (wipe σ vs) ∧ Ms t am2 s2 H2 ∧ G am2 H2 ∧ RQ t am2 H2 (compM g mt m s0.length (xs.drop (i + 1)) (wipeD r vs) s2) (Rep t) (W σ) Q) en2 (m2 s1 m1) rp (p2.at hd1) (RQ.re h1 p2)
          fun am3 s3 H3 p3 z2 z3 => ⟨am3, s3, p3.at (p2.at hd1), en2.mono p3, z2, ok.keep _ _ _ _ g2 p3, z3⟩
        rw [show wipe (wipe σ vs) vs = wipe σ vs from ?_] at t1
        · exact t1
        · have ww : ∀ (vs : List Nat) (σ : L2.St), (∀ i ∈ vs, ∀ x, σ[i]? = some x → x = none) → wipe σ vs = σ := by
            intro vs
            induction vs with
            | nil => intro σ _; rfl
            | cons v vs ih =>
              intro σ hh
              unfold wipe
              rw [ih σ fun i hi => hh i (List.mem_cons_of_mem _ hi)]
              refine List.ext_getElem? fun k => ?_
              by_cases hk : v = k
              · subst hk
                cases hv : σ[v]? with
                | none => rw [List.getElem?_eq_none]; rw [List.length_set]; exact List.getElem?_eq_none_iff.mp hv
                | some x =>
                  rw [List.getElem?_set_self (List.getElem?_eq_some_iff.mp hv).1, hh v List.mem_cons_self x hv]
              · rw [List.getElem?_set_ne hk]
          refine ww vs _ fun i hi x hx => ?_
          cases x with
          | none => rfl
          | some x => exact absurd hi (wipe_some hx).2
    | list l =>
      have h : RQ t am H (compR g mt m s0.length l FUEL 0 (wipeD r vs) (s0 ++ [.lst []])) (Rep t) (W σ) Q := h
      intro am' H' a p m' ha Dx hDx
      have pn : Post am' H' (am' ++ [Dx]) (L2.upd H' Dx (.lst [])) := .new hDx
      have mn : Ms t (am' ++ [Dx]) (s0 ++ [.lst []]) (L2.upd H' Dx (.lst [])) := m'.new hDx ⟨[], upd_same, rfl⟩
      have hn : (am' ++ [Dx])[s0.length]? = some Dx := by rw [← m'.len]; simp
      refine ⟨fun i n H1 => ∃ am1 s1, am1[l]? = some a ∧ am1[s0.length]? = some Dx ∧ EnvR t am1 H1 (wipeD r vs) (wipe σ vs) ∧ Ms t am1 s1 H1 ∧ RQ t am1 H1 (compR g mt m s0.length l n i (wipeD r vs) s1) (Rep t) (W σ) Q,
        ⟨FUEL, am' ++ [Dx], s0 ++ [.lst []], pn.at ha, hn, ((en.mono p).mono pn).wipe vs, mn, RQ.re (RQ.re h p) pn⟩, ?_⟩
      rintro i n H1 ⟨am1, s1, a1, hd1, en1, m1, h1⟩
      cases n with
      | zero => exact h1.elim
      | succ n =>
        unfold compR at h1
        split at h1
        · rename_i xs e1
          obtain ⟨us, hv, rv⟩ := m1.lst e1 a1
          cases hd : xs[i]? with
          | none =>
            rw [hd] at h1
            exact .inl ⟨⟨us, .of hv, by rw [← rv.length]; exact List.getElem?_eq_none_iff.mp hd⟩, RQ.ok0 h1 m1 ⟨Dx, rfl, hd1⟩⟩
          | some d =>
            rw [hd] at h1
            obtain ⟨v, ev, rp⟩ := rv.get hd
            refine .inr ⟨⟨us, v, .of hv, ev⟩, fun H2 => ∃ am2 s2, am2[l]? = some a ∧ am2[s0.length]? = some Dx ∧ EnvR t am2 H2 (wipeD r vs) (wipe σ vs) ∧ Ms t am2 s2 H2 ∧ RQ t am2 H2 (compR g mt m s0.length l n (i + 1) (wipeD r vs) s2) (Rep t) (W σ) Q, fun H2 z => ⟨n, Nat.lt_succ_self n, z⟩, fun x H2 y => ?_⟩
            obtain ⟨rfl, y⟩ := y
            have := y us (.of hv)
            rw [ev] at this; cases this
            have t1 := lc_turn (vs := vs) (k := fun r s => compR g mt m s0.length l n (i + 1) r s) (Nx := fun H2 => ∃ am2 s2, am2[l]? = some a ∧ am2[s0.length]? = some Dx ∧ EnvR t am2 H2 (wipeD r vs) (wipe σ vs) ∧ Ms t am2 s2 H2 ∧ RQ t am2 H2 (compR g mt m s0.length l n (i + 1) (wipeD r vs) s2) (Rep t) (W σ) Q) en1 m1 rp hd1 h1
              fun am3 s3 H3 p3 z2 z3 => ⟨am3, s3, p3.at a1, p3.at hd1, en1.mono p3, z2, z3⟩
            rw [show wipe (wipe σ vs) vs = wipe σ vs from ?_] at t1
            · exact t1
            · have ww : ∀ (vs : List Nat) (σ : L2.St), (∀ i ∈ vs, ∀ x, σ[i]? = some x → x = none) → wipe σ vs = σ := by
                intro vs
                induction vs with
                | nil => intro σ _; rfl
                | cons v vs ih =>
                  intro σ hh
                  unfold wipe
                  rw [ih σ fun i hi => hh i (List.mem_cons_of_mem _ hi)]
                  refine List.ext_getElem? fun k => ?_
                  by_cases hk : v = k
                  · subst hk
                    cases hv : σ[v]? with
                    | none => rw [List.getElem?_eq_none]; rw [List.length_set]; exact List.getElem?_eq_none_iff.mp hv
                    | some x =>
                      rw [List.getElem?_set_self (List.getElem?_eq_some_iff.mp hv).1, hh v List.mem_cons_self x hv]
                  · rw [List.getElem?_set_ne hk]
              refine ww vs _ fun i hi x hx => ?_
              cases x with
              | none => rfl
              | some x => exact absurd hi (wipe_some hx).2
        · exact h1.elim
    | dyn f =>
      have h : RQ t am H (compF g mt m s0.length f FUEL 0 (wipeD r vs) (s0 ++ [.lst []])) (Rep t) (W σ) Q := h
      intro am' H' J Gd p m' ok hG Dx hDx
      have pn : Post am' H' (am' ++ [Dx]) (L2.upd H' Dx (.lst [])) := .new hDx
      have mn : Ms t (am' ++ [Dx]) (s0 ++ [.lst []]) (L2.upd H' Dx (.lst [])) := m'.new hDx ⟨[], upd_same, rfl⟩
      have hn : (am' ++ [Dx])[s0.length]? = some Dx := by rw [← m'.len]; simp
      refine ⟨fun i n H1 => ∃ am1 s1, Gd am1 ∧ am1[s0.length]? = some Dx ∧ EnvR t am1 H1 (wipeD r vs) (wipe σ vs) ∧ Ms t am1 s1 H1 ∧ RQ t am1 H1 (compF g mt m s0.length f n i (wipeD r vs) s1) (Rep t) (W σ) Q,
        ⟨FUEL, am' ++ [Dx], s0 ++ [.lst []], ok.keep _ _ _ _ hG pn, hn, ((en.mono p).mono pn).wipe vs, mn, RQ.re (RQ.re h p) pn⟩, ?_⟩
      rintro i n H1 ⟨am1, s1, g1, hd1, en1, m1, h1⟩
      cases n with
      | zero => exact h1.elim
      | succ n =>
        unfold compF at h1
        split at h1
        · rename_i xs e1
          cases hd : xs[i]? with
          | none =>
            rw [hd] at h1
            exact .inl ⟨ok.stop i xs am1 s1 H1 g1 m1 e1 hd, RQ.ok0 h1 m1 ⟨Dx, rfl, hd1⟩⟩
          | some d =>
            rw [hd] at h1
            obtain ⟨go, yl⟩ := ok.item i d xs am1 s1 H1 g1 m1 e1 hd
            refine .inr ⟨go, fun H2 => ∃ am2 s2, Gd am2 ∧ am2[s0.length]? = some Dx ∧ EnvR t am2 H2 (wipeD r vs) (wipe σ vs) ∧ Ms t am2 s2 H2 ∧ RQ t am2 H2 (compF g mt m s0.length f n (i + 1) (wipeD r vs) s2) (Rep t) (W σ) Q, fun H2 z => ⟨n, Nat.lt_succ_self n, z⟩, fun x H2 y => ?_⟩
            obtain ⟨p2, m2, rp⟩ := yl x H2 y
            have t1 := lc_turn (vs := vs) (k := fun r s => compF g mt m s0.length f n (i + 1) r s) (Nx := fun H2 => ∃ am2 s2, Gd am2 ∧ am2[s0.length]? = some Dx ∧ EnvR t am2 H2 (wipeD r vs) (wipe σ vs) ∧ Ms t am2 s2 H2 ∧ RQ t am2 H2 (compF g mt m s0.length f n (i + 1) (wipeD r vs) s2) (Rep t) (W σ) Q) (en1.mono p2) m2 rp (p2.at hd1) (RQ.re h1 p2)
              fun am3 s3 H3 p3 z2 z3 => ⟨am3, s3, ok.keep _ _ _ _ g1 (p2.trans p3), p3.at (p2.at hd1), (en1.mono p2).mono p3, z2, z3⟩
            rw [wipe_wipe] at t1
            exact t1
        · exact h1.elim
theorem s_lc (hK : X.K = t.K) (hc : X.calm = true) (hN : X.N.Nodup) (hi : SI X t W tg iter mi) (ok : BlkOk X.N X.env.scope scope own)
    (hg : ∀ (s : Shared) (H : Hp) (C : Addr) (cl : List (Str × Addr)) (fp : List Addr), SGw (X.blk s H scope (compEnvC scope cl C X.env) fp) t tg g (own.map (·.2)))
    (ht : ∀ (s : Shared) (H : Hp) (C : Addr) (cl : List (Str × Addr)) (fp : List Addr), SPts (X.blk s H scope (compEnvC scope cl C X.env) fp) t W0 ifs mt)
    (he : ∀ (s : Shared) (H : Hp) (C : Addr) (cl : List (Str × Addr)) (fp : List Addr), SE (X.blk s H scope (compEnvC scope cl C X.env) fp) t W0 elt m) (hs : ∀ x, foldedSetIterable iter X.env x = pure x := by intro _; rfl) :
    SE X t W (.ListComp elt [⟨tg, iter, ifs, 0⟩] scope pos) (eLc mi g mt m (own.map (·.2))) := (pe_lc hc hN hi ok hg ht he hs).imp fun σ H Q h => lc_ty hK h
theorem z_setLc {i : Nat} {y : Str} {py spos : Pos} (hK : X.K = t.K) (hc : X.calm = true) (hN : X.N.Nodup) (hy : X.N[i]? = some y) (hyl : X.env.scope.names.lookup y = some .local)
    (hsw : swapsWith (.ListComp elt [⟨tg, iter, ifs, 0⟩] scope pos) (some (.Name y py)) spos.line X.env = pure true) (hi : SI X t W tg iter mi) (ok : BlkOk X.N X.env.scope scope own)
    (hg : ∀ (s : Shared) (H : Hp) (C : Addr) (cl : List (Str × Addr)) (fp : List Addr), SGw (X.blk s H scope (compEnvC scope cl C X.env) fp) t tg g (own.map (·.2)))
    (ht : ∀ (s : Shared) (H : Hp) (C : Addr) (cl : List (Str × Addr)) (fp : List Addr), SPts (X.blk s H scope (compEnvC scope cl C X.env) fp) t W0 ifs mt)
    (he : ∀ (s : Shared) (H : Hp) (C : Addr) (cl : List (Str × Addr)) (fp : List Addr), SE (X.blk s H scope (compEnvC scope cl C X.env) fp) t W0 elt m) (hs : ∀ x, foldedSetIterable iter X.env x = pure x := by intro _; rfl) :
    SS X t W (.Assign [.Name y py] (.ListComp elt [⟨tg, iter, ifs, 0⟩] scope pos) spos) (zSet (gV i) (eLc mi g mt m (own.map (·.2)))) :=
  (ps_setLc hc hN hy hyl hsw hi ok hg ht he hs).imp fun D σ H ⟨am, r, s, en, mm, h⟩ => lc_ty hK ⟨am, r, s, en, mm, FQ.seq en h fun d s1 am1 H1 v p1 en1 m1 r1 h1 => by
    unfold gV at h1
    by_cases hl : i < r.length
    · simp only [hl, if_true] at h1
      exact h1.nx0 m1 (en1.set i r1)
    · simp only [hl, if_false] at h1
      exact h1.elim⟩
end
end Y

/-! Y6: defs and their calls, errors raised. -/
namespace Y
open PySem L2

/-! ### what a def promises: its plain function -/
def spF (t : Tb) (k : Nat) (f : Fn) : Sp := fun vs H Q E => ∃ am ds s, ds.length = k ∧ Ms t am s H ∧ Reps t am H ds vs ∧ RQ t am H (f ds s) (Rep t) E Q
/-- a body's context -/
structure Okc (X : Cx) (t : Tb) (W : XW) : Prop where
  hK : X.K = t.K
  hx : ∀ σ, PassesAt (L2.CX X.prog X.w) X σ (W σ)
section
variable {P : Program} {w : World} {K : PySem.W.Frag} {mg : Str → Option Value} {base : Heap}
theorem okc_def {N : List Str} {qual : Str} {scope : Scope} {f : Addr} {cd : Value} {A : Around} {outer : List PySem.Env} {s : Shared} {H : Hp} {E : XK} {t : Tb} (hK : K = t.K) : Okc (cxOf (L2.CX P w) P w K mg base N qual scope f cd A outer s H E) t (fun _ => E) :=
  ⟨hK, fun σ => passAt (W := fun cls d _ H => E cls d H) (takes_of rfl rfl rfl rfl) σ⟩
theorem pass_def {N : List Str} {qual : Str} {scope : Scope} {f : Addr} {cd : Value} {A : Around} {outer : List PySem.Env} {s : Shared} {H : Hp} {E : XK} :
    PassesOwn (model (cxOf (L2.CX P w) P w K mg base N qual scope f cd A outer s H E).prog (cxOf (L2.CX P w) P w K mg base N qual scope f cd A outer s H E).w) (cxOf (L2.CX P w) P w K mg base N qual scope f cd A outer s H E).A (cxOf (L2.CX P w) P w K mg base N qual scope f cd A outer s H E).env (cxOf (L2.CX P w) P w K mg base N qual scope f cd A outer s H E).xe := passes_of rfl
theorem Okc.blk {X : Cx} {t : Tb} {W : XW} (h : Okc X t W) {s : Shared} {H : Hp} {scope : Scope} {env : PySem.Env} {fp : List Addr} : Okc (X.blk s H scope env fp) t W0 :=
  ⟨h.hK, fun σ => fun _ _ _ _ _ _ c => by
    obtain ⟨_, _, _, _, _, _, _, _, _, _, _, _, z⟩ := c
    exact z.elim⟩
theorem reps_start {t : Tb} {am : List Addr} {H : Hp} : ∀ {ds : List D} {vs : List V}, Reps t am H ds vs → ∀ n, EnvR t am H (ds ++ List.replicate n .undef) (vs.map some ++ List.replicate n none) := fun {ds vs} h n => by
  refine ⟨by simp [h.length], fun i d e hu => ?_⟩
  by_cases hl : i < ds.length
  · rw [List.getElem?_append_left hl] at e
    obtain ⟨v, h1, h2⟩ := h.get e
    refine ⟨v, ?_, h2⟩
    rw [List.getElem?_append_left (by rw [List.length_map, ← h.length]; exact hl), List.getElem?_map, h1]
    rfl
  · rw [List.getElem?_append_right (by omega), List.getElem?_replicate] at e
    split at e
    · cases e; exact absurd rfl hu
    · cases e
theorem fn_ok {x qual : Str} {st : Stmt} {f : Addr} {fd : FuncData} {N ps : List Str} {k : Nat} {t : Tb} {m : Sm} (F : Fun K x qual st f fd) (S : FnScope N ps (defScope st))
    (hbody : ∀ (cdv : Value) (A : Around) (outer : List PySem.Env) (s : Shared) (H : Hp) (E : XK), Room k (A.deeper (PyProof.Rows.envOfC qual (defScope st) s.heap.objs.size f cdv)) →
      SSs (cxOf (L2.CX P w) P w K mg base N qual (defScope st) f cdv A outer s H E) t (fun _ => E) (defBody st) m) :
    FnOk P w K mg base (L2.CX P w) (k + 1) f fd ps (spF t ps.length (mkFn N.length ps.length m)) := by
  refine F.okX S (fun vs H Q E h => ?_) (fun cdv A outer s H vs Q E hr h => ?_)
  · obtain ⟨am, ds, s, hl, _, r, _⟩ := h
    rw [← r.length, hl]
  · refine ⟨_, hbody cdv A outer s H E hr, ?_⟩
    obtain ⟨am, ds, s0, hl, mm, r, h⟩ := h
    have hN : ps.length ≤ N.length := by
      have := congrArg List.length S.pre
      rw [List.length_take] at this
      omega
    have en : EnvR t am H (ds ++ List.replicate (N.length - ps.length) .undef) (L2.start N vs) := by
      unfold L2.start
      rw [← r.length, hl]
      exact reps_start r _
    refine ⟨am, _, s0, en, mm, ?_⟩
    unfold mkFn at h
    rw [if_pos hl] at h
    cases hx : m (ds ++ List.replicate (N.length - ps.length) .undef) s0 with
    | nx r1 s1 => rw [hx] at h; exact fun am' H' σ' p m _ => h am' H' .non p m rfl
    | rt d s1 => rw [hx] at h; exact h
    | bk r1 s1 => rw [hx] at h; exact h.elim
    | ct r1 s1 => rw [hx] at h; exact h.elim
    | exc c fs r1 s1 => rw [hx] at h; exact fun am' H' σ' cls dd p m _ z => h am' H' cls dd p m z
    | stk => rw [hx] at h; exact h.elim
end

/-! ### a call by what the arguments hold -/
theorem pureL_all : ∀ {xs : List D}, D.pureL xs = true → ∀ x ∈ xs, x.pure = true
  | [], _, _, h => by cases h
  | y :: xs, h, x, hx => by
    unfold D.pureL at h
    rw [Bool.and_eq_true] at h
    rcases List.mem_cons.mp hx with e | e
    · rw [e]; exact h.1
    · exact pureL_all h.2 x e
theorem nodupN_iff : ∀ {ns : List Nat}, nodupN ns = true → ns.Nodup
  | [], _ => List.nodup_nil
  | n :: ns, h => by
    unfold nodupN at h
    simp only [Bool.and_eq_true, Bool.not_eq_true', List.contains_eq_mem, decide_eq_false_iff_not] at h
    exact List.nodup_cons.mpr ⟨h.1, nodupN_iff h.2⟩
theorem getAll_len : ∀ {ns : List Nat} {s os : S}, getAll s ns = some os → os.length = ns.length
  | [], s, os, h => by cases h; rfl
  | n :: ns, s, os, h => by
    unfold getAll at h
    split at h
    · rename_i o os' e1 e2
      split at h
      · cases h
        rw [List.length_cons, List.length_cons, getAll_len e2]
      · cases h
    · cases h
theorem getAll_get : ∀ {ns : List Nat} {s os : S} {j n : Nat}, getAll s ns = some os → ns[j]? = some n → ∃ o, s[n]? = some o ∧ os[j]? = some o ∧ o.pure = true
  | [], s, os, j, n, h, e => by simp at e
  | m :: ns, s, os, j, n, h, e => by
    unfold getAll at h
    split at h
    · rename_i o os' e1 e2
      split at h
      · rename_i hp
        cases h
        cases j with
        | zero =>
          have : m = n := by simpa using e
          subst this
          exact ⟨o, e1, rfl, hp⟩
        | succ j =>
          obtain ⟨o', h1, h2, h3⟩ := getAll_get (j := j) e2 (by simpa using e)
          exact ⟨o', h1, by simpa using h2, h3⟩
      · cases h
    · cases h
theorem putAll_len : ∀ (ns : List Nat) (os s : S), (putAll ns os s).length = s.length
  | [], _, _ => by unfold putAll; rfl
  | n :: ns, [], _ => by unfold putAll; rfl
  | n :: ns, o :: os, s => by
    unfold putAll
    rw [putAll_len ns os, List.length_set]
theorem putAll_out : ∀ (ns : List Nat) (os s : S) (k : Nat), k ∉ ns → (putAll ns os s)[k]? = s[k]?
  | [], _, _, _, _ => by unfold putAll; rfl
  | n :: ns, [], _, _, _ => by unfold putAll; rfl
  | n :: ns, o :: os, s, k, h => by
    unfold putAll
    rw [List.mem_cons, not_or] at h
    rw [putAll_out ns os _ k h.2, List.getElem?_set_ne (Ne.symm h.1)]
theorem putAll_in : ∀ (ns : List Nat) (os s : S) (j n : Nat) (o : O), ns.Nodup → ns[j]? = some n → os[j]? = some o → n < s.length → (putAll ns os s)[n]? = some o
  | [], _, _, _, _, _, _, e, _, _ => by simp at e
  | n :: ns, [], _, _, _, _, _, _, e, _ => by simp at e
  | m :: ns, o' :: os, s, j, n, o, nd, e1, e2, hl => by
    unfold putAll
    have nd' := List.nodup_cons.mp nd
    cases j with
    | zero =>
      have a : m = n := by simpa using e1
      have b : o' = o := by simpa using e2
      subst a b
      rw [putAll_out ns os _ m nd'.1, List.getElem?_set_self hl]
    | succ j => exact putAll_in ns os _ j n o nd'.2 (by simpa using e1) (by simpa using e2) (by rw [List.length_set]; exact hl)
theorem renum_reps {t : Tb} {am am2 : List Addr} {H : Hp} : ∀ (ds : List D) (vs : List V) (k : Nat), Reps t am H ds vs → ds.all argOk = true → (∀ (j n : Nat), (refsOf ds)[j]? = some n → am2[k + j]? = am[n]?) → Reps t am2 H (renum k ds) vs
  | [], _, _, h, _, _ => h
  | d :: ds, vs, k, h, ok, hm => by
    obtain ⟨v, r, rfl, h1, h2⟩ := h
    rw [List.all_cons, Bool.and_eq_true] at ok
    cases d with
    | ref n =>
      refine ⟨v, r, rfl, ?_, renum_reps ds r (k + 1) h2 ok.2 fun j n' e => ?_⟩
      · obtain ⟨a, e, ha⟩ := h1.refE
        refine ⟨a, e, ?_⟩
        have := hm 0 n rfl
        rw [Nat.add_zero] at this
        rw [this]; exact ha
      · have := hm (j + 1) n' (by unfold refsOf; simpa using e)
        rw [← this]; congr 1; omega
    | _ => exact ⟨v, r, rfl, Rep.pure (fun _ _ h _ => h) _ _ ok.1 h1, renum_reps ds r k h2 ok.2 hm⟩
theorem renum_len : ∀ (ds : List D) (k : Nat), (renum k ds).length = ds.length
  | [], _ => rfl
  | d :: ds, k => by cases d <;> (unfold renum; rw [List.length_cons, List.length_cons, renum_len])
theorem refs_in {t : Tb} {am : List Addr} {H : Hp} : ∀ {ds : List D} {vs : List V} {j n : Nat}, Reps t am H ds vs → (refsOf ds)[j]? = some n → n < am.length
  | [], _, _, _, _, e => by simp [refsOf] at e
  | d :: ds, vs, j, n, h, e => by
    obtain ⟨v, r, rfl, h1, h2⟩ := h
    cases d with
    | ref k =>
      cases j with
      | zero =>
        have : k = n := by simpa [refsOf] using e
        subst this
        obtain ⟨a, _, ha⟩ := h1.refE
        exact (List.getElem?_eq_some_iff.mp ha).1
      | succ j => exact refs_in h2 (by simpa [refsOf] using e)
    | _ => exact refs_in h2 (by simpa [refsOf] using e)
/-- the store behind a call: the arguments' objects as the def left them -/
theorem put_ms {t : Tb} {am am2 l : List Addr} {H H' : Hp} {s s' : S} {ns : List Nat} (nd : ns.Nodup) (m : Ms t am s H) (hl : ∀ n ∈ ns, n < am.length) (h2 : am2.length = ns.length) (hm : ∀ (j n : Nat), ns[j]? = some n → am2[j]? = am[n]?)
    (p : Post am2 H (am2 ++ l) H') (m' : Ms t (am2 ++ l) s' H') (hp : (s'.take ns.length).all O.pure = true) : Post am H am H' ∧ Ms t am (putAll ns s' s) H' := by
  have sub : ∀ a, a ∈ am2 → a ∈ am := fun a ha => by
    obtain ⟨j, hj⟩ := List.getElem?_of_mem ha
    have hjl := (List.getElem?_eq_some_iff.mp hj).1
    obtain ⟨n, hn⟩ : ∃ n, ns[j]? = some n := ⟨ns[j]'(by omega), List.getElem?_eq_getElem (by omega)⟩
    exact List.mem_of_getElem? ((hm j n hn).symm.trans hj)
  have P : Post am H am H' := ⟨⟨[], by simp, by simp⟩, p.imm, fun a o h n => p.keep a o h fun z => n (sub a z), p.dom⟩
  refine ⟨P, m.nd, by rw [putAll_len]; exact m.len, fun k o e => ?_, m'.tb⟩
  by_cases hk : k ∈ ns
  · obtain ⟨j, hj⟩ := List.getElem?_of_mem hk
    have hjl := (List.getElem?_eq_some_iff.mp hj).1
    have hks : k < s.length := by rw [← m.len]; exact hl k hk
    have hjs : j < s'.length := by rw [← m'.len, List.length_append]; omega
    have e' := putAll_in ns s' s j k s'[j] nd hj (List.getElem?_eq_getElem hjs) hks
    rw [e] at e'; cases e'
    obtain ⟨a, h3, h4⟩ := m'.ob j s'[j] (List.getElem?_eq_getElem hjs)
    rw [List.getElem?_append_left (by omega)] at h3
    have pu : s'[j].pure = true := List.all_eq_true.mp hp _ (by
      have : (s'.take ns.length)[j]? = some s'[j] := by rw [List.getElem?_take_of_lt hjl]; exact List.getElem?_eq_getElem hjs
      exact List.mem_of_getElem? this)
    exact ⟨a, (hm j k hj).symm.trans h3, h4.pure pu⟩
  · rw [putAll_out ns s' s k hk] at e
    obtain ⟨a, h3, h4⟩ := m.ob k o e
    refine ⟨a, h3, ?_⟩
    have na : a ∉ am2 := fun ha => by
      obtain ⟨j, hj⟩ := List.getElem?_of_mem ha
      have hjl := (List.getElem?_eq_some_iff.mp hj).1
      obtain ⟨n, hn⟩ : ∃ n, ns[j]? = some n := ⟨ns[j]'(by omega), List.getElem?_eq_getElem (by omega)⟩
      have h5 := (hm j n hn).symm.trans hj
      have : k = n := (List.getElem_inj m.nd).mp ((List.getElem?_eq_some_iff.mp h3).2.trans (List.getElem?_eq_some_iff.mp h5).2.symm)
      exact hk (this ▸ List.mem_of_getElem? hn)
    obtain ⟨u, hu, _, ht⟩ := m.mem (List.mem_of_getElem? h3)
    exact h4.mono P ((p.keep a u hu na ht).trans hu.symm)
theorem callK_sp {t : Tb} {am : List Addr} {H : Hp} {f : Fn} {ds : List D} {vs : List V} {s : S} {E : XK} {Q : VK} {k : Nat} (hl : ds.length = k) (m : Ms t am s H) (r : Reps t am H ds vs) (h : RQ t am H (callK f ds s) (Rep t) E Q) : spF t k f vs H Q E := by
  unfold callK at h
  by_cases hc : nodupN (refsOf ds) = true ∧ ds.all argOk = true
  · rw [if_pos hc] at h
    have nd := nodupN_iff hc.1
    split at h
    · exact h.elim
    · rename_i os eo
      have hin : ∀ n ∈ refsOf ds, n < am.length := fun n hn => by
        obtain ⟨j, hj⟩ := List.getElem?_of_mem hn
        exact refs_in r hj
      have h2 : ((refsOf ds).map fun n => am.getD n 0).length = (refsOf ds).length := List.length_map ..
      have hm : ∀ (j n : Nat), (refsOf ds)[j]? = some n → ((refsOf ds).map fun n => am.getD n 0)[j]? = am[n]? := fun j n e => by
        rw [List.getElem?_map, e, Option.map_some, List.getD_eq_getElem?_getD]
        have hn := hin n (List.mem_of_getElem? e)
        rw [List.getElem?_eq_getElem hn]; rfl
      generalize ((refsOf ds).map fun n => am.getD n 0) = am2 at h2 hm
      have sub : ∀ a, a ∈ am2 → ∃ j n, (refsOf ds)[j]? = some n ∧ am2[j]? = some a ∧ am[n]? = some a := fun a ha => by
        obtain ⟨j, hj⟩ := List.getElem?_of_mem ha
        have hjl := (List.getElem?_eq_some_iff.mp hj).1
        obtain ⟨n, hn⟩ : ∃ n, (refsOf ds)[j]? = some n := ⟨(refsOf ds)[j]'(by omega), List.getElem?_eq_getElem (by omega)⟩
        exact ⟨j, n, hn, hj, (hm j n hn).symm.trans hj⟩
      have ms : Ms t am2 os H := by
        refine ⟨?_, by rw [h2, getAll_len eo], fun j o e => ?_, m.tb⟩
        · refine List.pairwise_iff_getElem.mpr fun i j hi0 hj hij e0 => ?_
          have e : am2[i]? = am2[j]? := by rw [List.getElem?_eq_getElem hi0, List.getElem?_eq_getElem hj, e0]
          obtain ⟨n1, e1⟩ : ∃ n, (refsOf ds)[i]? = some n := ⟨(refsOf ds)[i]'(by omega), List.getElem?_eq_getElem (by omega)⟩
          obtain ⟨n2, e2⟩ : ∃ n, (refsOf ds)[j]? = some n := ⟨(refsOf ds)[j]'(by omega), List.getElem?_eq_getElem (by omega)⟩
          rw [hm i n1 e1, hm j n2 e2] at e
          have l1 := hin n1 (List.mem_of_getElem? e1)
          have l2 := hin n2 (List.mem_of_getElem? e2)
          rw [List.getElem?_eq_getElem l1, List.getElem?_eq_getElem l2] at e
          have en : n1 = n2 := (List.getElem_inj m.nd).mp (Option.some.inj e)
          subst en
          have := (List.getElem_inj nd).mp ((List.getElem?_eq_some_iff.mp e1).2.trans (List.getElem?_eq_some_iff.mp e2).2.symm)
          omega
        · have hj : j < os.length := (List.getElem?_eq_some_iff.mp e).1
          rw [getAll_len eo] at hj
          obtain ⟨o', h3, h4, h5⟩ := getAll_get (j := j) eo (List.getElem?_eq_getElem hj)
          rw [e] at h4; cases h4
          obtain ⟨a, h6, h7⟩ := m.ob _ _ h3
          exact ⟨a, (hm j _ (List.getElem?_eq_getElem hj)).trans h6, h7.pure h5⟩
      refine ⟨am2, renum 0 ds, os, by rw [renum_len, hl], ms, renum_reps ds vs 0 r hc.2 (fun j n e => by rw [Nat.zero_add]; exact hm j n e), ?_⟩
      cases hx : f (renum 0 ds) os with
      | stk => rw [hx] at h; exact h.elim
      | exc c fs s1 =>
        rw [hx] at h
        simp only at h
        split at h
        · rename_i hp
          intro am' H' cls dd p m' z
          obtain ⟨l, rfl, hfr⟩ := p.pre
          obtain ⟨P, M⟩ := put_ms nd m hin h2 hm p m' (by rw [← getAll_len eo]; exact hp.2)
          refine h am H' cls dd P M ?_
          obtain ⟨C, names, z1, z2, z3⟩ := z
          refine ⟨C, names, z1, z2, ?_⟩
          rcases z3 with z3 | ⟨d, us, z4, z5, z6, z7, z8⟩
          · exact .inl z3
          · exact .inr ⟨d, us, z4, z5, z6, z7, Reps.pure (fun _ _ h _ => h) _ _ hp.1 z8⟩
        · exact h.elim
      | ok d s1 =>
        rw [hx] at h
        simp only at h
        split at h
        · rename_i hp
          rw [getAll_len eo] at hp
          intro am' H' v p m' rv
          obtain ⟨l, rfl, hfr⟩ := p.pre
          obtain ⟨P, M⟩ := put_ms nd m hin h2 hm p m' hp
          split at h
          · rename_i j
            obtain ⟨a, rfl, ha⟩ := rv.refE
            split at h
            · rename_i n en
              have hj := (List.getElem?_eq_some_iff.mp en).1
              rw [List.getElem?_append_left (by omega)] at ha
              exact h am H' _ P M ⟨a, rfl, (hm j n en).symm.trans ha⟩
            · rename_i en
              split at h
              · rename_i o eo2
                split at h
                · rename_i hpu
                  have hj := List.getElem?_eq_none_iff.mp en
                  have hal : a ∈ l := by
                    rw [List.getElem?_append_right (by omega)] at ha
                    exact List.mem_of_getElem? ha
                  have hf := hfr a hal
                  have om := (m'.at eo2 ha).pure (am' := am ++ [a]) hpu
                  have na : a ∉ am := m.out hf
                  have P2 : Post am H (am ++ [a]) H' := ⟨⟨[a], rfl, by intro b hb; rw [List.mem_singleton] at hb; rw [hb]; exact hf⟩, P.imm, P.keep, P.dom⟩
                  refine h (am ++ [a]) H' (.ref a) P2 ⟨?_, ?_, fun n ob e => ?_, m'.tb⟩ ⟨a, rfl, ?_⟩
                  · rw [List.nodup_append]
                    exact ⟨m.nd, by simp, fun b hb c hc => by rw [List.mem_singleton] at hc; rintro rfl; exact na (hc ▸ hb)⟩
                  · rw [List.length_append, List.length_append, M.len]; rfl
                  · by_cases hlt : n < (putAll (refsOf ds) s1 s).length
                    · rw [List.getElem?_append_left hlt] at e
                      obtain ⟨b, h3, h4⟩ := M.ob n ob e
                      have hb : n < am.length := (List.getElem?_eq_some_iff.mp h3).1
                      exact ⟨b, by rw [List.getElem?_append_left hb]; exact h3, h4.lift ⟨fun i c hi => by rw [List.getElem?_append_left (List.getElem?_eq_some_iff.mp hi).1]; exact hi, fun _ _ h _ => h⟩ rfl⟩
                    · rw [List.getElem?_append_right (by omega)] at e
                      have e0 : n - (putAll (refsOf ds) s1 s).length = 0 := by
                        have := (List.getElem?_eq_some_iff.mp e).1
                        rw [List.length_singleton] at this; omega
                      rw [e0] at e
                      have : o = ob := by simpa using e
                      subst this
                      refine ⟨a, ?_, om⟩
                      rw [List.getElem?_append_right (by rw [M.len]; omega), M.len, e0]; rfl
                  · rw [← m.len]; simp
                · exact h.elim
              · exact h.elim
          · split at h
            · rename_i hpu
              exact h am H' v P M (Rep.pure (fun _ _ h _ => h) _ _ hpu rv)
            · exact h.elim
        · exact h.elim
  · rw [if_neg hc] at h; exact h.elim
section
variable {X : Cx} {t : Tb} {W : XW} {k l : Nat} {f : Addr} {fd : FuncData} {ps : List Str} {x : Str} {p pos : Pos} {e : Expr} {es : List Expr} {g : Fn} {ms : A}
/-- a call in the caller's own store -/
def nArgs (k : Nat) (g : Fn) : PN := fun ds s => if ds.length = k then g ds s else .stk
def eCall (k : Nat) (g : Fn) (a : A) : E := eN (nArgs k g) a
def eCallK (k : Nat) (g : Fn) (a : A) : E := eN (nArgs k (callK g)) a
theorem s_call (O : Okc X t W) (F : FnOk X.prog X.w X.K X.mg X.base (L2.CX X.prog X.w) l f fd ps (spF t k g)) (hr : Room l X.A) (hg : Gl X x) (hm : X.mg x = some (.ref f)) (hk : PySem.W.keepIn X.K (.ref f) = true) (hb : Binds X.K fd ps [])
    (ha : SA X t W (e :: es) ms) (hdb : (x == ("__debug__" : Str)) = false := by decide) (he : starEach (e :: es) X.env = (false, eval e X.env) :: starEach es X.env := by rfl) (hpl : (backTo pos (starEach es X.env)).any (·.1) = false := by rfl) :
    SE X t W (.Call (.Name x p) (e :: es) [] pos) (eCall k g ms) :=
  (pe_callS F hr hg hm hk hb O.hx ha hdb he hpl).imp fun σ H Q ⟨am, r, s, en, mm, h⟩ => tyA.of en mm h fun ds s1 am1 H1 vs en1 m1 p1 r1 h1 => by
    unfold nArgs at h1
    split at h1
    · rename_i hl
      exact ⟨am1, ds, s1, hl, m1, r1, h1⟩
    · exact h1.elim
theorem s_callK (O : Okc X t W) (F : FnOk X.prog X.w X.K X.mg X.base (L2.CX X.prog X.w) l f fd ps (spF t k g)) (hr : Room l X.A) (hg : Gl X x) (hm : X.mg x = some (.ref f)) (hk : PySem.W.keepIn X.K (.ref f) = true) (hb : Binds X.K fd ps [])
    (ha : SA X t W (e :: es) ms) (hdb : (x == ("__debug__" : Str)) = false := by decide) (he : starEach (e :: es) X.env = (false, eval e X.env) :: starEach es X.env := by rfl) (hpl : (backTo pos (starEach es X.env)).any (·.1) = false := by rfl) :
    SE X t W (.Call (.Name x p) (e :: es) [] pos) (eCallK k g ms) :=
  (pe_callS F hr hg hm hk hb O.hx ha hdb he hpl).imp fun σ H Q ⟨am, r, s, en, mm, h⟩ => tyA.of en mm h fun ds s1 am1 H1 vs en1 m1 p1 r1 h1 => by
    unfold nArgs at h1
    split at h1
    · rename_i hl
      exact callK_sp hl m1 r1 h1
    · exact h1.elim
end

/-! ### raise -/
section
variable {X : Cx} {t : Tb} {E : XK} {C : Addr} {x m : Str} {c j : Nat} {p p2 pos pos' : Pos} {bmB : List Value} {B newId initId : String}
theorem z_raise (hc : X.calm = true) (tk : Takes X (fun cls d _ H => E cls d H)) (FB : ExcBaseFacts B newId initId bmB) (q : PySem.W.excIn X.K C bmB newId = true) (gC : X.mg x = some (.ref C)) (kC : PySem.W.keepIn X.K (.ref C) = true)
    (r : Raises X (.ref C)) (hg : Gl X x) (hx : t.xc c = some (C, [])) (hdb : (x == ("__debug__" : Str)) = false := by decide) :
    SS X t (fun _ => E) (.Raise (some (.Call (.Name x p) [.Constant (.str m) j p2] [] pos)) none pos') (zRaise c) :=
  (ps_raise hc tk (pmk_own FB q gC kC r hg hdb)).imp fun D σ H ⟨am, r, s, en, mm, h⟩ => h am H σ (.ref C) none .refl mm en ⟨C, [], hx, rfl, .inl ⟨rfl, rfl, rfl⟩⟩
end
end Y

/-! Y7: built-in functions and methods. -/
namespace Y
open PySem L2
section
variable {X : Cx} {t : Tb}
theorem reps1 {am : List Addr} {H : Hp} {d : D} {vs : List V} (h : Reps t am H [d] vs) : ∃ v, vs = [v] ∧ Rep t am H d v := by
  obtain ⟨v, r, rfl, h1, h2⟩ := h
  cases (show r = [] from h2)
  exact ⟨v, rfl, h1⟩
theorem reps2 {am : List Addr} {H : Hp} {d e : D} {vs : List V} (h : Reps t am H [d, e] vs) : ∃ v w, vs = [v, w] ∧ Rep t am H d v ∧ Rep t am H e w := by
  obtain ⟨v, r, rfl, h1, h2⟩ := h
  obtain ⟨w, rfl, h3⟩ := reps1 h2
  exact ⟨v, w, rfl, h1, h3⟩
theorem n_abs : OpN t (fun xs H Q => ∃ i, xs = [.int i] ∧ Q (.int (if i < 0 then -i else i)) H) bAbs := fun am s H ds vs Ex Q m r q => by
  unfold bAbs at q
  split at q
  · obtain ⟨v, rfl, h⟩ := reps1 r
    cases h.intE
    exact ⟨_, rfl, q.ok0 m rfl⟩
  · exact q.elim
theorem n_max2 : OpN t (fun xs H Q => ∃ i j, xs = [.int i, .int j] ∧ Q (.int (if j > i then j else i)) H) bMax2 := fun am s H ds vs Ex Q m r q => by
  unfold bMax2 at q
  split at q
  · obtain ⟨v, w, rfl, h, h'⟩ := reps2 r
    cases h.intE; cases h'.intE
    exact ⟨_, _, rfl, q.ok0 m rfl⟩
  · exact q.elim
theorem n_min2 : OpN t (fun xs H Q => ∃ i j, xs = [.int i, .int j] ∧ Q (.int (if j < i then j else i)) H) bMin2 := fun am s H ds vs Ex Q m r q => by
  unfold bMin2 at q
  split at q
  · obtain ⟨v, w, rfl, h, h'⟩ := reps2 r
    cases h.intE; cases h'.intE
    exact ⟨_, _, rfl, q.ok0 m rfl⟩
  · exact q.elim
theorem n_int : OpN t (fun xs H Q => (∃ i, xs = [.int i] ∧ Q (.int i) H) ∨ ∃ k, xs = [.bl k] ∧ Q (.int (if k then 1 else 0)) H) bInt := fun am s H ds vs Ex Q m r q => by
  unfold bInt at q
  split at q
  · obtain ⟨v, rfl, h⟩ := reps1 r
    cases h.intE
    exact .inl ⟨_, rfl, q.ok0 m rfl⟩
  · obtain ⟨v, rfl, h⟩ := reps1 r
    cases h.blE
    exact .inr ⟨_, rfl, q.ok0 m rfl⟩
  · exact q.elim
theorem call_str_str : CallR X (.type "str") (fun xs H Q => ∃ x, xs = [.str x] ∧ Q (.str x) H) := by
  intro pins s σ H xs us Q I r h
  obtain ⟨x, rfl, q⟩ := h
  obtain ⟨u, rfl, tk, rfl⟩ := vals1 r
  exact PySem.P.str_of_str ⟨.str x, H, I, ⟨tk, rfl⟩, q⟩
def rStr2 : List V → Hp → VK → Prop := fun xs H Q => (∃ i, xs = [.int i] ∧ i.natAbs.log2 < 1920 ∧ Q (.str (toString i)) H) ∨ ∃ x, xs = [.str x] ∧ Q (.str x) H
theorem call_str2 : CallR X (.type "str") rStr2 := call_str_int.or call_str_str
theorem n_str : OpN t rStr2 bStr := fun am s H ds vs Ex Q m r q => by
  unfold bStr at q
  split at q
  · obtain ⟨v, rfl, h⟩ := reps1 r
    cases h.intE
    split at q
    · rename_i hl
      exact .inl ⟨_, rfl, hl, q.ok0 m rfl⟩
    · exact q.elim
  · obtain ⟨v, rfl, h⟩ := reps1 r
    cases h.strE
    exact .inr ⟨_, rfl, q.ok0 m rfl⟩
  · exact q.elim
/-! ### sequences -/
def rList2 (K : PySem.W.Frag) : List V → Hp → VK → Prop := fun xs H Q => ∃ p ys, xs = [.ref p] ∧ (SqL K H p ys ∨ SqT K H p ys) ∧ ∀ l, H l = none → Q (.ref l) (L2.upd H l (.lst ys))
theorem n_list : OpN t (rList2 t.K) bList := fun am s H ds vs Ex Q m r q => by
  unfold bList at q
  split at q
  · obtain ⟨v, rfl, h⟩ := reps1 r
    split at q
    · rename_i xs e
      obtain ⟨a, us, rfl, rv, hs⟩ := seqX_of m h e
      exact ⟨a, us, rfl, hs, new_list m q rv⟩
    · exact q.elim
  · exact q.elim
def rTup2 (K : PySem.W.Frag) : List V → Hp → VK → Prop := fun xs H Q => ∃ p ys, xs = [.ref p] ∧ ((SqL K H p ys ∧ ∀ l, H l = none → Q (.ref l) (L2.upd H l (.tup ys))) ∨ (SqT K H p ys ∧ Q (.ref p) H))
theorem n_tuple : OpN t (rTup2 t.K) bTuple := fun am s H ds vs Ex Q m r q => by
  unfold bTuple at q
  split at q
  · rename_i d
    obtain ⟨v, rfl, h⟩ := reps1 r
    cases d with
    | tup zs =>
      obtain ⟨a, us, rfl, hs, rv⟩ := h.tupH
      exact ⟨a, us, rfl, .inr ⟨.of hs, q.ok0 m ⟨a, us, rfl, hs, rv⟩⟩⟩
    | _ =>
      split at q
      · rename_i xs e
        obtain ⟨a, us, rfl, rv, hs⟩ := seqL_of m h e
        exact ⟨a, us, rfl, .inl ⟨hs, new_tup m q rv⟩⟩
      · exact q.elim
  · exact q.elim
/-- len -/
def rLen3 (K : PySem.W.Frag) : List V → Hp → VK → Prop := fun xs H Q => (∃ z, xs = [.str z] ∧ z.length ≤ sizeLine ∧ Q (.int z.length) H) ∨ (∃ p ys, xs = [.ref p] ∧ (SqL K H p ys ∨ SqT K H p ys) ∧ Q (.int ys.length) H)
theorem call_len3 : CallR X (.builtin "len") (rLen3 X.K) := call_len_str.or call_len_seq
theorem n_len : OpN t (rLen3 t.K) bLen := fun am s H ds vs Ex Q m r q => by
  unfold bLen at q
  split at q
  · obtain ⟨v, rfl, h⟩ := reps1 r
    cases h.strE
    split at q
    · rename_i hl
      exact .inl ⟨_, rfl, line_le hl, q.ok0 m rfl⟩
    · exact q.elim
  · obtain ⟨v, rfl, h⟩ := reps1 r
    split at q
    · rename_i xs e
      obtain ⟨a, rfl, ha⟩ := h.refE
      obtain ⟨us, h1, h2⟩ := m.lst e ha
      exact .inr ⟨a, us, rfl, .inl (.of h1), by rw [← h2.length]; exact q.ok0 m rfl⟩
    · exact q.elim
  · obtain ⟨v, rfl, h⟩ := reps1 r
    split at q
    · rename_i xs e
      obtain ⟨a, us, rfl, rv, hs⟩ := seqX_of m h e
      exact .inr ⟨a, us, rfl, hs, by rw [← rv.length]; exact q.ok0 m rfl⟩
    · exact q.elim
  · exact q.elim
theorem ints_map : ∀ {xs : List D} {is : List Int}, intsOf xs = some is → xs = is.map D.int
  | [], is, h => by cases h; rfl
  | x :: xs, is, h => by
    unfold intsOf at h
    cases x with
    | int i =>
      simp only at h
      split at h
      · rename_i js e2
        cases h
        rw [List.map_cons, ints_map e2]
      · cases h
    | _ => cases h
theorem bools_map : ∀ {xs : List D} {is : List Bool}, boolsOf xs = some is → xs = is.map D.bl
  | [], is, h => by cases h; rfl
  | x :: xs, is, h => by
    unfold boolsOf at h
    cases x with
    | bl i =>
      simp only at h
      split at h
      · rename_i js e2
        cases h
        rw [List.map_cons, bools_map e2]
      · cases h
    | _ => cases h
theorem reps_ints {am : List Addr} {H : Hp} : ∀ {is : List Int} {vs : List V}, Reps t am H (is.map D.int) vs → vs = is.map V.int
  | [], _, h => h
  | i :: is, vs, h => by
    obtain ⟨v, r, rfl, h1, h2⟩ := h
    rw [h1.intE, reps_ints h2]; rfl
theorem reps_bools {am : List Addr} {H : Hp} : ∀ {is : List Bool} {vs : List V}, Reps t am H (is.map D.bl) vs → vs = is.map V.bl
  | [], _, h => h
  | i :: is, vs, h => by
    obtain ⟨v, r, rfl, h1, h2⟩ := h
    rw [h1.blE, reps_bools h2]; rfl
theorem n_sum : OpN t (rSum t.K) bSum := fun am s H ds vs Ex Q m r q => by
  unfold bSum at q
  split at q
  · obtain ⟨v, rfl, h⟩ := reps1 r
    split at q
    · rename_i xs e
      split at q
      · rename_i is ei
        obtain ⟨a, us, rfl, rv, hs⟩ := seqL_of m h e
        rw [ints_map ei] at rv
        exact ⟨a, is, rfl, by rw [← reps_ints rv]; exact hs, q.ok0 m rfl⟩
      · exact q.elim
    · exact q.elim
  · exact q.elim
theorem n_all : OpN t (rAll t.K) bAll := fun am s H ds vs Ex Q m r q => by
  unfold bAll at q
  split at q
  · obtain ⟨v, rfl, h⟩ := reps1 r
    split at q
    · rename_i xs e
      split at q
      · rename_i is ei
        obtain ⟨a, us, rfl, rv, hs⟩ := seqL_of m h e
        rw [bools_map ei] at rv
        exact ⟨a, is, rfl, by rw [← reps_bools rv]; exact hs, q.ok0 m rfl⟩
      · exact q.elim
    · exact q.elim
  · exact q.elim
theorem n_any : OpN t (rAny t.K) bAny := fun am s H ds vs Ex Q m r q => by
  unfold bAny at q
  split at q
  · obtain ⟨v, rfl, h⟩ := reps1 r
    split at q
    · rename_i xs e
      split at q
      · rename_i is ei
        obtain ⟨a, us, rfl, rv, hs⟩ := seqL_of m h e
        rw [bools_map ei] at rv
        exact ⟨a, is, rfl, by rw [← reps_bools rv]; exact hs, q.ok0 m rfl⟩
      · exact q.elim
    · exact q.elim
  · exact q.elim

/-! ### isinstance -/
def Ty.nm : Ty → String
  | .int => "int"
  | .bool => "bool"
  | .str => "str"
  | .tuple => "tuple"
  | .list => "list"
  | .dict => "dict"
theorem ty_kit (ty : Ty) {am : List Addr} {s : S} {H : Hp} {d : D} {v : V} {b : Bool} (m : Ms t am s H) (r : Rep t am H d v) (h : isTy ty d s = some b) : ∃ tn : String, TyX t.K H v (.type tn) ∧ kitB tn ty.nm = some b := by
  cases d with
  | undef => cases h
  | fn i => cases h
  | non =>
    cases (show v = V.non from r); cases h
    exact ⟨"NoneType", .base .non, by cases ty <;> decide +kernel⟩
  | bl i =>
    cases r.blE; cases h
    exact ⟨"bool", .base (.bl _), by cases ty <;> decide +kernel⟩
  | int i =>
    cases r.intE; cases h
    exact ⟨"int", .base (.int _), by cases ty <;> decide +kernel⟩
  | str i =>
    cases r.strE; cases h
    exact ⟨"str", .base (.str _), by cases ty <;> decide +kernel⟩
  | tup xs =>
    obtain ⟨a, vs, rfl, h1, _⟩ := r.tupE
    cases h
    refine ⟨"tuple", ?_, by cases ty <;> decide +kernel⟩
    rcases h1 with (h1 | ⟨o, h1⟩) | ⟨o, its, n, h1, h2, _⟩
    · exact .base (.tup h1)
    · exact .fTuple h1
    · exact .kTuple h1 h2
  | frl xs =>
    obtain ⟨a, vs, rfl, h1, _⟩ := r.frlE
    cases h
    refine ⟨"list", ?_, by cases ty <;> decide +kernel⟩
    rcases h1 with ⟨o, h1⟩ | ⟨o, its, n, h1, h2, _⟩
    · exact .base (.frz h1)
    · exact .kList h1 h2
  | ref n =>
    obtain ⟨a, rfl, ha⟩ := r.refE
    unfold isTy at h
    simp only at h
    split at h
    · rename_i xs e
      cases h
      obtain ⟨vs, h1, _⟩ := m.lst e ha
      exact ⟨"list", .base (.lst h1), by cases ty <;> decide +kernel⟩
    · rename_i tk kvs e
      cases h
      refine ⟨"dict", ?_, by cases ty <;> decide +kernel⟩
      have om := m.at e ha
      cases tk with
      | false =>
        obtain ⟨ks, h1, _⟩ := om
        exact .base (.dK h1)
      | true =>
        obtain ⟨ks, h1, _⟩ := om
        exact .base (.dT h1)
    · cases h
end
section
variable {X : Cx} {t : Tb} {W : XW} {a : Expr} {ma : E} {p p2 pos : Pos} {tn : Str}
theorem s_isI (ty : Ty) (hK : X.K = t.K) (hg : Gl X "isinstance") (hm : X.mg "isinstance" = none) (hv : bootBuiltins "isinstance" = some (.builtin "isinstance")) (hg2 : Gl X tn) (hm2 : X.mg tn = none) (hv2 : bootBuiltins tn = some (.type ty.nm)) (ha : SE X t W a ma)
    (hn2 : tn ≠ "__name__" := by decide) (hd2 : (tn == ("__debug__" : Str)) = false := by decide)
    (h1 : starEach [a, .Name tn p2] X.env = (false, eval a X.env) :: starEach [.Name tn p2] X.env := by rfl) (h2 : starEach [.Name tn p2] X.env = (false, eval (.Name tn p2) X.env) :: starEach [] X.env := by rfl) (hpl : (backTo pos (starEach [.Name tn p2] X.env)).any (·.1) = false := by rfl) :
    SE X t W (.Call (.Name "isinstance" p) [a, .Name tn p2] [] pos) (e1 (oIsI ty) ma) :=
  (pe_callB call_isi hg hm hv (pa_cons ha (pa_cons (pe_bltn (v := .ty ty.nm) hg2 hm2 hv2 rfl hn2 hd2) pa_nil h2) h1) (by decide) (by decide) h1 hpl).imp fun σ H Q ⟨am, r, s, en, mm, h⟩ => tyE.of en mm h fun d1 s1 am1 H1 v1 en1 m1 p1 r1 h1 => by
    unfold oIsI at h1
    split at h1
    · rename_i b e
      obtain ⟨tn', k1, k2⟩ := ty_kit ty m1 r1 e
      exact ⟨v1, .ty ty.nm, _, _, b, rfl, .ty _, by rw [hK]; exact k1, kit_ty k2, h1.ok0 m1 rfl⟩
    · exact h1.elim
end

/-! ### methods -/
abbrev PM := D → List D → S → Rs D
def eMe (ck : D → S → Bool) (p : PM) (a : E) (as : A) : E := fun r s => (a r s).bind fun x s1 => if ck x s1 = true then (as r s1).bind fun xs s2 => p x xs s2 else .stk
def eMe0 (ck : D → S → Bool) (p : PM) (a : E) : E := fun r s => (a r s).bind fun x s1 => if ck x s1 = true then p x [] s1 else .stk
def isL (d : D) (s : S) : Bool := (seqL d s).isSome
def isDc (d : D) (s : S) : Bool := match d with
  | .ref n => match s[n]? with
    | some (.dct _ _) => true
    | _ => false
  | _ => false
def isS (d : D) (_ : S) : Bool := match d with
  | .str _ => true
  | _ => false
def CkT (t : Tb) (T : String) (ck : D → S → Bool) : Prop := ∀ (am : List Addr) (s : S) (H : Hp) (d : D) (v : V), Ms t am s H → Rep t am H d v → ck d s = true → tyV t.K T v H
def OpM (t : Tb) (r : V → List V → Hp → VK → Prop) (p : PM) : Prop := ∀ (am : List Addr) (s : S) (H : Hp) (d : D) (v : V) (ds : List D) (vs : List V) (Ex : XK) (Q : VK), Ms t am s H → Rep t am H d v → Reps t am H ds vs → RQ t am H (p d ds s) (Rep t) Ex Q → r v vs H Q
section
variable {X : Cx} {t : Tb} {W : XW} {o e : Expr} {es : List Expr} {name : Str} {apos cpos : Pos} {Tn id : String} {r : V → List V → Hp → VK → Prop} {ck : D → S → Bool} {p : PM} {mo : E} {ms : A}
theorem ck_L : CkT t "list" isL := fun am s H d v m r h => by
  unfold isL at h
  obtain ⟨xs, e⟩ := Option.isSome_iff_exists.mp h
  obtain ⟨a, vs, rfl, _, h2⟩ := seqL_of m r e
  exact .inl ⟨rfl, vs, h2⟩
theorem ck_D : CkT t "dict" isDc := fun am s H d v m r h => by
  unfold isDc at h
  split at h
  · obtain ⟨a, rfl, ha⟩ := r.refE
    split at h
    · rename_i tk kvs e
      have om := m.at e ha
      refine .inr (.inr (.inl ⟨rfl, ?_⟩))
      cases tk with
      | false => obtain ⟨ks, h1, _⟩ := om; exact .inl ⟨ks, h1⟩
      | true => obtain ⟨ks, h1, _⟩ := om; exact .inr ⟨ks, h1⟩
    · cases h
  · cases h
theorem ck_S : CkT t "str" isS := fun am s H d v m r h => by
  unfold isS at h
  split at h
  · cases r.strE; rfl
  · cases h
theorem s_me (hK : X.K = t.K) (pa : PlainAttrs Tn) (slot : Slot Tn name id) (hty : typeOf (.builtin id) = pure (.type "method_descriptor")) (hm : MtR X id r) (hc : CkT t Tn ck) (h2 : OpM t r p) (ho : SE X t W o mo) (ha : SA X t W (e :: es) ms)
    (hbase : attributeBase o name X.env (eval o X.env) = eval o X.env := by rfl)
    (hfew : ((backTo cpos (starEach (e :: es) X.env)).all (fun x => !x.1) && (backToKw cpos (keywordEach [] X.env)).all (fun x => x.1.isSome)
      && decide ((e :: es).length + ([] : List Keyword).length + (if ([] : List Keyword).isEmpty then 0 else 1) < 30)) = true := by rfl)
    (hline : (apos.endLine == cpos.line) = true := by rfl) (hs : starEach (e :: es) X.env = (false, eval e X.env) :: starEach es X.env := by rfl) (hplain : (backTo cpos (starEach es X.env)).any (·.1) = false := by rfl) :
    SE X t W (.Call (.Attribute o name apos) (e :: es) [] cpos) (eMe ck p mo ms) :=
  (pe_bm pa slot hty hm ho ha hbase hfew hline hs hplain).imp fun σ H Q ⟨am, r, s, en, mm, h⟩ => tyE.of en mm h fun d s1 am1 H1 v en1 m1 p1 r1 h1 => by
    split at h1
    · rename_i hck
      refine ⟨by rw [hK]; exact hc am1 s1 H1 d v m1 r1 hck, tyA.of en1 m1 h1 fun ds s2 am2 H2 vs en2 m2 p2 r2 h3 => h2 am2 s2 H2 d v ds vs _ Q m2 (r1.mono p2) r2 h3⟩
    · exact h1.elim
theorem s_me0 (hK : X.K = t.K) (pa : PlainAttrs Tn) (slot : Slot Tn name id) (hty : typeOf (.builtin id) = pure (.type "method_descriptor")) (hm : MtR X id r) (hc : CkT t Tn ck) (h2 : OpM t r p) (ho : SE X t W o mo)
    (hbase : attributeBase o name X.env (eval o X.env) = eval o X.env := by rfl) (hline : (apos.endLine == cpos.line) = true := by rfl) :
    SE X t W (.Call (.Attribute o name apos) [] [] cpos) (eMe0 ck p mo) :=
  (pe_bm0 pa slot hty hm ho hbase hline).imp fun σ H Q ⟨am, r, s, en, mm, h⟩ => tyE.of en mm h fun d s1 am1 H1 v en1 m1 p1 r1 h1 => by
    split at h1
    · rename_i hck
      exact ⟨by rw [hK]; exact hc am1 s1 H1 d v m1 r1 hck, h2 am1 s1 H1 d v [] [] _ Q m1 r1 rfl h1⟩
    · exact h1.elim
end
/-- xs.append(d) -/
def mApp : PM := fun x ds s => match x, ds with
  | .ref n, [d] => match appendAt n d s with
    | some s1 => .ok .non s1
    | none => .stk
  | _, _ => .stk
/-- xs.pop(i), xs.pop() -/
def mPop : PM := fun x ds s => match x, ds with
  | .ref n, [.int i] => match s[n]? with
    | some (.lst xs) => if i.natAbs < 4611686018427387904 then match ixN xs.length i with
      | some k => match xs[k]? with
        | some y => .ok y (s.set n (.lst (xs.eraseIdx k)))
        | none => .stk
      | none => .stk else .stk
    | _ => .stk
  | .ref n, [] => match s[n]? with
    | some (.lst xs) => match xs[xs.length - 1]? with
      | some y => .ok y (s.set n (.lst xs.dropLast))
      | none => .stk
    | _ => .stk
  | _, _ => .stk
section
variable {X : Cx} {t : Tb}
theorem put_list {am : List Addr} {s : S} {H : Hp} {n : Nat} {a : Addr} {xs ys : List D} {vs ws : List V} {d : D} {v : V} {Ex : XK} {Q : VK} (m : Ms t am s H) (ha : am[n]? = some a) (hv : H a = some (.lst vs)) (rw' : Reps t am H ys ws) (rd : Rep t am H d v)
    (q : RQ t am H (.ok d (s.set n (.lst ys))) (Rep t) Ex Q) : Q v (L2.upd H a (.lst ws)) := by
  have P : Post am H am (L2.upd H a (.lst ws)) := .put (List.mem_of_getElem? ha) hv (fun z => z)
  obtain ⟨_, m4⟩ := m.put (u := .lst ws) (o := .lst ys) ha ⟨_, upd_same, rw'.mono P⟩
  exact q.ok P m4 (rd.mono P)
theorem m_app : OpM t rAppend mApp := fun am s H d v ds vs Ex Q m r1 r2 q => by
  unfold mApp at q
  split at q
  · rename_i n d
    obtain ⟨a, rfl, ha⟩ := r1.refE
    obtain ⟨w, rfl, h⟩ := reps1 r2
    split at q
    · rename_i s1 e1
      unfold appendAt at e1
      split at e1
      · rename_i xs ex
        split at e1
        · rename_i hl
          cases e1
          obtain ⟨us, h1, h2⟩ := m.lst ex ha
          exact ⟨a, us, w, rfl, rfl, h1, by rw [← h2.length]; exact Nat.lt_of_lt_of_le hl (by decide), put_list (xs := xs) (d := .non) (v := .non) m ha h1 (h2.append (.one h)) (show V.non = V.non from rfl) q⟩
        · cases e1
      · cases e1
    · exact q.elim
  · exact q.elim
theorem Reps.erase {am : List Addr} {H : Hp} : ∀ {ds : List D} {vs : List V} (n : Nat), Reps t am H ds vs → Reps t am H (ds.eraseIdx n) (vs.eraseIdx n)
  | [], vs, n, h => by
    have e : vs = [] := h
    subst e
    simp [Reps]
  | d :: ds, vs, 0, h => by
    obtain ⟨v, r, rfl, h1, h2⟩ := h
    exact h2
  | d :: ds, vs, n + 1, h => by
    obtain ⟨v, r, rfl, h1, h2⟩ := h
    exact ⟨v, r.eraseIdx n, rfl, h1, Reps.erase n h2⟩
theorem Reps.dropLast {am : List Addr} {H : Hp} {ds : List D} {vs : List V} (h : Reps t am H ds vs) : Reps t am H ds.dropLast vs.dropLast := by
  rw [List.dropLast_eq_take, List.dropLast_eq_take, h.length]
  exact h.take _
def rPop2 : V → List V → Hp → VK → Prop := fun x vs H Q => rPop x vs H Q ∨ rPopAt x vs H Q
theorem mt_pop2 : MtR X "list.pop" rPop2 := MtR.or (show MtR X "list.pop" rPop from mt_pop) mt_popAt
theorem m_pop : OpM t rPop2 mPop := fun am s H d v ds vs Ex Q m r1 r2 q => by
  unfold mPop at q
  split at q
  · rename_i n i
    obtain ⟨a, rfl, ha⟩ := r1.refE
    obtain ⟨w, rfl, h⟩ := reps1 r2
    cases h.intE
    split at q
    · rename_i xs ex
      obtain ⟨us, h1, h2⟩ := m.lst ex ha
      split at q
      · rename_i hi
        split at q
        · rename_i k ek
          split at q
          · rename_i y ey
            obtain ⟨w, ew, rw'⟩ := h2.get ey
            have ek : L2.ixN us.length i = some k := by rw [← h2.length]; exact ek
            exact .inr ⟨a, us, i, k, w, rfl, rfl, h1, by omega, by omega, (ixN_seq ek).1, ew, put_list (xs := xs) m ha h1 (h2.erase k) rw' q⟩
          · exact q.elim
        · exact q.elim
      · exact q.elim
    · exact q.elim
  · rename_i n
    obtain ⟨a, rfl, ha⟩ := r1.refE
    cases (show vs = [] from r2)
    split at q
    · rename_i xs ex
      obtain ⟨us, h1, h2⟩ := m.lst ex ha
      split at q
      · rename_i y ey
        obtain ⟨w, ew, rw'⟩ := h2.get ey
        exact .inl ⟨a, us, w, rfl, rfl, h1, by rw [← h2.length]; exact ew, put_list (xs := xs) m ha h1 h2.dropLast rw' q⟩
      · exact q.elim
    · exact q.elim
  · exact q.elim
end
end Y

/-! Y8: further statements and small rules. -/
namespace Y
open PySem L2
def zStk : Sm := fun _ _ => .stk
def zPar3 (i j l : Nat) (a b c : E) : Sm := fun r s => (a r s).then r fun x s1 => (b r s1).then r fun y s2 => (c r s2).then r fun z s3 => if i < r.length ∧ j < r.length ∧ l < r.length then .nx (((r.set i x).set j y).set l z) s3 else .stk
def oNotB : P2 := fun x y s => match x, y with
  | .bl a, .bl b => .ok (.bl (!decide (a = b))) s
  | _, _ => .stk
section
variable {X : Cx} {t : Tb} {W : XW} {st : Stmt} {a e : Expr} {ma m : E} {pos : Pos}
theorem z_stk : SS X t W st zStk := ps_never.imp fun D σ H ⟨am, r, s, en, mm, h⟩ => h
theorem fn_stk {P : Program} {w : World} {K : PySem.W.Frag} {mg : Str → Option Value} {base : Heap} {CX : CXT} {k n : Nat} {f : Addr} {fd : FuncData} {ps : List Str} : FnOk P w K mg base CX k f fd ps (spF t n (fun _ _ => .stk)) :=
  ⟨fun vs H Q E ⟨_, _, _, _, _, _, h⟩ => h.elim, fun A outer s H args us vs Q E _ _ _ _ ⟨_, _, _, _, _, _, h⟩ => h.elim⟩
theorem s_tisN {j pos'} (ha : SE X t W a ma) : ST X t W (.Compare a [.Is] [.Constant .none j pos'] pos) (tst (e1 oIsN ma)) :=
  (pt_cmpR op_isN ha pe_non (nomark _)).imp fun σ H Q ⟨am, r, s, en, mm, h⟩ => by
    have h : RQ t am H ((ma r s).bind fun x s1 => (oIsN x s1).bind fun z s3 => match z with
      | .bl b => .ok b s3
      | _ => .stk) repB (W σ) Q := by
      have e : tst (e1 oIsN ma) r s = ((ma r s).bind fun x s1 => (oIsN x s1).bind fun z s3 => match z with
        | .bl b => .ok b s3
        | _ => .stk) := by
        unfold tst e1
        cases ma r s <;> rfl
      rw [← e]; exact h
    refine tyE.of en mm h fun d1 s1 am1 H1 v1 en1 m1 p1 r1 h1 => ⟨rfl, _, rfl, ?_⟩
    rw [rep_non r1]
    cases d1 <;> first | exact h1.elim | exact h1.ok0 m1 rfl
theorem s_tnotN {j pos'} (ha : SE X t W a ma) : ST X t W (.Compare a [.IsNot] [.Constant .none j pos'] pos) (tst (e1 oNotN ma)) :=
  (pt_cmpR op_notN ha pe_non (nomark _)).imp fun σ H Q ⟨am, r, s, en, mm, h⟩ => by
    have h : RQ t am H ((ma r s).bind fun x s1 => (oNotN x s1).bind fun z s3 => match z with
      | .bl b => .ok b s3
      | _ => .stk) repB (W σ) Q := by
      have e : tst (e1 oNotN ma) r s = ((ma r s).bind fun x s1 => (oNotN x s1).bind fun z s3 => match z with
        | .bl b => .ok b s3
        | _ => .stk) := by
        unfold tst e1
        cases ma r s <;> rfl
      rw [← e]; exact h
    refine tyE.of en mm h fun d1 s1 am1 H1 v1 en1 m1 p1 r1 h1 => ⟨rfl, _, rfl, ?_⟩
    rw [rep_non r1]
    cases d1 <;> first | exact h1.elim | exact h1.ok0 m1 rfl
theorem o_notB : Op2 t rNotB oNotB := fun am s H d1 d2 v1 v2 Ex Q m r1 r2 q => by
  unfold oNotB at q
  split at q
  · cases r1.blE; cases r2.blE
    exact ⟨_, _, rfl, rfl, q.ok0 m rfl⟩
  · exact q.elim
theorem z_par3 {i j l : Nat} {x y z : Str} {a b c : Expr} {ma mb mc : E} {px py pz pt : Pos} {kt k2 pt2} (hc : X.calm = true) (hN : X.N.Nodup) (hi : X.N[i]? = some x) (hj : X.N[j]? = some y) (hl : X.N[l]? = some z) (hij : i ≠ j) (hil : i ≠ l) (hjl : j ≠ l)
    (hx : X.env.scope.names.lookup x = some .local) (hy : X.env.scope.names.lookup y = some .local) (hz : X.env.scope.names.lookup z = some .local) (ha : SE X t W a ma) (hb : SE X t W b mb) (hd : SE X t W c mc)
    (hw : swappedStores [.Tuple [.Name x px, .Name y py, .Name z pz] kt pt] (.Tuple [a, b, c] k2 pt2) X.env = pure (some [x, y, z]))
    (h1 : starEach [a, b, c] X.env = (false, eval a X.env) :: starEach [b, c] X.env := by rfl) (h2 : starEach [b, c] X.env = (false, eval b X.env) :: starEach [c] X.env := by rfl) (h3 : starEach [c] X.env = (false, eval c X.env) :: starEach [] X.env := by rfl)
    (hs : swapsWithSole [.Tuple [.Name x px, .Name y py, .Name z pz] kt pt] (.Tuple [a, b, c] k2 pt2) pos.line X.env = pure false := by rfl) :
    SS X t W (.Assign [.Tuple [.Name x px, .Name y py, .Name z pz] kt pt] (.Tuple [a, b, c] k2 pt2) pos) (zPar3 i j l ma mb mc) :=
  (ps_par3 hc hN hi hj hl hij hil hjl hx hy hz (pa_cons ha (pa_cons hb (pa_cons hd pa_nil h3) h2) h1) hw hs).imp fun D σ H ⟨am, r, s, en, mm, h⟩ => by
    refine ⟨am, r, s, en, mm, FQ.seq en h fun d1 s1 am1 H1 v1 p1 en1 m1 r1 h1 => ?_⟩
    refine ⟨am1, r, s1, en1, m1, FQ.seq en1 h1 fun d2 s2 am2 H2 v2 p2 en2 m2 r2 h2 => ?_⟩
    refine ⟨am2, r, s2, en2, m2, FQ.seq en2 h2 fun d3 s3 am3 H3 v3 p3 en3 m3 r3 h3 => ?_⟩
    refine ⟨v1, v2, v3, rfl, ?_⟩
    split at h3
    · exact h3.nx0 m3 (((en3.set i ((r1.mono p2).mono p3)).set j (r2.mono p3)).set l r3)
    · exact h3.elim
end
end Y

/-! Y9: the end of a law's row. -/
namespace Y
open PySem L2
theorem loose_int {lv : List (Str × PySem.W.WData)} {mg : Str → Option Value} {h : Heap} (x : PySem.W.LooseAre lv mg h) {n : Str} {i : Int} (hm : (n, PySem.W.WData.int i) ∈ lv) : ∃ k, mg n = some (.int i k) := by
  obtain ⟨v, e, r⟩ := x.val _ hm
  cases r
  exact ⟨_, e⟩
theorem frl_of {K : PySem.W.Frag} {H : Hp} {a : Addr} {vs : List V} (hO : Only H) (h : SqL K H a vs) : FrL K H a vs := by
  rcases h with (h | ⟨o, h⟩) | h
  · rcases hO a with z | ⟨o, xs, z⟩ <;> rw [h] at z <;> cases z
  · exact .inl ⟨o, h⟩
  · exact .inr h
theorem reps_of_ints {t : Tb} {am : List Addr} {H : Hp} : ∀ ns : List Int, Reps t am H (ns.map D.int) (ns.map V.int)
  | [] => rfl
  | n :: ns => ⟨.int n, ns.map V.int, rfl, rfl, reps_of_ints ns⟩
theorem law_sp {t : Tb} {f : Fn} {H : Hp} {a : Addr} {ns : List Int} (hT : t.T = []) (hO : Only H) (hS : SqL t.K H a (ns.map V.int)) (hf : ∃ s', f [.frl (ns.map D.int)] [] = .ok (.bl true) s') : spF t 1 f [.ref a] H (fun v _ => v = .bl true) fun _ _ _ => False := by
  obtain ⟨s', e⟩ := hf
  refine ⟨[], [.frl (ns.map D.int)], [], rfl, ⟨List.nodup_nil, rfl, fun n o h => by simp at h, by rw [hT]; exact fun p hp => absurd hp (by simp)⟩, ⟨.ref a, [], rfl, ⟨a, ns.map V.int, rfl, frl_of hO hS, reps_of_ints ns⟩, rfl⟩, ?_⟩
  rw [e]
  intro am' H' v p m r
  exact r
theorem walk_y {l : PySem.W.OpenLaw} {n k : Nat} {q : Program} {loose : List Str} {lv : List (Str × PySem.W.WData)} {YP : World → Heap → Prop} {d : DefRec} {K : Params → PySem.W.Frag} {x : Str} {f : Fn}
    (hn : l.most = some n) (hn2 : n ≤ sizeLine) (hdf : d.params.defaults = []) (hr : Room k callerA)
    (hY : ∀ (w : World) (h : Heap), YP w h → (K w.params).In h)
    (F : ∀ (w : World) (mg : Str → Option Value) (fa : Addr) (h : Heap), (K w.params).In h → h.Ns mainGlobals mg → PySem.W.LooseAre lv mg h → mg d.name = some (.ref fa) →
      ∃ fd : FuncData, (∀ (s : Shared) (u : Value), BindsTo s fd ⟨[u], []⟩ [(x, u)]) ∧
        ∃ t : Tb, t.K = K w.params ∧ t.T = [] ∧ ∀ base : Heap, (K w.params).In base → base.Ns mainGlobals mg → FnOk l.prog w (K w.params) mg base (L2.CX l.prog w) k fa fd [x] (spF t 1 f))
    (hf : ∀ ns : List Int, ns.length ≤ n → ∃ s', f [.frl (ns.map D.int)] [] = .ok (.bl true) s') :
    PySem.W.WalkO q loose (PySem.W.XL q lv) YP l.row.toRowW d [] (fun f vs => PySem.call f vs) := by
  refine Att.attach_call hn hdf fun w s₀ s₁ mg mb fa o pm cd doc a vs ns G Y ho hd hcd hmg hobj hints hlen hg => ?_
  have KX := hY w _ Y
  obtain ⟨fd, hb, t, ht, hT, hF⟩ := F w mg fa _ KX G.T.g G.X.2 hmg
  refine law_call KX G.T.g G.T.b G.T.builtins G.T.nolimit hg hobj hints (Nat.le_trans hlen hn2) hr hF hb (fun H hO hS => law_sp hT hO (by rw [ht]; exact hS) (hf ns hlen)) fun H e s' h => ?_
  obtain ⟨_, _, _, _, _, _, _, _, _, _, _, _, z⟩ := h
  exact z
theorem mkF {K : PySem.W.Frag} {h : Heap} {mg : Str → Option Value} {x : Str} {st : Stmt} {ps : List Str} {f : Addr} {oc : Value} {od an : Option Addr} {osl : Array (Option Value)} {kV doc pm cdv ct : Value} (KX : K.In h) (G : h.Ns mainGlobals mg)
    (a : PySem.W.nsIn K mainGlobals x = some (some (.ref f)))
    (l : K.lookup f = some ⟨oc, od, .func (PySem.W.fnOf x x (defArgs st) (defBody st) (defScope st) .none kV doc pm an cdv ct), osl⟩) (c : PySem.W.codeIn K cdv x = true) (k : PySem.W.keepIn K (.ref f) = true)
    (hb : ∀ (kV doc pm : Value) (an : Option Addr) (cdv ct : Value) (us : List Value), us.length = ps.length → bindArgs (PySem.W.fnOf x x (defArgs st) (defBody st) (defScope st) .none kV doc pm an cdv ct) ⟨us, []⟩ = pure (ps.zip us)) :
    ∃ f fd, Fun K x x st f fd ∧ mg x = some (.ref f) ∧ Binds K fd ps [] ∧ ∀ (s : Shared) (us : List Value), us.length = ps.length → BindsTo s fd ⟨us, []⟩ (ps.zip us) :=
  ⟨f, _, fun_mk l c k, PySem.W.mg_of KX G a, .all (hb kV doc pm an cdv ct), fun s us hl => .of_eq (hb kV doc pm an cdv ct us hl)⟩
theorem mkC {K : PySem.W.Frag} {h : Heap} {mg : Str → Option Value} {x : Str} {i : Int} {k : Tok} (KX : K.In h) (G : h.Ns mainGlobals mg) (a : PySem.W.nsIn K mainGlobals x = some (some (.int i k))) : ∃ k, mg x = some (.int i k) := ⟨k, PySem.W.mg_of KX G a⟩
/-- an error class of the text, without own __init__ -/
structure XTxt (K : PySem.W.Frag) (mg : Str → Option Value) (xc : Nat → Option (Addr × List Str)) (x : Str) (c : Nat) where
  C : Addr
  ex : PySem.W.excIn K C [.type "ValueError", .type "Exception", .type "BaseException", .type "object"] "ValueError.__new__" = true
  g : mg x = some (.ref C)
  kp : PySem.W.keepIn K (.ref C) = true
  sub : PySem.W.subIn K (.ref C) (.type "BaseException") = some true
  ty : PySem.W.typeIn K (.ref C) = some (.type "type")
  xc : xc c = some (C, [])
theorem XTxt.r {X : Cx} {K : PySem.W.Frag} {mg : Str → Option Value} {xc : Nat → Option (Addr × List Str)} {x : Str} {c : Nat} (T : XTxt K mg xc x c) (hK : X.K = K) : Raises X (.ref T.C) := by
  subst hK
  exact raises_own T.sub T.ty
theorem mkX {K : PySem.W.Frag} {h : Heap} {mg : Str → Option Value} {x : Str} {C : Addr} (KX : K.In h) (G : h.Ns mainGlobals mg) (a : PySem.W.nsIn K mainGlobals x = some (some (.ref C)))
    (ex : PySem.W.excIn K C [.type "ValueError", .type "Exception", .type "BaseException", .type "object"] "ValueError.__new__" = true) (kp : PySem.W.keepIn K (.ref C) = true) (sub : PySem.W.subIn K (.ref C) (.type "BaseException") = some true) (ty : PySem.W.typeIn K (.ref C) = some (.type "type")) :
    ∃ C, PySem.W.excIn K C [.type "ValueError", .type "Exception", .type "BaseException", .type "object"] "ValueError.__new__" = true ∧ mg x = some (.ref C) ∧ PySem.W.keepIn K (.ref C) = true ∧ PySem.W.subIn K (.ref C) (.type "BaseException") = some true ∧ PySem.W.typeIn K (.ref C) = some (.type "type") :=
  ⟨C, ex, PySem.W.mg_of KX G a, kp, sub, ty⟩
end Y

/-! Y10: xs[::-1], of lists and of tuples. -/
namespace Y
open PySem PySem.Spec PyProof.Rows HT
section
variable {prog : Program} {w : World} {A : Around} {E : Value → Shared → Prop} {s : Shared}
theorem applied_rev {sl : Addr} {vl vu vs : Value} {n : Nat} {Q : Int × Int × Nat → Shared → Prop} (hs : s.heap.IsSliceOf sl vl vu vs) (pl : IsPart vl none) (pu : IsPart vu none) (ps : IsPart vs (some (-1)))
    (h : Q ((n : Int) - 1, -1, n) s) : wpAny (model prog w) A (Builtin.Slice.sliceApplied (.ref sl) (pure (n : Int))) Q E s := by
  obtain ⟨os, hos, hcs, hds⟩ := id hs
  unfold Builtin.Slice.sliceApplied Builtin.Slice.sliceFields
  refine wpAny_bind (wpAny_bind (wpAny_field hos hds (x := vl) rfl (wpAny_bind (wpAny_field hos hds (x := vu) rfl (wpAny_bind (wpAny_field hos hds (x := vs) rfl (wpAny_pure ?_)))))))
  refine wpAny_bind (slicePart_ ps ?_)
  show wpAny _ _ (if ((-1 : Int) == 0) = true then _ else _) _ _ s
  rw [if_neg (by decide)]
  refine wpAny_bind (slicePart_ pl (wpAny_bind (slicePart_ pu (wpAny_bind (wpAny_pure ?_)))))
  show wpAny _ _ (match Builtin.Slice.sliceAdjust none none (-1) (n : Int) with | (lo, hi) => pure (lo, (-1 : Int), Builtin.Slice.slicePlaces lo hi (-1))) _ _ s
  have e1 : Builtin.Slice.sliceAdjust none none (-1) (n : Int) = ((n : Int) - 1, -1) := rfl
  rw [e1]
  show wpAny _ _ (pure ((n : Int) - 1, (-1 : Int), Builtin.Slice.slicePlaces ((n : Int) - 1) (-1) (-1))) _ _ s
  have e2 : Builtin.Slice.slicePlaces ((n : Int) - 1) (-1) (-1) = n := by
    unfold Builtin.Slice.slicePlaces
    simp
    omega
  rw [e2]
  exact wpAny_pure h
theorem fm_congr {f g : Nat → Option Value} : ∀ {l : List Nat}, (∀ x ∈ l, f x = g x) → l.filterMap f = l.filterMap g
  | [], _ => rfl
  | x :: l, h => by
    rw [List.filterMap_cons, List.filterMap_cons, h x List.mem_cons_self, fm_congr fun y hy => h y (List.mem_cons_of_mem _ hy)]
theorem pick_rev (xs : Array Value) : ((List.range xs.size).filterMap fun (m : Nat) => xs[((xs.size : Int) - 1 + (m : Int) * -1).toNat]?).toArray = xs.toList.reverse.toArray := by
  have e : ((List.range xs.size).filterMap fun (m : Nat) => xs[((xs.size : Int) - 1 + (m : Int) * -1).toNat]?) = ((List.range xs.size).map fun k => xs.size - 1 - k).filterMap (xs[·]?) := by
    rw [List.filterMap_map]
    refine fm_congr fun m hm => ?_
    have := List.mem_range.mp hm
    show _ = xs[xs.size - 1 - m]?
    congr 1
    omega
  rw [e, PySem.W.krv_range, List.filterMap_reverse, PySem.W.krv_all]
theorem getItem_tuple_rev {t sl : Addr} {items : Array Value} {vl vu vs : Value} {Q : Value → Shared → Prop} (ht : IsTup s.heap t items) (hs : s.heap.IsSliceOf sl vl vu vs) (pl : IsPart vl none) (pu : IsPart vu none) (ps : IsPart vs (some (-1)))
    (h : Q (.ref s.heap.objs.size) { s with heap := s.heap.push { cls := .type "tuple", data := .seq (items.toList.reverse).toArray } })
    (hsz : items.size ≤ sizeLine) : wpAny (model prog w) A (getItem (.ref t) (.ref sl)) Q E s := by
  have htake : sizeOk (.seq (items.toList.reverse).toArray) := by
    show (items.toList.reverse).toArray.size ≤ sizeLine
    rw [List.size_toArray, List.length_reverse, Array.length_toList]
    exact hsz
  obtain ⟨os, hos, hcs, hds⟩ := id hs
  have hTs : s.TypeIs (.ref sl) "slice" := ⟨os, hos, hcs⟩
  unfold getItem
  try with_reducible refine wpAny_holding ?_
  first | refine wpAny_bind (wpAny_pure ?_) | skip
  refine wpAny_bind (wpAny_sequenceKey ht.typeIs (by decide) ?_)
  refine wpAny_bind (wpAny_callSpecial?_slot (name := Str.ofString "__getitem__") ht.typeIs PyProof.Rows.slot_tuple_getitem
    (wpAny_call_entry PyProof.Rows.slot_tuple_getitem ht.typeIs entry_tuple_getitem ?_ (args_tuple_getitem _ _)))
  show wpAny _ _ (Builtin.Tuple.tupleItemsOf (.ref t) >>= _) _ _ s
  refine wpAny_bind (tupleItemsOf_ ht ?_)
  refine wpAny_bind (wpAny_typeOf hTs ?_)
  rw [if_pos (by decide)]
  refine wpAny_bind (applied_rev hs pl pu ps ?_)
  have hno : ¬ (((((items.size : Int) - 1)) == 0 && (-1 : Int) == 1 && items.size == items.size) = true) := by
    intro q
    rw [Bool.and_eq_true, Bool.and_eq_true] at q
    exact absurd q.1.2 (by decide)
  show wpAny _ _ (if ((((items.size : Int) - 1)) == 0 && (-1 : Int) == 1 && items.size == items.size) = true then _ else _) _ _ s
  rw [if_neg hno, pick_rev]
  first
    | exact wpAny_bind (m := Builtin.Tuple.tupleExact _) (wpAny_newObj_type (wpAny_pure ⟨_, rfl, wpAny_pure h⟩) htake)
    | exact wpAny_bind (m := Builtin.Tuple.tupleExact _) (wpAny_newObj_type (wpAny_bind (wpAny_pure (wpAny_pure ⟨_, rfl, wpAny_pure h⟩))) htake)
    | exact wpAny_bind (wpAny_bind (m := Builtin.Tuple.tupleExact _) (wpAny_newObj_type (wpAny_pure (wpAny_pure ⟨_, rfl, wpAny_pure h⟩)) htake))
    | exact wpAny_bind (wpAny_bind (m := Builtin.Tuple.tupleExact _) (wpAny_newObj_type (wpAny_pure ⟨_, rfl, wpAny_pure h⟩) htake))
end
end Y
namespace Y
open PySem PySem.Spec PyProof.Rows HT L2
section
variable {X : Cx} {t : Tb} {W : XW}
def tRevA (K : PySem.W.Frag) (te : TE) : TE := fun σ H Q => te σ H fun x H1 => ∃ a xs, x = .ref a ∧ ((SqL K H1 a xs ∧ ∀ p, H1 p = none → Q (.ref p) (upd H1 p (.lst xs.reverse))) ∨ (SqT K H1 a xs ∧ ∀ p, H1 p = none → Q (.ref p) (upd H1 p (.tup xs.reverse))))
theorem pe_revA {e : Expr} {te : TE} {k : Nat} {p1 p2 p3 pos : Pos} (he : PE X e te) : PE X (.Subscript e (.Slice none none (some (.UnaryOp .USub (.Constant (.int 1) k p1) p2)) p3) pos) (tRevA X.K te) := by
  refine ⟨fun pins s σ H Q I h => ?_⟩
  refine Subscript_ (thn (he.run pins s σ H _ I h) fun v s1 ⟨x, H1, I1, r1, q1⟩ => ?_)
  obtain ⟨a, xs, ex, q⟩ := q1
  subst ex
  cases r1
  have hst : PO X (some (.UnaryOp .USub (.Constant (.int 1) k p1) p2)) (tPart (tUn (rU fun i => .int (-i)) (tC (.int 1)))) := po_some (pe_un un_neg pe_int)
  refine wpAny_Slice (thn (po_none.run pins s1 σ H1 (fun o H2 => o = none ∧ H2 = H1) I1 ⟨rfl, rfl⟩) fun vl s2 ⟨l, H2, I2, pl, el, e2⟩ => ?_)
  subst el e2
  refine thn (po_none.run pins s2 σ H2 (fun o H3 => o = none ∧ H3 = H2) I2 ⟨rfl, rfl⟩) fun vu s3 ⟨u, H3, I3, pu, eu, e3⟩ => ?_
  subst eu e3
  refine thn (hst.run pins s3 σ H3 (fun o H4 => o = some (-1) ∧ H4 = H3) I3 ⟨1, rfl, -1, rfl, rfl, rfl⟩) fun vs s4 ⟨o, H4, I4, ps, eo, e4⟩ => ?_
  subst eo e4
  have I5 : Inv X pins σ H4 { s4 with heap := s4.heap.push { cls := .type "slice", data := .fields #[vl, vu, vs] } } := I4.kept (t' := s4.toks) fun b ob q => Heap.get?_push_of_some _ q
  rcases q with ⟨hx, q⟩ | ⟨hx, q⟩
  · obtain ⟨its, r, ht, hz⟩ := I5.list hx
    have hlen := r.length
    show wpAny (model X.prog X.w) X.A (subscriptTail e (.Slice none none (some (.UnaryOp .USub (.Constant (.int 1) k p1) p2)) p3) (.ref a) (.ref s4.heap.objs.size)) (EP X pins σ Q) X.xe { s4 with heap := s4.heap.push { cls := .type "slice", data := .fields #[vl, vu, vs] } }
    refine tail_any (ops := [.ref a, .ref s4.heap.objs.size]) ht.isList.typeIs (PySem.slot_list_getitem.lookup) ?_ (by with_unfolding_all rfl)
    refine wpAny_getItem_list_slice ht.isList (Heap.IsSliceOf.new _ vl vu vs) pl pu ps (by decide) ?_ (by rw [List.size_toArray]; omega)
    rw [PySem.W.krv_pick]
    refine ⟨.ref _, _, I5.laid (t' := s4.toks) (o := .lst xs.reverse) (fun b ob q => Heap.get?_push_of_some _ q) (Nat.le_refl _) ?_, rfl, q _ (I5.hok.fresh (Nat.le_refl _))⟩
    exact ⟨by rw [List.length_reverse]; exact hz, _, 0, r.reverse, Heap.get?_push_size _ rfl⟩
  · obtain ⟨its, r, ht, hz⟩ := I5.tuple hx
    have hlen := r.length
    show wpAny (model X.prog X.w) X.A (subscriptTail e (.Slice none none (some (.UnaryOp .USub (.Constant (.int 1) k p1) p2)) p3) (.ref a) (.ref s4.heap.objs.size)) (EP X pins σ Q) X.xe { s4 with heap := s4.heap.push { cls := .type "slice", data := .fields #[vl, vu, vs] } }
    refine tail_any (ops := [.ref a, .ref s4.heap.objs.size]) ht.typeIs (PyProof.Rows.slot_tuple_getitem.lookup) ?_ (by with_unfolding_all rfl)
    refine getItem_tuple_rev ht (Heap.IsSliceOf.new _ vl vu vs) pl pu ps ?_ (by rw [List.size_toArray]; omega)
    refine ⟨.ref _, _, I5.laid (t' := s4.toks) (o := .tup xs.reverse) (fun b ob q => Heap.get?_push_of_some _ q) (Nat.le_refl _) ?_, rfl, q _ (I5.hok.fresh (Nat.le_refl _))⟩
    exact ⟨by rw [List.length_reverse]; exact hz, _, r.reverse, IsTup.new _ _⟩
theorem s_rev {e : Expr} {m : E} {k : Nat} {p1 p2 p3 pos : Pos} (hK : X.K = t.K) (he : SE X t W e m) : SE X t W (.Subscript e (.Slice none none (some (.UnaryOp .USub (.Constant (.int 1) k p1) p2)) p3) pos) (e1 oRev m) :=
  (pe_revA he).imp fun σ H Q ⟨am, r, s, en, mm, h⟩ => tyE.of en mm h fun d1 s1 am1 H1 v1 en1 m1 p1 r1 h1 => by
    rw [hK]
    unfold oRev at h1
    split at h1
    · rename_i xs
      obtain ⟨a, vs, rfl, h4, h5⟩ := r1.tupE
      exact ⟨a, vs, rfl, .inr ⟨h4, new_tup m1 h1 h5.reverse⟩⟩
    · split at h1
      · rename_i xs e
        obtain ⟨a, vs, rfl, rv, hs⟩ := seqL_of m1 r1 e
        exact ⟨a, vs, rfl, .inl ⟨hs, new_list m1 h1 rv.reverse⟩⟩
      · exact h1.elim
end
end Y

/-! Y11: range(a, b, -1). -/
namespace Y
open PySem L2
def rangeD (i j : Int) : List D := (List.range (i - j).toNat).map fun (k : Nat) => .int (i + k * -1)
def iRngD (a b : E) : IW := fun r s => (a r s).bind fun x s1 => (b r s1).bind fun y s2 => match x, y with
  | .int i, .int j => if i.natAbs < 4611686018427387904 ∧ j.natAbs < 4611686018427387904 then .ok (.items (rangeD i j)) s2 else .stk
  | _, _ => .stk
section
variable {X : Cx} {t : Tb} {W : XW} {tg a b : Expr} {ma mb : E} {p pos p1 p2 : Pos}
theorem itok_rangeC (lo c : Int) (n : Nat) : ItOk t (Itc lo c n) (fun _ _ => True) ((List.range n).map fun (k : Nat) => D.int (lo + k * c)) where
  item := fun i d am H _ e => by
    rw [List.getElem?_map] at e
    cases h : (List.range n)[i]? with
    | none => rw [h] at e; cases e
    | some k =>
      rw [h] at e
      have hk := List.getElem?_eq_some_iff.mp h
      obtain ⟨hl, hv⟩ := hk
      rw [List.getElem_range] at hv
      subst hv
      cases e
      refine ⟨by have h2 := hl; rw [List.length_range] at h2; exact h2, fun x H' y => ?_⟩
      obtain ⟨rfl, rfl⟩ := y
      exact ⟨.refl, fun _ z => z, rfl⟩
  stop := fun i am H _ e => by
    rw [List.getElem?_eq_none_iff, List.length_map, List.length_range] at e
    exact e
  keep := fun _ _ _ _ _ _ => trivial
theorem i_rngD {c : Expr} (hg : Gl X "range") (hm : X.mg "range" = none) (ha : SE X t W a ma) (hb : SE X t W b mb) (hc : SE X t W c (e1 oNeg (eC (.int 1)))) (hs : starEach [a, b, c] X.env = (false, eval a X.env) :: starEach [b, c] X.env := by rfl) (hs2 : starEach [b, c] X.env = (false, eval b X.env) :: starEach [c] X.env := by rfl) (hs3 : starEach [c] X.env = [(false, eval c X.env)] := by rfl)
    (hpl : (backTo pos (starEach [b, c] X.env)).any (·.1) = false := by rfl) :
    SI X t W tg (.Call (.Name "range" p) [a, b, c] [] pos) (iRngD ma mb) :=
  (pi_range3 hg hm (s_cons ha (s_cons hb (s_cons hc s_nil (by rw [hs3]; rfl)) (by rw [hs2])) (by rw [hs])) hs hpl).imp fun σ H R ⟨am, r, s, en, mm, h⟩ => by
    refine ⟨am, r, s, en, mm, ?_⟩
    have h : IQ t am H ((ma r s).bind _) (W σ) R := h
    simp only [aC, aN]
    cases hx : ma r s with
    | ok d s1 =>
      rw [hx] at h
      simp only [Rs.bind_ok] at h ⊢
      cases hy : mb r s1 with
      | ok d2 s2 =>
        rw [hy] at h
        intro am' H' b q m z
        obtain ⟨v, w, rfl, z1, z2⟩ := z
        obtain ⟨v2, w2, rfl, z3, z4⟩ := z2
        obtain ⟨v3, w3, rfl, z5, z6⟩ := z4
        cases (show w3 = [] from z6)
        have h := IQ.re h q
        cases d with
        | int i =>
          cases d2 with
          | int j =>
            simp only [Rs.bind_ok] at h
            cases z1.intE
            cases z3.intE
            cases (show Rep t am' H' (.int (-1)) v3 from z5).intE
            split at h
            · rename_i hj
              exact ⟨i, j, -1, (i - j).toNat, rfl, RgC.neg (by omega) (by omega) (by omega) (by omega), h am' H' (Itc i (-1) (i - j).toNat) (fun _ _ => True) .refl m (itok_rangeC (t := t) i (-1) (i - j).toNat) trivial⟩
            · exact h.elim
          | _ => exact h.elim
        | _ => exact h.elim
      | exc c fs s' => rw [hy] at h; exact h
      | stk => rw [hy] at h; exact h
    | exc c fs s' => rw [hx] at h; exact h
    | stk => rw [hx] at h; exact h
end
end Y

/-! Y12: xs[i] among several targets; dicts. -/
namespace Y
open PySem L2
/-- xs[i] as a target -/
def gS (o i : E) : Tg := fun d r s => match o r s with
  | .ok x s1 => match i r s1 with
    | .ok k s2 => (putL x k d s2).map fun s3 => (r, s3)
    | _ => none
  | _ => none
/-- what putL does in the heap -/
theorem putL_sp {t : Tb} {am : List Addr} {s s' : S} {H : Hp} {o i d : D} {x y v : V} {Q : Hp → Prop} (m : Ms t am s H) (ro : Rep t am H o x) (ri : Rep t am H i y) (rv : Rep t am H d v) (e : putL o i d s = some s')
    (q : ∀ H', Post am H am H' → Ms t am s' H' → Q H') : rSetL x y v H Q := by
  unfold putL at e
  split at e
  · rename_i n k
    cases ri.intE
    obtain ⟨a, rfl, ha⟩ := ro.refE
    split at e
    · rename_i xs e1
      obtain ⟨vs, h4, h5⟩ := m.lst e1 ha
      split at e
      · rename_i j e2
        cases e
        have e2 : L2.ixN vs.length k = some j := by rw [← h5.length]; exact e2
        refine ⟨a, vs, k, j, rfl, rfl, h4, e2, ?_⟩
        have P : Post am H am (L2.upd H a (.lst (vs.set j v))) := .put (List.mem_of_getElem? ha) h4 (fun z => z)
        obtain ⟨_, m4⟩ := m.put (u := .lst (vs.set j v)) (o := .lst (xs.set j d)) ha ⟨_, upd_same, (h5.set rv j).mono P⟩
        exact q _ P m4
      · cases e
    · cases e
  · cases e
theorem g_sub {X : Cx} {t : Tb} {W : XW} {o i : Expr} {mo mi : E} {pos : Pos} (ho : SE X t W o mo) (hi : SE X t W i mi)
    (ha : ∀ v, assign (.Subscript o i pos) X.env v = (do
      let ov ← holding [v] (eval o X.env)
      let iv ← holding [v, ov] (eval i X.env)
      standAt pos
      holding [v, ov, iv] (setItem ov iv v)
      release [v, ov, iv] []) := by intro _; rfl) : SG X t (.Subscript o i pos) (gS mo mi) :=
  (pg_sub ho hi set_list ha).imp fun v σ H Q ⟨am, r, s, d, en, mm, rp, r2, s2, e, q⟩ => by
    unfold gS at e
    cases h1 : mo r s with
    | exc => rw [h1] at e; cases e
    | stk => rw [h1] at e; cases e
    | ok x s1 =>
      rw [h1] at e
      simp only at e
      cases h2 : mi r s1 with
      | exc => rw [h2] at e; cases e
      | stk => rw [h2] at e; cases e
      | ok k s3 =>
        rw [h2] at e
        simp only [Option.map_eq_some_iff] at e
        obtain ⟨s4, e, z⟩ := e
        cases z
        refine ⟨am, r, s, en, mm, ?_⟩
        rw [h1]
        intro am1 H1 b p1 m1 rb
        refine ⟨am1, r, s1, en.mono p1, m1, ?_⟩
        rw [h2]
        intro am2 H2 b2 p2 m2 rb2
        exact putL_sp m2 (rb.mono p2) rb2 (rp.mono (p1.trans p2)) e fun H' p3 m3 => q am2 H' σ (p1.trans (p2.trans p3)) m3 ((en.mono (p1.trans p2)).mono p3)

/-! ### dicts -/
def keyEq (a b : D) : Bool := match keyD a, keyD b with
  | some x, some y => decide (x = y)
  | _, _ => match keyT a, keyT b with
    | some x, some y => decide (x = y)
    | _, _ => false
def fndD (kvs : List (D × D)) (k : D) : Option D := (kvs.find? fun p => keyEq p.1 k).map (·.2)
def putD (kvs : List (D × D)) (k v : D) : List (D × D) := if (fndD kvs k).isSome = true then kvs.map (fun p => if keyEq p.1 k = true then (p.1, v) else p) else kvs ++ [(k, v)]
def keyOk (tk : Bool) (k : D) : Bool := if tk = true then (keyT k).isSome else (keyD k).isSome
def dctO (x : Option O) : Option (Bool × List (D × D)) := match x with
  | some (.dct tk kvs) => some (tk, kvs)
  | _ => none
def dctD (d : D) (s : S) : Option (Bool × List (D × D)) := match d with
  | .ref n => dctO s[n]?
  | _ => none
theorem keyD_T {d : D} {k : Key} (h : keyD d = some k) : keyT d = none := by cases d <;> first | rfl | cases h
theorem keyT_D {d : D} {k : List Key} (h : keyT d = some k) : keyD d = none := by cases d <;> first | rfl | cases h
section
variable {t : Tb} {am : List Addr} {H : Hp}
theorem RKV.fnd {κ : Type} [DecidableEq κ] {f : D → Option κ} {kd : D} {k : κ} (hk : ∀ d k', f d = some k' → keyEq d kd = decide (k' = k)) : ∀ {kvs : List (D × D)} {ks : List (κ × V)}, RKV f t am H kvs ks →
    (∀ d, fndD kvs kd = some d → ∃ v, valV ks k = some v ∧ Rep t am H d v) ∧ (fndD kvs kd = none → valV ks k = none)
  | [], ks, h => by
    rw [show ks = [] from h]
    exact ⟨fun d e => (by cases e), fun _ => rfl⟩
  | p :: ps, ks, ⟨k', v, r, e, h1, h2, h3⟩ => by
    obtain ⟨i1, i2⟩ := RKV.fnd hk h3
    rw [e]
    unfold fndD
    rw [List.find?_cons, hk _ _ h1]
    by_cases hh : k' = k
    · simp only [hh, decide_true, if_true]
      exact ⟨fun d z => ⟨v, valV_pos rfl, (by cases z; exact h2)⟩, fun z => (by cases z)⟩
    · simp only [hh, decide_false]
      rw [valV_neg (p := (k', v)) (r := r) (k := k) hh]
      exact ⟨i1, i2⟩
theorem RKV.repl {κ : Type} [DecidableEq κ] {f : D → Option κ} {kd d : D} {v : V} {k : κ} (hk : ∀ d k', f d = some k' → keyEq d kd = decide (k' = k)) (rv : Rep t am H d v) : ∀ {kvs : List (D × D)} {ks : List (κ × V)}, RKV f t am H kvs ks →
    RKV f t am H (kvs.map fun p => if keyEq p.1 kd = true then (p.1, d) else p) (ks.map fun kv => if kv.1 = k then (kv.1, v) else kv)
  | [], ks, h => by rw [show ks = [] from h]; exact rfl
  | p :: ps, ks, ⟨k', v', r, e, h1, h2, h3⟩ => by
    have ih := RKV.repl hk rv h3
    rw [e, List.map_cons, List.map_cons, hk _ _ h1]
    by_cases hh : k' = k
    · simp only [hh, decide_true, if_true]
      exact ⟨k, v, _, rfl, by rw [← hh]; exact h1, rv, ih⟩
    · simp only [hh, decide_false, if_false, Bool.false_eq_true]
      exact ⟨k', v', _, rfl, h1, h2, ih⟩
theorem RKV.snoc {κ : Type} {f : D → Option κ} {kd d : D} {v : V} {k : κ} (hk : f kd = some k) (rv : Rep t am H d v) : ∀ {kvs : List (D × D)} {ks : List (κ × V)}, RKV f t am H kvs ks → RKV f t am H (kvs ++ [(kd, d)]) (ks ++ [(k, v)])
  | [], ks, h => by rw [show ks = [] from h]; exact ⟨k, v, [], rfl, hk, rv, rfl⟩
  | p :: ps, ks, ⟨k', v', r, e, h1, h2, h3⟩ => by rw [e]; exact ⟨k', v', _, rfl, h1, h2, RKV.snoc hk rv h3⟩
theorem RKV.put {κ : Type} [DecidableEq κ] {f : D → Option κ} {kd d : D} {v : V} {k : κ} (hk : ∀ d k', f d = some k' → keyEq d kd = decide (k' = k)) (hkd : f kd = some k) (rv : Rep t am H d v) {kvs : List (D × D)} {ks : List (κ × V)} (h : RKV f t am H kvs ks) :
    RKV f t am H (putD kvs kd d) (putK ks k v) := by
  obtain ⟨h1, h2⟩ := h.fnd hk
  unfold putD putK
  rw [valV_any]
  cases e : fndD kvs kd with
  | none => rw [h2 e]; exact h.snoc hkd rv
  | some x =>
    obtain ⟨w, e2, _⟩ := h1 x e
    rw [e2]
    exact h.repl hk rv
theorem RKV.length {κ : Type} {f : D → Option κ} : ∀ {kvs : List (D × D)} {ks : List (κ × V)}, RKV f t am H kvs ks → kvs.length = ks.length
  | [], ks, h => by rw [show ks = [] from h]; rfl
  | p :: ps, ks, ⟨k', v', r, e, h1, h2, h3⟩ => by rw [e, List.length_cons, List.length_cons, RKV.length h3]
theorem keyEq_D {kd : D} {k : Key} (h : keyD kd = some k) : ∀ d k', keyD d = some k' → keyEq d kd = decide (k' = k) := fun d k' e => by unfold keyEq; rw [e, h]
theorem keyEq_T {kd : D} {k : List Key} (h : keyT kd = some k) : ∀ d k', keyT d = some k' → keyEq d kd = decide (k' = k) := fun d k' e => by unfold keyEq; rw [keyT_D e, e, h]
theorem keyD_V {kd : D} {k : Key} {y : V} (h : keyD kd = some k) (r : Rep t am H kd y) : y = kV k := by
  cases kd with
  | int i => cases h; exact r
  | str x => cases h; exact r
  | _ => cases h
theorem keysD_V : ∀ {ds : List D} {ks : List Key} {vs : List V}, keysD ds = some ks → Reps t am H ds vs → vs = ks.map kV
  | [], ks, vs, h, r => by
    cases h
    exact r
  | d :: ds, ks, vs, h, ⟨v, w, e, r1, r2⟩ => by
    unfold keysD at h
    split at h
    · rename_i k ks' e1 e2
      cases h
      rw [e, keyD_V e1 r1, keysD_V e2 r2, List.map_cons]
    · cases h
end
section
variable {t : Tb} {am : List Addr} {H : Hp} {s : S}
theorem dctO_some {x : Option O} {tk : Bool} {kvs : List (D × D)} (h : dctO x = some (tk, kvs)) : x = some (.dct tk kvs) := by
  unfold dctO at h
  split at h
  · cases h; rfl
  · cases h
theorem keyT_V {kd : D} {k : List Key} {y : V} (h : keyT kd = some k) (r : Rep t am H kd y) : ∃ b, y = .ref b ∧ H b = some (.tup (k.map kV)) := by
  cases kd with
  | tup ds =>
    obtain ⟨a, vs, rfl, h1, h2⟩ := r.tupH
    have h : keysD ds = some k := h
    exact ⟨a, rfl, by rw [h1, keysD_V h h2]⟩
  | _ => cases h
/-- a dict's place, and what it holds there -/
theorem dget_sp {d kd : D} {x y : V} {tk : Bool} {kvs : List (D × D)} (m : Ms t am s H) (rx : Rep t am H d x) (ry : Rep t am H kd y) (e : dctD d s = some (tk, kvs)) (hk : keyOk tk kd = true) :
    ∃ a o, x = .ref a ∧ IsD H a ∧ DGet H a y o ∧ (∀ z, fndD kvs kd = some z → ∃ v, o = some v ∧ Rep t am H z v) ∧ (fndD kvs kd = none → o = none) := by
  cases d with
  | ref n =>
    obtain ⟨a, rfl, ha⟩ := rx.refE
    have om := m.at (dctO_some e) ha
    cases tk with
    | false =>
      obtain ⟨ks, h1, h2⟩ := om
      cases hd : keyD kd with
      | none => unfold keyOk at hk; simp [hd] at hk
      | some k =>
        obtain ⟨f1, f2⟩ := h2.fnd (keyEq_D hd)
        cases keyD_V hd ry
        exact ⟨a, valV ks k, rfl, .inl ⟨ks, .inl h1⟩, .k h1, f1, f2⟩
    | true =>
      obtain ⟨ks, h1, h2⟩ := om
      cases hd : keyT kd with
      | none => unfold keyOk at hk; simp [hd] at hk
      | some k =>
        obtain ⟨f1, f2⟩ := h2.fnd (keyEq_T hd)
        obtain ⟨b, rfl, hb⟩ := keyT_V hd ry
        exact ⟨a, valV ks k, rfl, .inr ⟨ks, .inl h1⟩, .t h1 hb, f1, f2⟩
  | _ => cases e
theorem isD_sp {d : D} {x : V} {tk : Bool} {kvs : List (D × D)} (m : Ms t am s H) (rx : Rep t am H d x) (e : dctD d s = some (tk, kvs)) : ∃ a, x = .ref a ∧ IsD H a := by
  cases d with
  | ref n =>
    obtain ⟨a, rfl, ha⟩ := rx.refE
    have om := m.at (dctO_some e) ha
    cases tk with
    | false => obtain ⟨ks, h1, h2⟩ := om; exact ⟨a, rfl, .inl ⟨ks, .inl h1⟩⟩
    | true => obtain ⟨ks, h1, h2⟩ := om; exact ⟨a, rfl, .inr ⟨ks, .inl h1⟩⟩
  | _ => cases e
def oDIx : P2 := fun x y s => match dctD x s with
  | some (tk, kvs) => if keyOk tk y = true then match fndD kvs y with
    | some d => .ok d s
    | none => .stk else .stk
  | none => .stk
def oDIn : P2 := fun y x s => match dctD x s with
  | some (tk, kvs) => if keyOk tk y = true then .ok (.bl (fndD kvs y).isSome) s else .stk
  | none => .stk
def oDNotIn : P2 := fun y x s => match dctD x s with
  | some (tk, kvs) => if keyOk tk y = true then .ok (.bl (!(fndD kvs y).isSome)) s else .stk
  | none => .stk
def eGet2 (a b c : E) : E := fun r s => (a r s).bind fun x s1 => if (dctD x s1).isSome = true then (b r s1).bind fun y s2 => (c r s2).bind fun z s3 => match dctD x s3 with
  | some (tk, kvs) => if keyOk tk y = true then .ok ((fndD kvs y).getD z) s3 else .stk
  | none => .stk else .stk
def eGet1 (a b : E) : E := fun r s => (a r s).bind fun x s1 => if (dctD x s1).isSome = true then (b r s1).bind fun y s2 => match dctD x s2 with
  | some (tk, kvs) => if keyOk tk y = true then .ok ((fndD kvs y).getD .non) s2 else .stk
  | none => .stk else .stk
def putDct (x y v : D) (s : S) : Option S := match x with
  | .ref n => match dctO s[n]? with
    | some (tk, kvs) => if keyOk tk y = true ∧ kvs.length < LINE then some (s.set n (.dct tk (putD kvs y v))) else none
    | none => none
  | _ => none
def zPutD (o i e : E) : Sm := fun r s => (e r s).then r fun v s1 => (o r s1).then r fun x s2 => (i r s2).then r fun k s3 => match putDct x k v s3 with
  | some s4 => .nx r s4
  | none => .stk
def eDNew (tk : Bool) : E := fun _ s => .ok (.ref s.length) (s ++ [.dct tk []])
/-- the pairs of a list -/
def pairsD : List D → Option (List (D × D))
  | [] => some []
  | .tup [k, v] :: r => match keyD k, pairsD r with
    | some _, some ps => some ((k, v) :: ps)
    | _, _ => none
  | _ :: _ => none
def mergeD (kvs more : List (D × D)) : List (D × D) := more.foldl (fun acc p => putD acc p.1 p.2) kvs
def bDict : PN := fun ds s => match ds with
  | [x] => match seqL x s with
    | some xs => match pairsD xs with
      | some ps => .ok (.ref s.length) (s ++ [.dct false (mergeD [] ps)])
      | none => .stk
    | none => .stk
  | _ => .stk
end
section
variable {X : Cx} {t : Tb} {W : XW} {o i e : Expr} {mo mi m mz : E} {pos pos' apos : Pos}
theorem s_dix (hu : X.A.units + 1 < cLine) (ho : SE X t W o mo) (hi : SE X t W i mi) (hs : NoSl i) : SE X t W (.Subscript o i pos) (e2 oDIx mo mi) :=
  (pe_dget hu ho hi hs).imp fun σ H Q ⟨am, r, s, en, mm, h⟩ => tyE.of en mm h fun d1 s1 am1 H1 v1 en1 m1 p1 r1 h1 => tyE.of en1 m1 h1 fun d2 s2 am2 H2 v2 en2 m2 p2 r2 h2 => by
    unfold oDIx at h2
    split at h2
    · rename_i tk kvs ed
      split at h2
      · rename_i hk
        obtain ⟨a, o, rfl, _, g, f1, f2⟩ := dget_sp m2 (r1.mono p2) r2 ed hk
        split at h2
        · rename_i d ef
          obtain ⟨v, rfl, rv⟩ := f1 d ef
          exact ⟨a, v, rfl, g, h2.ok0 m2 rv⟩
        · exact h2.elim
      · exact h2.elim
    · exact h2.elim
theorem s_din (hu : X.A.units + 1 < cLine) (hi : SE X t W i mi) (ho : SE X t W o mo) (hm : behindInMarks .In o = false) : SE X t W (.Compare i [.In] [o] pos) (e2 oDIn mi mo) :=
  (pe_cmp (pc_din hu hi ho) hm).imp fun σ H Q ⟨am, r, s, en, mm, h⟩ => tyE.of en mm h fun d1 s1 am1 H1 v1 en1 m1 p1 r1 h1 => tyE.of en1 m1 h1 fun d2 s2 am2 H2 v2 en2 m2 p2 r2 h2 => by
    unfold oDIn at h2
    split at h2
    · rename_i tk kvs ed
      split at h2
      · rename_i hk
        obtain ⟨a, o, rfl, _, g, f1, f2⟩ := dget_sp m2 r2 (r1.mono p2) ed hk
        refine ⟨a, o, rfl, g, h2.ok0 m2 ?_⟩
        cases ef : fndD kvs d1 with
        | none => rw [f2 ef]; rfl
        | some z =>
          obtain ⟨v, rfl, _⟩ := f1 z ef
          rfl
      · exact h2.elim
    · exact h2.elim
theorem s_dnotin (hu : X.A.units + 1 < cLine) (hi : SE X t W i mi) (ho : SE X t W o mo) (hm : behindInMarks .NotIn o = false) : SE X t W (.Compare i [.NotIn] [o] pos) (e2 oDNotIn mi mo) :=
  (pe_cmp (pc_dnotin hu hi ho) hm).imp fun σ H Q ⟨am, r, s, en, mm, h⟩ => tyE.of en mm h fun d1 s1 am1 H1 v1 en1 m1 p1 r1 h1 => tyE.of en1 m1 h1 fun d2 s2 am2 H2 v2 en2 m2 p2 r2 h2 => by
    unfold oDNotIn at h2
    split at h2
    · rename_i tk kvs ed
      split at h2
      · rename_i hk
        obtain ⟨a, o, rfl, _, g, f1, f2⟩ := dget_sp m2 r2 (r1.mono p2) ed hk
        refine ⟨a, o, rfl, g, h2.ok0 m2 ?_⟩
        cases ef : fndD kvs d1 with
        | none => rw [f2 ef]; rfl
        | some z =>
          obtain ⟨v, rfl, _⟩ := f1 z ef
          rfl
      · exact h2.elim
    · exact h2.elim
theorem s_get2 {f : Expr} (hu : X.A.units + 1 < cLine) (ho : SE X t W o mo) (he : SE X t W e m) (hf : SE X t W f mz) (M : M2 X o "get" apos e f pos) : SE X t W (.Call (.Attribute o "get" apos) [e, f] [] pos) (eGet2 mo m mz) :=
  (pe_dget2 hu ho he hf M).imp fun σ H Q ⟨am, r, s, en, mm, h⟩ => tyE.of en mm h fun d1 s1 am1 H1 v1 en1 m1 p1 r1 h1 => by
    split at h1
    · rename_i hd
      cases ed : dctD d1 s1 with
      | none => rw [ed] at hd; cases hd
      | some q =>
        obtain ⟨a, rfl, isd⟩ := isD_sp m1 r1 (tk := q.1) (kvs := q.2) ed
        refine ⟨a, rfl, isd, ?_⟩
        refine tyE.of en1 m1 h1 fun d2 s2 am2 H2 v2 en2 m2 p2 r2 h2 => tyE.of en2 m2 h2 fun d3 s3 am3 H3 v3 en3 m3 p3 r3 h3 => ?_
        split at h3
        · rename_i tk kvs ed3
          split at h3
          · rename_i hk
            obtain ⟨a', o, e', _, g, f1, f2⟩ := dget_sp m3 ((r1.mono p2).mono p3) (r2.mono p3) ed3 hk
            cases e'
            refine ⟨o, g, h3.ok0 m3 ?_⟩
            cases ef : fndD kvs d2 with
            | none => rw [f2 ef]; exact r3
            | some z =>
              obtain ⟨v, rfl, rv⟩ := f1 z ef
              exact rv
          · exact h3.elim
        · exact h3.elim
    · exact h1.elim
theorem s_get1 (hu : X.A.units + 1 < cLine) (ho : SE X t W o mo) (he : SE X t W e m) (M : M1 X o "get" apos e pos) : SE X t W (.Call (.Attribute o "get" apos) [e] [] pos) (eGet1 mo m) :=
  (pe_dget1 hu ho he M).imp fun σ H Q ⟨am, r, s, en, mm, h⟩ => tyE.of en mm h fun d1 s1 am1 H1 v1 en1 m1 p1 r1 h1 => by
    split at h1
    · rename_i hd
      cases ed : dctD d1 s1 with
      | none => rw [ed] at hd; cases hd
      | some q =>
        obtain ⟨a, rfl, isd⟩ := isD_sp m1 r1 (tk := q.1) (kvs := q.2) ed
        refine ⟨a, rfl, isd, ?_⟩
        refine tyE.of en1 m1 h1 fun d2 s2 am2 H2 v2 en2 m2 p2 r2 h2 => ?_
        split at h2
        · rename_i tk kvs ed3
          split at h2
          · rename_i hk
            obtain ⟨a', o, e', _, g, f1, f2⟩ := dget_sp m2 (r1.mono p2) r2 ed3 hk
            cases e'
            refine ⟨o, g, h2.ok0 m2 ?_⟩
            cases ef : fndD kvs d2 with
            | none => rw [f2 ef]; exact rfl
            | some z =>
              obtain ⟨v, rfl, rv⟩ := f1 z ef
              exact rv
          · exact h2.elim
        · exact h2.elim
    · exact h1.elim
theorem z_putD (hu : X.A.units + 1 < cLine) (he : SE X t W e m) (ho : SE X t W o mo) (hi : SE X t W i mi) (hs : swapsWith e (some (.Subscript o i pos')) pos.line X.env = pure false := by rfl) :
    SS X t W (.Assign [.Subscript o i pos'] e pos) (zPutD mo mi m) :=
  (ps_dput hu ho hi he hs).imp fun D σ H ⟨am, r, s, en, mm, h⟩ => by
    refine ⟨am, r, s, en, mm, FQ.seq en h fun d1 s1 am1 H1 v1 p1 en1 m1 r1 h1 => ?_⟩
    refine ⟨am1, r, s1, en1, m1, FQ.seq en1 h1 fun d2 s2 am2 H2 v2 p2 en2 m2 r2 h2 => ?_⟩
    refine ⟨am2, r, s2, en2, m2, FQ.seq en2 h2 fun d3 s3 am3 H3 v3 p3 en3 m3 r3 h3 => ?_⟩
    split at h3
    · rename_i s4 e4
      unfold putDct at e4
      split at e4
      · rename_i n
        obtain ⟨a, rfl, ha⟩ := (r2.mono p3).refE
        split at e4
        · rename_i tk kvs ed
          split at e4
          · rename_i hk
            cases e4
            have om := m3.at (dctO_some ed) ha
            have rv := (r1.mono p2).mono p3
            have ma := List.mem_of_getElem? ha
            cases tk with
            | false =>
              obtain ⟨ks, h4, h5⟩ := om
              cases hd : keyD d3 with
              | none => have := hk.1; unfold keyOk at this; simp [hd] at this
              | some k =>
                cases keyD_V hd r3
                have P : Post am3 H3 am3 (L2.upd H3 a (.dK (putK ks k v1))) := .put ma h4 (fun z => z)
                obtain ⟨_, m4⟩ := m3.put (u := .dK (putK ks k v1)) (o := .dct false (putD kvs d3 d1)) ha ⟨_, upd_same, (h5.put (keyEq_D hd) hd rv).lift P.lift⟩
                exact ⟨a, _, rfl, .k h4 (by rw [← h5.length]; exact Nat.lt_of_lt_of_le hk.2 (by unfold LINE; decide)), h3 am3 _ σ P m4 (en3.mono P)⟩
            | true =>
              obtain ⟨ks, h4, h5⟩ := om
              cases hd : keyT d3 with
              | none => have := hk.1; unfold keyOk at this; simp [hd] at this
              | some k =>
                obtain ⟨b, rfl, hb⟩ := keyT_V hd r3
                have P : Post am3 H3 am3 (L2.upd H3 a (.dT (putK ks k v1))) := .put ma h4 (fun z => z)
                obtain ⟨_, m4⟩ := m3.put (u := .dT (putK ks k v1)) (o := .dct true (putD kvs d3 d1)) ha ⟨_, upd_same, (h5.put (keyEq_T hd) hd rv).lift P.lift⟩
                exact ⟨a, _, rfl, .t h4 hb (by rw [← h5.length]; exact Nat.lt_of_lt_of_le hk.2 (by unfold LINE; decide)), h3 am3 _ σ P m4 (en3.mono P)⟩
          · cases e4
        · cases e4
      · cases e4
    · exact h3.elim
theorem s_dnewK : SE X t W (.Dict [] [] pos) (eDNew false) := pe_dnewK.imp fun σ H Q ⟨am, r, s, en, mm, h⟩ => fun p hp =>
  h.ok (.new hp) (mm.new hp ⟨[], upd_same, rfl⟩) ⟨p, rfl, by rw [← mm.len]; simp⟩
theorem s_dnewT : SE X t W (.Dict [] [] pos) (eDNew true) := pe_dnewT.imp fun σ H Q ⟨am, r, s, en, mm, h⟩ => fun p hp =>
  h.ok (.new hp) (mm.new hp ⟨[], upd_same, rfl⟩) ⟨p, rfl, by rw [← mm.len]; simp⟩
end
section
variable {t : Tb} {am : List Addr} {H : Hp}
theorem RKV.merge : ∀ {more : List (D × D)} {mk : List (Key × V)} {kvs : List (D × D)} {ks : List (Key × V)}, RKV keyD t am H more mk → RKV keyD t am H kvs ks → RKV keyD t am H (mergeD kvs more) (mergeK ks mk)
  | [], mk, kvs, ks, h, h' => by rw [show mk = [] from h]; exact h'
  | p :: ps, mk, kvs, ks, ⟨k', v', r, e, h1, h2, h3⟩, h' => by
    rw [e]
    exact RKV.merge (more := ps) (mk := r) h3 (h'.put (keyEq_D h1) h1 h2)
theorem pairs_sp : ∀ {xs : List D} {vs : List V} {ps : List (D × D)}, Reps t am H xs vs → pairsD xs = some ps → ∃ (as : List Addr) (ks : List (Key × V)), vs = as.map V.ref ∧ Paired (fun p kv => SqT t.K H p [kV kv.1, kv.2]) as ks ∧ RKV keyD t am H ps ks
  | [], vs, ps, r, e => by
    cases e
    exact ⟨[], [], r, .nil, rfl⟩
  | x :: xs, vs, ps, ⟨v, w, e1, r1, r2⟩, e => by
    unfold pairsD at e
    split at e
    · cases e; rename_i h; cases h
    · rename_i k y rr h
      cases h
      split at e
      · rename_i kk ps' ek ep
        cases e
        obtain ⟨as, ks, rfl, h2, h3⟩ := pairs_sp r2 ep
        obtain ⟨a, us, rfl, h4, h5⟩ := r1.tupE
        obtain ⟨u1, w1, rfl, h6, h7⟩ := h5
        obtain ⟨u2, w2, rfl, h8, h9⟩ := h7
        cases (show w2 = [] from h9)
        cases keyD_V ek h6
        exact ⟨a :: as, (kk, u2) :: ks, by rw [e1]; rfl, .cons h4 h2, kk, u2, ks, rfl, ek, h8, h3⟩
      · cases e
    · cases e
def rDictP (K : PySem.W.Frag) : List V → Hp → VK → Prop := fun xs H Q => ∃ (a : Addr) (ps : List Addr) (kvs : List (Key × V)), xs = [.ref a] ∧ SqL K H a (ps.map V.ref) ∧ Paired (fun p kv => SqT K H p [kV kv.1, kv.2]) ps kvs ∧
    ∀ p, H p = none → Q (.ref p) (L2.upd H p (.dK (mergeK [] kvs)))
theorem call_dictP2 {X : Cx} (hcalm : X.calm = true) : CallR X (.type "dict") (rDictP X.K) := call_dictP hcalm
theorem n_dict : OpN t (rDictP t.K) bDict := fun am s H ds vs Ex Q m r q => by
  unfold bDict at q
  split at q
  · obtain ⟨v, rfl, h⟩ := reps1 r
    split at q
    · rename_i xs e
      obtain ⟨a, us, rfl, rv, hs⟩ := seqL_of m h e
      split at q
      · rename_i ps ep
        obtain ⟨as, ks, rfl, h2, h3⟩ := pairs_sp rv ep
        refine ⟨a, as, ks, rfl, hs, h2, fun p hp => ?_⟩
        have h4 : RKV keyD t am H (mergeD [] ps) (mergeK [] ks) := RKV.merge h3 (show RKV keyD t am H [] [] from rfl)
        exact q.ok (.new hp) (m.new hp ⟨_, upd_same, h4.lift (Post.new hp).lift⟩) ⟨p, rfl, by rw [← m.len]; simp⟩
      · exact q.elim
    · exact q.elim
  · exact q.elim
end
end Y

/-! Y13: zip, sorted, in, max and min of lists, lists unpacked. -/
namespace Y
open PySem L2
/-! ### zip -/
def zipD (xs ys : List D) : List D := List.zipWith (fun x y => .tup [x, y]) xs ys
def zipF (n m : Nat) (s : S) : Option (List D) := match s[n]?, s[m]? with
  | some (.lst xs), some (.lst ys) => some (zipD xs ys)
  | _, _ => none
def iZip (a b : E) : IW := fun r s => (a r s).bind fun x s1 => (b r s1).bind fun y s2 => match x, y with
  | .tup xs, .tup ys => .ok (.items (zipD xs ys)) s2
  | .ref n, .ref m => if (zipF n m s2).isSome = true then .ok (.dyn (zipF n m)) s2 else .stk
  | _, _ => .stk
section
variable {t : Tb}
theorem zip_get {xs ys : List D} {i : Nat} {d : D} (h : (zipD xs ys)[i]? = some d) : ∃ x y, d = .tup [x, y] ∧ xs[i]? = some x ∧ ys[i]? = some y := by
  unfold zipD at h
  rw [List.getElem?_zipWith] at h
  cases h1 : xs[i]? with
  | none => rw [h1] at h; cases h
  | some x =>
    cases h2 : ys[i]? with
    | none => rw [h1, h2] at h; cases h
    | some y => rw [h1, h2] at h; cases h; exact ⟨x, y, rfl, rfl, rfl⟩
theorem zip_end {xs ys : List D} {i : Nat} (h : (zipD xs ys)[i]? = none) : xs.length ≤ i ∨ ys.length ≤ i := by
  rw [List.getElem?_eq_none_iff] at h
  unfold zipD at h
  rw [List.length_zipWith] at h
  omega
theorem zip_yield {am : List Addr} {H : Hp} {d e : D} {x y : V} {T : Addr} (hT : H T = none) (r1 : Rep t am H d x) (r2 : Rep t am H e y) : Rep t am (L2.upd H T (.tup [x, y])) (.tup [d, e]) (.ref T) :=
  ⟨T, [x, y], rfl, upd_same, x, [y], rfl, r1.mono (.upd hT), y, [], rfl, r2.mono (.upd hT), rfl⟩
theorem itok_zipT {a b : Addr} {xs ys : List D} : ItOk t (RZ.ItzT t.K a b) (fun am H => ∃ vs ws, SqT t.K H a vs ∧ Reps t am H xs vs ∧ SqT t.K H b ws ∧ Reps t am H ys ws) (zipD xs ys) where
  item := fun i d am H ⟨vs, ws, h1, h2, h3, h4⟩ e => by
    obtain ⟨dx, dy, rfl, ex, ey⟩ := zip_get e
    obtain ⟨x, e1, r1⟩ := h2.get ex
    obtain ⟨y, e2, r2⟩ := h4.get ey
    refine ⟨⟨vs, ws, x, y, h1, h3, e1, e2⟩, fun z H' q => ?_⟩
    obtain ⟨T, x', y', rfl, hT, rfl, q1, q2⟩ := q
    have := q1 vs h1
    rw [e1] at this; cases this
    have := q2 ws h3
    rw [e2] at this; cases this
    exact ⟨.upd hT, fun s m => m.upd hT, zip_yield hT r1 r2⟩
  stop := fun i am H ⟨vs, ws, h1, h2, h3, h4⟩ e => ⟨vs, ws, h1, h3, by rw [← h2.length, ← h4.length]; exact zip_end e⟩
  keep := fun am H am' H' ⟨vs, ws, h1, h2, h3, h4⟩ p => ⟨vs, ws, p.sqT h1, h2.mono p, p.sqT h3, h4.mono p⟩
theorem dyn_zip {a b : Addr} {n m : Nat} : DynOk t (L2.Itz t.K a b) (fun am => am[n]? = some a ∧ am[m]? = some b) (zipF n m) where
  item := fun i d xs am s H ⟨ga, gb⟩ M e hd => by
    unfold zipF at e
    split at e
    · rename_i us ws e1 e2
      cases e
      obtain ⟨dx, dy, rfl, ex, ey⟩ := zip_get hd
      obtain ⟨vs, h1, h2⟩ := M.lst e1 ga
      obtain ⟨zs, h3, h4⟩ := M.lst e2 gb
      obtain ⟨x, e3, r1⟩ := h2.get ex
      obtain ⟨y, e4, r2⟩ := h4.get ey
      refine ⟨⟨vs, zs, x, y, .of h1, .of h3, e3, e4⟩, fun z H' q => ?_⟩
      obtain ⟨T, x', y', rfl, hT, rfl, q1, q2⟩ := q
      have := q1 vs (.of h1)
      rw [e3] at this; cases this
      have := q2 zs (.of h3)
      rw [e4] at this; cases this
      exact ⟨.upd hT, M.upd hT, zip_yield hT r1 r2⟩
    · cases e
  stop := fun i xs am s H ⟨ga, gb⟩ M e hd => by
    unfold zipF at e
    split at e
    · rename_i us ws e1 e2
      cases e
      obtain ⟨vs, h1, h2⟩ := M.lst e1 ga
      obtain ⟨zs, h3, h4⟩ := M.lst e2 gb
      exact ⟨vs, zs, .of h1, .of h3, by rw [← h2.length, ← h4.length]; exact zip_end hd⟩
    · cases e
  keep := fun am H am' H' ⟨ga, gb⟩ p => ⟨p.at ga, p.at gb⟩
end
section
variable {X : Cx} {t : Tb} {W : XW} {a b : Expr} {ma mb : E} {p pos tpos : Pos}
theorem i_zip {elts : List Expr} {kk : Nat} (hK : X.K = t.K) (hg : Gl X "zip") (hm : X.mg "zip" = none) (ha : SE X t W a ma) (hb : SE X t W b mb) (hs : starEach [a, b] X.env = (false, eval a X.env) :: starEach [b] X.env := by rfl) (hs2 : starEach [b] X.env = (false, eval b X.env) :: starEach [] X.env := by rfl) (hpl : (backTo pos (starEach [b] X.env)).any (·.1) = false := by rfl) :
    SI X t W (.Tuple elts kk tpos) (.Call (.Name "zip" p) [a, b] [] pos) (iZip ma mb) :=
  (RZ.pi_zipA hg hm (s_cons ha (s_cons hb s_nil hs2) hs) hs hpl).imp fun σ H R ⟨am, r, s, en, mm, h⟩ => by
    refine ⟨am, r, s, en, mm, ?_⟩
    have h : IQ t am H ((ma r s).bind _) (W σ) R := h
    simp only [aC, aN]
    cases hx : ma r s with
    | ok d s1 =>
      rw [hx] at h
      simp only [Rs.bind_ok] at h ⊢
      cases hy : mb r s1 with
      | ok d2 s2 =>
        rw [hy] at h
        intro am' H' b q m z
        obtain ⟨v, w, rfl, z1, z2⟩ := z
        obtain ⟨v2, w2, rfl, z3, z4⟩ := z2
        cases (show w2 = [] from z4)
        have h := IQ.re h q
        rw [hK]
        cases d with
        | tup xs =>
          cases d2 with
          | tup ys =>
            simp only [Rs.bind_ok] at h
            obtain ⟨a1, vs, rfl, h1, h2⟩ := z1.tupE
            obtain ⟨a2, ws, rfl, h3, h4⟩ := z3.tupE
            exact ⟨a1, a2, vs, ws, rfl, .inr ⟨h1, h3, h am' H' _ _ .refl m itok_zipT ⟨vs, ws, h1, h2, h3, h4⟩⟩⟩
          | _ => exact h.elim
        | ref n =>
          cases d2 with
          | ref k =>
            simp only [Rs.bind_ok] at h
            split at h
            · rename_i hz
              obtain ⟨a1, rfl, g1⟩ := z1.refE
              obtain ⟨a2, rfl, g2⟩ := z3.refE
              unfold zipF at hz
              split at hz
              · rename_i us zs e1 e2
                obtain ⟨vs, h1, h2⟩ := m.lst e1 g1
                obtain ⟨ws, h3, h4⟩ := m.lst e2 g2
                exact ⟨a1, a2, vs, ws, rfl, .inl ⟨.of h1, .of h3, h am' H' _ _ .refl m dyn_zip ⟨g1, g2⟩⟩⟩
              · cases hz
            · exact h.elim
          | _ => exact h.elim
        | _ => exact h.elim
      | exc c fs s' => rw [hy] at h; exact h
      | stk => rw [hy] at h; exact h
    | exc c fs s' => rw [hx] at h; exact h
    | stk => rw [hx] at h; exact h
end
/-! ### sorted -/
def ins (x : Int) : List Int → List Int
  | [] => [x]
  | y :: r => if x ≤ y then x :: y :: r else y :: ins x r
def srt : List Int → List Int
  | [] => []
  | x :: r => ins x (srt r)
theorem ins_perm (x : Int) : ∀ l, (ins x l).Perm (x :: l)
  | [] => .refl _
  | y :: r => by
    unfold ins
    split
    · exact .refl _
    · exact ((ins_perm x r).cons y).trans (List.Perm.swap x y r)
theorem srt_perm : ∀ l, (srt l).Perm l
  | [] => .refl _
  | x :: r => (ins_perm x _).trans ((srt_perm r).cons x)
theorem ins_sorted (x : Int) : ∀ l : List Int, l.Pairwise (· ≤ ·) → (ins x l).Pairwise (· ≤ ·)
  | [], _ => by simp [ins]
  | y :: r, h => by
    obtain ⟨h1, h2⟩ := List.pairwise_cons.mp h
    unfold ins
    split
    · rename_i hxy
      refine List.pairwise_cons.mpr ⟨fun z hz => ?_, h⟩
      rcases List.mem_cons.mp hz with rfl | hz
      · exact hxy
      · exact Int.le_trans hxy (h1 z hz)
    · rename_i hxy
      refine List.pairwise_cons.mpr ⟨fun z hz => ?_, ins_sorted x r h2⟩
      rcases List.mem_cons.mp ((ins_perm x r).mem_iff.mp hz) with rfl | hz
      · omega
      · exact h1 z hz
theorem srt_sorted : ∀ l : List Int, (srt l).Pairwise (· ≤ ·)
  | [] => .nil
  | x :: r => ins_sorted x _ (srt_sorted r)
theorem sorted_uniq : ∀ {a b : List Int}, a.Perm b → a.Pairwise (· ≤ ·) → b.Pairwise (· ≤ ·) → a = b
  | [], b, p, _, _ => (List.nil_perm.mp p).symm
  | x :: a, [], p, _, _ => by have := p.length_eq; simp at this
  | x :: a, y :: b, p, ha, hb => by
    obtain ⟨a1, a2⟩ := List.pairwise_cons.mp ha
    obtain ⟨b1, b2⟩ := List.pairwise_cons.mp hb
    have e : x = y := by
      have hx := p.mem_iff.mp (List.mem_cons_self (a := x) (l := a))
      have hy := p.mem_iff.mpr (List.mem_cons_self (a := y) (l := b))
      rcases List.mem_cons.mp hx with h | h
      · exact h
      · rcases List.mem_cons.mp hy with h' | h'
        · exact h'.symm
        · have := a1 y h'; have := b1 x h; omega
    subst e
    rw [sorted_uniq (List.perm_cons x |>.mp p) a2 b2]
theorem srt_uniq {l m : List Int} (p : m.Perm l) (s : m.Pairwise (· ≤ ·)) : m = srt l := sorted_uniq (p.trans (srt_perm l).symm) s (srt_sorted l)
/-- without what comes again -/
def ddp : List Int → List Int
  | [] => []
  | x :: r => if x ∈ ddp r then ddp r else x :: ddp r
theorem mem_ddp {k : Int} : ∀ {l : List Int}, k ∈ ddp l ↔ k ∈ l
  | [] => .rfl
  | x :: r => by
    unfold ddp
    have ih := mem_ddp (k := k) (l := r)
    split
    · rename_i h
      rw [ih, List.mem_cons]
      constructor
      · exact .inr
      · rintro (rfl | h')
        · exact mem_ddp.mp h
        · exact h'
    · rw [List.mem_cons, List.mem_cons, ih]
theorem nodup_ddp : ∀ l : List Int, (ddp l).Nodup
  | [] => .nil
  | x :: r => by
    unfold ddp
    split
    · exact nodup_ddp r
    · rename_i h
      exact List.nodup_cons.mpr ⟨h, nodup_ddp r⟩
theorem ddp_uniq {l m : List Int} (h : ∀ k, k ∈ m ↔ k ∈ l) (s : m.Pairwise (· < ·)) : m = srt (ddp l) := by
  refine srt_uniq ?_ (s.imp fun h => by omega)
  refine (List.perm_ext_iff_of_nodup (s.imp fun h => by omega) (nodup_ddp l)).mpr fun k => ?_
  rw [h, mem_ddp]
def keysI (kvs : List (D × D)) : Option (List Int) := intsOf (kvs.map (·.1))
def bSorted : PN := fun ds s => match ds with
  | [.ref n] => match s[n]? with
    | some (.lst xs) => match intsOf xs with
      | some is => .ok (.ref s.length) (s ++ [.lst ((srt is).map D.int)])
      | none => .stk
    | some (.dct false kvs) => match keysI kvs with
      | some is => if is.length < 64 then .ok (.ref s.length) (s ++ [.lst ((srt is).map D.int)]) else .stk
      | none => .stk
    | _ => .stk
  | _ => .stk
def rSortDI : List V → Hp → VK → Prop := fun xs H Q => ∃ (a : Addr) (kvs : List (Key × V)) (ks : List Int), xs = [.ref a] ∧ Rd H a (.dK kvs) ∧ kvs.map (·.1) = ks.map Sum.inl ∧ ks.length < 64 ∧ ∀ (ys : List Int) (p : Addr), ys.Perm ks → ys.Pairwise (· ≤ ·) → H p = none → Q (.ref p) (L2.upd H p (.lst (ys.map V.int)))
def rSort2 (K : PySem.W.Frag) : List V → Hp → VK → Prop := fun xs H Q => L2.rSortedI K xs H Q ∨ rSortDI xs H Q
theorem cr_sort2 {X : Cx} (hc : X.calm = true) : CallR X (.builtin "sorted") (rSort2 X.K) := L2.cr_sortedI.or (call_sortedDI hc)
section
variable {X : Cx} {t : Tb}
theorem repsI {am : List Addr} {H : Hp} : ∀ {is : List Int} {vs : List V}, Reps t am H (is.map D.int) vs → vs = is.map V.int
  | [], vs, h => h
  | i :: is, vs, ⟨v, r, e, h1, h2⟩ => by rw [e, h1.intE, repsI h2]; rfl
theorem intsR {am : List Addr} {H : Hp} : ∀ is : List Int, Reps t am H (is.map D.int) (is.map V.int)
  | [] => rfl
  | n :: ns => ⟨.int n, ns.map V.int, rfl, rfl, intsR ns⟩
theorem keys_ints {am : List Addr} {H : Hp} : ∀ {kvs : List (D × D)} {ks : List (Key × V)} {is : List Int}, RKV keyD t am H kvs ks → keysI kvs = some is → ks.map (·.1) = is.map Sum.inl
  | [], ks, is, h, e => by
    have e : some [] = some is := e
    cases e
    rw [show ks = [] from h]; rfl
  | p :: ps, ks, is, ⟨k, v, r, e, h1, h2, h3⟩, q => by
    obtain ⟨pk, pv⟩ := p
    have q : intsOf (pk :: ps.map (·.1)) = some is := q
    cases pk with
    | int i =>
      unfold intsOf at q
      split at q
      · rename_i js ej
        cases q
        rw [e, List.map_cons, List.map_cons, keys_ints h3 (show keysI ps = some js from ej)]
        cases h1
        rfl
      · cases q
    | _ => cases q
theorem n_sort2 : OpN t (rSort2 t.K) bSorted := fun am s H ds vs Ex Q m r q => by
  unfold bSorted at q
  split at q
  · obtain ⟨v, rfl, h⟩ := reps1 r
    obtain ⟨a, rfl, ha⟩ := h.refE
    split at q
    · rename_i xs e
      obtain ⟨us, h1, h2⟩ := m.lst e ha
      split at q
      · rename_i is ei
        rw [ints_map ei] at h2
        cases repsI h2
        exact .inl ⟨a, is, rfl, .of h1, fun ns p hp hs hn => by rw [srt_uniq hp hs]; exact new_list m q (intsR _) p hn⟩
      · exact q.elim
    · rename_i kvs e
      obtain ⟨ks, h1, h2⟩ := m.at e ha
      split at q
      · rename_i is ei
        split at q
        · rename_i hl
          exact .inr ⟨a, ks, is, rfl, .inl h1, keys_ints h2 ei, hl, fun ns p hp hs hn => by rw [srt_uniq hp hs]; exact new_list m q (intsR _) p hn⟩
        · exact q.elim
      · exact q.elim
    · exact q.elim
  · exact q.elim
end
/-! ### in, not in -/
def oInD : P2 := fun x y s => match D.py s 20 x, D.py s 20 y with
  | some p, some (.list ds) => if PySem.SeqAt.shaped p = true ∧ PySem.SeqAt.shaped (.list ds) = true then .ok (.bl (ds.any fun z => PyData.eqv z p)) s else .stk
  | some p, some (.tuple ds) => if PySem.SeqAt.shaped p = true ∧ PySem.SeqAt.shaped (.tuple ds) = true then .ok (.bl (ds.any fun z => PyData.eqv z p)) s else .stk
  | _, _ => .stk
def oNotInD : P2 := fun x y s => match D.py s 20 x, D.py s 20 y with
  | some p, some (.list ds) => if PySem.SeqAt.shaped p = true ∧ PySem.SeqAt.shaped (.list ds) = true then .ok (.bl (!ds.any fun z => PyData.eqv z p)) s else .stk
  | some p, some (.tuple ds) => if PySem.SeqAt.shaped p = true ∧ PySem.SeqAt.shaped (.tuple ds) = true then .ok (.bl (!ds.any fun z => PyData.eqv z p)) s else .stk
  | _, _ => .stk
def rInT (K : PySem.W.Frag) (f : Bool → Bool) : R2 := fun x y H Q => ∃ d ds, Dp K H x d ∧ Dp K H y (.tuple ds) ∧ SeqAt.shaped d = true ∧ SeqAt.shaped (.tuple ds) = true ∧ Q (.bl (f (ds.any fun z => PyData.eqv z d))) H
theorem shaped_room {A : Around} {d : PyData} {ds : List PyData} (sd : SeqAt.shaped d = true) (hu : A.units + 65 < cLine) : A.units + 1 + min (PyData.depthAll ds) d.depth < cLine := by
  unfold SeqAt.shaped at sd
  simp only [Bool.and_eq_true, decide_eq_true_eq] at sd
  have := Nat.min_le_right (PyData.depthAll ds) d.depth
  omega
section
variable {X : Cx} {t : Tb}
theorem op_inT (hu : X.A.units + 65 < cLine) : OpR X (compareOp .In) (rInT X.K id) := fun pins s σ H x y v u Q I rx ry h => by
  obtain ⟨d, ds, hd, he, sd, se, q⟩ := h
  obtain ⟨as, r1⟩ := Dp.reads I d x v hd rx
  obtain ⟨bs, r2⟩ := Dp.reads I (.tuple ds) y u he ry
  exact SeqAt.in_tuple_reads r2 r1 (SeqAt.canLay_of_shaped se) (SeqAt.canLay_of_shaped sd) (shaped_room sd hu) ⟨.bl _, H, I, rfl, q⟩
theorem op_notInT (hu : X.A.units + 65 < cLine) : OpR X (compareOp .NotIn) (rInT X.K not) := fun pins s σ H x y v u Q I rx ry h => by
  obtain ⟨d, ds, hd, he, sd, se, q⟩ := h
  obtain ⟨as, r1⟩ := Dp.reads I d x v hd rx
  obtain ⟨bs, r2⟩ := Dp.reads I (.tuple ds) y u he ry
  exact SeqAt.notIn_tuple_reads r2 r1 (SeqAt.canLay_of_shaped se) (SeqAt.canLay_of_shaped sd) (shaped_room sd hu) ⟨.bl _, H, I, rfl, q⟩
end
section
variable {X : Cx} {t : Tb}
def rIn3 (K : PySem.W.Frag) : R2 := fun x y H Q => rInD K x y H Q ∨ rInT K id x y H Q
def rNotIn3 (K : PySem.W.Frag) : R2 := fun x y H Q => rNotInD K x y H Q ∨ rInT K not x y H Q
theorem op_in3 (hu : X.A.units + 65 < cLine) : OpR X (compareOp .In) (rIn3 X.K) := (op_inD hu).or (op_inT hu)
theorem op_notIn3 (hu : X.A.units + 65 < cLine) : OpR X (compareOp .NotIn) (rNotIn3 X.K) := (op_notInD hu).or (op_notInT hu)
theorem o_in3 : Op2 t (rIn3 t.K) oInD := fun am s H d1 d2 v1 v2 Ex Q m r1 r2 q => by
  unfold oInD at q
  split at q
  · rename_i p ds e1 e2
    split at q
    · rename_i hs
      exact .inl ⟨p, ds, py_dp m _ _ _ _ e1 r1, py_dp m _ _ _ _ e2 r2, hs.1, hs.2, q.ok0 m rfl⟩
    · exact q.elim
  · rename_i p ds e1 e2
    split at q
    · rename_i hs
      exact .inr ⟨p, ds, py_dp m _ _ _ _ e1 r1, py_dp m _ _ _ _ e2 r2, hs.1, hs.2, q.ok0 m rfl⟩
    · exact q.elim
  · exact q.elim
theorem o_notIn3 : Op2 t (rNotIn3 t.K) oNotInD := fun am s H d1 d2 v1 v2 Ex Q m r1 r2 q => by
  unfold oNotInD at q
  split at q
  · rename_i p ds e1 e2
    split at q
    · rename_i hs
      exact .inl ⟨p, ds, py_dp m _ _ _ _ e1 r1, py_dp m _ _ _ _ e2 r2, hs.1, hs.2, q.ok0 m rfl⟩
    · exact q.elim
  · rename_i p ds e1 e2
    split at q
    · rename_i hs
      exact .inr ⟨p, ds, py_dp m _ _ _ _ e1 r1, py_dp m _ _ _ _ e2 r2, hs.1, hs.2, q.ok0 m rfl⟩
    · exact q.elim
  · exact q.elim
/-! ### max and min of a list -/
def maxI : List Int → Int
  | [] => 0
  | x :: r => r.foldl max x
def minI : List Int → Int
  | [] => 0
  | x :: r => r.foldl min x
theorem maxI_sp : ∀ (r : List Int) (x : Int), (r.foldl max x ∈ x :: r) ∧ ∀ y ∈ x :: r, y ≤ r.foldl max x
  | [], x => ⟨List.mem_cons_self, fun y hy => by rw [List.mem_singleton] at hy; rw [hy]; exact Int.le_refl _⟩
  | z :: r, x => by
    obtain ⟨h1, h2⟩ := maxI_sp r (max x z)
    rw [List.foldl_cons]
    refine ⟨?_, fun y hy => ?_⟩
    · rcases List.mem_cons.mp h1 with e | e
      · rw [e]
        rcases Int.le_total x z with h | h
        · rw [Int.max_eq_right h]; simp
        · rw [Int.max_eq_left h]; simp
      · exact List.mem_cons_of_mem _ (List.mem_cons_of_mem _ e)
    · have h0 := h2 (max x z) List.mem_cons_self
      rcases List.mem_cons.mp hy with rfl | hy
      · exact Int.le_trans (Int.le_max_left _ _) h0
      · rcases List.mem_cons.mp hy with rfl | hy
        · exact Int.le_trans (Int.le_max_right _ _) h0
        · exact h2 y (List.mem_cons_of_mem _ hy)
theorem minI_sp : ∀ (r : List Int) (x : Int), (r.foldl min x ∈ x :: r) ∧ ∀ y ∈ x :: r, r.foldl min x ≤ y
  | [], x => ⟨List.mem_cons_self, fun y hy => by rw [List.mem_singleton] at hy; rw [hy]; exact Int.le_refl _⟩
  | z :: r, x => by
    obtain ⟨h1, h2⟩ := minI_sp r (min x z)
    rw [List.foldl_cons]
    refine ⟨?_, fun y hy => ?_⟩
    · rcases List.mem_cons.mp h1 with e | e
      · rw [e]
        rcases Int.le_total x z with h | h
        · rw [Int.min_eq_left h]; simp
        · rw [Int.min_eq_right h]; simp
      · exact List.mem_cons_of_mem _ (List.mem_cons_of_mem _ e)
    · have h0 := h2 (min x z) List.mem_cons_self
      rcases List.mem_cons.mp hy with rfl | hy
      · exact Int.le_trans h0 (Int.min_le_left _ _)
      · rcases List.mem_cons.mp hy with rfl | hy
        · exact Int.le_trans h0 (Int.min_le_right _ _)
        · exact h2 y (List.mem_cons_of_mem _ hy)
def bMaxL : PN := fun ds s => match ds with
  | [x] => match seqL x s with
    | some xs => match intsOf xs with
      | some (i :: is) => .ok (.int (maxI (i :: is))) s
      | _ => .stk
    | none => .stk
  | _ => .stk
def bMinL : PN := fun ds s => match ds with
  | [x] => match seqL x s with
    | some xs => match intsOf xs with
      | some (i :: is) => .ok (.int (minI (i :: is))) s
      | _ => .stk
    | none => .stk
  | _ => .stk
theorem n_maxL : OpN t (rMax t.K) bMaxL := fun am s H ds vs Ex Q m r q => by
  unfold bMaxL at q
  split at q
  · obtain ⟨v, rfl, h⟩ := reps1 r
    split at q
    · rename_i xs e
      obtain ⟨a, us, rfl, rv, hs⟩ := seqL_of m h e
      split at q
      · rename_i i is ei
        rw [ints_map ei] at rv
        cases repsI rv
        refine ⟨a, i :: is, rfl, hs, by simp, fun k hk hle => ?_⟩
        obtain ⟨h1, h2⟩ := maxI_sp is i
        have : k = maxI (i :: is) := Int.le_antisymm (h2 k hk) (hle _ h1)
        rw [this]
        exact q.ok0 m rfl
      · exact q.elim
    · exact q.elim
  · exact q.elim
theorem n_minL : OpN t (rMin t.K) bMinL := fun am s H ds vs Ex Q m r q => by
  unfold bMinL at q
  split at q
  · obtain ⟨v, rfl, h⟩ := reps1 r
    split at q
    · rename_i xs e
      obtain ⟨a, us, rfl, rv, hs⟩ := seqL_of m h e
      split at q
      · rename_i i is ei
        rw [ints_map ei] at rv
        cases repsI rv
        refine ⟨a, i :: is, rfl, hs, by simp, fun k hk hle => ?_⟩
        obtain ⟨h1, h2⟩ := minI_sp is i
        have : k = minI (i :: is) := Int.le_antisymm (hle _ h1) (h2 k hk)
        rw [this]
        exact q.ok0 m rfl
      · exact q.elim
    · exact q.elim
  · exact q.elim
end
/-! ### a, b = a list -/
def gTL (t : List D → Env → S → Option (Env × S)) : Tg := fun d r s => match seqL d s with
  | some xs => t xs r s
  | none => none
theorem g_lst {X : Cx} {t : Tb} {pos : Pos} {es : List Expr} {k : Nat} {u : List D → Env → S → Option (Env × S)} (hK : X.K = t.K) (hc : X.calm = true) (h : SGs X t es u)
    (hlen : ∀ ds r s x, u ds r s = some x → ds.length = (assignEach es X.env).length) (hst : (assignEach es X.env).findIdx? (·.1) = none := by rfl) : SG X t (.Tuple es k pos) (gTL u) :=
  (pg_lst (n := (assignEach es X.env).length) hc h rfl hst).imp fun v σ H Q ⟨am, r, s, d, en, mm, rp, r2, s2, e, q⟩ => by
    unfold gTL at e
    split at e
    · rename_i xs ex
      obtain ⟨a, vs, rfl, h2, h1⟩ := seqL_of mm rp ex
      exact ⟨a, vs, rfl, by rw [hK]; exact h1, by rw [← h2.length]; exact hlen _ _ _ _ e, am, r, s, xs, en, mm, h2, r2, s2, e, q⟩
    · cases e
/-! ### insert -/
def mIns : PM := fun x ds s => match x, ds with
  | .ref n, [.int i, y] => match s[n]? with
    | some (.lst xs) => if xs.length < LINE ∧ 0 ≤ i ∧ i < 4611686018427387904 then .ok .non (s.set n (.lst (xs.take i.toNat ++ [y] ++ xs.drop i.toNat))) else .stk
    | _ => .stk
  | _, _ => .stk
def rIns : V → List V → Hp → VK → Prop := fun x vs H Q => ∃ (l : Addr) (xs : List V) (i : Int) (y : V), x = .ref l ∧ vs = [.int i, y] ∧ H l = some (.lst xs) ∧ xs.length < sizeLine ∧ 0 ≤ i ∧ i < 2 ^ 63 ∧
    Q .non (L2.upd H l (.lst (xs.take i.toNat ++ [y] ++ xs.drop i.toNat)))
theorem mt_ins {X : Cx} : MtR X "list.insert" rIns := mt_insert
theorem m_ins {t : Tb} : OpM t rIns mIns := fun am s H d v ds vs Ex Q m r1 r2 q => by
  unfold mIns at q
  split at q
  · rename_i n i y
    obtain ⟨a, rfl, ha⟩ := r1.refE
    obtain ⟨v1, w1, rfl, z1, z2⟩ := r2
    obtain ⟨v2, w2, rfl, z3, z4⟩ := z2
    cases (show w2 = [] from z4)
    cases z1.intE
    split at q
    · rename_i xs e
      obtain ⟨us, h1, h2⟩ := m.lst e ha
      split at q
      · rename_i hl
        refine ⟨a, us, i, v2, rfl, rfl, h1, by rw [← h2.length]; exact Nat.lt_of_lt_of_le hl.1 (by decide), hl.2.1, by omega, ?_⟩
        have P : Post am H am (L2.upd H a (.lst (us.take i.toNat ++ [v2] ++ us.drop i.toNat))) := .put (List.mem_of_getElem? ha) h1 (fun z => z)
        obtain ⟨_, m4⟩ := m.put (u := .lst (us.take i.toNat ++ [v2] ++ us.drop i.toNat)) (o := .lst (xs.take i.toNat ++ [y] ++ xs.drop i.toNat)) ha ⟨_, upd_same, (((h2.take _).append (.one z3)).append (h2.drop _)).mono P⟩
        exact q.ok P m4 rfl
      · exact q.elim
    · exact q.elim
  · exact q.elim
/-! ### range with a step -/
def rangeS (i c : Int) (n : Nat) : List D := (List.range n).map fun (k : Nat) => .int (i + k * c)
def iRngS (a b : E) (c : Int) : IW := fun r s => (a r s).bind fun x s1 => (b r s1).bind fun y s2 => match x, y with
  | .int i, .int j => if c ≠ 0 ∧ c.natAbs < 1073741824 ∧ Builtin.Range.small i j c = true ∧ 0 ≤ Builtin.Range.rangeSize i j c then .ok (.items (rangeS i c (Builtin.Range.rangeSize i j c).toNat)) s2 else .stk
  | _, _ => .stk
theorem i_rngS {X : Cx} {t : Tb} {W : XW} {tg a b c : Expr} {ma mb : E} {k : Int} {p pos : Pos} (hg : Gl X "range") (hm : X.mg "range" = none) (ha : SE X t W a ma) (hb : SE X t W b mb) (hc : SE X t W c (eC (.int k))) (hs : starEach [a, b, c] X.env = (false, eval a X.env) :: starEach [b, c] X.env := by rfl) (hs2 : starEach [b, c] X.env = (false, eval b X.env) :: starEach [c] X.env := by rfl) (hs3 : starEach [c] X.env = [(false, eval c X.env)] := by rfl)
    (hpl : (backTo pos (starEach [b, c] X.env)).any (·.1) = false := by rfl) :
    SI X t W tg (.Call (.Name "range" p) [a, b, c] [] pos) (iRngS ma mb k) :=
  (pi_range3 hg hm (s_cons ha (s_cons hb (s_cons hc s_nil (by rw [hs3]; rfl)) (by rw [hs2])) (by rw [hs])) hs hpl).imp fun σ H R ⟨am, r, s, en, mm, h⟩ => by
    refine ⟨am, r, s, en, mm, ?_⟩
    have h : IQ t am H ((ma r s).bind _) (W σ) R := h
    simp only [aC, aN]
    cases hx : ma r s with
    | ok d s1 =>
      rw [hx] at h
      simp only [Rs.bind_ok] at h ⊢
      cases hy : mb r s1 with
      | ok d2 s2 =>
        rw [hy] at h
        intro am' H' b q m z
        obtain ⟨v, w, rfl, z1, z2⟩ := z
        obtain ⟨v2, w2, rfl, z3, z4⟩ := z2
        obtain ⟨v3, w3, rfl, z5, z6⟩ := z4
        cases (show w3 = [] from z6)
        have h := IQ.re h q
        cases d with
        | int i =>
          cases d2 with
          | int j =>
            simp only [Rs.bind_ok] at h
            cases z1.intE
            cases z3.intE
            cases (show Rep t am' H' (.int k) v3 from z5).intE
            split at h
            · rename_i hj
              exact ⟨i, j, k, (Builtin.Range.rangeSize i j k).toNat, rfl, ⟨hj.1, hj.2.1, hj.2.2.1, (Int.toNat_of_nonneg hj.2.2.2).symm⟩, h am' H' (Itc i k _) (fun _ _ => True) .refl m (itok_rangeC (t := t) i k _) trivial⟩
            · exact h.elim
          | _ => exact h.elim
        | _ => exact h.elim
      | exc c fs s' => rw [hy] at h; exact h
      | stk => rw [hy] at h; exact h
    | exc c fs s' => rw [hx] at h; exact h
    | stk => rw [hx] at h; exact h
end Y

/-! Y14: set(xs) of a list of ints, and sorted(set(xs)). -/
namespace Y
open PySem PySem.Spec PyProof.Rows L2
/-- the set before anything is in it -/
abbrev set0 (w : World) : Obj := { cls := .type "set", dict := none, data := .set #[] 0 (.fresh 0 0 (!w.params.followText "set-order")) }
section
variable {P : Program} {w : World} {A : Around} {E : Value → Shared → Prop} {s : Shared}
/-- what comes of it -/
def Filled (w : World) (s : Shared) (ns : List Int) (r : Value) (s2 : Shared) : Prop :=
  r = .none ∧ ∃ (h' : Heap) (tk c : Nat), s2 = { s with heap := h', toks := tk } ∧ SetR w h' s.heap.objs.size (fun j => decide (j ∈ ns)) c ∧ c ≤ ns.length ∧ ∀ b o, s.heap.get? b = some o → h'.get? b = some o
theorem fill_list {l : Addr} {items : Array Value} {ns : List Int} (hh : A.handled = none) (hl : s.heap.IsList l items) (hit : IntsAre items.toList ns) (hb : ns.length + 1 < scanBound) :
    wpAny (model P w) A (Builtin.«set.__init__» ⟨[.ref s.heap.objs.size, .ref l], []⟩) (fun f s2 => ∃ r, f = .done (.ret r) ∧ Filled w s ns r s2) E { s with heap := s.heap.push (set0 w) } := by
  have size1 : (s.heap.push (set0 w)).objs.size = s.heap.objs.size + 1 := Heap.size_push ..
  have here : (s.heap.push (set0 w)).get? s.heap.objs.size = some (set0 w) := Heap.get?_push_size _ rfl
  have hT : Shared.TypeIs { s with heap := s.heap.push (set0 w) } (.ref s.heap.objs.size) "set" := ⟨_, here, rfl⟩
  have len : items.size = ns.length := by
    have q := IntsAre.length hit
    rwa [Array.length_toList] at q
  obtain ⟨⟨oc, odi, oda, osl⟩, gl, c1, nl, d1⟩ := hl
  simp only at c1 d1
  subst c1 d1
  have gl2 : (s.heap.push (set0 w)).get? l = some { cls := .type "list", dict := odi, data := .seq items nl, slots := osl } := Heap.get?_push_of_some _ gl
  have isl : (s.heap.push (set0 w)).IsList l items := ⟨_, gl2, rfl, nl, rfl⟩
  have f1 := F.sub_list_set
  have f2 := F.sub_list_frozenset
  have f3 : (Value.type "list" == Value.type "dict") = false := by decide
  unfold Builtin.«set.__init__» noKeywords Builtin.Frozenset.updateFrom
  generalize hI : pyIter = PI
  wp_walk
  subst hI
  refine wpAny_pyIter_list isl (wpAny_bind (wpAny_runValue ?_))
  have lt : l < s.heap.objs.size := Heap.lt_size gl
  have n1 : l ≠ (s.heap.push (set0 w)).objs.size := by rw [size1]; exact Nat.ne_of_lt (Nat.lt_succ_of_lt lt)
  have n2 : s.heap.objs.size ∉ [(s.heap.push (set0 w)).objs.size, l] := by
    rw [size1]
    simp only [List.mem_cons, List.not_mem_nil, or_false, not_or]
    exact ⟨Nat.ne_of_lt (Nat.lt_succ_self _), Ne.symm (Nat.ne_of_lt lt)⟩
  have val : ∀ (i : Nat) (v : Value), items[i]? = some v → ∃ k t, ns[i]? = some k ∧ v = .int k t := fun i v hv => by
    have hi : i < ns.length := by rw [← len]; exact (Array.getElem?_eq_some_iff.mp hv).1
    obtain ⟨t, e⟩ := IntsAre.int_at hit i v (by rw [Array.getElem?_toList]; exact hv)
    refine ⟨ns[i], t, List.getElem?_eq_getElem hi, e.trans ?_⟩
    rw [List.getD_eq_getElem?_getD, List.getElem?_eq_getElem hi]
    rfl
  refine set_update_ints ((Walks.list (by simp [hh]) _ l n1 items).toS) s.heap.objs.size n2 ns len hb val (items.size - 0) 0 _ (by omega) (Nat.zero_le _) ⟨⟨_, Heap.get?_push_size _ rfl, rfl, rfl⟩, isl.push _⟩ ⟨0, Nat.le_refl 0, setR_new_at (Heap.get?_push_of_some _ here)⟩ fun s' c m hc hS => ?_
  obtain ⟨h', g', d', k', o'⟩ := s'
  obtain rfl : g' = s.gens := m.gens
  obtain rfl : d' = s.drawn := m.drawn
  obtain rfl : o' = s.os := m.os
  rw [len] at hc
  refine wpAny_pure ?_
  refine wpAny_pure ⟨_, rfl, rfl, h', k', c, rfl, hS, hc, fun b o e => m.heap b o ?_ (Heap.get?_push_of_some _ (Heap.get?_push_of_some _ e))⟩
  have lb := Heap.lt_size e
  rw [size1]
  simp only [List.mem_cons, List.not_mem_nil, or_false, not_or]
  exact ⟨Nat.ne_of_lt lb, Nat.ne_of_lt (Nat.lt_succ_of_lt lb)⟩
theorem set_of_list {l : Addr} {items : Array Value} {ns : List Int} {Q : Value → Shared → Prop} (hh : A.handled = none) (hl : s.heap.IsList l items) (hit : IntsAre items.toList ns) (hb : ns.length + 1 < scanBound)
    (q : ∀ s2, Filled w s ns .none s2 → Q (.ref s.heap.objs.size) s2) : wpAny (model P w) A (call (.type "set") [.ref l]) Q E s := by
  obtain ⟨c0, t0, mro⟩ := F.called_set.mro
  have md := F.called_set.made
  have sb := F.called_set.sub
  have nt := F.called_set.notType
  have cc := F.called_set.canCreate
  have tc := F.typeCall_set_1 (.ref l)
  refine wpAny_call (codeAny_of_tree (wpAny_pure ⟨Code.quiet_builtin _ (by decide +kernel), codeAny_builtin F.entry_type_call ?_⟩))
  rw [Around.under_plain (weight_type_call_type "set" [.ref l] []) rfl]
  repeat (any_goals (first | assumption | wp_step))
  refine codeAny_mono (code_set_led1 (.ref l) (E := E) (Q₁ := fun v s1 => v = .ref s.heap.objs.size ∧ s1 = { s with heap := s.heap.push (set0 w) }) ⟨rfl, rfl⟩) fun r s1 z => ?_
  match r, z with
  | .error e, z => exact z
  | .ok .next, z => exact z.elim
  | .ok .brk, z => exact z.elim
  | .ok .cont, z => exact z.elim
  | .ok (.ret v), ⟨z1, z2⟩ =>
    subst z1 z2
    have hT : Shared.TypeIs { s with heap := s.heap.push (set0 w) } (.ref s.heap.objs.size) "set" := ⟨_, Heap.get?_push_size _ rfl, rfl⟩
    have li := F.called_set.init.lookup
    have bi := F.called_set.init.bind (.ref s.heap.objs.size)
    repeat (any_goals (first | assumption | wp_step))
    refine codeAny_mono (codeAny_call_builtin (R := wants (Filled w s ns) E) F.called_set.init.plain F.entry_set_init (check_set_init_1 hT ?_)) fun r2 s2 y => ?_
    · refine wpAny_mono (fill_list (by simp [hh]) hl hit hb) (fun f s3 x => ?_) fun _ _ x => x
      obtain ⟨r, rfl, x⟩ := x
      exact x
    · match r2, y with
      | .error e, y => exact y
      | .ok .next, y => exact y.elim
      | .ok .brk, y => exact y.elim
      | .ok .cont, y => exact y.elim
      | .ok (.ret v), y =>
        have y : Filled w s ns v s2 := y
        obtain rfl := y.1
        have fin := q s2 y
        repeat (any_goals (first | assumption | wp_step))
end
/-! ### in the layer -/
section
variable {X : Cx} {t : Tb}
theorem ints_at : ∀ {ns : List Int} {us : List Value}, Vals (ns.map V.int) us → IntsAre us ns
  | [], _, .nil => .nil
  | n :: ns, _, .cons r t => by
    obtain ⟨k, rfl⟩ := r
    exact .cons n k (ints_at t)
theorem setR_len {w : World} {h : Heap} {a : Addr} {ns : List Int} {c : Nat} (R : SetR w h a (fun j => decide (j ∈ ns)) c) : c = (ddp ns).length := by
  obtain ⟨o, es, ep, t, _, _, _, _, nd, hm, _, _, hn, _⟩ := R
  have p : (es.toList.map keyOf).Perm (ddp ns) := (List.perm_ext_iff_of_nodup nd (nodup_ddp ns)).mpr fun k => by
    rw [mem_ddp, ← hm k, decide_eq_true_eq]
  have := p.length_eq
  rw [List.length_map, Array.length_toList] at this
  omega
theorem ddp_le : ∀ l : List Int, (ddp l).length ≤ l.length
  | [] => Nat.le_refl _
  | x :: r => by
    have := ddp_le r
    unfold ddp
    split
    · simp only [List.length_cons]; omega
    · simp only [List.length_cons]; omega
def rSetL (K : PySem.W.Frag) (w : World) : List V → Hp → VK → Prop := fun xs H Q => ∃ (a : Addr) (ns : List Int), xs = [.ref a] ∧ (SqL K H a (ns.map V.int) ∨ SqT K H a (ns.map V.int)) ∧ ns.length ≤ 4000 ∧
  ∀ (p : Addr) (c : Nat), c = (ddp ns).length → H p = none → Q (.ref p) (L2.upd H p (SetO w p (fun j => decide (j ∈ ns)) c))
theorem cr_setL (hc : X.calm = true) : CallR X (.type "set") (rSetL X.K X.w) := by
  intro pins s σ H xs us Q I r h
  obtain ⟨a, ns, rfl, hq, hl, q⟩ := h
  obtain ⟨u, rfl, rx⟩ := vals1 r
  cases rx
  rcases hq with hq | hq
  · obtain ⟨its, rv, pl, hz⟩ := I.list hq
    refine set_of_list (I.ok.hd hc) pl.isList (by simpa using ints_at rv) (by unfold scanBound; omega) fun s2 F => ?_
    obtain ⟨_, h', tk, c, rfl, R, hcn, k⟩ := F
    exact ⟨.ref s.heap.objs.size, _, I.laid (t' := tk) k (Nat.le_refl _) (setO_new R), rfl, q _ c (setR_len R) (I.hok.fresh (Nat.le_refl _))⟩
  · obtain ⟨its, rv, pt, hz⟩ := I.tuple hq
    refine call_set_tupI ns (I.ok.hd hc) (show s.heap.IsTuple a its.toArray from pt) (by simpa using ints_at rv) (by unfold scanBound; omega) fun h' tk c R hcn k => ?_
    exact ⟨.ref s.heap.objs.size, _, I.laid (t' := tk) k (Nat.le_refl _) (setO_new R), rfl, q _ c (setR_len R) (I.hok.fresh (Nat.le_refl _))⟩
/-- sorted(set(xs)) -/
def oSortSet : P1 := fun x s => match seqX x s with
  | some xs => match intsOf xs with
    | some is => if is.length ≤ 4000 ∧ (ddp is).length < 64 then .ok (.ref s.length) (s ++ [.lst ((srt (ddp is)).map D.int)]) else .stk
    | none => .stk
  | none => .stk
theorem s_sortSet {W : XW} {a : Expr} {m : E} {p p2 q pos : Pos} (hc : X.calm = true) (hK : X.K = t.K) (hg : Gl X "sorted") (hm : X.mg "sorted" = none) (hg2 : Gl X "set") (hm2 : X.mg "set" = none) (ha : SE X t W a m)
    (hs : starEach [a] X.env = (false, eval a X.env) :: starEach [] X.env := by rfl)
    (hs2 : starEach [.Call (.Name "set" p2) [a] [] q] X.env = (false, eval (.Call (.Name "set" p2) [a] [] q) X.env) :: starEach [] X.env := by rfl) :
    SE X t W (.Call (.Name "sorted" p) [.Call (.Name "set" p2) [a] [] q] [] pos) (e1 oSortSet m) :=
  (pe_callB (cr_sortedSet hc) hg hm (by decide +kernel) (pa_cons (pe_callTy (cr_setL hc) hg2 hm2 (by decide +kernel) (pa_cons ha pa_nil hs) (by decide) (by decide) hs rfl) pa_nil hs2) (by decide) (by decide) hs2 rfl).imp fun σ H Q ⟨am, r, s, en, mm, h⟩ => tyE.of en mm h fun d s1 am1 H1 v en1 m1 p1 r1 h1 => by
    unfold oSortSet at h1
    split at h1
    · rename_i xs e
      split at h1
      · rename_i is ei
        split at h1
        · rename_i hl
          obtain ⟨b, us, rfl, rv, hq⟩ := seqX_of m1 r1 e
          rw [ints_map ei] at rv
          cases repsI rv
          refine ⟨b, is, rfl, by rw [hK]; exact hq, by omega, fun p c hcn hp => ?_⟩
          refine ⟨p, _, c, rfl, upd_same, by omega, fun ns l hs hmem hln hl2 => ?_⟩
          have e2 : ns = srt (ddp is) := ddp_uniq (fun k => by rw [hmem]; simp) hs
          subst e2
          have P : Post am1 H1 am1 (L2.upd H1 p (SetO X.w p (fun j => decide (j ∈ is)) c)) := .upd hp
          exact (RQ.re h1 P).ok (.new hl2) ((m1.upd hp).new hl2 ⟨_, upd_same, intsR _⟩) ⟨l, rfl, by rw [← m1.len]; simp⟩
        · exact h1.elim
      · exact h1.elim
    · exact h1.elim
end
theorem room65 {k : Nat} {A : Around} (hr : Room k A) : A.units + 65 < cLine := by
  have := hr.un
  omega
end Y

/-! Y15: comprehensions of two clauses. -/
namespace Y
open PySem L2
/-- a run whose result is thrown away -/
def thenD (x : Rs D) (k : S → Rs D) : Rs D := match x with
  | .ok _ s => k s
  | _ => .stk
def compO (g : Tg) (t : T) (it : IW) (g1 : Tg) (t1 : T) (e : E) (n : Nat) (vs1 : List Nat) : List D → Env → S → Rs D
  | [], _, s => .ok (.ref n) s
  | x :: xs, r, s => match g x r s with
    | none => .stk
    | some (r1, s1) => match t r1 s1 with
      | .ok false s2 => compO g t it g1 t1 e n vs1 xs r s2
      | .ok true s2 => match it r1 s2 with
        | .ok (.items ys) s3 => thenD (compM g1 t1 e n ys (wipeD r1 vs1) s3) fun s4 => compO g t it g1 t1 e n vs1 xs r s4
        | _ => .stk
      | _ => .stk
/-- [e for g in it if t for g1 in it1 if t1], both walks told ahead -/
def eLc2 (it : IW) (g : Tg) (t : T) (it1 : IW) (g1 : Tg) (t1 : T) (e : E) (own vs1 : List Nat) : E := fun r s => (it r s).bind fun j s1 => match j with
  | .items xs => compO g t it1 g1 t1 e s1.length vs1 xs (wipeD r own) (s1 ++ [.lst []])
  | _ => .stk
theorem compM_then {g : Tg} {t : T} {e : E} {n : Nat} {y : D} {ys : List D} {r : Env} {s : S} {K : S → Rs D} : thenD (compM g t e n (y :: ys) r s) K = (match g y r s with
      | none => .stk
      | some (r1, s1) => match t r1 s1 with
        | .ok false s2 => thenD (compM g t e n ys r s2) K
        | .ok true s2 => match e r1 s2 with
          | .ok d s3 => match appendAt n d s3 with
            | some s4 => thenD (compM g t e n ys r s4) K
            | none => .stk
          | _ => .stk
        | _ => .stk) := by
  conv => lhs; unfold compM
  cases g y r s with
  | none => rfl
  | some p =>
    obtain ⟨r1, s1⟩ := p
    simp only
    cases t r1 s1 with
    | ok b s2 =>
      cases b with
      | false => rfl
      | true =>
        simp only
        cases e r1 s2 with
        | ok d s3 =>
          simp only
          cases appendAt n d s3 <;> rfl
        | _ => rfl
    | _ => rfl
section
variable {X : Cx} {t : Tb} {W : XW} {mi mi1 : IW} {g g1 : Tg} {mt mt1 : T} {m : E}
theorem lc2_ty {vs vs1 : List Nat} {σ : L2.St} {H : Hp} {Q : VK} (h : tyE t W (eLc2 mi g mt mi1 g1 mt1 m vs vs1) σ H Q) :
    tLc2 (tyI t W mi) (tyGw t g vs) (tyT t W0 mt) (tyI t W0 mi1) (tyGw t g1 vs1) (tyT t W0 mt1) (tyE t W0 m) vs vs1 σ H Q := by
  obtain ⟨am, r, s, en, mm, h⟩ := h
  refine ⟨am, r, s, en, mm, ?_⟩
  have h : RQ t am H ((mi r s).bind _) (Rep t) (W σ) Q := h
  cases hx : mi r s with
  | exc c fs s' => rw [hx] at h; exact h
  | stk => rw [hx] at h; exact h
  | ok j s0 =>
    rw [hx] at h
    cases j with
    | list l => exact h.elim
    | dyn f => exact h.elim
    | items xs =>
      have h : RQ t am H (compO g mt mi1 g1 mt1 m s0.length vs1 xs (wipeD r vs) (s0 ++ [.lst []])) (Rep t) (W σ) Q := h
      intro am' H' J G p m' ok hG Dx hDx
      have pn : Post am' H' (am' ++ [Dx]) (L2.upd H' Dx (.lst [])) := .new hDx
      have mn : Ms t (am' ++ [Dx]) (s0 ++ [.lst []]) (L2.upd H' Dx (.lst [])) := m'.new hDx ⟨[], upd_same, rfl⟩
      have hn : (am' ++ [Dx])[s0.length]? = some Dx := by rw [← m'.len]; simp
      refine ⟨fun i n H1 => ∃ am1 s1, n = (xs.drop i).length ∧ am1[s0.length]? = some Dx ∧ EnvR t am1 H1 (wipeD r vs) (wipe σ vs) ∧ Ms t am1 s1 H1 ∧ G am1 H1 ∧ RQ t am1 H1 (compO g mt mi1 g1 mt1 m s0.length vs1 (xs.drop i) (wipeD r vs) s1) (Rep t) (W σ) Q,
        ⟨xs.length, am' ++ [Dx], s0 ++ [.lst []], by simp, hn, ((en.mono p).mono pn).wipe vs, mn, ok.keep _ _ _ _ hG pn, by rw [List.drop_zero]; exact RQ.re (RQ.re h p) pn⟩, ?_⟩
      rintro i n H1 ⟨am1, s1, rfl, hd1, en1, m1, gG, h1⟩
      cases hd : xs[i]? with
      | none =>
        have e : xs.drop i = [] := List.drop_eq_nil_of_le (List.getElem?_eq_none_iff.mp hd)
        rw [e] at h1
        exact .inl ⟨ok.stop i am1 H1 gG hd, RQ.ok0 h1 m1 ⟨Dx, rfl, hd1⟩⟩
      | some d =>
        have hl := (List.getElem?_eq_some_iff.mp hd)
        have e : xs.drop i = d :: xs.drop (i + 1) := by rw [List.drop_eq_getElem_cons hl.1, hl.2]
        rw [e] at h1
        obtain ⟨go, yl⟩ := ok.item i d am1 H1 gG hd
        -- what a turn reaches
        refine .inr ⟨go, fun H2 => ∃ am2 s2, am2[s0.length]? = some Dx ∧ EnvR t am2 H2 (wipeD r vs) (wipe σ vs) ∧ Ms t am2 s2 H2 ∧ G am2 H2 ∧ RQ t am2 H2 (compO g mt mi1 g1 mt1 m s0.length vs1 (xs.drop (i + 1)) (wipeD r vs) s2) (Rep t) (W σ) Q, fun H2 ⟨am2, s2, z0, z1, z2, z3, z4⟩ => ⟨_, by rw [e]; simp, am2, s2, rfl, z0, z1, z2, z3, z4⟩, fun x H2 y => ?_⟩
        obtain ⟨p2, m2, rp⟩ := yl x H2 y
        have g2 := ok.keep _ _ _ _ gG p2
        have en2 := en1.mono p2
        have h1 := RQ.re h1 p2
        have m2' := m2 s1 m1
        have hd2 := p2.at hd1
        unfold compO at h1
        split at h1
        · exact h1.elim
        · rename_i r1 s2 e1
          refine ⟨am1, wipeD r vs, s1, d, en2, m2', rp, r1, s2, e1, fun am3 H3 σ3 p3 m3 en3 w => ⟨?_, am3, r1, s2, en3, m3, ?_⟩⟩
          · rw [wipe_wipe] at w
            exact w
          have h1 := RQ.re h1 p3
          cases hz : mt r1 s2 with
          | exc c fs s' => rw [hz] at h1; exact h1.elim
          | stk => rw [hz] at h1; exact h1.elim
          | ok b s3 =>
            rw [hz] at h1
            intro am4 H4 b' p4 m4 eb
            cases eb
            have h1 := RQ.re h1 p4
            have en4 := (en2.mono p3).mono p4
            have hd4 := p4.at (p3.at hd2)
            have g4 := ok.keep _ _ _ _ (ok.keep _ _ _ _ g2 p3) p4
            cases b with
            | false =>
              rw [if_neg Bool.false_ne_true]
              exact ⟨am4, s3, hd4, en4, m4, g4, h1⟩
            | true =>
              rw [if_pos rfl]
              have h1 : RQ t am4 H4 (match mi1 r1 s3 with
                | .ok (.items ys) s4 => thenD (compM g1 mt1 m s0.length ys (wipeD r1 vs1) s4) fun s5 => compO g mt mi1 g1 mt1 m s0.length vs1 (xs.drop (i + 1)) (wipeD r vs) s5
                | _ => .stk) (Rep t) (W σ) Q := h1
              refine ⟨am4, r1, s3, en3.mono p4, m4, ?_⟩
              cases hw : mi1 r1 s3 with
              | exc c fs s' => rw [hw] at h1; exact h1.elim
              | stk => rw [hw] at h1; exact h1.elim
              | ok j s4 =>
                rw [hw] at h1
                cases j with
                | list l => exact h1.elim
                | dyn f => exact h1.elim
                | items ys =>
                  intro am5 H5 J1 G1 p5 m5 ok1 hG1
                  have h1 := RQ.re h1 p5
                  have en5 := en4.mono p5
                  have hd5 := p5.at hd4
                  have g5 := ok.keep _ _ _ _ g4 p5
                  refine ⟨fun j k H6 => ∃ am6 s6, k = (ys.drop j).length ∧ am6[s0.length]? = some Dx ∧ EnvR t am6 H6 (wipeD r vs) (wipe σ vs) ∧ EnvR t am6 H6 (wipeD r1 vs1) (wipe σ3 vs1) ∧ Ms t am6 s6 H6 ∧ G am6 H6 ∧ G1 am6 H6 ∧
                      RQ t am6 H6 (thenD (compM g1 mt1 m s0.length (ys.drop j) (wipeD r1 vs1) s6) fun s5 => compO g mt mi1 g1 mt1 m s0.length vs1 (xs.drop (i + 1)) (wipeD r vs) s5) (Rep t) (W σ) Q,
                    ⟨ys.length, am5, s4, by simp, hd5, en5, ((en3.mono p4).mono p5).wipe vs1, m5, g5, hG1, by rw [List.drop_zero]; exact h1⟩, ?_⟩
                  rintro j k H6 ⟨am6, s6, rfl, hd6, en6, eo6, m6, g6, gg6, h6⟩
                  cases hy : ys[j]? with
                  | none =>
                    have e6 : ys.drop j = [] := List.drop_eq_nil_of_le (List.getElem?_eq_none_iff.mp hy)
                    rw [e6] at h6
                    exact .inl ⟨ok1.stop j am6 H6 gg6 hy, am6, s6, hd6, en6, m6, g6, h6⟩
                  | some d6 =>
                    have hl6 := (List.getElem?_eq_some_iff.mp hy)
                    have e6 : ys.drop j = d6 :: ys.drop (j + 1) := by rw [List.drop_eq_getElem_cons hl6.1, hl6.2]
                    rw [e6, compM_then] at h6
                    obtain ⟨go6, yl6⟩ := ok1.item j d6 am6 H6 gg6 hy
                    refine .inr ⟨go6, fun H7 => ∃ am7 s7, am7[s0.length]? = some Dx ∧ EnvR t am7 H7 (wipeD r vs) (wipe σ vs) ∧ EnvR t am7 H7 (wipeD r1 vs1) (wipe σ3 vs1) ∧ Ms t am7 s7 H7 ∧ G am7 H7 ∧ G1 am7 H7 ∧
                        RQ t am7 H7 (thenD (compM g1 mt1 m s0.length (ys.drop (j + 1)) (wipeD r1 vs1) s7) fun s5 => compO g mt mi1 g1 mt1 m s0.length vs1 (xs.drop (i + 1)) (wipeD r vs) s5) (Rep t) (W σ) Q, fun H7 ⟨am7, s7, z0, z1, z2, z3, z4, z5, z6⟩ => ⟨_, by rw [e6]; simp, am7, s7, rfl, z0, z1, z2, z3, z4, z5, z6⟩, fun x7 H7 y7 => ?_⟩
                    obtain ⟨p7, m7, rp7⟩ := yl6 x7 H7 y7
                    have t1 := lc_turn (vs := vs1) (k := fun rr ss => thenD (compM g1 mt1 m s0.length (ys.drop (j + 1)) rr ss) fun s5 => compO g mt mi1 g1 mt1 m s0.length vs1 (xs.drop (i + 1)) (wipeD r vs) s5) (Nx := fun H7 => ∃ am7 s7, am7[s0.length]? = some Dx ∧ EnvR t am7 H7 (wipeD r vs) (wipe σ vs) ∧ EnvR t am7 H7 (wipeD r1 vs1) (wipe σ3 vs1) ∧ Ms t am7 s7 H7 ∧ G am7 H7 ∧ G1 am7 H7 ∧
                        RQ t am7 H7 (thenD (compM g1 mt1 m s0.length (ys.drop (j + 1)) (wipeD r1 vs1) s7) fun s5 => compO g mt mi1 g1 mt1 m s0.length vs1 (xs.drop (i + 1)) (wipeD r vs) s5) (Rep t) (W σ) Q) (eo6.mono p7) (m7 s6 m6) rp7 (p7.at hd6) (RQ.re h6 p7)
                      fun am8 s8 H8 p8 z2 z3 => ⟨am8, s8, p8.at (p7.at hd6), (en6.mono p7).mono p8, (eo6.mono p7).mono p8, z2, ok.keep _ _ _ _ (ok.keep _ _ _ _ g6 p7) p8, ok1.keep _ _ _ _ (ok1.keep _ _ _ _ gg6 p7) p8, z3⟩
                    rw [wipe_wipe] at t1
                    exact t1
end
section
variable {X : Cx} {t : Tb} {W : XW} {elt tg iter tg1 iter1 : Expr} {ifs ifs1 : List Expr} {scope : Scope} {own : List (Str × Nat)} {vs1 : List Nat} {pos : Pos} {mi mi1 : IW} {g g1 : Tg} {mt mt1 : T} {m : E}
theorem s_lc2 (hc : X.calm = true) (hN : X.N.Nodup) (hi : SI X t W tg iter mi) (ok : BlkOk X.N X.env.scope scope own) (hv : ∀ i ∈ vs1, i ∈ own.map (·.2))
    (hg : ∀ (s : Shared) (H : Hp) (C : Addr) (cl : List (Str × Addr)) (fp : List Addr), SGw (X.blk s H scope (compEnvC scope cl C X.env) fp) t tg g (own.map (·.2)))
    (ht : ∀ (s : Shared) (H : Hp) (C : Addr) (cl : List (Str × Addr)) (fp : List Addr), SPts (X.blk s H scope (compEnvC scope cl C X.env) fp) t W0 ifs mt)
    (hi1 : ∀ (s : Shared) (H : Hp) (C : Addr) (cl : List (Str × Addr)) (fp : List Addr), SI (X.blk s H scope (compEnvC scope cl C X.env) fp) t W0 tg1 iter1 mi1)
    (hg1 : ∀ (s : Shared) (H : Hp) (C : Addr) (cl : List (Str × Addr)) (fp : List Addr), SGw (X.blk s H scope (compEnvC scope cl C X.env) fp) t tg1 g1 vs1)
    (ht1 : ∀ (s : Shared) (H : Hp) (C : Addr) (cl : List (Str × Addr)) (fp : List Addr), SPts (X.blk s H scope (compEnvC scope cl C X.env) fp) t W0 ifs1 mt1)
    (he : ∀ (s : Shared) (H : Hp) (C : Addr) (cl : List (Str × Addr)) (fp : List Addr), SE (X.blk s H scope (compEnvC scope cl C X.env) fp) t W0 elt m) (hs : ∀ x, foldedSetIterable iter X.env x = pure x := by intro _; rfl) (hs1 : ∀ env x, foldedSetIterable iter1 env x = pure x := by intro _ _; rfl) :
    SE X t W (.ListComp elt [⟨tg, iter, ifs, 0⟩, ⟨tg1, iter1, ifs1, 0⟩] scope pos) (eLc2 mi g mt mi1 g1 mt1 m (own.map (·.2)) vs1) :=
  (pe_lc2 hc hN hi ok hv hg ht hi1 hg1 ht1 he hs hs1).imp fun σ H Q h => lc2_ty h
end
end Y

/-! Y16: dict(xs) of pairs whose firsts are tuples; list(d) of a dict. -/
namespace Y
open PySem PySem.Spec PyProof.Rows L2
def mergeT (kvs more : List (List Key × V)) : List (List Key × V) := more.foldl (fun acc kv => putK acc kv.1 kv.2) kvs
section
variable {X : Cx}
theorem pairsT_of {pins : List (Addr × Obj)} {σ : L2.St} {H : Hp} {s : Shared} (I : Inv X pins σ H s) : ∀ {ps : List Addr} {kvs : List (List Key × V)}, Paired (fun p kv => ∃ b, SqT X.K H p [.ref b, kv.2] ∧ H b = some (.tup (kv.1.map kV))) ps kvs →
    ∃ prs : List (List Key × Addr × Value), KT H kvs prs ∧ prs.length = ps.length ∧ ∀ (j : Nat) (q : List Key × Addr × Value), prs[j]? = some q → ∃ p, ps[j]? = some p ∧ s.heap.IsTuple p #[.ref q.2.1, q.2.2]
  | _, _, .nil => ⟨[], .nil, rfl, fun j q e => by simp at e⟩
  | _, _, .cons (a := p) (b := kv) h t => by
    obtain ⟨b, h1, h2⟩ := h
    obtain ⟨prs, kt, hlen, hat⟩ := pairsT_of I t
    obtain ⟨its, rv, tu, _⟩ := I.tuple h1
    obtain ⟨u, y, rfl, ru, ry⟩ := vals2 rv
    cases (show u = Value.ref b from ru)
    refine ⟨(kv.1, b, y) :: prs, .cons ⟨rfl, h2, ry⟩ kt, by simp [hlen], fun j q e => ?_⟩
    cases j with
    | zero =>
      cases (show (kv.1, b, y) = q from Option.some.inj e)
      exact ⟨p, rfl, tu⟩
    | succ j => exact hat j q e
theorem KT.merge {H : Hp} : ∀ {more : List (List Key × V)} {rs : List (List Key × Addr × Value)} {kvs : List (List Key × V)} {xs : List (List Key × Addr × Value)}, KT H more rs → KT H kvs xs → KT H (mergeT kvs more) (storedAllH xs rs)
  | _, _, _, _, .nil, h => h
  | _, _, kvs, xs, .cons (a := p) (b := q) h t, h' => by
    obtain ⟨h1, h2, h3⟩ := h
    have step := h'.put p.1 h2 h3
    rw [show storedH xs p.1 q.2.1 q.2.2 = storedH xs q.1 q.2.1 q.2.2 by rw [h1]] at step
    have fin := KT.merge t step
    exact fin
def rDictT (K : PySem.W.Frag) : List V → Hp → VK → Prop := fun xs H Q => ∃ (a : Addr) (ps : List Addr) (kvs : List (List Key × V)), xs = [.ref a] ∧ SqL K H a (ps.map V.ref) ∧ Paired (fun p kv => ∃ b, SqT K H p [.ref b, kv.2] ∧ H b = some (.tup (kv.1.map kV))) ps kvs ∧
    ∀ p, H p = none → Q (.ref p) (L2.upd H p (.dT (mergeT [] kvs)))
theorem call_dictT (hcalm : X.calm = true) (hu : X.A.units + 65 < cLine) : CallR X (.type "dict") (rDictT X.K) := by
  intro pins s σ H xs us Q I r h
  obtain ⟨a, ps, kvs, rfl, hq, hp, q⟩ := h
  obtain ⟨u, rfl, rx⟩ := vals1 r
  cases rx
  obtain ⟨its, rv, pl, hz⟩ := I.list hq
  have ei := refs_at rv
  subst ei
  rw [List.length_map] at hz
  obtain ⟨prs, kt, hlen, hat⟩ := pairsT_of I hp
  obtain ⟨o, n, ho, hc, hd, hdat⟩ := pl
  have P := PairArg.list (prog := X.prog) (w := X.w) a (ps.map Value.ref).toArray (fun j => ps.getD j 0) (prs.map fun q => (Value.ref q.2.1, q.2.2))
  have keys : ∀ x ∈ prs, (tupleKind (mixKind X.prog X.w)).is s.heap x.1 x.2.1 := by
    have all : ∀ {l : List (List Key × V)} {m : List (List Key × Addr × Value)}, KT H l m → ∀ x ∈ m, H x.2.1 = some (.tup (x.1.map kV)) := by
      intro l m kt
      induction kt with
      | nil => intro x hx; cases hx
      | @cons p q ps qs hh t ih =>
        intro x hx
        rcases List.mem_cons.mp hx with e | hx
        · subst e
          rw [← hh.1]; exact hh.2.1
        · exact ih x hx
    exact fun x hx => key_of I.hok (all kt x hx)
  refine call_dict_pairsH (knd := tupleKind (mixKind X.prog X.w)) (ps := prs) P (I.ok.hd hcalm) (show X.A.units + 1 + 1 < cLine by omega) ⟨⟨o, n, ho, hc, hd, hdat⟩, ?_, ?_⟩ ⟨by simp, ?_⟩ ?_ (by simp [hlen]; exact hz) ?_
  · simp [hlen]
  · intro j k v e
    rw [List.getElem?_map] at e
    cases e2 : prs[j]? with
    | none => rw [e2] at e; cases e
    | some q' =>
      rw [e2] at e
      cases e
      obtain ⟨p, e3, e4⟩ := hat j q' e2
      have e5 : ps.getD j 0 = p := by rw [List.getD_eq_getElem?_getD, e3]; rfl
      refine ⟨by simp [e3], .inl ?_⟩
      show s.heap.IsTuple (ps.getD j 0) _
      rw [e5]; exact e4
  · intro i key v e
    have e : (prs.map fun q => (Value.ref q.2.1, q.2.2))[i]? = some (key, v) := e
    rw [List.getElem?_map] at e
    cases e2 : prs[i]? with
    | none => rw [e2] at e; cases e
    | some q' =>
      rw [e2] at e
      cases e
      exact ⟨q'.1, q'.2.1, rfl, rfl⟩
  · intro h' hk x hx
    obtain ⟨ob, it, m, g1, g2, g3, g4⟩ := keys x hx
    exact ⟨ob, it, m, hk _ _ (Nat.ne_of_lt (Heap.lt_size g1)) (by simp) g1, g2, g3, g4⟩
  · intro h' tk hd' hk
    have hm : (s.heap.objs.size == sysModules) = false := beq_eq_false_iff_ne.mpr (Nat.ne_of_gt I.big)
    have kt' : KT H (mergeT [] kvs) (storedAllH [] prs) := KT.merge kt .nil
    have hl : (mergeT [] kvs).length ≤ sizeLine := by
      rw [Paired.length kt']
      have := storedAllH_length prs []
      simp only [List.length_nil, Nat.zero_add] at this
      omega
    have fr : H s.heap.objs.size = none := I.hok.fresh (Nat.le_refl _)
    obtain ⟨ob, es, ep, g1, g2, g3, g4, _, g5⟩ := hd'
    refine ⟨.ref s.heap.objs.size, upd H s.heap.objs.size (.dT (mergeT [] kvs)), I.laid (t' := tk) (fun b o' e => hk b o' (by simp) e) (Nat.le_refl _) (show ObjOk X.prog X.w _ _ _ (.dT (mergeT [] kvs)) from ⟨hl, hm, storedAllH [] prs, kt'.keeps fun c ys ec => ?_, ob, es, ep, g1, g2, g3, g4, g5⟩), rfl, q _ fr⟩
    rw [upd_ne (fun e => by rw [e, fr] at ec; cases ec)]
    exact ec
end
/-! ### in the plain semantics -/
def pairsT : List D → Option (List (D × D))
  | [] => some []
  | .tup [k, v] :: r => match keyT k, pairsT r with
    | some _, some ps => some ((k, v) :: ps)
    | _, _ => none
  | _ :: _ => none
def bDictT : PN := fun ds s => match ds with
  | [x] => match seqL x s with
    | some xs => match pairsT xs with
      | some ps => .ok (.ref s.length) (s ++ [.dct true (mergeD [] ps)])
      | none => .stk
    | none => .stk
  | _ => .stk
def bListD : PN := fun ds s => match ds with
  | [.ref n] => match s[n]? with
    | some (.dct _ kvs) => .ok (.ref s.length) (s ++ [.lst (kvs.map (·.1))])
    | _ => .stk
  | _ => .stk
section
variable {t : Tb} {am : List Addr} {H : Hp} {s : S}
theorem RKV.mergeT : ∀ {more : List (D × D)} {mk : List (List Key × V)} {kvs : List (D × D)} {ks : List (List Key × V)}, RKV keyT t am H more mk → RKV keyT t am H kvs ks → RKV keyT t am H (mergeD kvs more) (mergeT ks mk)
  | [], mk, kvs, ks, h, h' => by rw [show mk = [] from h]; exact h'
  | p :: ps, mk, kvs, ks, ⟨k', v', r, e, h1, h2, h3⟩, h' => by
    rw [e]
    have := RKV.mergeT (more := ps) (mk := r) h3 (h'.put (keyEq_T h1) h1 h2)
    exact this
theorem pairsT_sp : ∀ {xs : List D} {vs : List V} {ps : List (D × D)}, Reps t am H xs vs → pairsT xs = some ps → ∃ (as : List Addr) (ks : List (List Key × V)), vs = as.map V.ref ∧ Paired (fun p kv => ∃ b, SqT t.K H p [.ref b, kv.2] ∧ H b = some (.tup (kv.1.map kV))) as ks ∧ RKV keyT t am H ps ks
  | [], vs, ps, r, e => by
    cases e
    exact ⟨[], [], r, .nil, rfl⟩
  | x :: xs, vs, ps, ⟨v, w, e1, r1, r2⟩, e => by
    unfold pairsT at e
    split at e
    · cases e; rename_i h; cases h
    · rename_i k y rr h
      cases h
      split at e
      · rename_i kk ps' ek ep
        cases e
        obtain ⟨as, ks, rfl, h2, h3⟩ := pairsT_sp r2 ep
        obtain ⟨a, us, rfl, h4, h5⟩ := r1.tupE
        obtain ⟨u1, w1, rfl, h6, h7⟩ := h5
        obtain ⟨u2, w2, rfl, h8, h9⟩ := h7
        cases (show w2 = [] from h9)
        obtain ⟨b, rfl, hb⟩ := keyT_V ek h6
        exact ⟨a :: as, (kk, u2) :: ks, by rw [e1]; rfl, .cons ⟨b, h4, hb⟩ h2, kk, u2, ks, rfl, ek, h8, h3⟩
      · cases e
    · cases e
theorem n_dictT : OpN t (rDictT t.K) bDictT := fun am s H ds vs Ex Q m r q => by
  unfold bDictT at q
  split at q
  · obtain ⟨v, rfl, h⟩ := reps1 r
    split at q
    · rename_i xs e
      obtain ⟨a, us, rfl, rv, hs⟩ := seqL_of m h e
      split at q
      · rename_i ps ep
        obtain ⟨as, ks, rfl, h2, h3⟩ := pairsT_sp rv ep
        refine ⟨a, as, ks, rfl, hs, h2, fun p hp => ?_⟩
        have h4 : RKV keyT t am H (mergeD [] ps) (Y.mergeT [] ks) := RKV.mergeT h3 (show RKV keyT t am H [] [] from rfl)
        exact q.ok (.new hp) (m.new hp ⟨_, upd_same, h4.lift (Post.new hp).lift⟩) ⟨p, rfl, by rw [← m.len]; simp⟩
      · exact q.elim
    · exact q.elim
  · exact q.elim
def rListDD : List V → Hp → VK → Prop := fun xs H Q => (∃ (a : Addr) (kvs : List (Key × V)), xs = [.ref a] ∧ Rd H a (.dK kvs) ∧ ∀ p, H p = none → Q (.ref p) (L2.upd H p (.lst (kvs.map fun kv => kV kv.1)))) ∨
  ∃ d kvs, xs = [V.ref d] ∧ Rd H d (.dT kvs) ∧ ∀ p bs, H p = none → IsKeys H kvs bs → Q (.ref p) (L2.upd H p (.lst (bs.map V.ref)))
theorem call_listDD {X : Cx} (hc : X.calm = true) : CallR X (.type "list") rListDD := (call_listD hc).or (call_list_dT hc)
theorem keys_repK : ∀ {kvs : List (D × D)} {ks : List (Key × V)}, RKV keyD t am H kvs ks → Reps t am H (kvs.map (·.1)) (ks.map fun kv => kV kv.1)
  | [], ks, h => by rw [show ks = [] from h]; rfl
  | p :: ps, ks, ⟨k, v, r, e, h1, h2, h3⟩ => by
    rw [e]
    refine ⟨kV k, r.map fun kv => kV kv.1, rfl, ?_, keys_repK h3⟩
    obtain ⟨pk, pv⟩ := p
    cases pk with
    | int i => cases h1; rfl
    | str x => cases h1; rfl
    | _ => cases h1
theorem keysD_rep : ∀ {ds : List D} {ks : List Key}, keysD ds = some ks → Reps t am H ds (ks.map kV)
  | [], ks, h => by cases h; rfl
  | d :: ds, ks, h => by
    unfold keysD at h
    split at h
    · rename_i k ks' e1 e2
      cases h
      refine ⟨kV k, ks'.map kV, rfl, ?_, keysD_rep e2⟩
      cases d with
      | int i => cases e1; rfl
      | str x => cases e1; rfl
      | _ => cases e1
    · cases h
theorem keys_repT : ∀ {kvs : List (D × D)} {ks : List (List Key × V)} {bs : List Addr}, RKV keyT t am H kvs ks → IsKeys H ks bs → Reps t am H (kvs.map (·.1)) (bs.map V.ref)
  | [], ks, bs, h, hk => by
    rw [show ks = [] from h] at hk
    cases hk; rfl
  | p :: ps, ks, bs, ⟨k, v, r, e, h1, h2, h3⟩, hk => by
    rw [e] at hk
    cases hk with
    | cons hb hk =>
      refine ⟨.ref _, _, rfl, ?_, keys_repT h3 hk⟩
      obtain ⟨pk, pv⟩ := p
      cases pk with
      | tup ds => exact ⟨_, _, rfl, hb, keysD_rep h1⟩
      | _ => cases h1
theorem n_listD : OpN t rListDD bListD := fun am s H ds vs Ex Q m r q => by
  unfold bListD at q
  split at q
  · obtain ⟨v, rfl, h⟩ := reps1 r
    obtain ⟨a, rfl, ha⟩ := h.refE
    split at q
    · rename_i tk kvs e
      have om := m.at e ha
      cases tk with
      | false =>
        obtain ⟨ks, h1, h2⟩ := om
        exact .inl ⟨a, ks, rfl, .inl h1, fun p hp => new_list m q (keys_repK h2) p hp⟩
      | true =>
        obtain ⟨ks, h1, h2⟩ := om
        exact .inr ⟨a, ks, rfl, .inl h1, fun p bs hp hk => new_list m q (keys_repT h2 hk) p hp⟩
    · exact q.elim
  · exact q.elim
end
end Y

/-! YL: reckoning in the plain semantics. -/
namespace Y
open PySem (Str PyData)

/-! ### what reduces by itself -/
section
variable {α β : Type} {r : Env} {s s1 : S} {d x y : D} {a b c : E} {t u : T} {as : A} {p : P1} {q q' : P2} {pn : PN}
@[simp] theorem bind_ok (a : α) (s : S) (f : α → S → Rs β) : (Rs.ok a s).bind f = f a s := rfl
@[simp] theorem bind_exc (c fs) (s : S) (f : α → S → Rs β) : (Rs.exc c fs s : Rs α).bind f = .exc c fs s := rfl
@[simp] theorem bind_stk (f : α → S → Rs β) : (Rs.stk : Rs α).bind f = .stk := rfl
@[simp] theorem then_ok (a : α) (s : S) (r) (f : α → S → F) : (Rs.ok a s).then r f = f a s := rfl
@[simp] theorem then_exc (c fs) (s : S) (r) (f : α → S → F) : (Rs.exc c fs s : Rs α).then r f = .exc c fs r s := rfl
@[simp] theorem then_stk (r) (f : α → S → F) : (Rs.stk : Rs α).then r f = .stk := rfl
@[simp] theorem andThen_nx (r : Env) (s : S) (f : Env → S → F) : (F.nx r s).andThen f = f r s := rfl
@[simp] theorem andThen_rt (d : D) (s : S) (f : Env → S → F) : (F.rt d s).andThen f = .rt d s := rfl
@[simp] theorem andThen_bk (r : Env) (s : S) (f : Env → S → F) : (F.bk r s).andThen f = .bk r s := rfl
@[simp] theorem andThen_ct (r : Env) (s : S) (f : Env → S → F) : (F.ct r s).andThen f = .ct r s := rfl
@[simp] theorem andThen_exc (c fs) (r : Env) (s : S) (f : Env → S → F) : (F.exc c fs r s).andThen f = .exc c fs r s := rfl
@[simp] theorem andThen_stk (f : Env → S → F) : (F.stk).andThen f = .stk := rfl
@[simp] theorem turn_nx (r : Env) (s : S) (f : Env → S → F) : (F.nx r s).turn f = f r s := rfl
@[simp] theorem turn_ct (r : Env) (s : S) (f : Env → S → F) : (F.ct r s).turn f = f r s := rfl
@[simp] theorem turn_bk (r : Env) (s : S) (f : Env → S → F) : (F.bk r s).turn f = .nx r s := rfl
@[simp] theorem turn_rt (d : D) (s : S) (f : Env → S → F) : (F.rt d s).turn f = .rt d s := rfl
@[simp] theorem turn_exc (c fs) (r : Env) (s : S) (f : Env → S → F) : (F.exc c fs r s).turn f = .exc c fs r s := rfl
@[simp] theorem turn_stk (f : Env → S → F) : (F.stk).turn f = .stk := rfl
@[simp] theorem ap_eC : eC d r s = .ok d s := rfl
@[simp] theorem ap_e1 : e1 p a r s = (a r s).bind fun x s1 => p x s1 := rfl
@[simp] theorem ap_e2 : e2 q a b r s = (a r s).bind fun x s1 => (b r s1).bind fun y s2 => q x y s2 := rfl
@[simp] theorem ap_aN : aN r s = .ok [] s := rfl
@[simp] theorem ap_aC : aC a as r s = (a r s).bind fun x s1 => (as r s1).bind fun xs s2 => .ok (x :: xs) s2 := rfl
@[simp] theorem ap_eN : eN pn as r s = (as r s).bind fun xs s1 => pn xs s1 := rfl
@[simp] theorem ap_tAnd : tAnd t u r s = (t r s).bind fun c s1 => if c = true then u r s1 else .ok false s1 := rfl
@[simp] theorem ap_tOr : tOr t u r s = (t r s).bind fun c s1 => if c = true then .ok true s1 else u r s1 := rfl
@[simp] theorem ap_tNot : tNot t r s = (t r s).bind fun c s1 => .ok (!c) s1 := rfl
@[simp] theorem ap_eIf : eIf t a b r s = (t r s).bind fun c s1 => if c = true then a r s1 else b r s1 := rfl
/-- a bool that is told -/
def Bl (x : D) (s : S) (f : Bool → S → Rs α) : Rs α := match x with
  | .bl b => f b s
  | _ => .stk
@[simp] theorem Bl_bl (b : Bool) (f : Bool → S → Rs α) : Bl (.bl b) s f = f b s := rfl
@[simp] theorem ap_tst : tst a r s = (a r s).bind fun x s1 => Bl x s1 .ok := rfl
theorem ap_eAnd' : eAnd a b r s = (a r s).bind fun x s1 => Bl x s1 fun k s2 => if k = true then b r s2 else .ok (.bl false) s2 := by
  unfold eAnd Bl
  congr 1
  funext x s1
  cases x with
  | bl k => cases k <;> rfl
  | _ => rfl
@[simp] theorem ap_eAnd : eAnd a b r s = (a r s).bind fun x s1 => Bl x s1 fun k s2 => if k = true then b r s2 else .ok (.bl false) s2 := ap_eAnd'
@[simp] theorem ap_eOr : eOr a b r s = (a r s).bind fun x s1 => Bl x s1 fun k s2 => if k = true then .ok (.bl true) s2 else b r s2 := by
  unfold eOr Bl
  congr 1
  funext x s1
  cases x with
  | bl k => cases k <;> rfl
  | _ => rfl
@[simp] theorem ap_eNot : eNot a r s = (a r s).bind fun x s1 => Bl x s1 fun k s2 => .ok (.bl (!k)) s2 := rfl
@[simp] theorem ap_eCh : eCh q q' a b c r s = (a r s).bind fun x s1 => (b r s1).bind fun y s2 => (q x y s2).bind fun z s3 => Bl z s3 fun k s3 => if k = true then (c r s3).bind fun w s4 => q' y w s4 else .ok (.bl false) s3 := by
  unfold eCh Bl
  cases a r s with
  | ok x s1 =>
    simp only [Rs.bind_ok]
    cases b r s1 with
    | ok y s2 =>
      simp only [Rs.bind_ok]
      cases q x y s2 with
      | ok z s3 =>
        simp only [Rs.bind_ok]
        cases z with
        | bl k => cases k <;> rfl
        | _ => rfl
      | exc => rfl
      | stk => rfl
    | exc => rfl
    | stk => rfl
  | exc => rfl
  | stk => rfl
@[simp] theorem ap_eTup : eTup as r s = (as r s).bind fun xs s1 => if xs.length ≤ 1000000 then .ok (.tup xs) s1 else .stk := rfl
@[simp] theorem ap_eLst : eLst as r s = (as r s).bind fun xs s1 => if xs.length ≤ 1000000 then .ok (.ref s1.length) (s1 ++ [.lst xs]) else .stk := rfl
@[simp] theorem eV_succ {i : Nat} : eV (i + 1) (d :: r) s = eV i r s := rfl
@[simp] theorem eV_non : eV 0 (.non :: r) s = .ok .non s := rfl
@[simp] theorem eV_bl {k : Bool} : eV 0 (.bl k :: r) s = .ok (.bl k) s := rfl
@[simp] theorem eV_int {i : Int} : eV 0 (.int i :: r) s = .ok (.int i) s := rfl
@[simp] theorem eV_str {x : Str} : eV 0 (.str x :: r) s = .ok (.str x) s := rfl
@[simp] theorem eV_tup {xs : List D} : eV 0 (.tup xs :: r) s = .ok (.tup xs) s := rfl
@[simp] theorem eV_frl {xs : List D} : eV 0 (.frl xs :: r) s = .ok (.frl xs) s := rfl
@[simp] theorem eV_ref {n : Nat} : eV 0 (.ref n :: r) s = .ok (.ref n) s := rfl
@[simp] theorem eV_fn {n : Nat} : eV 0 (.fn n :: r) s = .ok (.fn n) s := rfl
theorem eV_any (hu : d ≠ .undef) : eV 0 (d :: r) s = .ok d s := by cases d <;> first | rfl | exact absurd rfl hu
theorem ap_eV {i : Nat} (h : r[i]? = some d) (hu : d ≠ .undef) : eV i r s = .ok d s := by
  unfold eV
  rw [h]
  cases d <;> first | rfl | exact absurd rfl hu
end
section
variable {r : Env} {s s1 : S} {e : E} {b c : Sm} {t : T} {g : Tg} {i j : Nat}
@[simp] theorem ap_zCons : zCons b c r s = (b r s).andThen c := rfl
@[simp] theorem ap_zNil : zNil r s = .nx r s := rfl
@[simp] theorem ap_zRet : zRet e r s = (e r s).then r fun d s1 => .rt d s1 := rfl
@[simp] theorem ap_zRetN : zRetN r s = .rt .non s := rfl
@[simp] theorem ap_zEx : zEx e r s = (e r s).then r fun _ s1 => .nx r s1 := rfl
@[simp] theorem ap_zIf : zIf t b c r s = (t r s).then r fun k s1 => if k = true then b r s1 else c r s1 := rfl
@[simp] theorem ap_zPass : zPass r s = .nx r s := rfl
@[simp] theorem ap_zCnt : zCnt r s = .ct r s := rfl
@[simp] theorem ap_zBrk : zBrk r s = .bk r s := rfl
@[simp] theorem ap_zStk : zStk r s = .stk := rfl
@[simp] theorem ap_zRaise {c : Nat} : zRaise c r s = .exc c [] r s := rfl
/-- what a target leaves -/
def Go (x : Option (Env × S)) (f : Env → S → F) : F := match x with
  | some (r, s) => f r s
  | none => .stk
@[simp] theorem Go_some (r : Env) (s : S) (f : Env → S → F) : Go (some (r, s)) f = f r s := rfl
@[simp] theorem ap_zSet : zSet g e r s = (e r s).then r fun d s1 => Go (g d r s1) .nx := rfl
@[simp] theorem ap_zPar {x y : E} : zPar i j x y r s = (x r s).then r fun x s1 => (y r s1).then r fun y s2 => if i < r.length ∧ j < r.length then .nx ((r.set i x).set j y) s2 else .stk := rfl
@[simp] theorem ap_gV {d : D} : gV i d r s = if i < r.length then some (r.set i d, s) else none := rfl
@[simp] theorem ap_gsN {ds : List D} : gsN ds r s = if ds.isEmpty then some (r, s) else none := rfl
@[simp] theorem ap_gsC {d : D} {ds : List D} {t : List D → Env → S → Option (Env × S)} : gsC g t (d :: ds) r s = (g d r s).bind fun p => t ds p.1 p.2 := by
  unfold gsC
  simp only
  cases g d r s <;> rfl
@[simp] theorem ap_gT {ds : List D} {t : List D → Env → S → Option (Env × S)} : gT t (.tup ds) r s = t ds r s := rfl
/-- xs[i] = e where the list stands -/
def Pu (x : Option S) (r : Env) : F := match x with
  | some s => .nx r s
  | none => .stk
@[simp] theorem Pu_some (s : S) (r : Env) : Pu (some s) r = .nx r s := rfl
@[simp] theorem ap_zPutL {o k : E} : zPutL o k e r s = (e r s).then r fun v s1 => (o r s1).then r fun x s2 => (k r s2).then r fun k s3 => Pu (putL x k v s3) r := rfl
end
section
variable {s : S} {i j : Int} {xs ys : List D} {n m : Nat}
@[simp] theorem v_addI : oAdd (.int i) (.int j) s = .ok (.int (i + j)) s := rfl
@[simp] theorem v_subI : oSub (.int i) (.int j) s = .ok (.int (i - j)) s := rfl
theorem v_mulI (h : mulOk i j = true) : oMul (.int i) (.int j) s = .ok (.int (i * j)) s := by unfold oMul; simp [h]
theorem v_mul64 (h : i.natAbs < 18446744073709551616) : oMul (.int i) (.int j) s = .ok (.int (i * j)) s := v_mulI (by unfold mulOk; simp [h])
theorem v_mul64r (h : j.natAbs < 18446744073709551616) : oMul (.int i) (.int j) s = .ok (.int (i * j)) s := v_mulI (by unfold mulOk; simp [h])
theorem log2_lt {a k : Nat} (hk : 0 < k) (h : a < 2 ^ k) : a.log2 < k := by
  by_cases h0 : a = 0
  · subst h0; simpa using hk
  · exact (Nat.log2_lt h0).mpr h
theorem v_divP (h : 0 < j) (h2 : j.natAbs.log2 < 9000) : oDiv (.int i) (.int j) s = .ok (.int (i / j)) s := by
  unfold oDiv pdiv
  simp [h, h2, show j ≠ 0 by omega]
theorem v_div64 (h : 0 < j) (h2 : j < 18446744073709551616) : oDiv (.int i) (.int j) s = .ok (.int (i / j)) s :=
  v_divP h (Nat.lt_of_lt_of_le (log2_lt (k := 64) (by decide) (by omega)) (by decide))
theorem v_modP (h : 0 < j) : oMod (.int i) (.int j) s = .ok (.int (i % j)) s := by
  unfold oMod pmod
  simp [h, show j ≠ 0 by omega]
@[simp] theorem v_neg : oNeg (.int i) s = .ok (.int (-i)) s := rfl
@[simp] theorem v_lt : oLt (.int i) (.int j) s = .ok (.bl (decide (i < j))) s := rfl
@[simp] theorem v_le : oLe (.int i) (.int j) s = .ok (.bl (decide (i ≤ j))) s := rfl
@[simp] theorem v_gt : oGt (.int i) (.int j) s = .ok (.bl (decide (j < i))) s := rfl
@[simp] theorem v_ge : oGe (.int i) (.int j) s = .ok (.bl (decide (j ≤ i))) s := rfl
@[simp] theorem v_eqI : oEq (.int i) (.int j) s = .ok (.bl (decide (i = j))) s := by
  unfold oEq eqD
  have e : (i == j) = decide (i = j) := by by_cases h : i = j <;> simp [h]
  simp [D.py, PySem.SeqAt.shaped, PyData.canLay0, PyData.depth, PyData.eqv, e]
@[simp] theorem v_neI : oNe (.int i) (.int j) s = .ok (.bl (decide (i ≠ j))) s := by
  unfold oNe eqD
  have e : (i == j) = decide (i = j) := by by_cases h : i = j <;> simp [h]
  simp [D.py, PySem.SeqAt.shaped, PyData.canLay0, PyData.depth, PyData.eqv, e]
@[simp] theorem v_isN_non : oIsN .non s = .ok (.bl true) s := rfl
@[simp] theorem v_isN_int : oIsN (.int i) s = .ok (.bl false) s := rfl
@[simp] theorem v_isN_tup : oIsN (.tup xs) s = .ok (.bl false) s := rfl
@[simp] theorem v_isN_ref : oIsN (.ref n) s = .ok (.bl false) s := rfl
@[simp] theorem v_isN_bl {b : Bool} : oIsN (.bl b) s = .ok (.bl false) s := rfl
@[simp] theorem v_isN_str {x : Str} : oIsN (.str x) s = .ok (.bl false) s := rfl
@[simp] theorem v_isN_frl : oIsN (.frl xs) s = .ok (.bl false) s := rfl
@[simp] theorem v_notN_bl {b : Bool} : oNotN (.bl b) s = .ok (.bl true) s := rfl
@[simp] theorem v_notN_str {x : Str} : oNotN (.str x) s = .ok (.bl true) s := rfl
@[simp] theorem v_isB {a b : Bool} : oIsB (.bl a) (.bl b) s = .ok (.bl (decide (a = b))) s := rfl
@[simp] theorem v_notB {a b : Bool} : oNotB (.bl a) (.bl b) s = .ok (.bl (!decide (a = b))) s := rfl
@[simp] theorem v_notN_non : oNotN .non s = .ok (.bl false) s := rfl
@[simp] theorem v_notN_int : oNotN (.int i) s = .ok (.bl true) s := rfl
@[simp] theorem v_notN_tup : oNotN (.tup xs) s = .ok (.bl true) s := rfl
@[simp] theorem v_notN_ref : oNotN (.ref n) s = .ok (.bl true) s := rfl
@[simp] theorem v_intI : bInt [.int i] s = .ok (.int i) s := rfl
@[simp] theorem v_abs : bAbs [.int i] s = .ok (.int (if i < 0 then -i else i)) s := rfl
@[simp] theorem v_min : bMin2 [.int i, .int j] s = .ok (.int (if j < i then j else i)) s := rfl
@[simp] theorem v_max : bMax2 [.int i, .int j] s = .ok (.int (if j > i then j else i)) s := rfl
@[simp] theorem v_lenT : bLen [.tup xs] s = .ok (.int xs.length) s := rfl
theorem v_lenL (h : s[n]? = some (.lst xs)) : bLen [.ref n] s = .ok (.int xs.length) s := by unfold bLen; simp [h]
theorem v_ixT {d : D} (h : atD xs i = some d) : oIx (.tup xs) (.int i) s = .ok d s := by unfold oIx seqX; simp [h]
theorem v_ixL {d : D} (hs : s[n]? = some (.lst xs)) (h : atD xs i = some d) : oIx (.ref n) (.int i) s = .ok d s := by unfold oIx seqX seqL; simp [hs, h]
theorem atD_nat {k : Nat} {d : D} (h : xs[k]? = some d) : atD xs (k : Int) = some d := by
  have hl := (List.getElem?_eq_some_iff.mp h).1
  unfold atD
  rw [if_pos (by omega), if_pos (by omega)]
  simpa using h
@[simp] theorem atD_0 {d : D} : atD (d :: xs) 0 = some d := atD_nat (k := 0) rfl
@[simp] theorem atD_1 {d e : D} : atD (d :: e :: xs) 1 = some e := atD_nat (k := 1) rfl
@[simp] theorem atD_2 {d e f : D} : atD (d :: e :: f :: xs) 2 = some f := atD_nat (k := 2) rfl
/-- the list at a place of the store, once it is looked up -/
def lstO (x : Option O) : Option (List D) := match x with
  | some (.lst xs) => some xs
  | _ => none
@[simp] theorem lstO_some : lstO (some (.lst xs)) = some xs := rfl
def OkO (x : Option D) (s : S) : Rs D := match x with
  | some d => .ok d s
  | none => .stk
@[simp] theorem OkO_some (d : D) : OkO (some d) s = .ok d s := rfl
@[simp] theorem seqL_ref : seqL (.ref n) s = lstO s[n]? := by
  unfold seqL lstO
  dsimp only
  all_goals (cases s[n]? with
  | none => rfl
  | some o => cases o <;> rfl)
@[simp] theorem seqL_frl : seqL (.frl xs) s = some xs := rfl
@[simp] theorem seqX_tup : seqX (.tup xs) s = some xs := rfl
@[simp] theorem seqX_ref : seqX (.ref n) s = lstO s[n]? := by
  show seqL (.ref n) s = _
  exact seqL_ref
@[simp] theorem seqX_frl : seqX (.frl xs) s = some xs := rfl
theorem ix_seq (d : D) : oIx d (.int i) s = OkO ((seqX d s).bind fun xs => atD xs i) s := by
  unfold oIx OkO
  dsimp only
  cases seqX d s with
  | none => rfl
  | some xs =>
    simp only [Option.bind_some]
    all_goals (cases atD xs i <;> rfl)
@[simp] theorem ix_ref : oIx (.ref n) (.int i) s = OkO ((lstO s[n]?).bind fun xs => atD xs i) s := by rw [ix_seq, seqX_ref]
@[simp] theorem ix_tup : oIx (.tup xs) (.int i) s = OkO (atD xs i) s := by rw [ix_seq]; rfl
@[simp] theorem ix_frl : oIx (.frl xs) (.int i) s = OkO (atD xs i) s := by rw [ix_seq]; rfl
@[simp] theorem len_ref : bLen [.ref n] s = OkO ((lstO s[n]?).map fun xs => .int xs.length) s := by
  unfold bLen lstO OkO
  dsimp only
  cases s[n]? with
  | none => rfl
  | some o => cases o <;> rfl
@[simp] theorem len_frl : bLen [.frl xs] s = .ok (.int xs.length) s := rfl
@[simp] theorem putL_ref {v : D} : putL (.ref n) (.int i) v s = (lstO s[n]?).bind fun xs => (ixN xs.length i).map fun j => s.set n (.lst (xs.set j v)) := by
  unfold putL lstO
  simp only
  cases s[n]? with
  | none => rfl
  | some o =>
    cases o with
    | lst xs =>
      simp only [Option.bind_some]
      cases ixN xs.length i <;> rfl
    | _ => rfl
@[simp] theorem app_ref {v : D} : mApp (.ref n) [v] s = match (lstO s[n]?).bind fun xs => if xs.length < LINE then some (s.set n (.lst (xs ++ [v]))) else none with | some s1 => .ok .non s1 | none => .stk := by
  unfold mApp appendAt lstO
  simp only
  cases s[n]? with
  | none => rfl
  | some o => cases o <;> rfl
@[simp] theorem list_seq (d : D) : bList [d] s = match seqX d s with | some xs => .ok (.ref s.length) (s ++ [.lst xs]) | none => .stk := rfl
@[simp] theorem tuple_seq (d : D) : bTuple [d] s = match seqX d s with | some xs => .ok (.tup xs) s | none => .stk := rfl
@[simp] theorem isL_ref : isL (.ref n) s = (lstO s[n]?).isSome := by
  unfold isL
  rw [seqL_ref]
/-- isinstance by the kind -/
@[simp] theorem ty_int {t : Ty} : oIsI t (.int i) s = .ok (.bl (t == .int)) s := rfl
@[simp] theorem ty_bl {t : Ty} {b : Bool} : oIsI t (.bl b) s = .ok (.bl (t == .bool || t == .int)) s := rfl
@[simp] theorem ty_non {t : Ty} : oIsI t .non s = .ok (.bl false) s := rfl
@[simp] theorem ty_str {t : Ty} {x : Str} : oIsI t (.str x) s = .ok (.bl (t == .str)) s := rfl
@[simp] theorem ty_tup {t : Ty} : oIsI t (.tup xs) s = .ok (.bl (t == .tuple)) s := rfl
theorem ty_lst {t : Ty} (h : s[n]? = some (.lst xs)) : oIsI t (.ref n) s = .ok (.bl (t == .list)) s := by unfold oIsI isTy; simp [h]
end

/-! ### calls -/
theorem refs_pure : ∀ {ds : List D}, D.pureL ds = true → refsOf ds = [] ∧ (∀ k, renum k ds = ds) ∧ ds.all argOk = true
  | [], _ => ⟨rfl, fun _ => rfl, rfl⟩
  | d :: ds, h => by
    unfold D.pureL at h
    rw [Bool.and_eq_true] at h
    obtain ⟨h1, h2, h3⟩ := refs_pure h.2
    cases d with
    | ref n => exact absurd h.1 (by unfold D.pure; exact Bool.false_ne_true)
    | undef => exact absurd h.1 (by unfold D.pure; exact Bool.false_ne_true)
    | _ => exact ⟨h1, fun k => by show _ :: renum k ds = _; rw [h2], by rw [List.all_cons, h3, Bool.and_true]; exact h.1⟩
/-- pure arguments, a pure result -/
theorem callK_val {f : Fn} {ds : List D} {s g : S} {d : D} (hp : D.pureL ds = true) (h : f ds [] = .ok d g) (hd : d.pure = true) : callK f ds s = .ok d s := by
  obtain ⟨h1, h2, h3⟩ := refs_pure hp
  unfold callK
  rw [h1, h2, h3, if_pos ⟨rfl, rfl⟩]
  simp only [getAll, h, putAll, List.length_nil, List.take_zero, List.all_nil, if_true]
  cases d <;> first | (simp only [hd, if_true]; done) | (simp only [D.pure] at hd; exact absurd hd Bool.false_ne_true) | simp [D.pure]
/-- pure arguments, a new object -/
theorem callK_new {f : Fn} {ds : List D} {s g : S} {j : Nat} {o : O} (hp : D.pureL ds = true) (h : f ds [] = .ok (.ref j) g) (ho : g[j]? = some o) (hd : o.pure = true) : callK f ds s = .ok (.ref s.length) (s ++ [o]) := by
  obtain ⟨h1, h2, h3⟩ := refs_pure hp
  unfold callK
  rw [h1, h2, h3, if_pos ⟨rfl, rfl⟩]
  simp only [getAll, h, putAll, List.length_nil, List.take_zero, List.all_nil, if_true, ho, hd, List.getElem?_nil]
/-- pure arguments, an error -/
theorem callK_exc {f : Fn} {ds : List D} {s g : S} {c : Nat} {fs : List D} (hp : D.pureL ds = true) (h : f ds [] = .exc c fs g) (hd : D.pureL fs = true) : callK f ds s = .exc c fs s := by
  obtain ⟨h1, h2, h3⟩ := refs_pure hp
  unfold callK
  rw [h1, h2, h3, if_pos ⟨rfl, rfl⟩]
  simp only [getAll, h, putAll, List.length_nil, List.take_zero, List.all_nil, hd, if_true, and_self]
/-- the first argument an object, the others pure; a pure result -/
theorem callK_ref {f : Fn} {ds : List D} {s g : S} {n : Nat} {o o' : O} {d : D} (hp : D.pureL ds = true) (hs : s[n]? = some o) (ho : o.pure = true) (h : f (.ref 0 :: ds) [o] = .ok d (o' :: g)) (ho' : o'.pure = true) (hd : d.pure = true) :
    callK f (.ref n :: ds) s = .ok d (s.set n o') := by
  obtain ⟨h1, h2, h3⟩ := refs_pure hp
  unfold callK
  simp only [refsOf, renum, h1, h2, List.all_cons, h3, Bool.and_true, argOk, nodupN, List.contains_nil, Bool.not_false, and_self, if_true, getAll, hs, ho, h, List.length_singleton, List.take_succ_cons, List.take_zero, List.all_nil, ho', putAll]
  cases d <;> first | (simp only [hd, if_true]; done) | (simp only [D.pure] at hd; exact absurd hd Bool.false_ne_true) | simp [D.pure]
/-- .. a new object -/
theorem callK_ref_new {f : Fn} {ds : List D} {s g : S} {n j : Nat} {o o' o2 : O} (hp : D.pureL ds = true) (hs : s[n]? = some o) (ho : o.pure = true) (h : f (.ref 0 :: ds) [o] = .ok (.ref (j + 1)) (o' :: g)) (ho' : o'.pure = true) (hj : g[j]? = some o2) (ho2 : o2.pure = true) :
    callK f (.ref n :: ds) s = .ok (.ref s.length) (s.set n o' ++ [o2]) := by
  obtain ⟨h1, h2, h3⟩ := refs_pure hp
  unfold callK
  simp only [refsOf, renum, h1, h2, List.all_cons, h3, Bool.and_true, argOk, nodupN, List.contains_nil, Bool.not_false, and_self, if_true, getAll, hs, ho, h, List.length_singleton, List.take_succ_cons, List.take_zero, List.all_nil, ho', putAll, List.getElem?_cons_succ, List.getElem?_nil, hj, ho2]
@[simp] theorem nArgs1 {g : Fn} {a : D} {s : S} : nArgs 1 g [a] s = g [a] s := rfl
@[simp] theorem nArgs2 {g : Fn} {a b : D} {s : S} : nArgs 2 g [a, b] s = g [a, b] s := rfl
@[simp] theorem nArgs3 {g : Fn} {a b c : D} {s : S} : nArgs 3 g [a, b, c] s = g [a, b, c] s := rfl
@[simp] theorem nArgs4 {g : Fn} {a b c d : D} {s : S} : nArgs 4 g [a, b, c, d] s = g [a, b, c, d] s := rfl
@[simp] theorem ap_eCallK {k : Nat} {g : Fn} {as : A} {r : Env} {s : S} : eCallK k g as r s = (as r s).bind fun xs s1 => nArgs k (callK g) xs s1 := rfl
@[simp] theorem ap_eCall {k : Nat} {g : Fn} {as : A} {r : Env} {s : S} : eCall k g as r s = (as r s).bind fun xs s1 => nArgs k g xs s1 := rfl
/-- what a body's end hands back -/
def F.out (x : F) : Rs D := match x with
  | .nx _ s => .ok .non s
  | .rt d s => .ok d s
  | .exc c fs _ s => .exc c fs s
  | _ => .stk
@[simp] theorem out_rt (d : D) (s : S) : (F.rt d s).out = .ok d s := rfl
@[simp] theorem out_nx (r : Env) (s : S) : (F.nx r s).out = .ok .non s := rfl
@[simp] theorem out_exc (c fs) (r : Env) (s : S) : (F.exc c fs r s).out = .exc c fs s := rfl
theorem ap_mkFn {n k : Nat} {b : Sm} {ds : List D} {s : S} (h : ds.length = k) : mkFn n k b ds s = (b (ds ++ List.replicate (n - k) .undef) s).out := by
  unfold mkFn F.out
  rw [if_pos h]
  all_goals (cases b (ds ++ List.replicate (n - k) .undef) s <;> rfl)

/-! ### loops -/
/-- what holds between two turns -/
theorem forM_inv {g : Tg} {b : Sm} (P : Nat → Env → S → Prop) : ∀ (xs : List D) (i : Nat) (r : Env) (s : S), P i r s →
    (∀ j x r s, xs[j]? = some x → P (i + j) r s → ∃ r1 s1 r2 s2, g x r s = some (r1, s1) ∧ (b r1 s1 = .nx r2 s2 ∨ b r1 s1 = .ct r2 s2) ∧ P (i + j + 1) r2 s2) →
    ∃ r' s', forM g b xs r s = .nx r' s' ∧ P (i + xs.length) r' s'
  | [], i, r, s, h0, _ => ⟨r, s, rfl, by simpa using h0⟩
  | x :: xs, i, r, s, h0, hs => by
    obtain ⟨r1, s1, r2, s2, e1, e2, p⟩ := hs 0 x r s rfl (by simpa using h0)
    obtain ⟨r', s', e3, p3⟩ := forM_inv P xs (i + 1) r2 s2 (by simpa using p) fun j y r s e q => by
      obtain ⟨a, b, c, d, z1, z2, z3⟩ := hs (j + 1) y r s (by simpa using e) (by rw [show i + (j + 1) = i + 1 + j by omega]; exact q)
      exact ⟨a, b, c, d, z1, z2, by rw [show i + 1 + j + 1 = i + (j + 1) + 1 by omega]; exact z3⟩
    refine ⟨r', s', ?_, by rw [List.length_cons, show i + (xs.length + 1) = i + 1 + xs.length by omega]; exact p3⟩
    unfold forM
    rw [e1]
    rcases e2 with e2 | e2 <;> (simp only [e2]; exact e3)
theorem whileM_inv {c : T} {b : Sm} (P : Env → S → Prop) (Z : Env → S → Prop) (μ : Env → S → Nat)
    (step : ∀ r s, P r s → ∃ k s1, c r s = .ok k s1 ∧ (k = false → Z r s1) ∧ (k = true → ∃ r2 s2, (b r s1 = .nx r2 s2 ∨ b r s1 = .ct r2 s2) ∧ P r2 s2 ∧ μ r2 s2 < μ r s)) :
    ∀ (n : Nat) (r : Env) (s : S), P r s → μ r s < n → ∃ r' s', whileM c b n r s = .nx r' s' ∧ Z r' s'
  | 0, _, _, _, h => absurd h (Nat.not_lt_zero _)
  | n + 1, r, s, h, hm => by
    obtain ⟨k, s1, e, z, st⟩ := step r s h
    unfold whileM
    simp only [e, then_ok]
    cases k with
    | false => exact ⟨r, s1, rfl, z rfl⟩
    | true =>
      obtain ⟨r2, s2, e2, p2, m2⟩ := st rfl
      rw [if_pos rfl]
      have ih := whileM_inv P Z μ step n r2 s2 p2 (by omega)
      rcases e2 with e2 | e2 <;> (rw [e2]; exact ih)
/-- great numbers: what is below may be multiplied, and counted down -/
def B0 : Nat := 2 ^ 3000
def B1 : Nat := 2 ^ 8990
theorem B01 : 1000000000000 * B0 ≤ B1 := by decide +kernel
theorem B0_big : 1000000000000000000000000000000000000000000000000000000000000 ≤ B0 := by decide +kernel
theorem B1_fuel : B1 ≤ FUEL := by decide +kernel
theorem log2_B1 {i : Nat} (h : i < B1) : i.log2 < 8990 := log2_lt (by decide) h
theorem zWhile_invB {c : T} {b : Sm} (P : Env → S → Prop) (Z : Env → S → Prop) (μ : Env → S → Nat)
    (step : ∀ r s, P r s → ∃ k s1, c r s = .ok k s1 ∧ (k = false → Z r s1) ∧ (k = true → ∃ r2 s2, (b r s1 = .nx r2 s2 ∨ b r s1 = .ct r2 s2) ∧ P r2 s2 ∧ μ r2 s2 < μ r s)) {r : Env} {s : S} (h : P r s) (hm : μ r s < B1) :
    ∃ r' s', zWhile c b r s = .nx r' s' ∧ Z r' s' := whileM_inv P Z μ step _ r s h (Nat.lt_of_lt_of_le hm B1_fuel)
theorem mul_big {i j : Int} {s : S} (hi : i.natAbs < B1) (hj : j.natAbs < B1) : oMul (.int i) (.int j) s = .ok (.int (i * j)) s := v_mulI (by
  unfold mulOk
  have a := log2_B1 hi
  have b := log2_B1 hj
  have : i.natAbs.log2 + j.natAbs.log2 < 1000000 := by omega
  simp [this])
theorem div_big {i j : Int} {s : S} (h : 0 < j) (hj : j.natAbs < B1) : oDiv (.int i) (.int j) s = .ok (.int (i / j)) s := v_divP h (by have := log2_B1 hj; omega)
theorem zWhile_inv {c : T} {b : Sm} (P : Env → S → Prop) (Z : Env → S → Prop) (μ : Env → S → Nat)
    (step : ∀ r s, P r s → ∃ k s1, c r s = .ok k s1 ∧ (k = false → Z r s1) ∧ (k = true → ∃ r2 s2, (b r s1 = .nx r2 s2 ∨ b r s1 = .ct r2 s2) ∧ P r2 s2 ∧ μ r2 s2 < μ r s)) {r : Env} {s : S} (h : P r s) (hm : μ r s < 1000000000000) :
    ∃ r' s', zWhile c b r s = .nx r' s' ∧ Z r' s' := whileM_inv P Z μ step _ r s h (by have h1 := B1_fuel; have h2 := B01; have h3 := B0_big; omega)
/-- a loop's walk told -/
theorem ap_zFor {it : IW} {g : Tg} {b : Sm} {r : Env} {s s1 : S} {xs : List D} (h : it r s = .ok (.items xs) s1) : zFor it g b r s = forM g b xs r s1 := by
  unfold zFor
  rw [h]; rfl
@[simp] theorem ap_iRng1 {a : E} {r : Env} {s s1 : S} {j : Int} (h : a r s = .ok (.int j) s1) (hj : j.natAbs < 4611686018427387904) : iRng1 a r s = .ok (.items (range2 0 j)) s1 := by
  unfold iRng1
  simp only [h, bind_ok, hj, if_true]
@[simp] theorem ap_iRng2 {a b : E} {r : Env} {s s1 s2 : S} {i j : Int} (h : a r s = .ok (.int i) s1) (h' : b r s1 = .ok (.int j) s2) (hi : i.natAbs < 4611686018427387904) (hj : j.natAbs < 4611686018427387904) : iRng2 a b r s = .ok (.items (range2 i j)) s2 := by
  unfold iRng2
  simp only [h, h', bind_ok, hi, hj, and_self, if_true]
theorem range2_get {i j : Int} {k : Nat} {x : D} (h : (range2 i j)[k]? = some x) : x = .int (i + k) ∧ k < (j - i).toNat := by
  unfold range2 at h
  rw [List.getElem?_map] at h
  cases e : (List.range (j - i).toNat)[k]? with
  | none => rw [e] at h; cases h
  | some n =>
    rw [e] at h
    obtain ⟨hl, hv⟩ := List.getElem?_eq_some_iff.mp e
    rw [List.getElem_range] at hv
    rw [List.length_range] at hl
    subst hv
    cases h
    exact ⟨rfl, hl⟩
theorem range2_len (i j : Int) : (range2 i j).length = (j - i).toNat := by unfold range2; simp
/-- an int, a tuple that is told -/
def NI (x : D) (f : Int → F) : F := match x with
  | .int j => f j
  | _ => .stk
@[simp] theorem NI_int (j : Int) (f : Int → F) : NI (.int j) f = f j := rfl
def NT (x : D) (f : List D → F) : F := match x with
  | .tup xs => f xs
  | _ => .stk
@[simp] theorem NT_tup (xs : List D) (f : List D → F) : NT (.tup xs) f = f xs := rfl
section
variable {g : Tg} {b : Sm} {r : Env} {s : S} {a c : E}
@[simp] theorem zFor_rng1 : zFor (iRng1 a) g b r s = (a r s).then r fun x s1 => NI x fun j => if j.natAbs < 4611686018427387904 then forM g b (range2 0 j) r s1 else .stk := by
  unfold zFor iRng1
  cases a r s with
  | ok x s1 =>
    cases x with
    | int j =>
      by_cases h : j.natAbs < 4611686018427387904 <;> simp [h]
    | _ => rfl
  | exc => rfl
  | stk => rfl
@[simp] theorem zFor_rng2 : zFor (iRng2 a c) g b r s = (a r s).then r fun x s1 => (c r s1).then r fun y s2 => NI x fun i => NI y fun j => if i.natAbs < 4611686018427387904 ∧ j.natAbs < 4611686018427387904 then forM g b (range2 i j) r s2 else .stk := by
  unfold zFor iRng2
  cases a r s with
  | ok x s1 =>
    simp only [bind_ok, then_ok]
    cases c r s1 with
    | ok y s2 =>
      simp only [bind_ok, then_ok]
      cases x with
      | int i =>
        cases y with
        | int j =>
          simp only [NI_int]
          by_cases h : i.natAbs < 4611686018427387904 ∧ j.natAbs < 4611686018427387904
          · simp only [h, and_self, if_true, then_ok]
          · simp only [h, if_false, then_stk]
        | _ => rfl
      | _ => rfl
    | exc => rfl
    | stk => rfl
  | exc => rfl
  | stk => rfl
@[simp] theorem zFor_tup : zFor (iTup a) g b r s = (a r s).then r fun x s1 => NT x fun xs => forM g b xs r s1 := by
  unfold zFor iTup
  cases a r s with
  | ok x s1 => cases x <;> rfl
  | exc => rfl
  | stk => rfl
/-- a list's walk: of the text's own script, or of the store -/
def NL (x : D) (s : S) (f : List D → F) (f' : Nat → F) : F := match x with
  | .frl xs => f xs
  | .ref n => if (lstO s[n]?).isSome = true then f' n else .stk
  | _ => .stk
@[simp] theorem NL_frl (xs : List D) (s : S) (f f') : NL (.frl xs) s f f' = f xs := rfl
@[simp] theorem NL_ref (n : Nat) (s : S) (f f') : NL (.ref n) s f f' = if (lstO s[n]?).isSome = true then f' n else .stk := rfl
@[simp] theorem zFor_lst : zFor (iLst a) g b r s = (a r s).then r fun x s1 => NL x s1 (fun xs => forM g b xs r s1) fun n => forR g b n FUEL 0 r s1 := by
  unfold zFor iLst
  cases a r s with
  | ok x s1 =>
    simp only [bind_ok, then_ok]
    cases x with
    | ref n =>
      simp only [NL_ref, lstO]
      cases s1[n]? with
      | none => rfl
      | some o => cases o <;> rfl
    | _ => rfl
  | exc => rfl
  | stk => rfl
/-- a list of the store that the loop leaves as it is -/
theorem forR_forM {n : Nat} {xs : List D} : ∀ (k i : Nat) (r : Env) (s : S) (P : Nat → Env → S → Prop), xs.length < k + i → P i r s → (∀ j r s, P j r s → s[n]? = some (.lst xs)) →
    (∀ j x r s, xs[j]? = some x → P j r s → ∃ r1 s1 r2 s2, g x r s = some (r1, s1) ∧ (b r1 s1 = .nx r2 s2 ∨ b r1 s1 = .ct r2 s2) ∧ P (j + 1) r2 s2) → i ≤ xs.length →
    ∃ r' s', forR g b n k i r s = .nx r' s' ∧ P xs.length r' s'
  | 0, i, r, s, P, h, _, _, _, hi => by omega
  | k + 1, i, r, s, P, h, p, hs, step, hi => by
    unfold forR
    rw [hs i r s p]
    simp only
    by_cases hl : i < xs.length
    · obtain ⟨r1, s1, r2, s2, e1, e2, p2⟩ := step i xs[i] r s (List.getElem?_eq_getElem hl) p
      rw [List.getElem?_eq_getElem hl]
      simp only [e1]
      obtain ⟨r', s', e3, p3⟩ := forR_forM k (i + 1) r2 s2 P (by omega) p2 hs step hl
      refine ⟨r', s', ?_, p3⟩
      rcases e2 with e2 | e2 <;> (rw [e2]; exact e3)
    · have e : i = xs.length := by omega
      subst e
      rw [List.getElem?_eq_none (Nat.le_refl _)]
      exact ⟨r, s, rfl, p⟩
end
/-- a comprehension whose parts leave the store alone -/
theorem compM_items {g : Tg} {t : T} {e : E} {n : Nat} {r : Env} {s : S} (hn : n = s.length) (rr : D → Env) (p : D → Bool) (f : D → D) : ∀ (xs acc : List D),
    (∀ x ∈ xs, ∀ acc, g x r (s ++ [.lst acc]) = some (rr x, s ++ [.lst acc]) ∧ t (rr x) (s ++ [.lst acc]) = .ok (p x) (s ++ [.lst acc]) ∧ (p x = true → e (rr x) (s ++ [.lst acc]) = .ok (f x) (s ++ [.lst acc]))) →
    acc.length + xs.length ≤ 1000000 → compM g t e n xs r (s ++ [.lst acc]) = .ok (.ref n) (s ++ [.lst (acc ++ (xs.filter p).map f)])
  | [], acc, _, _ => by unfold compM; simp
  | x :: xs, acc, h, hl => by
    obtain ⟨h1, h2, h3⟩ := h x List.mem_cons_self acc
    rw [List.length_cons] at hl
    have ih := fun acc' hl' => compM_items hn rr p f xs acc' (fun y hy => h y (List.mem_cons_of_mem _ hy)) hl'
    unfold compM
    simp only [h1, h2]
    cases hp : p x with
    | false =>
      simp only
      rw [ih acc (by omega), List.filter_cons, hp]
      simp
    | true =>
      simp only [h3 hp]
      have ha : appendAt n (f x) (s ++ [.lst acc]) = some (s ++ [.lst (acc ++ [f x])]) := by
        unfold appendAt
        subst hn
        simp only [List.getElem?_concat_length]
        rw [if_pos (show acc.length < LINE from by unfold LINE; omega)]
        simp
      simp only [ha]
      rw [ih (acc ++ [f x]) (by rw [List.length_append, List.length_singleton]; omega), List.filter_cons, hp]
      simp
theorem eLc_items {it : IW} {g : Tg} {t : T} {e : E} {own : List Nat} {r : Env} {s s1 : S} {xs : List D} (hit : it r s = .ok (.items xs) s1) (rr : D → Env) (p : D → Bool) (f : D → D)
    (h : ∀ x ∈ xs, ∀ acc, g x (wipeD r own) (s1 ++ [.lst acc]) = some (rr x, s1 ++ [.lst acc]) ∧ t (rr x) (s1 ++ [.lst acc]) = .ok (p x) (s1 ++ [.lst acc]) ∧ (p x = true → e (rr x) (s1 ++ [.lst acc]) = .ok (f x) (s1 ++ [.lst acc]))) (hl : xs.length ≤ 1000000) :
    eLc it g t e own r s = .ok (.ref s1.length) (s1 ++ [.lst ((xs.filter p).map f)]) := by
  unfold eLc
  rw [hit]
  show compM g t e s1.length xs (wipeD r own) (s1 ++ [.lst []]) = _
  rw [compM_items rfl rr p f xs [] h (by simpa using hl), List.nil_append]

/-! ### loops as goals -/
def Nx (P : Env → S → Prop) (f : F) : Prop := ∃ r s, (f = .nx r s ∨ f = .ct r s) ∧ P r s
theorem Nx_nx {P : Env → S → Prop} {r : Env} {s : S} (h : P r s) : Nx P (.nx r s) := ⟨r, s, .inl rfl, h⟩
theorem Nx_ct {P : Env → S → Prop} {r : Env} {s : S} (h : P r s) : Nx P (.ct r s) := ⟨r, s, .inr rfl, h⟩
theorem forM_nx {g : Tg} {b : Sm} {xs : List D} {r : Env} {s : S} (P : Nat → Env → S → Prop) (h0 : P 0 r s)
    (step : ∀ j x r s, xs[j]? = some x → P j r s → ∃ r1 s1, g x r s = some (r1, s1) ∧ ∀ Q : Env → S → Prop, (∀ r s, P (j + 1) r s → Q r s) → Nx Q (b r1 s1)) :
    ∃ r' s', forM g b xs r s = .nx r' s' ∧ P xs.length r' s' := by
  obtain ⟨r', s', e, p⟩ := forM_inv (g := g) (b := b) P xs 0 r s h0 fun j x r s hx hp => by
    rw [Nat.zero_add] at hp
    obtain ⟨r1, s1, e1, q⟩ := step j x r s hx hp
    obtain ⟨r2, s2, e2, p2⟩ := q _ fun _ _ h => h
    exact ⟨r1, s1, r2, s2, e1, e2, by rw [Nat.zero_add]; exact p2⟩
  exact ⟨r', s', e, by rwa [Nat.zero_add] at p⟩
theorem for_out {g : Tg} {b : Sm} {xs : List D} {r : Env} {s : S} {k : Env → S → F} {d : D} (P : Nat → Env → S → Prop) (h0 : P 0 r s)
    (step : ∀ j x r s, xs[j]? = some x → P j r s → ∃ r1 s1, g x r s = some (r1, s1) ∧ ∀ Q : Env → S → Prop, (∀ r s, P (j + 1) r s → Q r s) → Nx Q (b r1 s1))
    (fin : ∀ r' s', P xs.length r' s' → ∃ s2, (k r' s').out = .ok d s2) : ∃ s2, ((forM g b xs r s).andThen k).out = .ok d s2 := by
  obtain ⟨r', s', e, p⟩ := forM_nx P h0 step
  rw [e]; exact fin r' s' p
theorem for_nx {g : Tg} {b : Sm} {xs : List D} {r : Env} {s : S} {k : Env → S → F} {Q : Env → S → Prop} (P : Nat → Env → S → Prop) (h0 : P 0 r s)
    (step : ∀ j x r s, xs[j]? = some x → P j r s → ∃ r1 s1, g x r s = some (r1, s1) ∧ ∀ Q : Env → S → Prop, (∀ r s, P (j + 1) r s → Q r s) → Nx Q (b r1 s1))
    (fin : ∀ r' s', P xs.length r' s' → Nx Q (k r' s')) : Nx Q ((forM g b xs r s).andThen k) := by
  obtain ⟨r', s', e, p⟩ := forM_nx P h0 step
  rw [e]; exact fin r' s' p
theorem nx_then {f : F} {k : Env → S → F} {Q : Env → S → Prop} (P1 : Env → S → Prop) (h : ∀ Q : Env → S → Prop, (∀ r s, P1 r s → Q r s) → ∃ r s, f = .nx r s ∧ Q r s) (h2 : ∀ r s, P1 r s → Nx Q (k r s)) : Nx Q (f.andThen k) := by
  obtain ⟨r, s, rfl, p⟩ := h P1 fun _ _ h => h
  exact h2 r s p
@[simp] theorem ap_zPar3 {i j l : Nat} {a b c : E} {r : Env} {s : S} : zPar3 i j l a b c r s = (a r s).then r fun x s1 => (b r s1).then r fun y s2 => (c r s2).then r fun z s3 => if i < r.length ∧ j < r.length ∧ l < r.length then .nx (((r.set i x).set j y).set l z) s3 else .stk := rfl
theorem while_nx {c : T} {b : Sm} {r : Env} {s : S} {k : Env → S → F} {Q : Env → S → Prop} (P : Env → S → Prop) (Z : Env → S → Prop) (μ : Env → S → Nat) (h : P r s) (hm : μ r s < 1000000000000)
    (step : ∀ r s, P r s → ∃ k s1, c r s = .ok k s1 ∧ (k = false → Z r s1) ∧ (k = true → ∀ Q : Env → S → Prop, (∀ r2 s2, P r2 s2 → μ r2 s2 < μ r s → Q r2 s2) → Nx Q (b r s1)))
    (fin : ∀ r' s', Z r' s' → Nx Q (k r' s')) : Nx Q ((zWhile c b r s).andThen k) := by
  obtain ⟨r', s', e, z⟩ := zWhile_inv (c := c) (b := b) P Z μ (fun r s hp => by
    obtain ⟨k, s1, e, h1, h2⟩ := step r s hp
    exact ⟨k, s1, e, h1, fun hk => by
      obtain ⟨r2, s2, e2, p2, m2⟩ := h2 hk (fun r2 s2 => P r2 s2 ∧ μ r2 s2 < μ r s) fun _ _ a b => ⟨a, b⟩
      exact ⟨r2, s2, e2, p2, m2⟩⟩) h hm
  rw [e]; exact fin r' s' z
/-- a loop that counts up one number -/
theorem while_cnt {c : T} {b : Sm} (E : Int → Env) {s : S} (p : Int → Bool) {h0 hi : Int} (h01 : h0 ≤ hi) (hw : hi - h0 < 900000000000) (hend : p hi = false)
    (hc : ∀ h, h0 ≤ h → h ≤ hi → c (E h) s = .ok (p h) s) (hb : ∀ h, h0 ≤ h → h < hi → p h = true → b (E h) s = .nx (E (h + 1)) s) :
    ∃ m, h0 ≤ m ∧ m ≤ hi ∧ p m = false ∧ (∀ k, h0 ≤ k → k < m → p k = true) ∧ zWhile c b (E h0) s = .nx (E m) s := by
  have key : ∀ (n : Nat) (h : Int), h0 ≤ h → h ≤ hi → (hi - h).toNat < n → (∀ k, h0 ≤ k → k < h → p k = true) → ∃ m, h0 ≤ m ∧ m ≤ hi ∧ p m = false ∧ (∀ k, h0 ≤ k → k < m → p k = true) ∧ whileM c b n (E h) s = .nx (E m) s := by
    intro n
    induction n with
    | zero => intro h _ _ hn _; omega
    | succ n ih =>
      intro h a1 a2 a3 a4
      unfold whileM
      simp only [hc h a1 a2, then_ok]
      cases hp : p h with
      | false => exact ⟨h, a1, a2, hp, a4, by simp⟩
      | true =>
        have hne : h ≠ hi := by rintro rfl; rw [hend] at hp; cases hp
        obtain ⟨m, m1, m2, m3, m4, m5⟩ := ih (h + 1) (by omega) (by omega) (by omega) fun k k1 k2 => by
          by_cases hk : k = h
          · rw [hk]; exact hp
          · exact a4 k k1 (by omega)
        exact ⟨m, m1, m2, m3, m4, by simp [hb h a1 (by omega) hp, m5]⟩
  exact key FUEL h0 (Int.le_refl _) h01 (by have h1 := B1_fuel; have h2 := B01; have h3 := B0_big; omega) (fun k k1 k2 => by omega)
theorem while_cnt_nx {c : T} {b : Sm} (E : Int → Env) {s : S} (p : Int → Bool) {h0 hi : Int} {k : Env → S → F} {Q : Env → S → Prop} (h01 : h0 ≤ hi) (hw : hi - h0 < 900000000000) (hend : p hi = false)
    (hc : ∀ h, h0 ≤ h → h ≤ hi → c (E h) s = .ok (p h) s) (hb : ∀ h, h0 ≤ h → h < hi → p h = true → b (E h) s = .nx (E (h + 1)) s)
    (fin : ∀ m, h0 ≤ m → m ≤ hi → p m = false → (∀ k, h0 ≤ k → k < m → p k = true) → Nx Q (k (E m) s)) : Nx Q ((zWhile c b (E h0) s).andThen k) := by
  obtain ⟨m, m1, m2, m3, m4, e⟩ := while_cnt (c := c) (b := b) E p h01 hw hend hc hb
  rw [e]; exact fin m m1 m2 m3 m4
@[simp] theorem ap_eMe {ck : D → S → Bool} {p : PM} {a : E} {as : A} {r : Env} {s : S} : eMe ck p a as r s = (a r s).bind fun x s1 => if ck x s1 = true then (as r s1).bind fun xs s2 => p x xs s2 else .stk := rfl
@[simp] theorem ap_eMe0 {ck : D → S → Bool} {p : PM} {a : E} {r : Env} {s : S} : eMe0 ck p a r s = (a r s).bind fun x s1 => if ck x s1 = true then p x [] s1 else .stk := rfl
theorem callK_tup {f : Fn} {ds : List D} {s g : S} {xs : List D} (hp : D.pureL ds = true) (h : f ds [] = .ok (.tup xs) g) (hd : D.pureL xs = true) : callK f ds s = .ok (.tup xs) s := callK_val hp h (by show D.pureL xs = true; exact hd)
end Y

/-! YN: the defs that many laws share, and what they come to. -/
namespace YN
open Y
open PySem (Str PyData)
def b_fits_whole : Sm :=
  (zRet (eAnd (e1 (oIsI .int) (eV 0)) (eAnd (eNot (e1 (oIsI .bool) (eV 0))) (eCh oLe oLe (eV 1) (eV 0) (eV 2)))))
def D_fits_whole : Fn := mkFn 3 3 b_fits_whole
def b_need_whole : Sm :=
  (zIf (tNot (tst (eCallK 3 D_fits_whole (aC (eV 0) (aC (eV 1) (aC (eV 2) aN))))))
     (zRaise 1)
     zNil)
def D_need_whole : Fn := mkFn 3 3 b_need_whole
def b_root_in : Sm :=
  (zCons (zIf (tst (e2 oEq (eV 0) (eC (.int 0))))
     (zRet (eC (.int 0)))
     zNil)
    (zCons (zSet (gT (gsC (gV 1) (gsC (gV 2) gsN))) (eTup (aC (eC (.int 1)) (aC (eC (.int 1)) aN))))
    (zCons (zWhile (tst (e2 oLe (e2 oMul (eV 2) (eV 2)) (eV 0)))
     (zSet (gV 2) (e2 oMul (eC (.int 2)) (eV 2))))
    (zCons (zWhile (tst (e2 oGt (e2 oSub (eV 2) (eV 1)) (eC (.int 1))))
     (zCons (zSet (gV 3) (e2 oDiv (e2 oAdd (eV 1) (eV 2)) (eC (.int 2))))
    (zSet (gT (gsC (gV 1) (gsC (gV 2) gsN))) (eIf (tst (e2 oLe (e2 oMul (eV 3) (eV 3)) (eV 0))) (eTup (aC (eV 3) (aC (eV 2) aN))) (eTup (aC (eV 1) (aC (eV 3) aN)))))))
    (zRet (eV 1))))))
def D_root_in : Fn := mkFn 4 1 b_root_in
def b__law_cup (k1 k2 k3 k4 k5 : Int) : Sm :=
  (zCons (zSet (gV 1) (eN bAbs (aC (e2 oIx (e2 oAdd (eN bList (aC (eV 0) aN)) (eLst (aC (eC (.int 0)) aN))) (eC (.int 0))) aN)))
    (zRet (eLst (aC (eIf (tst (e2 oGe (eV 1) (e2 oPow (eC (.int 10)) (eC (.int 18))))) (e2 oDiv (eV 1) (eC (.int k1))) (eC (.int 0))) (aC (e2 oAdd (e2 oMod (eN bInt (aC (e2 oAdd (e2 oMul (eV 1) (eC (.int k2))) (eC (.int k3))) aN)) (eC (.int k4))) (eC (.int k5))) aN)))))
def D__law_cup (k1 k2 k3 k4 k5 : Int) : Fn := mkFn 2 1 (b__law_cup k1 k2 k3 k4 k5)
def b__law_roll (k1 k2 k3 k4 : Int) : Sm :=
  (zCons (zIf (tst (e2 oGt (e2 oIx (eV 0) (eC (.int 0))) (eC (.int 0))))
     (zCons (zSet (gV 2) (e2 oMod (eN bInt (aC (e2 oIx (eV 0) (eC (.int 0))) aN)) (eV 1)))
    (zCons (zPutL (eV 0) (eC (.int 0)) (e2 oDiv (e2 oIx (eV 0) (eC (.int 0))) (eV 1)))
    (zRet (eV 2))))
     zNil)
    (zCons (zPutL (eV 0) (eC (.int 1)) (e2 oMod (eN bInt (aC (e2 oAdd (e2 oMul (e2 oIx (eV 0) (eC (.int 1))) (eC (.int k1))) (eC (.int k2))) aN)) (eC (.int 2147483423))))
    (zCons (zSet (gV 3) (e2 oMod (eN bInt (aC (e2 oMul (e2 oIx (eV 0) (eC (.int 1))) (e2 oAdd (e2 oIx (eV 0) (eC (.int 1))) (eC (.int k3)))) aN)) (eC (.int 2147483587))))
    (zRet (e2 oMod (eN bInt (aC (e2 oDiv (eV 3) (eC (.int k4))) aN)) (eV 1))))))
def D__law_roll (k1 k2 k3 k4 : Int) : Fn := mkFn 4 2 (b__law_roll k1 k2 k3 k4)
def b__law_same (self : Fn) : Sm :=
  (zCons (zIf (tOr (tst (e1 (oIsI .tuple) (eV 1))) (tst (e1 (oIsI .list) (eV 1))))
     (zCons (zIf (tOr (tst (e2 oNe (e1 (oIsI .tuple) (eV 0)) (e1 (oIsI .tuple) (eV 1)))) (tOr (tst (e2 oNe (e1 (oIsI .list) (eV 0)) (e1 (oIsI .list) (eV 1)))) (tst (e2 oNe (eN bLen (aC (eV 0) aN)) (eN bLen (aC (eV 1) aN))))))
     (zRet (eC (.bl false)))
     zNil)
    (zRet (e2 oEq (eLc (iRng1 (eN bLen (aC (eV 1) aN))) (gV 2) (tNot (tst (eCallK 2 self (aC (e2 oIx (eV 0) (eV 2)) (aC (e2 oIx (eV 1) (eV 2)) aN))))) (eC (.int 1)) [2]) (eLst aN))))
     zNil)
    (zCons (zIf (tst (e1 oIsN (eV 1)))
     (zRet (e1 oIsN (eV 0)))
     zNil)
    (zCons (zIf (tst (e1 (oIsI .bool) (eV 1)))
     (zRet (eIf (tst (eV 1)) (e2 oIsB (eV 0) (eC (.bl true))) (e2 oIsB (eV 0) (eC (.bl false)))))
     zNil)
    (zCons (zIf (tst (e1 (oIsI .int) (eV 1)))
     (zRet (eAnd (e1 (oIsI .int) (eV 0)) (eAnd (eNot (e1 (oIsI .bool) (eV 0))) (e2 oEq (eN bInt (aC (eV 0) aN)) (eV 1)))))
     zNil)
    (zRet (eAnd (e1 (oIsI .str) (eV 0)) (e2 oEq (eN bStr (aC (eV 0) aN)) (eV 1))))))))
def D__law_same : Nat → Fn
  | 0 => fun _ _ => .stk
  | n + 1 => mkFn 3 2 (b__law_same (D__law_same n))

def b__law_power : Sm :=
  (zCons (zSet (gV 2) (eC (.int 1)))
    (zCons (zFor (iRng1 (eV 1)) (gV 3)
     (zSet (gV 2) (e2 oMul (eV 2) (eV 0))))
    (zRet (eV 2))))
def D__law_power : Fn := mkFn 4 2 b__law_power
def b_power_in : Sm :=
  (zCons (zSet (gV 2) (eC (.int 1)))
    (zCons (zFor (iRng1 (eV 1)) (gV 3)
     (zSet (gV 2) (e2 oMul (eV 2) (eV 0))))
    (zRet (eV 2))))
def D_power_in : Fn := mkFn 4 2 b_power_in
def b__law_root : Sm :=
  (zCons (zIf (tst (e2 oEq (eV 0) (eC (.int 0))))
     (zRet (eC (.int 0)))
     zNil)
    (zCons (zSet (gV 1) (eCallK 2 D__law_power (aC (eC (.int 2)) (aC (e2 oMul (eN bLen (aC (eN bStr (aC (eV 0) aN)) aN)) (eC (.int 2))) aN))))
    (zCons (zWhile (tst (e2 oGt (e2 oMul (eV 1) (eV 1)) (eV 0)))
     (zSet (gV 1) (eN bInt (aC (e2 oDiv (e2 oAdd (eV 1) (e2 oDiv (eV 0) (eV 1))) (eC (.int 2))) aN))))
    (zRet (eV 1)))))
def D__law_root : Fn := mkFn 2 1 b__law_root

/-! ### numbers -/
theorem fits_whole_ok {i lo hi : Int} {s : S} : D_fits_whole [.int i, .int lo, .int hi] s = .ok (.bl (decide (lo ≤ i ∧ i ≤ hi))) s := by
  unfold D_fits_whole
  rw [ap_mkFn (k := 3) (ds := [.int i, .int lo, .int hi]) rfl]
  unfold b_fits_whole
  by_cases h1 : lo ≤ i <;> by_cases h2 : i ≤ hi <;> simp [h1, h2]
theorem fits_whole_k {i lo hi : Int} {s : S} : callK D_fits_whole [.int i, .int lo, .int hi] s = .ok (.bl (decide (lo ≤ i ∧ i ≤ hi))) s := callK_val rfl fits_whole_ok rfl
theorem need_whole_k {i lo hi : Int} {s : S} (h1 : lo ≤ i) (h2 : i ≤ hi) : callK D_need_whole [.int i, .int lo, .int hi] s = .ok .non s := by
  refine callK_val rfl (g := []) ?_ rfl
  unfold D_need_whole
  rw [ap_mkFn (k := 3) (ds := [.int i, .int lo, .int hi]) rfl]
  unfold b_need_whole
  simp [fits_whole_k, h1, h2]
theorem pureL_mem {xs : List D} (h : D.pureL xs = true) : ∀ x ∈ xs, x.pure = true := pureL_all h
theorem set_same {α : Type} {s : List α} {a : Nat} {o : α} (h : s[a]? = some o) : s.set a o = s := by
  refine List.ext_getElem? fun k => ?_
  by_cases hk : a = k
  · subst hk; rw [List.getElem?_set_self (List.getElem?_eq_some_iff.mp h).1, h]
  · rw [List.getElem?_set_ne hk]
/-! ### draws -/
/-- the state of the draws -/
structure Cup (a b : Int) : Prop where
  a0 : 0 ≤ a
  b0 : 0 ≤ b
  b1 : b < 1099511627776
theorem roll_ok {k1 k2 k3 k4 a b m : Int} (h : Cup a b) (hm : 0 < m) (hm2 : m < 1000000000000) (g1 : 0 ≤ k1) (g2 : 0 ≤ k2) (g4 : 0 < k4 ∧ k4 < 1000000000) :
    ∃ r a' b', 0 ≤ r ∧ r < m ∧ Cup a' b' ∧ D__law_roll k1 k2 k3 k4 [.ref 0, .int m] [.lst [.int a, .int b]] = .ok (.int r) [.lst [.int a', .int b']] := by
  obtain ⟨a0, b0, b1⟩ := h
  unfold D__law_roll
  simp only [ap_mkFn (n := 4) (k := 2) (ds := [.ref 0, .int m]) rfl]
  unfold b__law_roll
  by_cases h1 : 0 < a
  · refine ⟨a % m, a / m, b, Int.emod_nonneg _ (by omega), Int.emod_lt_of_pos _ hm, ⟨Int.ediv_nonneg a0 (by omega), b0, b1⟩, ?_⟩
    simp [h1, v_modP hm, v_div64 hm (show m < 18446744073709551616 by omega), ixN]
  · have e1 : (0 : Int) ≤ b * k1 + k2 := Int.add_nonneg (Int.mul_nonneg b0 g1) g2
    have hb := Int.emod_nonneg (b * k1 + k2) (show (2147483423 : Int) ≠ 0 by decide)
    have hb2 := Int.emod_lt_of_pos (b * k1 + k2) (show (0 : Int) < 2147483423 by decide)
    generalize hb' : (b * k1 + k2) % 2147483423 = b' at hb hb2
    refine ⟨(b' * (b' + k3) % 2147483587 / k4) % m, a, b', Int.emod_nonneg _ (by omega), Int.emod_lt_of_pos _ hm, ⟨a0, hb, by omega⟩, ?_⟩
    simp [h1, v_mul64 (i := b) (by omega), v_mul64 (i := b') (by omega), v_modP, ixN, hb', v_div64 g4.1 (show k4 < 18446744073709551616 by omega), v_modP hm]
/-- a draw: the store's cup is turned on -/
theorem roll_k {k1 k2 k3 k4 a b m : Int} (h : Cup a b) (hm : 0 < m) (hm2 : m < 1000000000000) (g1 : 0 ≤ k1) (g2 : 0 ≤ k2) (g4 : 0 < k4 ∧ k4 < 1000000000) :
    ∃ r a' b', 0 ≤ r ∧ r < m ∧ Cup a' b' ∧ ∀ (n : Nat) (s : S), s[n]? = some (.lst [.int a, .int b]) → callK (D__law_roll k1 k2 k3 k4) [.ref n, .int m] s = .ok (.int r) (s.set n (.lst [.int a', .int b'])) := by
  obtain ⟨r, a', b', h1, h2, h3, h4⟩ := roll_ok (k3 := k3) h hm hm2 g1 g2 g4
  exact ⟨r, a', b', h1, h2, h3, fun n s hs => callK_ref rfl hs rfl h4 rfl rfl⟩
theorem ints_pure : ∀ ns : List Int, D.pureL (ns.map D.int) = true
  | [] => rfl
  | n :: ns => by
    show (D.pure (.int n) && D.pureL (ns.map D.int)) = true
    rw [ints_pure ns]; rfl
theorem cup_k {k1 k2 k3 k4 k5 : Int} (g1 : 0 < k1 ∧ k1 < 1000000000) (g2 : k2.natAbs < 1000000000) (g4 : 0 < k4 ∧ k4 < 100000000000) (g5 : 0 ≤ k5 ∧ k5 < 100000000000) (ns : List Int) (hl : ns.length ≤ 63) :
    ∃ a b, Cup a b ∧ ∀ s, callK (D__law_cup k1 k2 k3 k4 k5) [.frl (ns.map D.int)] s = .ok (.ref s.length) (s ++ [.lst [.int a, .int b]]) := by
  have hx : ∃ i, ((ns.map D.int) ++ [D.int 0])[0]? = some (.int i) := by
    cases ns with
    | nil => exact ⟨0, rfl⟩
    | cons n r => exact ⟨n, rfl⟩
  obtain ⟨i, hi⟩ := hx
  have ha : atD ((ns.map D.int) ++ [D.int 0]) 0 = some (.int i) := atD_nat (k := 0) hi
  have hc : (0 : Int) ≤ if i < 0 then -i else i := by split <;> omega
  generalize hcell : (if i < 0 then -i else i) = cell at hc
  refine ⟨if (1000000000000000000 : Int) ≤ cell then cell / k1 else 0, (cell * k2 + k3) % k4 + k5, ⟨?_, ?_, ?_⟩, fun s => ?_⟩
  · split
    · exact Int.ediv_nonneg hc (by omega)
    · omega
  · have := Int.emod_nonneg (cell * k2 + k3) (show k4 ≠ 0 by omega); omega
  · have := Int.emod_lt_of_pos (cell * k2 + k3) g4.1; omega
  · refine callK_new (g := [.lst (ns.map D.int), .lst [.int 0], .lst (ns.map D.int ++ [.int 0]), .lst [.int (if (1000000000000000000 : Int) ≤ cell then cell / k1 else 0), .int ((cell * k2 + k3) % k4 + k5)]]) (j := 3) ?_ ?_ rfl rfl
    · show (D.pure (.frl (ns.map D.int)) && true) = true
      rw [Bool.and_true]; exact ints_pure ns
    · unfold D__law_cup
      rw [ap_mkFn (n := 2) (k := 1) (ds := [.frl (ns.map D.int)]) rfl]
      unfold b__law_cup
      have hadd : oAdd (.ref 0) (.ref 1) [.lst (ns.map D.int), .lst [.int 0]] = .ok (.ref 2) [.lst (ns.map D.int), .lst [.int 0], .lst (ns.map D.int ++ [.int 0])] := by
        unfold oAdd
        simp
        unfold LINE; omega
      have hpow : oPow (.int 10) (.int 18) = fun s => .ok (.int 1000000000000000000) s := rfl
      by_cases hge : (1000000000000000000 : Int) ≤ cell
      · simp [hadd, ha, hcell, hpow, hge, v_mul64r (j := k2) (by omega), v_modP g4.1, v_div64 g1.1 (show k1 < 18446744073709551616 by omega)]
      · simp [hadd, ha, hcell, hpow, hge, v_mul64r (j := k2) (by omega), v_modP g4.1, v_div64 g1.1 (show k1 < 18446744073709551616 by omega)]
/-- a def that draws -/
def RollOk (f : Fn) : Prop := ∀ {a b m : Int}, Cup a b → 0 < m → m < 1000000000000 → ∃ r a' b', 0 ≤ r ∧ r < m ∧ Cup a' b' ∧ ∀ (n : Nat) (s : S), s[n]? = some (.lst [.int a, .int b]) → callK f [.ref n, .int m] s = .ok (.int r) (s.set n (.lst [.int a', .int b']))
theorem rollOk {k1 k2 k3 k4 : Int} (g1 : 0 ≤ k1) (g2 : 0 ≤ k2) (g4 : 0 < k4 ∧ k4 < 1000000000) : RollOk (D__law_roll k1 k2 k3 k4) := fun h hm hm2 => roll_k h hm hm2 g1 g2 g4
def b_someG (roll : Fn) : Sm := (zRet (e2 oIx (eV 1) (eCallK 2 roll (aC (eV 0) (aC (eN bLen (aC (eV 1) aN)) aN)))))
def D_someG (roll : Fn) : Fn := mkFn 2 2 (b_someG roll)
theorem some_run {f : Fn} (R : RollOk f) {a b : Int} (h : Cup a b) {xs : List D} (h0 : 0 < xs.length) (h1 : xs.length < 1000000) {d : D} {s0 : List O} (hl : ∀ o, seqX d (o :: s0) = some xs) (hd : d ≠ .undef) (hd2 : ∀ o, bLen [d] (o :: s0) = .ok (.int xs.length) (o :: s0)) :
    ∃ k a' b', ∃ (hk : k < xs.length), Cup a' b' ∧ D_someG f [.ref 0, d] (.lst [.int a, .int b] :: s0) = .ok xs[k] (.lst [.int a', .int b'] :: s0) := by
  obtain ⟨r, a', b', r0, r1, hc, hr⟩ := R h (show (0 : Int) < (xs.length : Int) by omega) (by omega)
  refine ⟨r.toNat, a', b', by omega, hc, ?_⟩
  unfold D_someG
  rw [ap_mkFn (k := 2) (ds := [.ref 0, d]) rfl]
  unfold b_someG
  have e := hr 0 (.lst [.int a, .int b] :: s0) rfl
  have e2 : atD xs r = some xs[r.toNat] := by
    have := atD_nat (List.getElem?_eq_getElem (show r.toNat < xs.length by omega))
    rwa [Int.toNat_of_nonneg r0] at this
  simp [eV_any hd, hd2, e, ix_seq, hl, e2]
/-- one of a tuple -/
theorem some_tup {f : Fn} (R : RollOk f) {a b : Int} (h : Cup a b) {xs : List D} (h0 : 0 < xs.length) (h1 : xs.length < 1000000) (hp : D.pureL xs = true) :
    ∃ k a' b', ∃ (hk : k < xs.length), Cup a' b' ∧ ∀ (n : Nat) (s : S), s[n]? = some (.lst [.int a, .int b]) → callK (D_someG f) [.ref n, .tup xs] s = .ok xs[k] (s.set n (.lst [.int a', .int b'])) := by
  obtain ⟨k, a', b', hk, hc, e⟩ := some_run R h h0 h1 (d := .tup xs) (s0 := []) (fun _ => rfl) (by simp) (fun _ => rfl)
  exact ⟨k, a', b', hk, hc, fun n s hs => callK_ref (by show (D.pure (.tup xs) && true) = true; rw [Bool.and_true]; exact hp) hs rfl e rfl (pureL_mem hp _ (List.getElem_mem hk))⟩
/-- one of a list -/
theorem some_lst {f : Fn} (R : RollOk f) {a b : Int} (h : Cup a b) {xs : List D} (h0 : 0 < xs.length) (h1 : xs.length < 1000000) (hp : D.pureL xs = true) :
    ∃ k a' b', ∃ (hk : k < xs.length), Cup a' b' ∧ ∀ (n m : Nat) (s : S), n ≠ m → s[n]? = some (.lst [.int a, .int b]) → s[m]? = some (.lst xs) → callK (D_someG f) [.ref n, .ref m] s = .ok xs[k] (s.set n (.lst [.int a', .int b'])) := by
  obtain ⟨k, a', b', hk, hc, e⟩ := some_run R h h0 h1 (d := .ref 1) (s0 := [.lst xs]) (fun o => by simp) (by simp) (fun o => by simp)
  refine ⟨k, a', b', hk, hc, fun n m s hnm hs hm => ?_⟩
  have px := pureL_mem hp _ (List.getElem_mem hk)
  have pu : (O.lst xs).pure = true := hp
  have p1 : (O.lst [.int a, .int b]).pure = true := rfl
  have p2 : (O.lst [.int a', .int b']).pure = true := rfl
  have hm' : (s.set n (.lst [.int a', .int b']))[m]? = some (.lst xs) := by rw [List.getElem?_set_ne hnm]; exact hm
  unfold callK
  simp only [refsOf, renum, nodupN, List.contains_cons, List.contains_nil, Bool.or_false, Bool.not_false, Bool.and_true, beq_eq_false_iff_ne.mpr hnm, List.all_cons, List.all_nil, argOk, and_self, if_true, getAll, hs, hm, pu, p1, e, List.length_cons, List.length_nil, List.take_succ_cons, List.take_zero, p2, putAll, set_same hm', Bool.true_and]
  generalize xs[k] = y at px
  cases y <;> first | (simp only [px, if_true]; done) | (simp only [D.pure] at px; exact absurd px Bool.false_ne_true) | simp [D.pure]
/-! ### two plain values alike -/
mutual
/-- a value that is compared with itself: tuples, numbers, texts, to a depth -/
def dep : D → Nat
  | .tup xs => depL xs + 1
  | _ => 0
def depL : List D → Nat
  | [] => 0
  | x :: xs => max (dep x) (depL xs)
end
mutual
def plainD : D → Bool
  | .non => true
  | .bl _ => true
  | .int _ => true
  | .tup xs => plainL xs && decide (xs.length ≤ 1000000)
  | _ => false
def plainL : List D → Bool
  | [] => true
  | x :: xs => plainD x && plainL xs
end
theorem plainL_mem : ∀ {xs : List D}, plainL xs = true → ∀ x ∈ xs, plainD x = true
  | [], _, _, h => by cases h
  | y :: xs, h, x, hx => by
    unfold plainL at h
    rw [Bool.and_eq_true] at h
    rcases List.mem_cons.mp hx with e | e
    · rw [e]; exact h.1
    · exact plainL_mem h.2 x e
mutual
theorem plain_pure : ∀ {d : D}, plainD d = true → d.pure = true
  | .non, _ => rfl
  | .bl _, _ => rfl
  | .int _, _ => rfl
  | .tup xs, h => by
    unfold plainD at h
    rw [Bool.and_eq_true] at h
    exact plainL_pure h.1
  | .undef, h => h
  | .str _, h => absurd h (by unfold plainD; exact Bool.false_ne_true)
  | .ref _, h => h
  | .fn _, h => absurd h (by unfold plainD; exact Bool.false_ne_true)
  | .frl _, h => absurd h (by unfold plainD; exact Bool.false_ne_true)
theorem plainL_pure : ∀ {ds : List D}, plainL ds = true → D.pureL ds = true
  | [], _ => rfl
  | d :: ds, h => by
    unfold plainL at h
    rw [Bool.and_eq_true] at h
    show (d.pure && D.pureL ds) = true
    rw [plain_pure h.1, plainL_pure h.2]; rfl
end
theorem depL_mem : ∀ {xs : List D}, ∀ x ∈ xs, dep x ≤ depL xs
  | [], _, h => by cases h
  | y :: xs, x, hx => by
    unfold depL
    rcases List.mem_cons.mp hx with e | e
    · rw [e]; exact Nat.le_max_left _ _
    · exact Nat.le_trans (depL_mem x e) (Nat.le_max_right _ _)
theorem plain_ne {d : D} (h : plainD d = true) : d ≠ .undef := by
  rintro rfl
  exact absurd h (by unfold plainD; exact Bool.false_ne_true)
@[simp] theorem eq_nil2 {s : S} {a b : Nat} (h1 : s[a]? = some (.lst [])) (h2 : s[b]? = some (.lst [])) : oEq (.ref a) (.ref b) s = .ok (.bl true) s := by
  unfold oEq eqD
  simp [D.py, h1, h2, mapO, PySem.SeqAt.shaped, PyData.canLay0, PyData.canLayAll0, PyData.depth, PyData.depthAll, PyData.eqv, PyData.eqvAll]
@[simp] theorem v_neB {a b : Bool} {s : S} : oNe (.bl a) (.bl b) s = .ok (.bl (a != b)) s := by
  unfold oNe eqD
  simp [D.py, PySem.SeqAt.shaped, PyData.canLay0, PyData.depth, PyData.eqv]
  cases a <;> cases b <;> rfl
theorem lt_of_get {xs : List D} {k : Nat} {x : D} (h : xs[k]? = some x) : k < xs.length := (List.getElem?_eq_some_iff.mp h).1
/-- items at places -/
theorem same_items {self : Fn} {told due : D} {xs : List D} {s : S} (hlen : xs.length ≤ 1000000) (hl : bLen [due] s = .ok (.int xs.length) s) (ht : ∀ acc, seqX told (s ++ [.lst acc]) = some xs) (hd : ∀ acc, seqX due (s ++ [.lst acc]) = some xs) (nt : told ≠ .undef) (nd : due ≠ .undef)
    (h : ∀ x ∈ xs, ∀ s, callK self [x, x] s = .ok (.bl true) s) :
    eLc (iRng1 (eN bLen (aC (eV 1) aN))) (gV 2) (tNot (tst (eCallK 2 self (aC (e2 oIx (eV 0) (eV 2)) (aC (e2 oIx (eV 1) (eV 2)) aN))))) (eC (.int 1)) [2] [told, due, .undef] s = .ok (.ref s.length) (s ++ [.lst []]) := by
  have hit : iRng1 (eN bLen (aC (eV 1) aN)) [told, due, .undef] s = .ok (.items (range2 0 xs.length)) s := ap_iRng1 (by simp [eV_any nd, hl]) (by omega)
  rw [eLc_items (xs := range2 0 xs.length) hit (fun x => [told, due, x]) (fun _ => false) (fun _ => .int 1) (fun x hx acc => ?_) (by rw [range2_len]; omega)]
  · simp
  · obtain ⟨k, hk⟩ := List.getElem?_of_mem hx
    obtain ⟨rfl, hk2⟩ := range2_get hk
    have hk3 : k < xs.length := by omega
    have e : atD xs (k : Int) = some xs[k] := atD_nat (List.getElem?_eq_getElem hk3)
    refine ⟨by simp [wipeD], ?_, fun q => by cases q⟩
    simp [eV_any nt, eV_any nd, ix_seq, ht, hd, e, h xs[k] (List.getElem_mem hk3)]
theorem same_n : ∀ (n : Nat) (d : D) (s : S), plainD d = true → dep d ≤ n → ∃ g, D__law_same (n + 1) [d, d] s = .ok (.bl true) g := by
  intro n
  induction n with
  | zero =>
    intro d s hp hd
    show ∃ g, mkFn 3 2 (b__law_same (D__law_same 0)) [d, d] s = _
    rw [ap_mkFn (k := 2) (ds := [d, d]) rfl]
    unfold b__law_same
    cases d with
    | non => exact ⟨s, by simp⟩
    | bl b => cases b <;> exact ⟨s, by simp [oIsB]⟩
    | int i => exact ⟨s, by simp⟩
    | tup xs => unfold dep at hd; omega
    | _ => exact absurd hp (by unfold plainD; exact Bool.false_ne_true)
  | succ n ih =>
    intro d s hp hd
    show ∃ g, mkFn 3 2 (b__law_same (D__law_same (n + 1))) [d, d] s = _
    rw [ap_mkFn (k := 2) (ds := [d, d]) rfl]
    unfold b__law_same
    cases d with
    | non => exact ⟨s, by simp⟩
    | bl b => cases b <;> exact ⟨s, by simp [oIsB]⟩
    | int i => exact ⟨s, by simp⟩
    | tup xs =>
      unfold plainD at hp
      rw [Bool.and_eq_true] at hp
      have hlen : xs.length ≤ 1000000 := of_decide_eq_true hp.2
      unfold dep at hd
      have hx : ∀ x ∈ xs, ∀ s, callK (D__law_same (n + 1)) [x, x] s = .ok (.bl true) s := fun x hx s => by
        have px := plainL_mem hp.1 x hx
        obtain ⟨g, hg⟩ := ih x [] px (by have := depL_mem x hx; omega)
        refine callK_val ?_ hg rfl
        show (x.pure && (x.pure && true)) = true
        rw [plain_pure px]; rfl
      have key := same_items (self := D__law_same (n + 1)) (told := .tup xs) (due := .tup xs) (xs := xs) (s := s) hlen rfl (fun _ => rfl) (fun _ => rfl) (by simp) (by simp) hx
      refine ⟨s ++ [.lst []] ++ [.lst []], ?_⟩
      simp [key]
    | _ => exact absurd hp (by unfold plainD; exact Bool.false_ne_true)
/-- one value twice -/
theorem same_k {n : Nat} {d : D} {s : S} (hp : plainD d = true) (hd : dep d ≤ n) : callK (D__law_same (n + 1)) [d, d] s = .ok (.bl true) s := by
  obtain ⟨g, hg⟩ := same_n n d [] hp hd
  refine callK_val ?_ hg rfl
  show (d.pure && (d.pure && true)) = true
  rw [plain_pure hp]; rfl
/-- two lists of the same -/
theorem same_list {n : Nat} {xs : List D} {s : S} {a b : Nat} (hab : a ≠ b) (ha : s[a]? = some (.lst xs)) (hb : s[b]? = some (.lst xs)) (hl : xs.length ≤ 1000000) (hp : plainL xs = true) (hd : depL xs ≤ n) : callK (D__law_same (n + 2)) [.ref a, .ref b] s = .ok (.bl true) s := by
  have hx : ∀ x ∈ xs, ∀ s, callK (D__law_same (n + 1)) [x, x] s = .ok (.bl true) s := fun x hx s => same_k (plainL_mem hp x hx) (by have := depL_mem x hx; omega)
  have key := same_items (self := D__law_same (n + 1)) (told := .ref 0) (due := .ref 1) (xs := xs) (s := [.lst xs, .lst xs]) hl (by simp) (fun _ => by simp) (fun _ => by simp) (by simp) (by simp) hx
  have run : D__law_same (n + 2) [.ref 0, .ref 1] [.lst xs, .lst xs] = .ok (.bl true) [.lst xs, .lst xs, .lst [], .lst []] := by
    show mkFn 3 2 (b__law_same (D__law_same (n + 1))) [.ref 0, .ref 1] _ = _
    rw [ap_mkFn (k := 2) (ds := [.ref 0, .ref 1]) rfl]
    unfold b__law_same
    simp [key, oIsI, isTy]
  have pu : (O.lst xs).pure = true := plainL_pure hp
  unfold callK
  simp [refsOf, renum, argOk, nodupN, hab, getAll, ha, hb, pu, run, putAll, D.pure]
  rw [set_same ha, set_same hb]
/-! ### plain values compared -/
mutual
def pyP : D → PyData
  | .bl b => .bool b
  | .int i => .int i
  | .tup xs => .tuple (pyPL xs)
  | _ => .none
def pyPL : List D → List PyData
  | [] => []
  | x :: xs => pyP x :: pyPL xs
end
theorem mapO_plain {s : S} {k : Nat} (h : ∀ d, plainD d = true → dep d ≤ k → D.py s k d = some (pyP d)) : ∀ xs : List D, plainL xs = true → depL xs ≤ k → mapO (D.py s k) xs = some (pyPL xs)
  | [], _, _ => rfl
  | x :: xs, hp, hd => by
    unfold plainL at hp
    rw [Bool.and_eq_true] at hp
    unfold depL at hd
    unfold mapO
    rw [h x hp.1 (by omega), mapO_plain h xs hp.2 (by omega)]
    rfl
theorem py_plain {s : S} : ∀ (k : Nat) (d : D), plainD d = true → dep d ≤ k → D.py s k d = some (pyP d)
  | 0, d, hp, hd => by
    cases d with
    | non => rfl
    | bl b => rfl
    | int i => rfl
    | tup xs => unfold dep at hd; omega
    | _ => exact absurd hp (by unfold plainD; exact Bool.false_ne_true)
  | k + 1, d, hp, hd => by
    cases d with
    | non => rfl
    | bl b => rfl
    | int i => rfl
    | tup xs =>
      unfold plainD at hp
      rw [Bool.and_eq_true] at hp
      unfold dep at hd
      show (mapO (D.py s k) xs).map PyData.tuple = _
      rw [mapO_plain (fun d => py_plain k d) xs hp.1 (by omega)]
      rfl
    | _ => exact absurd hp (by unfold plainD; exact Bool.false_ne_true)
mutual
theorem lay_plain : ∀ d : D, plainD d = true → (pyP d).canLay0 = true ∧ (pyP d).depth = dep d
  | .non, _ => ⟨rfl, rfl⟩
  | .bl _, _ => ⟨rfl, rfl⟩
  | .int _, _ => ⟨rfl, rfl⟩
  | .tup xs, h => by
    unfold plainD at h
    rw [Bool.and_eq_true] at h
    obtain ⟨h1, h2⟩ := layL_plain xs h.1
    refine ⟨?_, ?_⟩
    · show PyData.canLayAll0 (pyPL xs) = true
      exact h1
    · show PyData.depthAll (pyPL xs) + 1 = depL xs + 1
      rw [h2]
  | .undef, h => absurd h (by unfold plainD; exact Bool.false_ne_true)
  | .str _, h => absurd h (by unfold plainD; exact Bool.false_ne_true)
  | .ref _, h => absurd h (by unfold plainD; exact Bool.false_ne_true)
  | .fn _, h => absurd h (by unfold plainD; exact Bool.false_ne_true)
  | .frl _, h => absurd h (by unfold plainD; exact Bool.false_ne_true)
theorem layL_plain : ∀ xs : List D, plainL xs = true → PyData.canLayAll0 (pyPL xs) = true ∧ PyData.depthAll (pyPL xs) = depL xs
  | [], _ => ⟨rfl, rfl⟩
  | x :: xs, h => by
    unfold plainL at h
    rw [Bool.and_eq_true] at h
    obtain ⟨a1, a2⟩ := lay_plain x h.1
    obtain ⟨b1, b2⟩ := layL_plain xs h.2
    refine ⟨?_, ?_⟩
    · show ((pyP x).canLay0 && PyData.canLayAll0 (pyPL xs)) = true
      rw [a1, b1]; rfl
    · show max (pyP x).depth (PyData.depthAll (pyPL xs)) = max (dep x) (depL xs)
      rw [a2, b2]
end
theorem shaped_plain {d : D} (h : plainD d = true) (hd : dep d ≤ 64) : PySem.SeqAt.shaped (pyP d) = true := by
  obtain ⟨a, b⟩ := lay_plain d h
  unfold PySem.SeqAt.shaped
  rw [a, b]
  simpa using hd
theorem eq_plain {x y : D} {s : S} (hx : plainD x = true) (hy : plainD y = true) (dx : dep x ≤ 20) (dy : dep y ≤ 20) : oEq x y s = .ok (.bl (PyData.eqv (pyP x) (pyP y))) s := by
  unfold oEq eqD
  rw [py_plain 20 x hx dx, py_plain 20 y hy dy]
  simp [shaped_plain hx (by omega), shaped_plain hy (by omega)]
theorem ne_plain {x y : D} {s : S} (hx : plainD x = true) (hy : plainD y = true) (dx : dep x ≤ 20) (dy : dep y ≤ 20) : oNe x y s = .ok (.bl (!PyData.eqv (pyP x) (pyP y))) s := by
  unfold oNe eqD
  rw [py_plain 20 x hx dx, py_plain 20 y hy dy]
  simp [shaped_plain hx (by omega), shaped_plain hy (by omega)]
theorem py_lst {s : S} {a : Nat} {xs : List D} (ha : s[a]? = some (.lst xs)) (hp : plainL xs = true) (hd : depL xs ≤ 19) : D.py s 20 (.ref a) = some (.list (pyPL xs)) ∧ PySem.SeqAt.shaped (.list (pyPL xs)) = true := by
  obtain ⟨b1, b2⟩ := layL_plain xs hp
  refine ⟨?_, ?_⟩
  · show (match s[a]? with
      | some (.lst xs) => (mapO (D.py s 19) xs).map PyData.list
      | _ => none) = _
    rw [ha]
    simp only
    rw [mapO_plain (fun d => py_plain 19 d) xs hp hd]
    rfl
  · unfold PySem.SeqAt.shaped
    show (PyData.canLayAll0 (pyPL xs) && decide (PyData.depthAll (pyPL xs) + 1 ≤ 64)) = true
    rw [b1, b2]
    simp; omega
theorem eq_lists {s : S} {a b : Nat} {xs ys : List D} (ha : s[a]? = some (.lst xs)) (hb : s[b]? = some (.lst ys)) (hp : plainL xs = true) (hq : plainL ys = true) (hd : depL xs ≤ 19) (he : depL ys ≤ 19) :
    oEq (.ref a) (.ref b) s = .ok (.bl (PyData.eqvAll (pyPL xs) (pyPL ys))) s := by
  obtain ⟨a1, a2⟩ := py_lst ha hp hd
  obtain ⟨b1, b2⟩ := py_lst hb hq he
  unfold oEq eqD
  rw [a1, b1]
  simp [a2, b2, PyData.eqv]
theorem ne_lists {s : S} {a b : Nat} {xs ys : List D} (ha : s[a]? = some (.lst xs)) (hb : s[b]? = some (.lst ys)) (hp : plainL xs = true) (hq : plainL ys = true) (hd : depL xs ≤ 19) (he : depL ys ≤ 19) :
    oNe (.ref a) (.ref b) s = .ok (.bl (!PyData.eqvAll (pyPL xs) (pyPL ys))) s := by
  obtain ⟨a1, a2⟩ := py_lst ha hp hd
  obtain ⟨b1, b2⟩ := py_lst hb hq he
  unfold oNe eqD
  rw [a1, b1]
  simp [a2, b2, PyData.eqv]
@[simp] theorem eqvAll_nil (xs : List D) : PyData.eqvAll (pyPL xs) [] = xs.isEmpty := by cases xs <;> rfl
@[simp] theorem eqvAll_00 : PyData.eqvAll [] [] = true := rfl
@[simp] theorem eqvAll_c0 (x : PyData) (xs : List PyData) : PyData.eqvAll (x :: xs) [] = false := rfl
@[simp] theorem pyPL_nil : pyPL [] = [] := rfl
@[simp] theorem pyPL_cons (x : D) (xs : List D) : pyPL (x :: xs) = pyP x :: pyPL xs := rfl
/-! ### whole roots -/
def isqN : Nat → Nat
  | 0 => 0
  | n + 1 => if (isqN n + 1) * (isqN n + 1) ≤ n + 1 then isqN n + 1 else isqN n
theorem isqN_spec : ∀ n : Nat, isqN n * isqN n ≤ n ∧ n < (isqN n + 1) * (isqN n + 1)
  | 0 => by simp [isqN]
  | n + 1 => by
    obtain ⟨h1, h2⟩ := isqN_spec n
    unfold isqN
    split
    · rename_i h
      refine ⟨h, ?_⟩
      have : (isqN n + 1 + 1) * (isqN n + 1 + 1) = (isqN n + 1) * (isqN n + 1) + 2 * (isqN n + 1) + 1 := by
        generalize isqN n + 1 = k
        rw [Nat.add_mul, Nat.mul_add]; omega
      omega
    · omega
def isq (n : Int) : Int := isqN n.toNat
theorem isq_spec {n : Int} (h : 0 ≤ n) : 0 ≤ isq n ∧ isq n * isq n ≤ n ∧ n < (isq n + 1) * (isq n + 1) := by
  obtain ⟨h1, h2⟩ := isqN_spec n.toNat
  unfold isq
  refine ⟨by omega, ?_, ?_⟩
  · have : ((isqN n.toNat * isqN n.toNat : Nat) : Int) ≤ (n.toNat : Int) := by exact_mod_cast h1
    rw [Int.natCast_mul] at this; omega
  · have : (n.toNat : Int) < (((isqN n.toNat + 1) * (isqN n.toNat + 1) : Nat) : Int) := by exact_mod_cast h2
    rw [Int.natCast_mul] at this; push_cast at this; omega
theorem sq_lt {a b : Int} (ha : 0 ≤ a) (hb : 0 ≤ b) (h : a * a < b * b) : a < b := by
  by_cases hlt : a < b
  · exact hlt
  · exact absurd (Int.mul_le_mul (show b ≤ a by omega) (show b ≤ a by omega) hb ha) (by omega)
theorem isq_eq {n r : Int} (h0 : 0 ≤ r) (h1 : r * r ≤ n) (h2 : n < (r + 1) * (r + 1)) : isq n = r := by
  have hn : 0 ≤ n := Int.le_trans (Int.mul_nonneg h0 h0) h1
  obtain ⟨a, b, c⟩ := isq_spec hn
  have l1 := sq_lt h0 (show 0 ≤ isq n + 1 by omega) (by omega)
  have l2 := sq_lt a (show 0 ≤ r + 1 by omega) (by omega)
  omega
theorem isq_sq {r : Int} (h0 : 0 ≤ r) : isq (r * r) = r := isq_eq h0 (Int.le_refl _) (by
  have : (r + 1) * (r + 1) = r * r + 2 * r + 1 := by rw [Int.add_mul, Int.mul_add]; omega
  omega)
theorem root_in_ok {n : Int} {s : S} (h : 0 ≤ n) (hb : n < B0) : ∃ g, D_root_in [.int n] s = .ok (.int (isq n)) g := by
  unfold D_root_in
  rw [ap_mkFn (k := 1) (ds := [.int n]) rfl]
  unfold b_root_in
  by_cases h0 : n = 0
  · subst h0
    exact ⟨s, by simp [show isq 0 = 0 from rfl]⟩
  · have b01 := B01
    -- the first loop: some power of two lies above
    obtain ⟨r1, s1, e1, hi, hz, hq, rfl, rfl⟩ := zWhile_invB (c := tst (e2 oLe (e2 oMul (eV 2) (eV 2)) (eV 0))) (b := zSet (gV 2) (e2 oMul (eC (.int 2)) (eV 2)))
      (fun r t => ∃ hi : Int, 1 ≤ hi ∧ hi ≤ 2 * n ∧ r = [.int n, .int 1, .int hi, .undef] ∧ t = s) (fun r t => ∃ hi : Int, (1 ≤ hi ∧ hi ≤ 2 * n) ∧ n < hi * hi ∧ r = [.int n, .int 1, .int hi, .undef] ∧ t = s)
      (fun r _ => match r with | [_, _, .int hi, _] => (2 * n + 1 - hi).toNat | _ => 0) (by
        rintro r t ⟨hi, h1, h2, rfl, rfl⟩
        have m1 := mul_big (i := hi) (j := hi) (s := t) (by omega) (by omega)
        refine ⟨decide (hi * hi ≤ n), t, by simp [m1], fun q => ⟨hi, ⟨h1, h2⟩, by simpa using q, rfl, rfl⟩, fun q => ?_⟩
        have q : hi * hi ≤ n := by simpa using q
        have hle : hi ≤ n := Int.le_trans (by have := Int.mul_le_mul_of_nonneg_left h1 (show 0 ≤ hi by omega); omega) q
        refine ⟨[.int n, .int 1, .int (2 * hi), .undef], t, .inl (by simp [v_mul64 (i := 2) (by decide)]), ⟨2 * hi, by omega, by omega, rfl, rfl⟩, ?_⟩
        show (2 * n + 1 - 2 * hi).toNat < (2 * n + 1 - hi).toNat
        omega) (r := [.int n, .int 1, .int 1, .undef]) (s := s) ⟨1, by omega, by omega, rfl, rfl⟩ (by
        show (2 * n + 1 - 1).toNat < B1
        omega)
    -- the second loop: both come together
    obtain ⟨r2, s2, e2, lo, h3, h4, h5, ⟨hi2, md, rfl⟩, rfl⟩ := zWhile_invB (c := tst (e2 oGt (e2 oSub (eV 2) (eV 1)) (eC (.int 1))))
      (b := zCons (zSet (gV 3) (e2 oDiv (e2 oAdd (eV 1) (eV 2)) (eC (.int 2)))) (zSet (gT (gsC (gV 1) (gsC (gV 2) gsN))) (eIf (tst (e2 oLe (e2 oMul (eV 3) (eV 3)) (eV 0))) (eTup (aC (eV 3) (aC (eV 2) aN))) (eTup (aC (eV 1) (aC (eV 3) aN))))))
      (fun r t => ∃ lo hi : Int, 0 ≤ lo ∧ lo < hi ∧ hi ≤ 2 * n ∧ lo * lo ≤ n ∧ n < hi * hi ∧ (∃ md, r = [.int n, .int lo, .int hi, md]) ∧ t = s1)
      (fun r t => ∃ lo : Int, 0 ≤ lo ∧ lo * lo ≤ n ∧ n < (lo + 1) * (lo + 1) ∧ (∃ hi md, r = [.int n, .int lo, hi, md]) ∧ t = s1)
      (fun r _ => match r with | [_, .int lo, .int hi, _] => (hi - lo).toNat | _ => 0) (by
        rintro r t ⟨lo, hi, h1, h2, h3, h4, h5, ⟨md, rfl⟩, rfl⟩
        refine ⟨decide (1 < hi - lo), t, by simp, fun q => ?_, fun q => ?_⟩
        · have q : ¬ 1 < hi - lo := by simpa using q
          have e : hi = lo + 1 := by omega
          subst e
          exact ⟨lo, h1, h4, h5, ⟨_, _, rfl⟩, rfl⟩
        · have q : 1 < hi - lo := by simpa using q
          have m1 := mul_big (i := (lo + hi) / 2) (j := (lo + hi) / 2) (s := t) (by omega) (by omega)
          have d1 := v_div64 (i := lo + hi) (j := 2) (s := t) (by decide) (by decide)
          by_cases hm : (lo + hi) / 2 * ((lo + hi) / 2) ≤ n
          · refine ⟨[.int n, .int ((lo + hi) / 2), .int hi, .int ((lo + hi) / 2)], t, .inl (by simp [m1, d1, hm]), ⟨(lo + hi) / 2, hi, by omega, by omega, h3, hm, h5, ⟨_, rfl⟩, rfl⟩, ?_⟩
            show (hi - (lo + hi) / 2).toNat < (hi - lo).toNat
            omega
          · refine ⟨[.int n, .int lo, .int ((lo + hi) / 2), .int ((lo + hi) / 2)], t, .inl (by simp [m1, d1, hm]), ⟨lo, (lo + hi) / 2, by omega, by omega, by omega, h4, by omega, ⟨_, rfl⟩, rfl⟩, ?_⟩
            show ((lo + hi) / 2 - lo).toNat < (hi - lo).toNat
            omega) (r := [.int n, .int 1, .int hi, .undef]) (s := s1) (by
        by_cases h1 : hi = 1
        · subst h1; omega
        · exact ⟨1, hi, by omega, by omega, by omega, by omega, hq, ⟨_, rfl⟩, rfl⟩) (by
        show (hi - 1).toNat < B1
        omega)
    refine ⟨s2, ?_⟩
    simp [h0, e1, e2, isq_eq h3 h4 h5]
theorem root_in_k {n : Int} {s : S} (h : 0 ≤ n) (hb : n < B0) : callK D_root_in [.int n] s = .ok (.int (isq n)) s := by
  obtain ⟨g, hg⟩ := root_in_ok (s := []) h hb
  exact callK_val rfl hg rfl
/-! ### powers -/
theorem power_ok {b : Int} {k : Int} {s : S} (hb : b.natAbs < 18446744073709551616) (h0 : 0 ≤ k) (hk : k < 4611686018427387904) : D_power_in [.int b, .int k] s = .ok (.int (b ^ k.toNat)) s := by
  unfold D_power_in
  rw [ap_mkFn (k := 2) (ds := [.int b, .int k]) rfl]
  unfold b_power_in
  obtain ⟨r', s', e, x, rfl, rfl⟩ := forM_inv (g := gV 3) (b := zSet (gV 2) (e2 oMul (eV 2) (eV 0))) (fun i r t => ∃ x, r = [.int b, .int k, .int (b ^ i), x] ∧ t = s) (range2 0 k) 0 [.int b, .int k, .int 1, .undef] s ⟨.undef, by simp, rfl⟩ (by
    rintro j x r t hx ⟨y, rfl, rfl⟩
    exact ⟨_, _, [.int b, .int k, .int (b ^ (0 + j + 1)), x], t, by simp; exact ⟨rfl, rfl⟩, .inl (by simp [v_mul64r hb, Int.pow_succ]), x, rfl, rfl⟩)
  rw [range2_len] at e
  simp [show k.natAbs < 4611686018427387904 by omega, e]
theorem power_k {b : Int} {k : Int} {s : S} (hb : b.natAbs < 18446744073709551616) (h0 : 0 ≤ k) (hk : k < 4611686018427387904) : callK D_power_in [.int b, .int k] s = .ok (.int (b ^ k.toNat)) s := callK_val rfl (power_ok hb h0 hk) rfl
theorem law_power_k {b : Int} {k : Int} {s : S} (hb : b.natAbs < 18446744073709551616) (h0 : 0 ≤ k) (hk : k < 4611686018427387904) : callK D__law_power [.int b, .int k] s = .ok (.int (b ^ k.toNat)) s := power_k hb h0 hk
/-! ### Newton's roots -/
def B2 : Nat := 2 ^ 1900
theorem B2_lt : B2 < 10 ^ 600 := by decide +kernel
theorem B2_B0 : B2 ≤ B0 := by decide +kernel
/-- a number's text, by its length -/
theorem text_len {n : Int} (h : 0 ≤ n) (hb : n < B2) : ∃ L : Nat, (Str.ofString (toString n)).length = L ∧ 1 ≤ L ∧ L ≤ 600 ∧ n < 10 ^ L := by
  obtain ⟨m, rfl⟩ := Int.eq_ofNat_of_zero_le h
  have e : toString ((m : Nat) : Int) = Nat.repr m := rfl
  rw [e, PySem.ofString_length]
  have hm : m < 10 ^ 600 := Nat.lt_trans (by omega) B2_lt
  have h1 : (Nat.repr m).length ≤ 600 := (Nat.length_repr_le_iff (by decide)).mpr hm
  have h0 : 0 < (Nat.repr m).length := Nat.length_repr_pos
  refine ⟨_, rfl, h0, h1, ?_⟩
  have := (Nat.length_repr_le_iff h0).mp (Nat.le_refl (Nat.repr m).length)
  exact_mod_cast this
theorem newton {n h : Int} (hn : 1 ≤ n) (h1 : 1 ≤ h) (hr : isq n ≤ h) (hlt : n < h * h) : isq n ≤ (h + n / h) / 2 ∧ (h + n / h) / 2 < h ∧ 1 ≤ (h + n / h) / 2 := by
  obtain ⟨a, b, c⟩ := isq_spec (show 0 ≤ n by omega)
  have hq : n / h < h := Int.ediv_lt_of_lt_mul (by omega) hlt
  have hq1 : n < (n / h + 1) * h := Int.lt_ediv_add_one_mul_self n (by omega)
  generalize n / h = q at hq hq1
  generalize isq n = r at a b c hr
  have r1 : 1 ≤ r := by
    by_cases h0 : r = 0
    · subst h0; omega
    · omega
  have key : r ≤ (h + q) / 2 := by
    by_cases hk : r ≤ (h + q) / 2
    · exact hk
    · exfalso
      have h2 : q + 1 ≤ 2 * r - h := by omega
      have h3 : (q + 1) * h ≤ (2 * r - h) * h := Int.mul_le_mul_of_nonneg_right h2 (by omega)
      have h4 : (2 * r - h) * h = r * r - (r - h) * (r - h) := by
        rw [Int.sub_mul, Int.sub_mul, Int.mul_sub, Int.mul_sub, Int.mul_comm h r, Int.mul_assoc]
        omega
      have h5 : 0 ≤ (r - h) * (r - h) := by
        rcases Int.le_total 0 (r - h) with z | z
        · exact Int.mul_nonneg z z
        · exact Int.mul_nonneg_of_nonpos_of_nonpos z z
      omega
  omega
theorem law_root_ok {n : Int} {s : S} (h : 0 ≤ n) (hb : n < B2) : ∃ g, D__law_root [.int n] s = .ok (.int (isq n)) g := by
  unfold D__law_root
  rw [ap_mkFn (k := 1) (ds := [.int n]) rfl]
  unfold b__law_root
  by_cases h0 : n = 0
  · subst h0
    exact ⟨s, by simp [show isq 0 = 0 from rfl]⟩
  · obtain ⟨L, e1, l1, l2, l3⟩ := text_len h hb
    have b01 := B01
    have b00 := B0_big
    have b20 := B2_B0
    have hlog : n.natAbs.log2 < 1920 := Nat.lt_of_lt_of_le (log2_lt (k := 1900) (by decide) (show n.natAbs < B2 by omega)) (by decide)
    have hp : (2 : Int) ^ ((L : Int) * 2).toNat = ((4 ^ L : Nat) : Int) := by
      rw [show ((L : Int) * 2).toNat = 2 * L by omega, Int.pow_mul]
      exact_mod_cast rfl
    have hbig : 4 ^ L < B1 := Nat.lt_of_le_of_lt (Nat.pow_le_pow_right (by decide) l2) (by decide +kernel)
    have hsq : (n : Int) < ((4 ^ L : Nat) : Int) * ((4 ^ L : Nat) : Int) := by
      have : 10 ^ L ≤ 4 ^ L * 4 ^ L := by
        rw [← Nat.mul_pow]
        exact Nat.pow_le_pow_left (by decide) L
      have e : (((10 ^ L : Nat)) : Int) ≤ ((4 ^ L * 4 ^ L : Nat) : Int) := by exact_mod_cast this
      rw [Int.natCast_mul] at e
      have l3' : n < ((10 ^ L : Nat) : Int) := by exact_mod_cast l3
      omega
    have hpos : 1 ≤ 4 ^ L := Nat.pow_pos (by decide)
    generalize hx : 4 ^ L = x at hp hbig hsq hpos
    obtain ⟨i1, i2, i3⟩ := isq_spec h
    obtain ⟨r2, s2, e2, y, z1, z2, rfl, rfl⟩ := zWhile_invB (c := tst (e2 oGt (e2 oMul (eV 1) (eV 1)) (eV 0))) (b := zSet (gV 1) (eN bInt (aC (e2 oDiv (e2 oAdd (eV 1) (e2 oDiv (eV 0) (eV 1))) (eC (.int 2))) aN)))
      (fun r t => ∃ y : Int, isq n ≤ y ∧ 1 ≤ y ∧ y ≤ x ∧ r = [.int n, .int y] ∧ t = s) (fun r t => ∃ y : Int, isq n ≤ y ∧ y * y ≤ n ∧ r = [.int n, .int y] ∧ t = s)
      (fun r _ => match r with | [_, .int y] => y.toNat | _ => 0) (by
        rintro r t ⟨y, h1, h2, h3, rfl, rfl⟩
        have m1 := mul_big (i := y) (j := y) (s := t) (by omega) (by omega)
        refine ⟨decide (n < y * y), t, by simp [m1], fun q => ⟨y, h1, by simpa using q, rfl, rfl⟩, fun q => ?_⟩
        have q : n < y * y := by simpa using q
        obtain ⟨n1, n2, n3⟩ := newton (show 1 ≤ n by omega) h2 h1 q
        have d1 := div_big (i := n) (j := y) (s := t) (by omega) (by omega)
        have d2 := v_div64 (i := y + n / y) (j := 2) (s := t) (by decide) (by decide)
        refine ⟨[.int n, .int ((y + n / y) / 2)], t, .inl (by simp [d1, d2]), ⟨_, n1, n3, by omega, rfl, rfl⟩, ?_⟩
        show ((y + n / y) / 2).toNat < y.toNat
        omega) (r := [.int n, .int x]) (s := s) ⟨x, by
          have := sq_lt i1 (show (0 : Int) ≤ x by omega) (by omega)
          omega, by omega, by omega, rfl, rfl⟩ (by
        show (x : Int).toNat < B1
        omega)
    have y0 : isq n = y := by
      have := sq_lt (show 0 ≤ y by omega) (show 0 ≤ isq n + 1 by omega) (by omega)
      omega
    refine ⟨s2, ?_⟩
    have lp := law_power_k (b := 2) (k := (L : Int) * 2) (s := s2) (by decide) (by omega) (by omega)
    rw [hp] at lp
    have mm := v_mul64r (i := (L : Int)) (j := 2) (s := s2) (by decide)
    have e1 : (Str.ofString n.repr).length = L := e1
    have sl : L ≤ LINE := by unfold LINE; omega
    simp [h0, bStr, hlog, bLen, sl, e1, mm, lp, e2, y0]
theorem law_root_k {n : Int} {s : S} (h : 0 ≤ n) (hb : n < B2) : callK D__law_root [.int n] s = .ok (.int (isq n)) s := by
  obtain ⟨g, hg⟩ := law_root_ok (s := []) h hb
  exact callK_val rfl hg rfl
end YN

/-! YQ: more reckoning: dicts, ranges down, targets by place. -/
namespace Y
open PySem (Str PyData)
section
variable {g : Tg} {b : Sm} {r : Env} {s : S} {a c o i k e : E} {d : D}
@[simp] theorem zFor_rngD : zFor (iRngD a c) g b r s = (a r s).then r fun x s1 => (c r s1).then r fun y s2 => NI x fun i => NI y fun j => if i.natAbs < 4611686018427387904 ∧ j.natAbs < 4611686018427387904 then forM g b (rangeD i j) r s2 else .stk := by
  unfold zFor iRngD
  cases a r s with
  | ok x s1 =>
    simp only [bind_ok, then_ok]
    cases c r s1 with
    | ok y s2 =>
      simp only [bind_ok, then_ok]
      cases x with
      | int i =>
        cases y with
        | int j =>
          simp only [NI_int]
          by_cases h : i.natAbs < 4611686018427387904 ∧ j.natAbs < 4611686018427387904
          · simp only [h, and_self, if_true, then_ok]
          · simp only [h, if_false, then_stk]
        | _ => rfl
      | _ => rfl
    | exc => rfl
    | stk => rfl
  | exc => rfl
  | stk => rfl
theorem rangeD_get {i j : Int} {k : Nat} {x : D} (h : (rangeD i j)[k]? = some x) : x = .int (i - k) ∧ k < (i - j).toNat := by
  unfold rangeD at h
  rw [List.getElem?_map] at h
  cases e : (List.range (i - j).toNat)[k]? with
  | none => rw [e] at h; cases h
  | some n =>
    rw [e] at h
    obtain ⟨hl, hv⟩ := List.getElem?_eq_some_iff.mp e
    rw [List.getElem_range] at hv
    rw [List.length_range] at hl
    subst hv
    cases h
    exact ⟨by rw [show (i - (k : Int)) = i + (k : Int) * -1 by omega], hl⟩
theorem rangeD_len (i j : Int) : (rangeD i j).length = (i - j).toNat := by unfold rangeD; simp
/-- the parts of a target told -/
def Tk (x : Rs D) (f : D → S → Option (Env × S)) : Option (Env × S) := match x with
  | .ok x s => f x s
  | _ => none
@[simp] theorem Tk_ok (x : D) (s : S) (f : D → S → Option (Env × S)) : Tk (.ok x s) f = f x s := rfl
@[simp] theorem ap_gS : gS o i d r s = Tk (o r s) fun x s1 => Tk (i r s1) fun k s2 => (putL x k d s2).map fun s3 => (r, s3) := by
  unfold gS Tk
  cases o r s with
  | ok x s1 =>
    simp only
    all_goals (cases i r s1 <;> rfl)
  | _ => rfl
/-! ### dicts -/
@[simp] theorem dctD_ref {n : Nat} : dctD (.ref n) s = dctO s[n]? := rfl
@[simp] theorem dctO_dct {tk : Bool} {kvs : List (D × D)} : dctO (some (.dct tk kvs)) = some (tk, kvs) := rfl
@[simp] theorem keyEq_int {i j : Int} : keyEq (.int i) (.int j) = decide (i = j) := by
  unfold keyEq keyD
  simp
@[simp] theorem keyOk_int {i : Int} : keyOk false (.int i) = true := rfl
/-- a dict told -/
def Dc (x : Option (Bool × List (D × D))) (f : Bool → List (D × D) → Rs D) : Rs D := match x with
  | some (tk, kvs) => f tk kvs
  | none => .stk
@[simp] theorem Dc_some {tk : Bool} {kvs : List (D × D)} {f : Bool → List (D × D) → Rs D} : Dc (some (tk, kvs)) f = f tk kvs := rfl
@[simp] theorem ap_oDIx {x y : D} : oDIx x y s = Dc (dctD x s) fun tk kvs => if keyOk tk y = true then OkO (fndD kvs y) s else .stk := by
  unfold oDIx Dc OkO
  cases dctD x s with
  | none => rfl
  | some p =>
    obtain ⟨tk, kvs⟩ := p
    simp only
    all_goals (cases fndD kvs y <;> rfl)
@[simp] theorem ap_oDIn {x y : D} : oDIn y x s = Dc (dctD x s) fun tk kvs => if keyOk tk y = true then .ok (.bl (fndD kvs y).isSome) s else .stk := by
  unfold oDIn Dc
  cases dctD x s <;> rfl
@[simp] theorem ap_oDNotIn {x y : D} : oDNotIn y x s = Dc (dctD x s) fun tk kvs => if keyOk tk y = true then .ok (.bl (!(fndD kvs y).isSome)) s else .stk := by
  unfold oDNotIn Dc
  cases dctD x s <;> rfl
@[simp] theorem ap_eGet2 : eGet2 a o c r s = (a r s).bind fun x s1 => if (dctD x s1).isSome = true then (o r s1).bind fun y s2 => (c r s2).bind fun z s3 => Dc (dctD x s3) fun tk kvs => if keyOk tk y = true then .ok ((fndD kvs y).getD z) s3 else .stk else .stk := rfl
@[simp] theorem ap_eGet1 : eGet1 a o r s = (a r s).bind fun x s1 => if (dctD x s1).isSome = true then (o r s1).bind fun y s2 => Dc (dctD x s2) fun tk kvs => if keyOk tk y = true then .ok ((fndD kvs y).getD .non) s2 else .stk else .stk := rfl
@[simp] theorem putDct_ref {n : Nat} {y v : D} : putDct (.ref n) y v s = (dctO s[n]?).bind fun p => if keyOk p.1 y = true ∧ p.2.length < LINE then some (s.set n (.dct p.1 (putD p.2 y v))) else none := by
  unfold putDct
  simp only
  cases dctO s[n]? <;> rfl
@[simp] theorem ap_zPutD : zPutD o i e r s = (e r s).then r fun v s1 => (o r s1).then r fun x s2 => (i r s2).then r fun k s3 => Pu (putDct x k v s3) r := rfl
@[simp] theorem ap_eDNew {tk : Bool} : eDNew tk r s = .ok (.ref s.length) (s ++ [.dct tk []]) := rfl
@[simp] theorem dict_seq (d : D) : bDict [d] s = match (seqL d s).bind pairsD with | some ps => .ok (.ref s.length) (s ++ [.dct false (mergeD [] ps)]) | none => .stk := by
  unfold bDict
  simp only
  cases seqL d s with
  | none => rfl
  | some xs =>
    simp only [Option.bind_some]
    all_goals (cases pairsD xs <;> rfl)
end
/-! ### comprehensions whose parts may leave things behind in the store -/
def CStep (g : Tg) (t : T) (e : E) (r : Env) (s : S) (rr : D → Env) (p : D → Bool) (f : D → D) (x : D) : Prop :=
  ∀ acc G, ∃ G1, g x r (s ++ .lst acc :: G) = some (rr x, s ++ .lst acc :: G) ∧ t (rr x) (s ++ .lst acc :: G) = .ok (p x) (s ++ .lst acc :: (G ++ G1)) ∧
    (p x = true → ∃ G2, e (rr x) (s ++ .lst acc :: (G ++ G1)) = .ok (f x) (s ++ .lst acc :: (G ++ G1 ++ G2)))
theorem appendAt_mid {s G : S} {acc : List D} {d : D} (h : acc.length < 1000000) : appendAt s.length d (s ++ .lst acc :: G) = some (s ++ .lst (acc ++ [d]) :: G) := by
  unfold appendAt
  rw [List.getElem?_append_right (Nat.le_refl _), Nat.sub_self]
  simp only [List.getElem?_cons_zero]
  rw [if_pos (show acc.length < LINE from h)]
  simp
theorem compM_gen {g : Tg} {t : T} {e : E} {n : Nat} {r : Env} {s : S} (hn : n = s.length) (rr : D → Env) (p : D → Bool) (f : D → D) : ∀ (xs acc : List D) (G : S),
    (∀ x ∈ xs, CStep g t e r s rr p f x) → acc.length + xs.length ≤ 1000000 → ∃ G', compM g t e n xs r (s ++ .lst acc :: G) = .ok (.ref n) (s ++ .lst (acc ++ (xs.filter p).map f) :: G')
  | [], acc, G, _, _ => ⟨G, by unfold compM; simp⟩
  | x :: xs, acc, G, h, hl => by
    obtain ⟨G1, h1, h2, h3⟩ := h x List.mem_cons_self acc G
    rw [List.length_cons] at hl
    have ih := fun acc' G' hl' => compM_gen hn rr p f xs acc' G' (fun y hy => h y (List.mem_cons_of_mem _ hy)) hl'
    unfold compM
    simp only [h1, h2]
    cases hp : p x with
    | false =>
      simp only
      obtain ⟨G', e'⟩ := ih acc (G ++ G1) (by omega)
      exact ⟨G', by rw [e', List.filter_cons, hp]; simp⟩
    | true =>
      obtain ⟨G2, h4⟩ := h3 hp
      simp only [h4]
      subst hn
      simp only [appendAt_mid (G := G ++ G1 ++ G2) (d := f x) (show acc.length < 1000000 by omega)]
      obtain ⟨G', e'⟩ := ih (acc ++ [f x]) (G ++ G1 ++ G2) (by rw [List.length_append, List.length_singleton]; omega)
      exact ⟨G', by rw [e', List.filter_cons, hp]; simp⟩
theorem compR_gen {g : Tg} {t : T} {e : E} {n m : Nat} {r : Env} {s : S} {xs : List D} (hn : n = s.length) (hm : s[m]? = some (.lst xs)) (rr : D → Env) (p : D → Bool) (f : D → D) (h : ∀ x ∈ xs, CStep g t e r s rr p f x) : ∀ (k i : Nat) (acc : List D) (G : S),
    xs.length < k + i → i ≤ xs.length → acc.length + (xs.length - i) ≤ 1000000 → ∃ G', compR g t e n m k i r (s ++ .lst acc :: G) = .ok (.ref n) (s ++ .lst (acc ++ ((xs.drop i).filter p).map f) :: G')
  | 0, i, acc, G, hk, hi, _ => by omega
  | k + 1, i, acc, G, hk, hi, hl => by
    have hml := (List.getElem?_eq_some_iff.mp hm).1
    have hm' : ∀ acc G, (s ++ O.lst acc :: G)[m]? = some (.lst xs) := fun acc G => by rw [List.getElem?_append_left hml]; exact hm
    unfold compR
    rw [hm']
    simp only
    by_cases hx : i < xs.length
    · rw [List.getElem?_eq_getElem hx]
      simp only
      obtain ⟨G1, h1, h2, h3⟩ := h xs[i] (List.getElem_mem hx) acc G
      simp only [h1, h2]
      rw [List.drop_eq_getElem_cons hx]
      cases hp : p xs[i] with
      | false =>
        simp only
        obtain ⟨G', e'⟩ := compR_gen hn hm rr p f h k (i + 1) acc (G ++ G1) (by omega) hx (by omega)
        exact ⟨G', by rw [e', List.filter_cons, hp]; simp⟩
      | true =>
        obtain ⟨G2, h4⟩ := h3 hp
        simp only [h4]
        subst hn
        simp only [appendAt_mid (G := G ++ G1 ++ G2) (d := f xs[i]) (show acc.length < 1000000 by omega)]
        obtain ⟨G', e'⟩ := compR_gen rfl hm rr p f h k (i + 1) (acc ++ [f xs[i]]) (G ++ G1 ++ G2) (by omega) hx (by rw [List.length_append, List.length_singleton]; omega)
        exact ⟨G', by rw [e', List.filter_cons, hp]; simp⟩
    · have e' : i = xs.length := by omega
      subst e'
      rw [List.getElem?_eq_none (Nat.le_refl _)]
      exact ⟨G, by simp⟩
theorem fuel_big {n : Nat} (h : n ≤ 1000000) : n < FUEL + 0 := by have h1 := B1_fuel; have h2 := B01; have h3 := B0_big; omega
/-- over what is told ahead -/
theorem eLc_gen {it : IW} {g : Tg} {t : T} {e : E} {own : List Nat} {r : Env} {s s1 : S} {xs : List D} (hit : it r s = .ok (.items xs) s1) (rr : D → Env) (p : D → Bool) (f : D → D)
    (h : ∀ x ∈ xs, CStep g t e (wipeD r own) s1 rr p f x) (hl : xs.length ≤ 1000000) :
    ∃ G, eLc it g t e own r s = .ok (.ref s1.length) (s1 ++ .lst ((xs.filter p).map f) :: G) := by
  obtain ⟨G', e'⟩ := compM_gen (n := s1.length) rfl rr p f xs [] [] h (by simpa using hl)
  refine ⟨G', ?_⟩
  unfold eLc
  rw [hit]
  show compM g t e s1.length xs (wipeD r own) (s1 ++ [.lst []]) = _
  rw [e', List.nil_append]
/-- over a list of the store -/
theorem eLc_lst {it : IW} {g : Tg} {t : T} {e : E} {own : List Nat} {r : Env} {s s1 : S} {m : Nat} {xs : List D} (hit : it r s = .ok (.list m) s1) (hm : s1[m]? = some (.lst xs)) (rr : D → Env) (p : D → Bool) (f : D → D)
    (h : ∀ x ∈ xs, CStep g t e (wipeD r own) s1 rr p f x) (hl : xs.length ≤ 1000000) :
    ∃ G, eLc it g t e own r s = .ok (.ref s1.length) (s1 ++ .lst ((xs.filter p).map f) :: G) := by
  obtain ⟨G', e'⟩ := compR_gen (n := s1.length) rfl hm rr p f h FUEL 0 [] [] (fuel_big hl) (Nat.zero_le _) (by simpa using hl)
  refine ⟨G', ?_⟩
  unfold eLc
  rw [hit]
  show compR g t e s1.length m FUEL 0 (wipeD r own) (s1 ++ [.lst []]) = _
  rw [e', List.nil_append, List.drop_zero]
/-- parts that leave nothing behind -/
theorem CStep.of {g : Tg} {t : T} {e : E} {r : Env} {s : S} {rr : D → Env} {p : D → Bool} {f : D → D} {x : D}
    (h1 : ∀ s', g x r s' = some (rr x, s')) (h2 : ∀ acc G, t (rr x) (s ++ .lst acc :: G) = .ok (p x) (s ++ .lst acc :: G)) (h3 : p x = true → ∀ acc G, e (rr x) (s ++ .lst acc :: G) = .ok (f x) (s ++ .lst acc :: G)) : CStep g t e r s rr p f x := fun acc G =>
  ⟨[], h1 _, by rw [List.append_nil]; exact h2 acc G, fun hp => ⟨[], by simp only [List.append_nil]; exact h3 hp acc G⟩⟩
theorem ap_iLst {a : E} {r : Env} {s s1 : S} {n : Nat} {xs : List D} (h : a r s = .ok (.ref n) s1) (hn : s1[n]? = some (.lst xs)) : iLst a r s = .ok (.list n) s1 := by
  unfold iLst
  rw [h]
  simp [hn]
theorem ap_iLstF {a : E} {r : Env} {s s1 : S} {xs : List D} (h : a r s = .ok (.frl xs) s1) : iLst a r s = .ok (.items xs) s1 := by
  unfold iLst
  rw [h]
  simp
theorem ap_iTup {a : E} {r : Env} {s s1 : S} {xs : List D} (h : a r s = .ok (.tup xs) s1) : iTup a r s = .ok (.items xs) s1 := by
  unfold iTup
  rw [h]
  simp
@[simp] theorem ap_tYes {r : Env} {s : S} : tYes r s = .ok true s := rfl
@[simp] theorem intsOf_map : ∀ is : List Int, intsOf (is.map D.int) = some is
  | [] => rfl
  | i :: is => by simp [intsOf, intsOf_map is]
/-- what sum takes -/
@[simp] theorem sum_ref {n : Nat} {s : S} : bSum [.ref n] s = match (lstO s[n]?).bind intsOf with | some is => .ok (.int is.sum) s | none => .stk := by
  unfold bSum
  simp only [seqL_ref]
  cases lstO s[n]? with
  | none => rfl
  | some xs =>
    simp only [Option.bind_some]
    all_goals (cases intsOf xs <;> rfl)
@[simp] theorem boolsOf_map : ∀ is : List Bool, boolsOf (is.map D.bl) = some is
  | [] => rfl
  | i :: is => by simp [boolsOf, boolsOf_map is]
@[simp] theorem all_ref {n : Nat} {s : S} : bAll [.ref n] s = match (lstO s[n]?).bind boolsOf with | some is => .ok (.bl (is.all id)) s | none => .stk := by
  unfold bAll
  simp only [seqL_ref]
  cases lstO s[n]? with
  | none => rfl
  | some xs =>
    simp only [Option.bind_some]
    all_goals (cases boolsOf xs <;> rfl)
@[simp] theorem any_ref {n : Nat} {s : S} : bAny [.ref n] s = match (lstO s[n]?).bind boolsOf with | some is => .ok (.bl (is.any id)) s | none => .stk := by
  unfold bAny
  simp only [seqL_ref]
  cases lstO s[n]? with
  | none => rfl
  | some xs =>
    simp only [Option.bind_some]
    all_goals (cases boolsOf xs <;> rfl)
theorem while_out {c : T} {b : Sm} {r : Env} {s : S} {k : Env → S → F} {d : D} (P : Env → S → Prop) (Z : Env → S → Prop) (μ : Env → S → Nat) (h : P r s) (hm : μ r s < 1000000000000)
    (step : ∀ r s, P r s → ∃ k s1, c r s = .ok k s1 ∧ (k = false → Z r s1) ∧ (k = true → ∀ Q : Env → S → Prop, (∀ r2 s2, P r2 s2 → μ r2 s2 < μ r s → Q r2 s2) → Nx Q (b r s1)))
    (fin : ∀ r' s', Z r' s' → ∃ s2, (k r' s').out = .ok d s2) : ∃ s2, ((zWhile c b r s).andThen k).out = .ok d s2 := by
  obtain ⟨r', s', e, z⟩ := zWhile_inv (c := c) (b := b) P Z μ (fun r s hp => by
    obtain ⟨k, s1, e, h1, h2⟩ := step r s hp
    exact ⟨k, s1, e, h1, fun hk => by
      obtain ⟨r2, s2, e2, p2, m2⟩ := h2 hk (fun r2 s2 => P r2 s2 ∧ μ r2 s2 < μ r s) fun _ _ a b => ⟨a, b⟩
      exact ⟨r2, s2, e2, p2, m2⟩⟩) h hm
  rw [e]; exact fin r' s' z
/-- what a run says, checked -/
def isInt (x : Rs D) (i : Int) : Bool := match x with
  | .ok (.int j) _ => j == i
  | _ => false
theorem isInt_sp {x : Rs D} {i : Int} (h : isInt x i = true) : ∃ g, x = .ok (.int i) g := by
  unfold isInt at h
  split at h
  · rename_i j s
    have : j = i := by simpa using h
    exact ⟨s, by rw [this]⟩
  · cases h
theorem told_int {f : Fn} {ds : List D} {i : Int} (hp : D.pureL ds = true) (h : isInt (f ds []) i = true) (s : S) : callK f ds s = .ok (.int i) s := by
  obtain ⟨g, e⟩ := isInt_sp h
  exact callK_val hp e rfl
/-- the last statement of a block -/
theorem for_last {g : Tg} {b : Sm} {xs : List D} {r : Env} {s : S} {Q : Env → S → Prop} (P : Nat → Env → S → Prop) (h0 : P 0 r s)
    (step : ∀ j x r s, xs[j]? = some x → P j r s → ∃ r1 s1, g x r s = some (r1, s1) ∧ ∀ Q : Env → S → Prop, (∀ r s, P (j + 1) r s → Q r s) → Nx Q (b r1 s1))
    (fin : ∀ r' s', P xs.length r' s' → Q r' s') : Nx Q (forM g b xs r s) := by
  obtain ⟨r', s', e, p⟩ := forM_nx P h0 step
  rw [e]; exact Nx_nx (fin r' s' p)
/-! ### dicts by numbers -/
def toKD (p : Int × D) : D × D := (.int p.1, p.2)
def fndK (l : List (Int × D)) (k : Int) : Option D := (l.find? fun p => decide (p.1 = k)).map (·.2)
def putK (l : List (Int × D)) (k : Int) (v : D) : List (Int × D) := if (fndK l k).isSome = true then l.map (fun p => if p.1 = k then (p.1, v) else p) else l ++ [(k, v)]
def mergeK (l more : List (Int × D)) : List (Int × D) := more.foldl (fun acc p => putK acc p.1 p.2) l
theorem fnd_toKD (k : Int) : ∀ l : List (Int × D), fndD (l.map toKD) (.int k) = fndK l k
  | [] => rfl
  | p :: l => by
    have ih := fnd_toKD k l
    unfold fndD fndK at ih ⊢
    rw [List.map_cons, List.find?_cons, List.find?_cons]
    show Option.map _ (match keyEq (.int p.1) (.int k) with | true => some (toKD p) | false => _) = _
    rw [keyEq_int]
    by_cases h : p.1 = k
    · simp [h, toKD]
    · simp only [h, decide_false]
      exact ih
theorem put_toKD (l : List (Int × D)) (k : Int) (v : D) : putD (l.map toKD) (.int k) v = (putK l k v).map toKD := by
  unfold putD putK
  rw [fnd_toKD]
  split
  · rw [List.map_map, List.map_map]
    refine List.map_congr_left fun p _ => ?_
    show (if keyEq (.int p.1) (.int k) = true then _ else _) = _
    rw [keyEq_int]
    by_cases h : p.1 = k
    · simp [h, toKD]
    · simp [h, toKD]
  · simp [toKD]
theorem merge_toKD : ∀ (more l : List (Int × D)), mergeD (l.map toKD) (more.map toKD) = (mergeK l more).map toKD
  | [], l => rfl
  | p :: more, l => by
    show mergeD (putD (l.map toKD) (.int p.1) p.2) (more.map toKD) = _
    rw [put_toKD, merge_toKD more]
    rfl
theorem pairsD_ints : ∀ l : List (Int × D), pairsD (l.map fun p => .tup [.int p.1, p.2]) = some (l.map toKD)
  | [] => rfl
  | p :: l => by
    have ih := pairsD_ints l
    rw [List.map_cons]
    unfold pairsD
    rw [ih]
    rfl
/-- a comprehension over a range, all ints -/
theorem range_comp {i j : Int} (p : D → Bool) (f : D → D) (q : Nat → Bool) (h : Nat → Int) (h1 : ∀ k : Nat, k < (j - i).toNat → p (.int (i + k)) = q k) (h2 : ∀ k : Nat, k < (j - i).toNat → q k = true → f (.int (i + k)) = .int (h k)) :
    ((range2 i j).filter p).map f = (((List.range (j - i).toNat).filter q).map h).map D.int := by
  unfold range2
  generalize (j - i).toNat = n at h1 h2
  have key : ∀ l : List Nat, (∀ k ∈ l, k < n) → ((l.map fun (k : Nat) => D.int (i + k)).filter p).map f = ((l.filter q).map h).map D.int := by
    intro l
    induction l with
    | nil => intro _; rfl
    | cons k l ih =>
      intro hl
      have ih := ih fun x hx => hl x (List.mem_cons_of_mem _ hx)
      have hk := hl k List.mem_cons_self
      rw [List.map_cons, List.filter_cons, List.filter_cons, h1 k hk]
      cases e : q k with
      | false => simpa using ih
      | true =>
        simp only [if_true, List.map_cons]
        rw [h2 k hk e, ih]
  exact key _ fun k hk => List.mem_range.mp hk
end Y

/-! YD: the defs of day tables that several laws share. -/
namespace YN
open Y
open PySem (Str PyData)
def b_is_tuple_of : Sm :=
  (zRet (eAnd (e1 (oIsI .tuple) (eV 0)) (eCh oLe oLe (eV 1) (eN bLen (aC (eV 0) aN)) (eV 2))))
def D_is_tuple_of : Fn := mkFn 3 3 b_is_tuple_of
theorem r_is_tuple_of {a0 a1 a2 : D} {s : S} : D_is_tuple_of [a0, a1, a2] s = (b_is_tuple_of [a0, a1, a2] s).out := ap_mkFn rfl
def b_divisor_in : Sm :=
  (zCons (zPar 0 1 (eN bAbs (aC (eV 0) aN)) (eN bAbs (aC (eV 1) aN)))
    (zCons (zWhile (tst (e2 oGt (eV 1) (eC (.int 0))))
     (zPar 0 1 (eV 1) (e2 oSub (eV 0) (e2 oMul (e2 oDiv (eV 0) (eV 1)) (eV 1)))))
    (zRet (eV 0))))
def D_divisor_in : Fn := mkFn 2 2 b_divisor_in
theorem r_divisor_in {a0 a1 : D} {s : S} : D_divisor_in [a0, a1] s = (b_divisor_in [a0, a1] s).out := ap_mkFn rfl
def b_fits_table : Sm :=
  (zCons (zIf (tOr (tNot (tst (eCall 3 D_is_tuple_of (aC (eV 0) (aC (eC (.int 2)) (aC (eC (.int 60)) aN)))))) (tNot (tst (eN bAll (aC (eLc (iTup (eV 0)) (gV 3) tYes (eCall 3 D_is_tuple_of (aC (eV 3) (aC (eC (.int 2)) (aC (eC (.int 2)) aN)))) [3]) aN)))))
     (zRet (eC (.bl false)))
     zNil)
    (zCons (zIf (tNot (tst (eN bAll (aC (eLc (iTup (eV 0)) (gV 3) tYes (eAnd (eCallK 3 D_fits_whole (aC (e2 oIx (eV 3) (eC (.int 0))) (aC (eC (.int 0)) (aC (eC (.int 366)) aN)))) (eCallK 3 D_fits_whole (aC (e2 oIx (eV 3) (eC (.int 1))) (aC (e1 oNeg (eC (.int 100000))) (aC (eC (.int 100000)) aN))))) [3]) aN))))
     (zRet (eC (.bl false)))
     zNil)
    (zRet (eN bAll (aC (eLc (iZip (eV 0) (eCut (eV 0) (.at (eC (.int 1))) .no)) (gT (gsC (gV 1) (gsC (gV 2) gsN))) tYes (e2 oLt (e2 oIx (eV 1) (eC (.int 0))) (e2 oIx (eV 2) (eC (.int 0)))) [1, 2]) aN)))))
def D_fits_table : Fn := mkFn 4 1 b_fits_table
theorem r_fits_table {a0 : D} {s : S} : D_fits_table [a0] s = (b_fits_table [a0, .undef, .undef, .undef] s).out := ap_mkFn rfl
def b_need_table : Sm :=
  (zIf (tNot (tst (eCall 1 D_fits_table (aC (eV 0) aN))))
     (zRaise 7)
     zNil)
def D_need_table : Fn := mkFn 1 1 b_need_table
theorem r_need_table {a0 : D} {s : S} : D_need_table [a0] s = (b_need_table [a0] s).out := ap_mkFn rfl
def b_fits_share : Sm :=
  (zCons (zIf (tOr (tNot (tst (eCall 3 D_is_tuple_of (aC (eV 0) (aC (eC (.int 2)) (aC (eC (.int 2)) aN)))))) (tOr (tNot (tst (eCallK 3 D_fits_whole (aC (e2 oIx (eV 0) (eC (.int 0))) (aC (e1 oNeg (eC (.int 1000000000))) (aC (eC (.int 1000000000)) aN)))))) (tNot (tst (eCallK 3 D_fits_whole (aC (e2 oIx (eV 0) (eC (.int 1))) (aC (eC (.int 1)) (aC (eC (.int 1000000000)) aN))))))))
     (zRet (eC (.bl false)))
     zNil)
    (zRet (e2 oEq (eCallK 2 D_divisor_in (aC (e2 oIx (eV 0) (eC (.int 0))) (aC (e2 oIx (eV 0) (eC (.int 1))) aN))) (eC (.int 1)))))
def D_fits_share : Fn := mkFn 1 1 b_fits_share
theorem r_fits_share {a0 : D} {s : S} : D_fits_share [a0] s = (b_fits_share [a0] s).out := ap_mkFn rfl
def b_share : Sm :=
  (zCons (zSet (gV 2) (e2 oMul (eCallK 2 D_divisor_in (aC (eV 0) (aC (eV 1) aN))) (eIf (tst (e2 oGt (eV 1) (eC (.int 0)))) (eC (.int 1)) (e1 oNeg (eC (.int 1))))))
    (zRet (eTup (aC (e2 oDiv (eV 0) (eV 2)) (aC (e2 oDiv (eV 1) (eV 2)) aN)))))
def D_share : Fn := mkFn 3 2 b_share
theorem r_share {a0 a1 : D} {s : S} : D_share [a0, a1] s = (b_share [a0, a1, .undef] s).out := ap_mkFn rfl
def b_plus : Sm :=
  (zRet (eCallK 2 D_share (aC (e2 oAdd (e2 oMul (e2 oIx (eV 0) (eC (.int 0))) (e2 oIx (eV 1) (eC (.int 1)))) (e2 oMul (e2 oIx (eV 1) (eC (.int 0))) (e2 oIx (eV 0) (eC (.int 1))))) (aC (e2 oMul (e2 oIx (eV 0) (eC (.int 1))) (e2 oIx (eV 1) (eC (.int 1)))) aN))))
def D_plus : Fn := mkFn 2 2 b_plus
theorem r_plus {a0 a1 : D} {s : S} : D_plus [a0, a1] s = (b_plus [a0, a1] s).out := ap_mkFn rfl
def b_is_less : Sm :=
  (zRet (e2 oLt (e2 oMul (e2 oIx (eV 0) (eC (.int 0))) (e2 oIx (eV 1) (eC (.int 1)))) (e2 oMul (e2 oIx (eV 1) (eC (.int 0))) (e2 oIx (eV 0) (eC (.int 1))))))
def D_is_less : Fn := mkFn 2 2 b_is_less
theorem r_is_less {a0 a1 : D} {s : S} : D_is_less [a0, a1] s = (b_is_less [a0, a1] s).out := ap_mkFn rfl
def b_need_day : Sm :=
  (zIf (tOr (tNot (tst (eCallK 1 D_fits_share (aC (eV 1) aN)))) (tOr (tst (eCallK 2 D_is_less (aC (eV 1) (aC (eTup (aC (e2 oIx (e2 oIx (eV 0) (eC (.int 0))) (eC (.int 0))) (aC (eC (.int 1)) aN))) aN)))) (tst (eCallK 2 D_is_less (aC (eTup (aC (e2 oIx (e2 oIx (eV 0) (e1 oNeg (eC (.int 1)))) (eC (.int 0))) (aC (eC (.int 1)) aN))) (aC (eV 1) aN))))))
     (zRaise 1)
     zNil)
def D_need_day : Fn := mkFn 2 2 b_need_day
theorem r_need_day {a0 a1 : D} {s : S} : D_need_day [a0, a1] s = (b_need_day [a0, a1] s).out := ap_mkFn rfl
def b_need_span : Sm :=
  (zCons (zEx (eCallK 2 D_need_day (aC (eV 0) (aC (eV 1) aN))))
    (zCons (zEx (eCallK 2 D_need_day (aC (eV 0) (aC (eV 2) aN))))
    (zIf (tst (eCallK 2 D_is_less (aC (eV 2) (aC (eV 1) aN))))
     (zRaise 1)
     zNil)))
def D_need_span : Fn := mkFn 3 3 b_need_span
theorem r_need_span {a0 a1 a2 : D} {s : S} : D_need_span [a0, a1, a2] s = (b_need_span [a0, a1, a2] s).out := ap_mkFn rfl
def b_on_line : Sm :=
  (zCons (zPar 3 4 (e2 oSub (e2 oIx (eV 1) (eC (.int 0))) (e2 oIx (eV 0) (eC (.int 0)))) (e2 oSub (e2 oIx (eV 1) (eC (.int 1))) (e2 oIx (eV 0) (eC (.int 1)))))
    (zRet (eCallK 2 D_share (aC (e2 oAdd (e2 oMul (e2 oMul (e2 oIx (eV 0) (eC (.int 1))) (eV 3)) (e2 oIx (eV 2) (eC (.int 1)))) (e2 oMul (eV 4) (e2 oSub (e2 oIx (eV 2) (eC (.int 0))) (e2 oMul (e2 oIx (eV 0) (eC (.int 0))) (e2 oIx (eV 2) (eC (.int 1))))))) (aC (e2 oMul (eV 3) (e2 oIx (eV 2) (eC (.int 1)))) aN)))))
def D_on_line : Fn := mkFn 5 3 b_on_line
theorem r_on_line {a0 a1 a2 : D} {s : S} : D_on_line [a0, a1, a2] s = (b_on_line [a0, a1, a2, .undef, .undef] s).out := ap_mkFn rfl
def b_value_in : Sm :=
  (zCons (zFor (iZip (eV 0) (eCut (eV 0) (.at (eC (.int 1))) .no)) (gT (gsC (gV 2) (gsC (gV 3) gsN)))
     (zIf (tNot (tst (eCallK 2 D_is_less (aC (eTup (aC (e2 oIx (eV 3) (eC (.int 0))) (aC (eC (.int 1)) aN))) (aC (eV 1) aN)))))
     (zRet (eCallK 3 D_on_line (aC (eV 2) (aC (eV 3) (aC (eV 1) aN)))))
     zNil))
    (zRet (eTup (aC (e2 oIx (e2 oIx (eV 0) (e1 oNeg (eC (.int 1)))) (eC (.int 1))) (aC (eC (.int 1)) aN)))))
def D_value_in : Fn := mkFn 4 2 b_value_in
theorem r_value_in {a0 a1 : D} {s : S} : D_value_in [a0, a1] s = (b_value_in [a0, a1, .undef, .undef] s).out := ap_mkFn rfl
def b_knots_in : Sm :=
  (zCons (zSet (gV 3) (eLc (iTup (eV 0)) (gT (gsC (gV 4) (gsC (gV 5) gsN))) (tAnd (tst (eCallK 2 D_is_less (aC (eV 1) (aC (eTup (aC (eV 4) (aC (eC (.int 1)) aN))) aN)))) (tst (eCallK 2 D_is_less (aC (eTup (aC (eV 4) (aC (eC (.int 1)) aN))) (aC (eV 2) aN))))) (eTup (aC (eV 4) (aC (eC (.int 1)) aN))) [4, 5]))
    (zRet (e2 oAdd (e2 oAdd (eLst (aC (eV 1) aN)) (eV 3)) (eIf (tst (eCallK 2 D_is_less (aC (eV 1) (aC (eV 2) aN)))) (eLst (aC (eV 2) aN)) (eLst aN)))))
def D_knots_in : Fn := mkFn 6 3 b_knots_in
theorem r_knots_in {a0 a1 a2 : D} {s : S} : D_knots_in [a0, a1, a2] s = (b_knots_in [a0, a1, a2, .undef, .undef, .undef] s).out := ap_mkFn rfl
def b_area_in : Sm :=
  (zCons (zPar 3 4 (eTup (aC (eC (.int 0)) (aC (eC (.int 1)) aN))) (eCallK 3 D_knots_in (aC (eV 0) (aC (eV 1) (aC (eV 2) aN)))))
    (zCons (zFor (iZip (eV 4) (eCut (eV 4) (.at (eC (.int 1))) .no)) (gT (gsC (gV 5) (gsC (gV 6) gsN)))
     (zCons (zPar 7 8 (eCallK 2 D_plus (aC (eCallK 2 D_value_in (aC (eV 0) (aC (eV 5) aN))) (aC (eCallK 2 D_value_in (aC (eV 0) (aC (eV 6) aN))) aN))) (eCallK 2 D_plus (aC (eV 6) (aC (eTup (aC (e1 oNeg (e2 oIx (eV 5) (eC (.int 0)))) (aC (e2 oIx (eV 5) (eC (.int 1))) aN))) aN))))
    (zSet (gV 3) (eCallK 2 D_plus (aC (eV 3) (aC (eCallK 2 D_share (aC (e2 oMul (e2 oIx (eV 7) (eC (.int 0))) (e2 oIx (eV 8) (eC (.int 0)))) (aC (e2 oMul (e2 oMul (eC (.int 2)) (e2 oIx (eV 7) (eC (.int 1)))) (e2 oIx (eV 8) (eC (.int 1)))) aN))) aN))))))
    (zRet (eV 3))))
def D_area_in : Fn := mkFn 9 3 b_area_in
theorem r_area_in {a0 a1 a2 : D} {s : S} : D_area_in [a0, a1, a2] s = (b_area_in [a0, a1, a2, .undef, .undef, .undef, .undef, .undef, .undef] s).out := ap_mkFn rfl
def b_value_at : Sm :=
  (zCons (zEx (eCallK 1 D_need_table (aC (eV 0) aN)))
    (zCons (zEx (eCallK 2 D_need_day (aC (eV 0) (aC (eV 1) aN))))
    (zRet (eCallK 2 D_value_in (aC (eV 0) (aC (eV 1) aN))))))
def D_value_at : Fn := mkFn 2 2 b_value_at
theorem r_value_at {a0 a1 : D} {s : S} : D_value_at [a0, a1] s = (b_value_at [a0, a1] s).out := ap_mkFn rfl
def b_summed : Sm :=
  (zCons (zEx (eCallK 1 D_need_table (aC (eV 0) aN)))
    (zCons (zEx (eCallK 3 D_need_span (aC (eV 0) (aC (eV 1) (aC (eV 2) aN)))))
    (zRet (eCallK 3 D_area_in (aC (eV 0) (aC (eV 1) (aC (eV 2) aN)))))))
def D_summed : Fn := mkFn 3 3 b_summed
theorem r_summed {a0 a1 a2 : D} {s : S} : D_summed [a0, a1, a2] s = (b_summed [a0, a1, a2] s).out := ap_mkFn rfl
def b_mean : Sm :=
  (zCons (zEx (eCallK 1 D_need_table (aC (eV 0) aN)))
    (zCons (zEx (eCallK 3 D_need_span (aC (eV 0) (aC (eV 1) (aC (eV 2) aN)))))
    (zCons (zIf (tst (e2 oEq (eV 1) (eV 2)))
     (zRet (eCallK 2 D_value_in (aC (eV 0) (aC (eV 1) aN))))
     zNil)
    (zCons (zPar 3 4 (eCallK 3 D_area_in (aC (eV 0) (aC (eV 1) (aC (eV 2) aN)))) (eCallK 2 D_plus (aC (eV 2) (aC (eTup (aC (e1 oNeg (e2 oIx (eV 1) (eC (.int 0)))) (aC (e2 oIx (eV 1) (eC (.int 1))) aN))) aN))))
    (zRet (eCallK 2 D_share (aC (e2 oMul (e2 oIx (eV 3) (eC (.int 0))) (e2 oIx (eV 4) (eC (.int 1)))) (aC (e2 oMul (e2 oIx (eV 3) (eC (.int 1))) (e2 oIx (eV 4) (eC (.int 0)))) aN))))))))
def D_mean : Fn := mkFn 5 3 b_mean
theorem r_mean {a0 a1 a2 : D} {s : S} : D_mean [a0, a1, a2] s = (b_mean [a0, a1, a2, .undef, .undef] s).out := ap_mkFn rfl
def b__law_table (rollF : Fn) : Sm :=
  (zCons (zSet (gV 4) (eDNew false))
    (zCons (zFor (iRng1 (eV 1)) (gV 5)
     (zPutD (eV 4) (eCallK 2 rollF (aC (eV 0) (aC (e2 oAdd (eV 2) (eC (.int 1))) aN))) (e2 oSub (eCallK 2 rollF (aC (eV 0) (aC (e2 oAdd (e2 oMul (eC (.int 2)) (eV 3)) (eC (.int 1))) aN))) (eV 3))))
    (zCons (zPutD (eV 4) (eCallK 2 rollF (aC (eV 0) (aC (eC (.int 3)) aN))) (eCallK 2 rollF (aC (eV 0) (aC (e2 oAdd (eV 3) (eC (.int 1))) aN))))
    (zCons (zPutD (eV 4) (e2 oAdd (eV 2) (eCallK 2 rollF (aC (eV 0) (aC (eC (.int 3)) aN)))) (e2 oSub (eCallK 2 rollF (aC (eV 0) (aC (e2 oAdd (e2 oMul (eC (.int 2)) (eV 3)) (eC (.int 1))) aN))) (eV 3)))
    (zRet (eN bTuple (aC (eLc (iLst (eN bSorted (aC (eV 4) aN))) (gV 6) tYes (eTup (aC (eV 6) (aC (e2 oDIx (eV 4) (eV 6)) aN))) [6]) aN)))))))
def D__law_table (rollF : Fn) : Fn := mkFn 7 4 (b__law_table rollF)
theorem r__law_table {rollF : Fn} {a0 a1 a2 a3 : D} {s : S} : D__law_table rollF [a0, a1, a2, a3] s = (b__law_table rollF [a0, a1, a2, a3, .undef, .undef, .undef] s).out := ap_mkFn rfl
def b__law_share : Sm :=
  (zCons (zPar 2 3 (eN bMax2 (aC (eV 0) (aC (e1 oNeg (eV 0)) aN))) (eN bMax2 (aC (eV 1) (aC (e1 oNeg (eV 1)) aN))))
    (zCons (zWhile (tst (e2 oGt (eV 3) (eC (.int 0))))
     (zPar 2 3 (eV 3) (e2 oMod (eN bInt (aC (eV 2) aN)) (eV 3))))
    (zCons (zSet (gV 4) (eIf (tst (e2 oGt (eV 1) (eC (.int 0)))) (eC (.int 1)) (e1 oNeg (eC (.int 1)))))
    (zRet (eTup (aC (e2 oMul (eV 4) (e2 oDiv (eV 0) (eV 2))) (aC (e2 oMul (eV 4) (e2 oDiv (eV 1) (eV 2))) aN)))))))
def D__law_share : Fn := mkFn 5 2 b__law_share
theorem r__law_share {a0 a1 : D} {s : S} : D__law_share [a0, a1] s = (b__law_share [a0, a1, .undef, .undef, .undef] s).out := ap_mkFn rfl
def b__law_plus : Sm :=
  (zRet (eCallK 2 D__law_share (aC (e2 oAdd (e2 oMul (e2 oIx (eV 0) (eC (.int 0))) (e2 oIx (eV 1) (eC (.int 1)))) (e2 oMul (e2 oIx (eV 1) (eC (.int 0))) (e2 oIx (eV 0) (eC (.int 1))))) (aC (e2 oMul (e2 oIx (eV 0) (eC (.int 1))) (e2 oIx (eV 1) (eC (.int 1)))) aN))))
def D__law_plus : Fn := mkFn 2 2 b__law_plus
theorem r__law_plus {a0 a1 : D} {s : S} : D__law_plus [a0, a1] s = (b__law_plus [a0, a1] s).out := ap_mkFn rfl
def b__law_minus : Sm :=
  (zRet (eCallK 2 D__law_plus (aC (eV 0) (aC (eTup (aC (e1 oNeg (e2 oIx (eV 1) (eC (.int 0)))) (aC (e2 oIx (eV 1) (eC (.int 1))) aN))) aN))))
def D__law_minus : Fn := mkFn 2 2 b__law_minus
theorem r__law_minus {a0 a1 : D} {s : S} : D__law_minus [a0, a1] s = (b__law_minus [a0, a1] s).out := ap_mkFn rfl
def b__law_times : Sm :=
  (zRet (eCallK 2 D__law_share (aC (e2 oMul (e2 oIx (eV 0) (eC (.int 0))) (e2 oIx (eV 1) (eC (.int 0)))) (aC (e2 oMul (e2 oIx (eV 0) (eC (.int 1))) (e2 oIx (eV 1) (eC (.int 1)))) aN))))
def D__law_times : Fn := mkFn 2 2 b__law_times
theorem r__law_times {a0 a1 : D} {s : S} : D__law_times [a0, a1] s = (b__law_times [a0, a1] s).out := ap_mkFn rfl
def b__law_less : Sm :=
  (zRet (e2 oLt (e2 oMul (e2 oIx (eV 0) (eC (.int 0))) (e2 oIx (eV 1) (eC (.int 1)))) (e2 oMul (e2 oIx (eV 1) (eC (.int 0))) (e2 oIx (eV 0) (eC (.int 1))))))
def D__law_less : Fn := mkFn 2 2 b__law_less
theorem r__law_less {a0 a1 : D} {s : S} : D__law_less [a0, a1] s = (b__law_less [a0, a1] s).out := ap_mkFn rfl
def b__law_value : Sm :=
  (zCons (zSet (gV 2) (eC (.int 0)))
    (zCons (zWhile (tAnd (tst (e2 oLt (e2 oAdd (eV 2) (eC (.int 2))) (eN bLen (aC (eV 0) aN)))) (tNot (tst (eCallK 2 D__law_less (aC (eV 1) (aC (eTup (aC (e2 oIx (e2 oIx (eV 0) (e2 oAdd (eV 2) (eC (.int 1)))) (eC (.int 0))) (aC (eC (.int 1)) aN))) aN))))))
     (zSet (gV 2) (e2 oAdd (eV 2) (eC (.int 1)))))
    (zCons (zPar 3 4 (e2 oIx (eV 0) (eV 2)) (e2 oIx (eV 0) (e2 oAdd (eV 2) (eC (.int 1)))))
    (zCons (zSet (gV 5) (eCallK 2 D__law_minus (aC (eV 1) (aC (eTup (aC (e2 oIx (eV 3) (eC (.int 0))) (aC (eC (.int 1)) aN))) aN))))
    (zRet (eCallK 2 D__law_plus (aC (eTup (aC (e2 oIx (eV 3) (eC (.int 1))) (aC (eC (.int 1)) aN))) (aC (eCallK 2 D__law_times (aC (eV 5) (aC (eCallK 2 D__law_share (aC (e2 oSub (e2 oIx (eV 4) (eC (.int 1))) (e2 oIx (eV 3) (eC (.int 1)))) (aC (e2 oSub (e2 oIx (eV 4) (eC (.int 0))) (e2 oIx (eV 3) (eC (.int 0)))) aN))) aN))) aN))))))))
def D__law_value : Fn := mkFn 6 2 b__law_value
theorem r__law_value {a0 a1 : D} {s : S} : D__law_value [a0, a1] s = (b__law_value [a0, a1, .undef, .undef, .undef, .undef] s).out := ap_mkFn rfl
def b__law_time (rollF someF : Fn) : Sm :=
  (zCons (zSet (gV 2) (e2 oAdd (eC (.int 1)) (eCallK 2 rollF (aC (eV 0) (aC (eC (.int 9)) aN)))))
    (zCons (zPar 3 4 (e2 oMul (e2 oIx (e2 oIx (eV 1) (eC (.int 0))) (eC (.int 0))) (eV 2)) (e2 oMul (e2 oIx (e2 oIx (eV 1) (e1 oNeg (eC (.int 1)))) (eC (.int 0))) (eV 2)))
    (zRet (eCallK 2 someF (aC (eV 0) (aC (eLst (aC (eTup (aC (e2 oIx (eCallK 2 someF (aC (eV 0) (aC (eV 1) aN))) (eC (.int 0))) (aC (eC (.int 1)) aN))) (aC (eCallK 2 D__law_share (aC (e2 oAdd (eV 3) (eCallK 2 rollF (aC (eV 0) (aC (e2 oAdd (e2 oSub (eV 4) (eV 3)) (eC (.int 1))) aN)))) (aC (eV 2) aN))) aN))) aN))))))
def D__law_time (rollF someF : Fn) : Fn := mkFn 5 2 (b__law_time rollF someF)
theorem r__law_time {rollF someF : Fn} {a0 a1 : D} {s : S} : D__law_time rollF someF [a0, a1] s = (b__law_time rollF someF [a0, a1, .undef, .undef, .undef] s).out := ap_mkFn rfl
def b__law_area : Sm :=
  (zCons (zSet (gV 3) (eTup (aC (eC (.int 0)) (aC (eC (.int 1)) aN))))
    (zCons (zFor (iZip (eV 0) (eCut (eV 0) (.at (eC (.int 1))) .no)) (gT (gsC (gV 4) (gsC (gV 5) gsN)))
     (zCons (zSet (gV 6) (eIf (tst (eCallK 2 D__law_less (aC (eTup (aC (e2 oIx (eV 4) (eC (.int 0))) (aC (eC (.int 1)) aN))) (aC (eV 1) aN)))) (eV 1) (eTup (aC (e2 oIx (eV 4) (eC (.int 0))) (aC (eC (.int 1)) aN)))))
    (zCons (zSet (gV 7) (eIf (tst (eCallK 2 D__law_less (aC (eV 2) (aC (eTup (aC (e2 oIx (eV 5) (eC (.int 0))) (aC (eC (.int 1)) aN))) aN)))) (eV 2) (eTup (aC (e2 oIx (eV 5) (eC (.int 0))) (aC (eC (.int 1)) aN)))))
    (zIf (tst (eCallK 2 D__law_less (aC (eV 6) (aC (eV 7) aN))))
     (zCons (zSet (gV 8) (eCallK 2 D__law_plus (aC (eCallK 2 D__law_value (aC (eV 0) (aC (eV 6) aN))) (aC (eCallK 2 D__law_value (aC (eV 0) (aC (eV 7) aN))) aN))))
    (zSet (gV 3) (eCallK 2 D__law_plus (aC (eV 3) (aC (eCallK 2 D__law_times (aC (eCallK 2 D__law_times (aC (eV 8) (aC (eTup (aC (eC (.int 1)) (aC (eC (.int 2)) aN))) aN))) (aC (eCallK 2 D__law_minus (aC (eV 7) (aC (eV 6) aN))) aN))) aN)))))
     zNil))))
    (zRet (eV 3))))
def D__law_area : Fn := mkFn 9 3 b__law_area
theorem r__law_area {a0 a1 a2 : D} {s : S} : D__law_area [a0, a1, a2] s = (b__law_area [a0, a1, a2, .undef, .undef, .undef, .undef, .undef, .undef] s).out := ap_mkFn rfl
end YN

/-! YE: shares as rational numbers. -/
namespace YE
open Y YN
open PySem (Str PyData)
def rd (q : Rat) : D := .tup [.int q.num, .int q.den]
/-- sizes: above, below -/
def Bd (q : Rat) (n d : Nat) : Prop := q.num.natAbs < 2 ^ n ∧ q.den < 2 ^ d
theorem Bd.le {q : Rat} {n d n' d' : Nat} (h : Bd q n d) (h1 : n ≤ n') (h2 : d ≤ d') : Bd q n' d' :=
  ⟨Nat.lt_of_lt_of_le h.1 (Nat.pow_le_pow_right (by decide) h1), Nat.lt_of_lt_of_le h.2 (Nat.pow_le_pow_right (by decide) h2)⟩
theorem pow_mul {a b n m : Nat} (h1 : a < 2 ^ n) (h2 : b < 2 ^ m) : a * b < 2 ^ (n + m) := by
  rw [Nat.pow_add]
  exact Nat.mul_lt_mul_of_lt_of_lt h1 h2
theorem log2_pow {a n : Nat} (h : a < 2 ^ n) (hn : 0 < n) : a.log2 < n := log2_lt hn h
theorem mul_pow {i j : Int} {n m : Nat} {s : S} (hi : i.natAbs < 2 ^ n) (hj : j.natAbs < 2 ^ m) (h : n + m < 999000) : oMul (.int i) (.int j) s = .ok (.int (i * j)) s := v_mulI (by
  unfold mulOk
  have a := log2_lt (k := n + 1) (by omega) (Nat.lt_of_lt_of_le hi (Nat.pow_le_pow_right (by decide) (Nat.le_succ n)))
  have b := log2_lt (k := m + 1) (by omega) (Nat.lt_of_lt_of_le hj (Nat.pow_le_pow_right (by decide) (Nat.le_succ m)))
  have : i.natAbs.log2 + j.natAbs.log2 < 1000000 := by omega
  simp [this])
theorem den_pos (q : Rat) : (0 : Int) < q.den := by have := q.den_nz; omega
/-! ### the greatest common divisor -/
theorem gcd_step {x y : Int} (hx : 0 ≤ x) (hy : 0 ≤ y) : Int.gcd y (x % y) = Int.gcd x y := by
  obtain ⟨a, rfl⟩ := Int.eq_ofNat_of_zero_le hx
  obtain ⟨b, rfl⟩ := Int.eq_ofNat_of_zero_le hy
  show Nat.gcd (b : Int).natAbs ((a : Int) % (b : Int)).natAbs = Nat.gcd (a : Int).natAbs (b : Int).natAbs
  rw [← Int.natCast_emod, Int.natAbs_natCast, Int.natAbs_natCast, Int.natAbs_natCast, Nat.gcd_comm a b, Nat.gcd_rec b a, Nat.gcd_comm]
theorem log2_sum {x n : Nat} (h : x < 2 ^ n + B1) : x.log2 < n + 8991 := by
  refine log2_lt (by omega) (Nat.lt_of_lt_of_le h ?_)
  rw [Nat.pow_add]
  have h1 : 0 < 2 ^ n := Nat.pow_pos (by decide)
  have h2 : 2 * B1 = 2 ^ 8991 := by decide +kernel
  rw [← h2]
  have h3 : 0 < B1 := by decide +kernel
  generalize 2 ^ n = a at *
  generalize B1 = b at *
  have : a * 1 ≤ a * b := Nat.mul_le_mul_left _ h3
  have : 1 * b ≤ a * b := Nat.mul_le_mul_right _ h1
  have : a * (2 * b) = 2 * (a * b) := by rw [Nat.mul_left_comm]
  omega
theorem mul_sum {i j : Int} {n m : Nat} {s : S} (hi : i.natAbs < 2 ^ n + B1) (hj : j.natAbs < 2 ^ m + B1) (h : n + m < 900000) : oMul (.int i) (.int j) s = .ok (.int (i * j)) s := v_mulI (by
  unfold mulOk
  have a := log2_sum hi
  have b := log2_sum hj
  have : i.natAbs.log2 + j.natAbs.log2 < 1000000 := by omega
  simp [this])
theorem divisor_in_ok {a b : Int} {n : Nat} {s : S} (ha : a.natAbs < 2 ^ n) (hn : n ≤ 400000) (hb : b.natAbs < B1) : D_divisor_in [.int a, .int b] s = .ok (.int (Int.gcd a b)) s := by
  rw [r_divisor_in]
  unfold b_divisor_in
  obtain ⟨r', s', e, x, rfl, rfl⟩ := zWhile_invB (c := tst (e2 oGt (eV 1) (eC (.int 0)))) (b := zPar 0 1 (eV 1) (e2 oSub (eV 0) (e2 oMul (e2 oDiv (eV 0) (eV 1)) (eV 1))))
    (fun r t => ∃ x y : Int, 0 ≤ x ∧ 0 ≤ y ∧ x.natAbs < 2 ^ n + B1 ∧ y < B1 ∧ Int.gcd x y = Int.gcd a b ∧ r = [.int x, .int y] ∧ t = s)
    (fun r t => ∃ y : D, r = [.int (Int.gcd a b), y] ∧ t = s)
    (fun r _ => match r with | [_, .int y] => y.toNat | _ => 0) (by
      rintro r t ⟨x, y, hx, hy, bx, by', hg, rfl, rfl⟩
      refine ⟨decide (0 < y), t, by simp, fun q => ?_, fun q => ?_⟩
      · have q : ¬ 0 < y := by simpa using q
        have : y = 0 := by omega
        subst this
        rw [Int.gcd_zero_right] at hg
        exact ⟨.int 0, by rw [← hg, Int.natAbs_of_nonneg hx], rfl⟩
      · have q : 0 < y := by simpa using q
        have hq := Int.ediv_nonneg hx (Int.le_of_lt q)
        have hqx : x / y ≤ x := Int.ediv_le_self _ hx
        have d1 := div_big (i := x) (j := y) (s := t) q (by omega)
        have m1 := mul_sum (i := x / y) (j := y) (n := n) (m := 0) (s := t) (by omega) (by omega) (by omega)
        have e3 : x - x / y * y = x % y := by have := Int.mul_ediv_add_emod x y; rw [Int.mul_comm] at this; omega
        have r1 := Int.emod_nonneg x (show y ≠ 0 by omega)
        have r2 := Int.emod_lt_of_pos x q
        refine ⟨[.int y, .int (x % y)], t, .inl (by simp [d1, m1, e3]), ⟨y, x % y, hy, r1, by omega, by omega, by rw [gcd_step hx hy, hg], rfl, rfl⟩, ?_⟩
        show (x % y).toNat < y.toNat
        omega) (r := [.int (if a < 0 then -a else a), .int (if b < 0 then -b else b)]) (s := s) ⟨_, _, by split <;> omega, by split <;> omega, by split <;> omega, by split <;> omega, by
      have ea : (if a < 0 then -a else a) = (a.natAbs : Int) := by split <;> omega
      have eb : (if b < 0 then -b else b) = (b.natAbs : Int) := by split <;> omega
      rw [ea, eb]
      show Nat.gcd _ _ = Nat.gcd _ _
      simp, rfl, rfl⟩ (by
      show (if b < 0 then -b else b).toNat < B1
      split <;> omega)
  simp [e]
theorem divisor_in_k {a b : Int} {n : Nat} {s : S} (ha : a.natAbs < 2 ^ n) (hn : n ≤ 400000) (hb : b.natAbs < B1) : callK D_divisor_in [.int a, .int b] s = .ok (.int (Int.gcd a b)) s := callK_val rfl (divisor_in_ok ha hn hb) rfl
/-- a share put lowest -/
theorem rd_div {a b : Int} (hb : 0 < b) : rd ((a : Rat) / b) = .tup [.int (a / Int.gcd a b), .int (b / Int.gcd a b)] := by
  have e : ((a : Rat) / b) = mkRat a b.toNat := by
    rw [Rat.mkRat_eq_div]
    congr 1
    rw [← Rat.intCast_natCast, Int.toNat_of_nonneg (by omega)]
  unfold rd
  rw [e, Rat.num_mkRat, Rat.den_mkRat, if_neg (by omega), if_neg (by omega)]
  have hg : (b.toNat.gcd a.natAbs) = Int.gcd a b := by
    show _ = Nat.gcd _ _
    rw [Nat.gcd_comm]
    congr 1
    omega
  rw [hg]
  congr 4
  rw [Int.natCast_ediv, Int.toNat_of_nonneg (by omega)]
theorem gcd_pos {a b : Int} (hb : 0 < b) : (0 : Int) < Int.gcd a b := by
  have := Int.gcd_pos_of_ne_zero_right a (show b ≠ 0 by omega)
  omega
theorem gcd_le {a b : Int} (hb : 0 < b) : (Int.gcd a b : Int) ≤ b := Int.le_of_dvd hb (Int.gcd_dvd_right ..)
theorem share_k {a b : Int} {n : Nat} {s : S} (hb : 0 < b) (ha : a.natAbs < 2 ^ n) (hn : n ≤ 400000) (hbb : b.natAbs < B1) : callK D_share [.int a, .int b] s = .ok (rd ((a : Rat) / b)) s := by
  have dk := fun st => divisor_in_k (a := a) (b := b) (s := st) ha hn hbb
  have gp := gcd_pos (a := a) hb
  have gl := gcd_le (a := a) hb
  have d1 := fun i st => div_big (i := i) (j := Int.gcd a b) (s := st) gp (by omega)
  have m1 := fun i st => v_mul64r (i := i) (j := 1) (s := st) (by decide)
  rw [rd_div hb]
  refine callK_val rfl (g := []) ?_ rfl
  rw [r_share]
  unfold b_share
  generalize (Int.gcd a b : Int) = g at dk gp gl d1
  simp [dk, hb, d1, m1]
theorem lshare_k {a b : Int} {n : Nat} {s : S} (hb : 0 < b) (ha : a.natAbs < 2 ^ n) (hn : n ≤ 400000) (hbb : b.natAbs < B1) : callK D__law_share [.int a, .int b] s = .ok (rd ((a : Rat) / b)) s := by
  have gp := gcd_pos (a := a) hb
  have gl := gcd_le (a := a) hb
  rw [rd_div hb]
  refine callK_val rfl (g := []) ?_ rfl
  rw [r__law_share]
  unfold b__law_share
  obtain ⟨r', s', e, y, rfl, rfl⟩ := zWhile_invB (c := tst (e2 oGt (eV 3) (eC (.int 0)))) (b := zPar 2 3 (eV 3) (e2 oMod (eN bInt (aC (eV 2) aN)) (eV 3)))
    (fun r t => ∃ x y : Int, 0 ≤ x ∧ 0 ≤ y ∧ y < B1 ∧ Int.gcd x y = Int.gcd a b ∧ r = [.int a, .int b, .int x, .int y, .undef] ∧ t = [])
    (fun r t => ∃ y : D, r = [.int a, .int b, .int (Int.gcd a b), y, .undef] ∧ t = [])
    (fun r _ => match r with | [_, _, _, .int y, _] => y.toNat | _ => 0) (by
      rintro r t ⟨x, y, hx, hy, by', hg, rfl, rfl⟩
      refine ⟨decide (0 < y), [], by simp, fun q => ?_, fun q => ?_⟩
      · have q : ¬ 0 < y := by simpa using q
        have : y = 0 := by omega
        subst this
        rw [Int.gcd_zero_right] at hg
        exact ⟨.int 0, by rw [← hg, Int.natAbs_of_nonneg hx], rfl⟩
      · have q : 0 < y := by simpa using q
        have r1 := Int.emod_nonneg x (show y ≠ 0 by omega)
        have r2 := Int.emod_lt_of_pos x q
        refine ⟨[.int a, .int b, .int y, .int (x % y), .undef], [], .inl (by simp [v_modP q]), ⟨y, x % y, hy, r1, by omega, by rw [gcd_step hx hy, hg], rfl, rfl⟩, ?_⟩
        show (x % y).toNat < y.toNat
        omega) (r := [.int a, .int b, .int (if -a > a then -a else a), .int (if -b > b then -b else b), .undef]) (s := []) ⟨_, _, by split <;> omega, by split <;> omega, by split <;> omega, by
      have ea : (if -a > a then -a else a) = (a.natAbs : Int) := by split <;> omega
      have eb : (if -b > b then -b else b) = (b.natAbs : Int) := by split <;> omega
      rw [ea, eb]
      show Nat.gcd _ _ = Nat.gcd _ _
      simp, rfl, rfl⟩ (by
      show (if -b > b then -b else b).toNat < B1
      split <;> omega)
  have d1 := fun i st => div_big (i := i) (j := Int.gcd a b) (s := st) gp (by omega)
  have m1 := fun i st => v_mul64 (i := 1) (j := i) (s := st) (by decide)
  simp only [gt_iff_lt] at e
  generalize (Int.gcd a b : Int) = g at e gp gl d1
  simp [e, hb, d1, m1]
end YE

/-! YF: reckoning with shares: sums, products, which is less; lines and values of tables. -/
namespace YE
open Y YN
open PySem (Str PyData)
theorem rat_eq (q : Rat) : q = (q.num : Rat) / (q.den : Rat) := by
  rw [← Rat.mkRat_eq_div, Rat.mkRat_self]
theorem den_ne (q : Rat) : (q.den : Rat) ≠ 0 := by
  have := q.den_nz
  intro h
  exact this (Rat.natCast_eq_zero_iff.mp h)
theorem bd_div {a b : Int} {n d : Nat} (hb : 0 < b) (ha : a.natAbs < 2 ^ n) (hd : b.natAbs < 2 ^ d) : Bd ((a : Rat) / b) n d := by
  have h := rd_div (a := a) hb
  unfold rd at h
  injection h with h
  injection h with h1 h
  injection h with h2 h
  injection h1 with h1
  injection h2 with h2
  have gp := gcd_pos (a := a) hb
  refine ⟨?_, ?_⟩
  · rw [h1]
    refine Nat.lt_of_le_of_lt ?_ ha
    rw [Int.natAbs_ediv_of_dvd (Int.gcd_dvd_left ..)]
    exact Nat.div_le_self _ _
  · have : b / (Int.gcd a b : Int) ≤ b := Int.ediv_le_self _ (by omega)
    omega
theorem bdn {q : Rat} {n d : Nat} (h : Bd q n d) : (q.den : Int).natAbs < 2 ^ d := by
  have := h.2
  omega
theorem natAbs_mul_lt {a b : Int} {n m : Nat} (h1 : a.natAbs < 2 ^ n) (h2 : b.natAbs < 2 ^ m) : (a * b).natAbs < 2 ^ (n + m) := by
  rw [Int.natAbs_mul]; exact pow_mul h1 h2
theorem natAbs_add_lt {a b : Int} {n m : Nat} (h1 : a.natAbs < 2 ^ n) (h2 : b.natAbs < 2 ^ m) : (a + b).natAbs < 2 ^ (max n m + 1) := by
  have h3 := Nat.pow_le_pow_right (show 0 < 2 by decide) (Nat.le_max_left n m)
  have h4 := Nat.pow_le_pow_right (show 0 < 2 by decide) (Nat.le_max_right n m)
  have := Int.natAbs_add_le a b
  rw [Nat.pow_succ]
  omega
theorem natAbs_sub_lt {a b : Int} {n m : Nat} (h1 : a.natAbs < 2 ^ n) (h2 : b.natAbs < 2 ^ m) : (a - b).natAbs < 2 ^ (max n m + 1) := by
  rw [Int.sub_eq_add_neg]; exact natAbs_add_lt h1 (by rw [Int.natAbs_neg]; exact h2)
theorem b1_pow {a d : Nat} (h : a < 2 ^ d) (hd : d ≤ 8990) : a < B1 := Nat.lt_of_lt_of_le h (Nat.pow_le_pow_right (by decide) hd)
theorem den_mul_pos (p q : Rat) : (0 : Int) < p.den * q.den := Int.mul_pos (den_pos p) (den_pos q)
theorem add_rat (p q : Rat) : p + q = (((p.num * q.den + q.num * p.den : Int) : Rat)) / ((p.den * q.den : Int) : Rat) := by
  have h1 := den_ne p
  have h2 := den_ne q
  have h3 := rat_eq p
  have h4 := rat_eq q
  rw [Rat.intCast_add, Rat.intCast_mul, Rat.intCast_mul, Rat.intCast_mul, Rat.intCast_natCast, Rat.intCast_natCast]
  grind
theorem mul_rat (p q : Rat) : p * q = (((p.num * q.num : Int) : Rat)) / ((p.den * q.den : Int) : Rat) := by
  have h1 := den_ne p
  have h2 := den_ne q
  have h3 := rat_eq p
  have h4 := rat_eq q
  rw [Rat.intCast_mul, Rat.intCast_mul, Rat.intCast_natCast, Rat.intCast_natCast]
  grind
theorem bd_add {p q : Rat} {n1 d1 n2 d2 : Nat} (hp : Bd p n1 d1) (hq : Bd q n2 d2) : Bd (p + q) (max (n1 + d2) (n2 + d1) + 1) (d1 + d2) := by
  rw [add_rat]
  exact bd_div (den_mul_pos p q) (natAbs_add_lt (natAbs_mul_lt hp.1 (bdn hq)) (natAbs_mul_lt hq.1 (bdn hp))) (natAbs_mul_lt (bdn hp) (bdn hq))
theorem bd_neg {p : Rat} {n d : Nat} (hp : Bd p n d) : Bd (-p) n d := by
  refine ⟨?_, hp.2⟩
  rw [Rat.neg_num, Int.natAbs_neg]; exact hp.1
theorem bd_sub {p q : Rat} {n1 d1 n2 d2 : Nat} (hp : Bd p n1 d1) (hq : Bd q n2 d2) : Bd (p - q) (max (n1 + d2) (n2 + d1) + 1) (d1 + d2) := by
  rw [Rat.sub_eq_add_neg]; exact bd_add hp (bd_neg hq)
theorem bd_mul {p q : Rat} {n1 d1 n2 d2 : Nat} (hp : Bd p n1 d1) (hq : Bd q n2 d2) : Bd (p * q) (n1 + n2) (d1 + d2) := by
  rw [mul_rat]
  exact bd_div (den_mul_pos p q) (natAbs_mul_lt hp.1 hq.1) (natAbs_mul_lt (bdn hp) (bdn hq))
theorem bd_int {i : Int} {n : Nat} (h : i.natAbs < 2 ^ n) : Bd (i : Rat) n 1 := ⟨by rw [Rat.num_intCast]; exact h, by rw [Rat.den_intCast]; decide⟩
theorem rd_int (i : Int) : rd (i : Rat) = .tup [.int i, .int 1] := rfl
theorem rd_pure (q : Rat) : (rd q).pure = true := rfl
theorem rd_plain (q : Rat) : plainD (rd q) = true := rfl
theorem rd_dep (q : Rat) : dep (rd q) = 1 := rfl
theorem rd_inj {p q : Rat} (h : rd p = rd q) : p = q := by
  unfold rd at h
  injection h with h
  injection h with h1 h
  injection h with h2 h
  injection h1 with h1
  injection h2 with h2
  exact Rat.ext h1 (by omega)
section
variable {p q : Rat} {n1 d1 n2 d2 : Nat} {s : S}
theorem plus_k (hp : Bd p n1 d1) (hq : Bd q n2 d2) (hd : d1 + d2 ≤ 8990) (hn : n1 + n2 ≤ 390000) : callK D_plus [rd p, rd q] s = .ok (rd (p + q)) s := by
  have m1 := fun st => mul_pow (i := p.num) (j := q.den) (s := st) hp.1 (bdn hq) (by omega)
  have m2 := fun st => mul_pow (i := q.num) (j := p.den) (s := st) hq.1 (bdn hp) (by omega)
  have m3 := fun st => mul_pow (i := p.den) (j := q.den) (s := st) (bdn hp) (bdn hq) (by omega)
  have sk := fun st => share_k (a := p.num * q.den + q.num * p.den) (b := p.den * q.den) (s := st) (den_mul_pos p q) (natAbs_add_lt (natAbs_mul_lt hp.1 (bdn hq)) (natAbs_mul_lt hq.1 (bdn hp))) (by omega) (b1_pow (natAbs_mul_lt (bdn hp) (bdn hq)) hd)
  rw [← add_rat] at sk
  refine callK_val rfl (g := []) ?_ rfl
  rw [r_plus]
  unfold b_plus rd
  simp [m1, m2, m3, sk, rd]
theorem lplus_k (hp : Bd p n1 d1) (hq : Bd q n2 d2) (hd : d1 + d2 ≤ 8990) (hn : n1 + n2 ≤ 390000) : callK D__law_plus [rd p, rd q] s = .ok (rd (p + q)) s := by
  have m1 := fun st => mul_pow (i := p.num) (j := q.den) (s := st) hp.1 (bdn hq) (by omega)
  have m2 := fun st => mul_pow (i := q.num) (j := p.den) (s := st) hq.1 (bdn hp) (by omega)
  have m3 := fun st => mul_pow (i := p.den) (j := q.den) (s := st) (bdn hp) (bdn hq) (by omega)
  have sk := fun st => lshare_k (a := p.num * q.den + q.num * p.den) (b := p.den * q.den) (s := st) (den_mul_pos p q) (natAbs_add_lt (natAbs_mul_lt hp.1 (bdn hq)) (natAbs_mul_lt hq.1 (bdn hp))) (by omega) (b1_pow (natAbs_mul_lt (bdn hp) (bdn hq)) hd)
  rw [← add_rat] at sk
  refine callK_val rfl (g := []) ?_ rfl
  rw [r__law_plus]
  unfold b__law_plus rd
  simp [m1, m2, m3, sk, rd]
theorem lminus_k (hp : Bd p n1 d1) (hq : Bd q n2 d2) (hd : d1 + d2 ≤ 8990) (hn : n1 + n2 ≤ 390000) : callK D__law_minus [rd p, rd q] s = .ok (rd (p - q)) s := by
  have pk := fun st => lplus_k (s := st) hp (bd_neg hq) hd hn
  rw [← Rat.sub_eq_add_neg] at pk
  have e : rd (-q) = .tup [.int (-q.num), .int q.den] := rfl
  rw [e] at pk
  refine callK_val rfl (g := []) ?_ rfl
  rw [r__law_minus]
  unfold b__law_minus
  unfold rd at pk ⊢
  simp [pk]
theorem ltimes_k (hp : Bd p n1 d1) (hq : Bd q n2 d2) (hd : d1 + d2 ≤ 8990) (hn : n1 + n2 ≤ 390000) : callK D__law_times [rd p, rd q] s = .ok (rd (p * q)) s := by
  have m1 := fun st => mul_pow (i := p.num) (j := q.num) (s := st) hp.1 hq.1 (by omega)
  have m3 := fun st => mul_pow (i := p.den) (j := q.den) (s := st) (bdn hp) (bdn hq) (by omega)
  have sk := fun st => lshare_k (a := p.num * q.num) (b := p.den * q.den) (s := st) (den_mul_pos p q) (natAbs_mul_lt hp.1 hq.1) (by omega) (b1_pow (natAbs_mul_lt (bdn hp) (bdn hq)) hd)
  rw [← mul_rat] at sk
  refine callK_val rfl (g := []) ?_ rfl
  rw [r__law_times]
  unfold b__law_times rd
  simp [m1, m3, sk, rd]
theorem less_k (hp : Bd p n1 d1) (hq : Bd q n2 d2) (hd : d1 + d2 ≤ 8990) (hn : n1 + n2 ≤ 390000) : callK D_is_less [rd p, rd q] s = .ok (.bl (decide (p < q))) s := by
  have m1 := fun st => mul_pow (i := p.num) (j := q.den) (s := st) hp.1 (bdn hq) (by omega)
  have m2 := fun st => mul_pow (i := q.num) (j := p.den) (s := st) hq.1 (bdn hp) (by omega)
  refine callK_val rfl (g := []) ?_ rfl
  rw [r_is_less]
  unfold b_is_less rd
  simp [m1, m2, Rat.lt_iff]
theorem lless_k (hp : Bd p n1 d1) (hq : Bd q n2 d2) (hd : d1 + d2 ≤ 8990) (hn : n1 + n2 ≤ 390000) : callK D__law_less [rd p, rd q] s = .ok (.bl (decide (p < q))) s := less_k hp hq hd hn
end
/-! ### tables -/
def prD (p : Int × Int) : D := .tup [.int p.1, .int p.2]
def tbD (l : List (Int × Int)) : D := .tup (l.map prD)
/-- an entry in its bounds -/
def Ent (p : Int × Int) : Prop := 0 ≤ p.1 ∧ p.1 ≤ 366 ∧ -100000 ≤ p.2 ∧ p.2 ≤ 100000
structure Tab (l : List (Int × Int)) : Prop where
  lo : 2 ≤ l.length
  hi : l.length ≤ 60
  ent : ∀ p ∈ l, Ent p
  ris : l.Pairwise fun p q => p.1 < q.1
def line (p q : Int × Int) (t : Rat) : Rat := p.2 + (q.2 - p.2) * (t - p.1) / (q.1 - p.1)
theorem line_eq {p q : Int × Int} (h : p.1 < q.1) (t : Rat) : line p q t = ((p.2 * (q.1 - p.1) * t.den + (q.2 - p.2) * (t.num - p.1 * t.den) : Int) : Rat) / (((q.1 - p.1) * t.den : Int) : Rat) := by
  have h1 := den_ne t
  have h2 := rat_eq t
  have h3 : (q.1 : Rat) - p.1 ≠ 0 := by
    have : (p.1 : Rat) < q.1 := Rat.intCast_lt_intCast.mpr h
    grind
  unfold line
  simp only [Rat.intCast_add, Rat.intCast_mul, Rat.intCast_sub, Rat.intCast_natCast]
  generalize (t.den : Rat) = d at *
  generalize (t.num : Rat) = n at *
  subst h2
  grind
/-- a time's size -/
def Tm (t : Rat) : Prop := Bd t 200 180
theorem bd_line {p q : Int × Int} (hp : Ent p) (hq : Ent q) (h : p.1 < q.1) {t : Rat} (ht : Tm t) : Bd (line p q t) 220 189 := by
  rw [line_eq h]
  obtain ⟨a1, a2, a3, a4⟩ := hp
  obtain ⟨b1, b2, b3, b4⟩ := hq
  have e1 : (p.2 * (q.1 - p.1)).natAbs < 2 ^ (17 + 9) := natAbs_mul_lt (by omega) (by omega)
  have e2 : (p.2 * (q.1 - p.1) * t.den).natAbs < 2 ^ (17 + 9 + 180) := natAbs_mul_lt e1 (bdn ht)
  have e3 : (p.1 * t.den).natAbs < 2 ^ (9 + 180) := natAbs_mul_lt (by omega) (bdn ht)
  have e4 := natAbs_sub_lt ht.1 e3
  have e5 : ((q.2 - p.2) * (t.num - p.1 * t.den)).natAbs < 2 ^ (18 + 201) := natAbs_mul_lt (by omega) (by simpa using e4)
  have e6 := natAbs_add_lt e2 e5
  have e7 : ((q.1 - p.1) * t.den).natAbs < 2 ^ (9 + 180) := natAbs_mul_lt (by omega) (bdn ht)
  exact (bd_div (Int.mul_pos (by omega) (den_pos t)) e6 e7).le (by decide) (by decide)
theorem on_line_k {p q : Int × Int} {s : S} (hp : Ent p) (hq : Ent q) (h : p.1 < q.1) {t : Rat} (ht : Tm t) : callK D_on_line [prD p, prD q, rd t] s = .ok (rd (line p q t)) s := by
  have hE := line_eq h t
  have hp' := hp
  have hq' := hq
  obtain ⟨a1, a2, a3, a4⟩ := hp'
  obtain ⟨b1, b2, b3, b4⟩ := hq'
  have e1 : (p.2 * (q.1 - p.1)).natAbs < 2 ^ (17 + 9) := natAbs_mul_lt (by omega) (by omega)
  have e2 : (p.2 * (q.1 - p.1) * t.den).natAbs < 2 ^ (17 + 9 + 180) := natAbs_mul_lt e1 (bdn ht)
  have e3 : (p.1 * t.den).natAbs < 2 ^ (9 + 180) := natAbs_mul_lt (by omega) (bdn ht)
  have e4 := natAbs_sub_lt ht.1 e3
  have e5 : ((q.2 - p.2) * (t.num - p.1 * t.den)).natAbs < 2 ^ (18 + 201) := natAbs_mul_lt (by omega) (by simpa using e4)
  have e6 := natAbs_add_lt e2 e5
  have e7 : ((q.1 - p.1) * t.den).natAbs < 2 ^ (9 + 180) := natAbs_mul_lt (by omega) (bdn ht)
  have m1 := fun j st => v_mul64 (i := p.2) (j := j) (s := st) (by omega)
  have m2 := fun j st => v_mul64 (i := p.2 * (q.1 - p.1)) (j := j) (s := st) (by omega)
  have m3 := fun j st => v_mul64 (i := p.1) (j := j) (s := st) (by omega)
  have m4 := fun j st => v_mul64 (i := q.2 - p.2) (j := j) (s := st) (by omega)
  have m5 := fun j st => v_mul64 (i := q.1 - p.1) (j := j) (s := st) (by omega)
  have sk := fun st => share_k (a := p.2 * (q.1 - p.1) * t.den + (q.2 - p.2) * (t.num - p.1 * t.den)) (b := (q.1 - p.1) * t.den) (s := st) (Int.mul_pos (by omega) (den_pos t)) e6 (by decide) (b1_pow e7 (by decide))
  rw [← hE] at sk
  refine callK_val rfl (g := []) ?_ rfl
  rw [r_on_line]
  unfold b_on_line prD
  have er : rd t = .tup [.int t.num, .int t.den] := rfl
  rw [er]
  simp [m1, m2, m3, m4, m5, sk]
end YE

/-! YG: values of tables, and the areas below them. -/
namespace YE
open Y YN
open PySem (Str PyData)
theorem cut_from {xs : List D} (i : Nat) : cutD xs (some (i : Int)) none = xs.drop i := by
  unfold cutD cutIx
  simp only
  rw [if_neg (by omega), Int.toNat_natCast]
  by_cases h : i ≤ xs.length
  · rw [Nat.min_eq_left h]
    exact List.take_of_length_le (by rw [List.length_drop]; omega)
  · rw [Nat.min_eq_right (by omega), List.drop_eq_nil_of_le (Nat.le_refl _), List.drop_eq_nil_of_le (by omega)]
    simp
theorem cut_1 {xs : List D} : cutD xs (some 1) none = xs.drop 1 := cut_from 1
theorem atD_neg1 {xs : List D} {d : D} (h : xs[xs.length - 1]? = some d) : atD xs (-1) = some d := by
  have hl := (List.getElem?_eq_some_iff.mp h).1
  unfold atD
  rw [if_neg (by omega), if_pos (by omega)]
  rw [show (-1 + (xs.length : Int)).toNat = xs.length - 1 by omega]
  exact h
theorem ratI {i j : Int} : (i : Rat) < (j : Rat) ↔ i < j := Rat.intCast_lt_intCast
theorem ratIe {i j : Int} : (i : Rat) ≤ (j : Rat) ↔ i ≤ j := Rat.intCast_le_intCast
/-- the last day -/
def lst (l : List (Int × Int)) : Int × Int := l.getLastD (0, 0)
def fst (l : List (Int × Int)) : Int × Int := l.headD (0, 0)
theorem lst_cons (p q : Int × Int) (r : List (Int × Int)) : lst (p :: q :: r) = lst (q :: r) := by simp [lst, List.getLastD_cons]
theorem lst_mem {l : List (Int × Int)} (h : 0 < l.length) : lst l ∈ l := by
  cases l with
  | nil => cases h
  | cons p r => unfold lst; rw [List.getLastD_cons]; cases r with
    | nil => simp
    | cons q r => rw [List.getLastD_cons]; exact List.mem_cons_of_mem _ (by
        rw [List.getLastD_eq_getLast?]
        cases e : r.getLast? with
        | none => simp
        | some x => exact List.mem_cons_of_mem _ (List.mem_of_getLast? e))
theorem le_lst : ∀ {l : List (Int × Int)}, l.Pairwise (fun p q => p.1 < q.1) → ∀ p ∈ l, p.1 ≤ (lst l).1
  | [], _, p, h => by cases h
  | [x], _, p, h => by
    rw [List.mem_singleton] at h
    rw [h]; exact Int.le_refl _
  | x :: y :: r, hr, p, h => by
    obtain ⟨h1, h2⟩ := List.pairwise_cons.mp hr
    have ih := le_lst h2
    rw [lst_cons]
    rcases List.mem_cons.mp h with e | e
    · have := h1 y List.mem_cons_self
      have := ih y List.mem_cons_self
      rw [e]; omega
    · exact ih p e
theorem fst_le {l : List (Int × Int)} (hr : l.Pairwise fun p q => p.1 < q.1) : ∀ p ∈ l, (fst l).1 ≤ p.1 := by
  cases l with
  | nil => intro p h; cases h
  | cons x r =>
    intro p h
    obtain ⟨h1, h2⟩ := List.pairwise_cons.mp hr
    rcases List.mem_cons.mp h with e | e
    · rw [e]; exact Int.le_refl _
    · exact Int.le_of_lt (h1 p e)
def vIn : List (Int × Int) → Rat → Rat
  | p :: q :: r, t => if (q.1 : Rat) < t then vIn (q :: r) t else line p q t
  | _, _ => 0
theorem sub_ne {p q : Int × Int} (h : p.1 < q.1) : (q.1 : Rat) - p.1 ≠ 0 := by
  have : (p.1 : Rat) < q.1 := ratI.mpr h
  grind
theorem line_lo {p q : Int × Int} : line p q p.1 = p.2 := by
  unfold line; grind
theorem line_hi {p q : Int × Int} (h : p.1 < q.1) : line p q q.1 = q.2 := by
  have := sub_ne h
  unfold line; grind
/-- a day's own value -/
theorem vIn_head {p q : Int × Int} {r : List (Int × Int)} (h : p.1 < q.1) : vIn (p :: q :: r) p.1 = p.2 := by
  unfold vIn
  rw [if_neg (by have := ratI.mpr h; grind), line_lo]
theorem vIn_day : ∀ {l : List (Int × Int)}, l.Pairwise (fun p q => p.1 < q.1) → 2 ≤ l.length → ∀ x ∈ l, vIn l x.1 = x.2
  | [], _, h, _, _ => by simp at h
  | [p], _, h, _, _ => by simp at h
  | p :: q :: r, hr, _, x, hx => by
    obtain ⟨h1, h2⟩ := List.pairwise_cons.mp hr
    have hpq := h1 q List.mem_cons_self
    rcases List.mem_cons.mp hx with e | e
    · rw [e]; exact vIn_head hpq
    · rcases List.mem_cons.mp e with e2 | e2
      · rw [e2]
        unfold vIn
        rw [if_neg (by grind), line_hi hpq]
      · have hq := (List.pairwise_cons.mp h2).1 x e2
        unfold vIn
        rw [if_pos (ratI.mpr hq)]
        exact vIn_day h2 (by cases r with
          | nil => cases e2
          | cons y r => simp) x (List.mem_cons_of_mem _ e2)
/-- the value by the piece's place -/
theorem vIn_at : ∀ (m : Nat) (l : List (Int × Int)) (t : Rat), l.Pairwise (fun p q => p.1 < q.1) → (h : m + 1 < l.length) → t ≤ (lst l).1 → (∀ k (hk : k < m), (l[k + 1].1 : Rat) ≤ t) → (l.length ≤ m + 2 ∨ t < l[m + 1].1) → vIn l t = line l[m] l[m + 1] t
  | _, [], _, _, h, _, _, _ => by simp at h
  | _, [p], _, _, h, _, _, _ => by simp at h
  | 0, p :: q :: r, t, hr, h, hl, _, hm => by
    have hpq := (List.pairwise_cons.mp hr).1 q List.mem_cons_self
    unfold vIn
    rw [if_neg]
    · rfl
    · rcases hm with hm | hm
      · have : r = [] := by cases r with
          | nil => rfl
          | cons y r => simp at hm
        subst this
        have : (lst [p, q]) = q := rfl
        rw [this] at hl
        grind
      · have hm : t < q.1 := hm
        grind
  | m + 1, p :: q :: r, t, hr, h, hl, hk, hm => by
    obtain ⟨h1, h2⟩ := List.pairwise_cons.mp hr
    have hpq := h1 q List.mem_cons_self
    have hq : (q.1 : Rat) ≤ t := hk 0 (by omega)
    have hlen : m + 1 < (q :: r).length := by simp at h ⊢; omega
    by_cases e : (q.1 : Rat) < t
    · have ih := vIn_at m (q :: r) t h2 hlen (by rw [← lst_cons p]; exact hl) (fun k hk' => hk (k + 1) (by omega)) (by
        rcases hm with hm | hm
        · left; simp at hm ⊢; omega
        · right; exact hm)
      unfold vIn
      rw [if_pos e, ih]
      rfl
    · have e2 : t = q.1 := by grind
      have hm0 : m = 0 := by
        cases m with
        | zero => rfl
        | succ m =>
          have h3 : (((p :: q :: r)[2]'(by simp at hlen ⊢; omega)).1 : Rat) ≤ t := hk 1 (by omega)
          have h4 : q.1 < ((q :: r)[1]'(by simp at hlen ⊢; omega)).1 := by
            have := List.pairwise_iff_getElem.mp h2 0 1 (by simp) (by simp at hlen ⊢; omega) (by omega)
            exact this
          have h5 := ratI.mpr h4
          have h6 : (((q :: r)[1]'(by simp at hlen ⊢; omega)).1 : Rat) ≤ t := h3
          grind
      subst hm0
      have h4 : q.1 < ((q :: r)[1]'hlen).1 := List.pairwise_iff_getElem.mp h2 0 1 (by simp) hlen (by omega)
      unfold vIn
      rw [if_neg e, e2, line_hi hpq]
      show _ = line q ((q :: r)[1]'hlen) q.1
      rw [line_lo]
theorem zip_tail (p q : Int × Int) (r : List (Int × Int)) : zipD ((p :: q :: r).map prD) (((p :: q :: r).map prD).drop 1) = .tup [prD p, prD q] :: zipD ((q :: r).map prD) (((q :: r).map prD).drop 1) := rfl
theorem bd_day {i : Int} (h0 : 0 ≤ i) (h1 : i ≤ 366) : Tm (i : Rat) := (bd_int (n := 9) (by omega)).le (by decide) (by decide)
theorem rd_day (i : Int) : rd (i : Rat) = .tup [.int i, .int 1] := rfl
def lessB : Sm := (zIf (tNot (tst (eCallK 2 D_is_less (aC (eTup (aC (e2 oIx (eV 3) (eC (.int 0))) (aC (eC (.int 1)) aN))) (aC (eV 1) aN)))))
     (zRet (eCallK 3 D_on_line (aC (eV 2) (aC (eV 3) (aC (eV 1) aN)))))
     zNil)
theorem value_loop {T : D} (hT : T.pure = true) {t : Rat} (ht : Tm t) {s : S} : ∀ (l : List (Int × Int)) (x y : D), (∀ p ∈ l, Ent p) → l.Pairwise (fun p q => p.1 < q.1) → 2 ≤ l.length → t ≤ (lst l).1 →
    forM (gT (gsC (gV 2) (gsC (gV 3) gsN))) lessB (zipD (l.map prD) ((l.map prD).drop 1)) [T, rd t, x, y] s = .rt (rd (vIn l t)) s
  | [], _, _, _, _, h, _ => by simp at h
  | [p], _, _, _, _, h, _ => by simp at h
  | p :: q :: r, x, y, he, hr, _, hl => by
    obtain ⟨h1, h2⟩ := List.pairwise_cons.mp hr
    have hpq := h1 q List.mem_cons_self
    have ep := he p List.mem_cons_self
    have eq := he q (List.mem_cons_of_mem _ List.mem_cons_self)
    have lk := fun st => less_k (p := (q.1 : Rat)) (q := t) (s := st) (bd_day eq.1 eq.2.1) ht (by decide) (by decide)
    rw [rd_day] at lk
    rw [zip_tail]
    unfold Y.forM vIn
    by_cases hlt : (q.1 : Rat) < t
    · have ih := value_loop hT ht (s := s) (q :: r) (prD p) (prD q) (fun z hz => he z (List.mem_cons_of_mem _ hz)) h2 (by
        cases r with
        | nil =>
          have : lst [p, q] = q := rfl
          rw [this] at hl
          grind
        | cons z r => simp) (by rw [← lst_cons p]; exact hl)
      rw [if_pos hlt, ← ih]
      have er : ∀ z : Rat, rd z = .tup [.int z.num, .int z.den] := fun _ => rfl
      unfold lessB
      simp only [prD] at *
      rw [er t] at lk ⊢
      simp [lk, hlt]
    · rw [if_neg hlt]
      have ok := fun st => on_line_k (s := st) ep eq hpq ht
      have er : ∀ z : Rat, rd z = .tup [.int z.num, .int z.den] := fun _ => rfl
      unfold lessB
      unfold prD at ok ⊢
      rw [er t] at lk ok ⊢
      simp [lk, hlt, ok]
theorem tb_pure : ∀ l : List (Int × Int), D.pureL (l.map prD) = true
  | [] => rfl
  | p :: l => by
    rw [List.map_cons]
    show ((prD p).pure && D.pureL (l.map prD)) = true
    rw [tb_pure l]; rfl
theorem tb_plain : ∀ l : List (Int × Int), plainL (l.map prD) = true
  | [] => rfl
  | p :: l => by
    rw [List.map_cons]
    show (plainD (prD p) && plainL (l.map prD)) = true
    rw [tb_plain l]; rfl
theorem zip_self {a : E} {g : Tg} {b : Sm} {r : Env} {s : S} {xs : List D} (h : a r s = .ok (.tup xs) s) : zFor (iZip a (eCut a (.at (eC (.int 1))) .no)) g b r s = forM g b (zipD xs (xs.drop 1)) r s := by
  unfold zFor iZip eCut
  rw [h]
  simp only [bind_ok]
  rw [h]
  simp [Part.run, cut_1]
theorem tab_ne {l : List (Int × Int)} (hl : Tab l) : ∃ p q r, l = p :: q :: r := by
  have := hl.lo
  match l, this with
  | p :: q :: r, _ => exact ⟨p, q, r, rfl⟩
theorem value_in_k {l : List (Int × Int)} (hl : Tab l) {t : Rat} (ht : Tm t) (h1 : t ≤ (lst l).1) {s : S} : callK D_value_in [tbD l, rd t] s = .ok (rd (vIn l t)) s := by
  refine callK_val (by show (D.pureL (l.map prD) && true) = true; rw [tb_pure]; rfl) (g := []) ?_ rfl
  rw [r_value_in]
  unfold b_value_in
  have := value_loop (T := tbD l) (tb_pure l) ht (s := []) l .undef .undef hl.ent hl.ris hl.lo h1
  unfold lessB at this
  rw [ap_zCons]
  rw [zip_self (xs := l.map prD) (by rfl)]
  rw [this]
  rfl
end YE

/-! YH: the law's values, and the areas below a table. -/
namespace YE
open Y YN
open PySem (Str PyData)
theorem ix_tb {l : List (Int × Int)} {i : Int} {m : Nat} (h : m < l.length) (e : i = (m : Int)) : atD (l.map prD) i = some (prD l[m]) := by
  subst e
  exact atD_nat (by rw [List.getElem?_map, List.getElem?_eq_getElem h]; rfl)
theorem ent_at {l : List (Int × Int)} (hl : Tab l) {m : Nat} (h : m < l.length) : Ent l[m] := hl.ent _ (List.getElem_mem h)
theorem ris_at {l : List (Int × Int)} (hl : Tab l) {m : Nat} (h : m + 1 < l.length) : l[m].1 < l[m + 1].1 := List.pairwise_iff_getElem.mp hl.ris m (m + 1) (by omega) h (by omega)
theorem line_frac {p q : Int × Int} (h : p.1 < q.1) (t : Rat) : (p.2 : Rat) + (t - p.1) * (((q.2 - p.2 : Int) : Rat) / ((q.1 - p.1 : Int) : Rat)) = line p q t := by
  have := sub_ne h
  unfold line
  rw [Rat.intCast_sub, Rat.intCast_sub]
  grind
def lvC : T := tAnd (tst (e2 oLt (e2 oAdd (eV 2) (eC (.int 2))) (eN bLen (aC (eV 0) aN)))) (tNot (tst (eCallK 2 D__law_less (aC (eV 1) (aC (eTup (aC (e2 oIx (e2 oIx (eV 0) (e2 oAdd (eV 2) (eC (.int 1)))) (eC (.int 0))) (aC (eC (.int 1)) aN))) aN)))))
def lvB : Sm := zSet (gV 2) (e2 oAdd (eV 2) (eC (.int 1)))
def lvE : Sm := (zCons (zPar 3 4 (e2 oIx (eV 0) (eV 2)) (e2 oIx (eV 0) (e2 oAdd (eV 2) (eC (.int 1)))))
    (zCons (zSet (gV 5) (eCallK 2 D__law_minus (aC (eV 1) (aC (eTup (aC (e2 oIx (eV 3) (eC (.int 0))) (aC (eC (.int 1)) aN))) aN))))
    (zRet (eCallK 2 D__law_plus (aC (eTup (aC (e2 oIx (eV 3) (eC (.int 1))) (aC (eC (.int 1)) aN))) (aC (eCallK 2 D__law_times (aC (eV 5) (aC (eCallK 2 D__law_share (aC (e2 oSub (e2 oIx (eV 4) (eC (.int 1))) (e2 oIx (eV 3) (eC (.int 1)))) (aC (e2 oSub (e2 oIx (eV 4) (eC (.int 0))) (e2 oIx (eV 3) (eC (.int 0)))) aN))) aN))) aN))))))
theorem law_value_k {l : List (Int × Int)} (hl : Tab l) {t : Rat} (ht : Tm t) (h1 : t ≤ (lst l).1) {s : S} : callK D__law_value [tbD l, rd t] s = .ok (rd (vIn l t)) s := by
  refine callK_val (by show (D.pureL (l.map prD) && true) = true; rw [tb_pure]; rfl) (g := []) ?_ rfl
  rw [r__law_value]
  rw [show b__law_value = zCons (zSet (gV 2) (eC (.int 0))) (zCons (zWhile lvC lvB) lvE) from rfl]
  have lo := hl.lo
  have hi := hl.hi
  obtain ⟨r', s', e, m, hm, hk, hx, rfl, rfl⟩ := zWhile_invB (c := lvC) (b := lvB)
    (fun r t' => ∃ m : Nat, m + 1 < l.length ∧ (∀ k (h : k + 1 < l.length), k < m → (l[k + 1].1 : Rat) ≤ t) ∧ r = [tbD l, rd t, .int m, .undef, .undef, .undef] ∧ t' = [])
    (fun r t' => ∃ m : Nat, ∃ h : m + 1 < l.length, (∀ k (h : k + 1 < l.length), k < m → (l[k + 1].1 : Rat) ≤ t) ∧ (l.length ≤ m + 2 ∨ t < l[m + 1].1) ∧ r = [tbD l, rd t, .int m, .undef, .undef, .undef] ∧ t' = [])
    (fun r _ => match r with | [_, _, .int m, _, _, _] => (60 - m).toNat | _ => 0) (by
      rintro r t' ⟨m, hm, hk, rfl, rfl⟩
      have ix := ix_tb (i := (m : Int) + 1) hm (by omega)
      have em := ent_at hl hm
      have lk := fun st => lless_k (p := t) (q := (l[m + 1].1 : Rat)) (s := st) ht (bd_day em.1 em.2.1) (by decide) (by decide)
      rw [rd_day] at lk
      have er : rd t = .tup [.int t.num, .int t.den] := rfl
      have cond : lvC [tbD l, rd t, .int m, .undef, .undef, .undef] [] = .ok (decide (m + 2 < l.length ∧ ¬ t < l[m + 1].1)) [] := by
        unfold lvC tbD
        by_cases h2 : m + 2 < l.length
        · have h2' : (m : Int) + 2 < l.length := by omega
          rw [er] at lk ⊢
          simp [h2, h2', ix, prD, lk]
        · have h2' : ¬ (m : Int) + 2 < l.length := by omega
          simp [h2, h2', ix]
      refine ⟨_, [], cond, fun q => ⟨m, hm, hk, ?_, rfl, rfl⟩, fun q => ?_⟩
      · by_cases h2 : m + 2 < l.length
        · right
          have q : ¬ (m + 2 < l.length ∧ ¬ t < l[m + 1].1) := by simpa using q
          by_cases h3 : t < l[m + 1].1
          · exact h3
          · exact absurd ⟨h2, h3⟩ q
        · left; omega
      · have q : m + 2 < l.length ∧ ¬ t < l[m + 1].1 := by simpa using q
        refine ⟨[tbD l, rd t, .int (m + 1), .undef, .undef, .undef], [], .inl (by unfold lvB; simp), ⟨m + 1, by omega, fun k h hkm => ?_, by simp, rfl⟩, ?_⟩
        · by_cases e : k = m
          · subst e
            have := q.2
            grind
          · exact hk k h (by omega)
        · show (60 - ((m : Int) + 1)).toNat < (60 - (m : Int)).toNat
          omega) (r := [tbD l, rd t, .int 0, .undef, .undef, .undef]) (s := []) ⟨0, by omega, fun k h hk => absurd hk (by omega), rfl, rfl⟩ (by
      show (60 - (0 : Int)).toNat < B1
      have : 60 < B1 := by decide +kernel
      omega)
  have hv := vIn_at m l t hl.ris hm h1 (fun k hkm => hk k (by omega) hkm) hx
  have i1 := ix_tb (i := (m : Int)) (show m < l.length by omega) rfl
  have i2 := ix_tb (i := (m : Int) + 1) hm (by omega)
  have em := ent_at hl (show m < l.length by omega)
  have en := ent_at hl hm
  have rs := ris_at hl hm
  generalize l[m]'(by omega) = p at *
  generalize l[m + 1] = q at *
  rw [hv]
  obtain ⟨a1, a2, a3, a4⟩ := em
  obtain ⟨b1, b2, b3, b4⟩ := en
  have mk := fun st => lminus_k (p := t) (q := (p.1 : Rat)) (s := st) ht (bd_day a1 a2) (by decide) (by decide)
  have bm : Bd (t - (p.1 : Rat)) 381 360 := bd_sub ht (bd_day a1 a2)
  have bf : Bd (((q.2 - p.2 : Int) : Rat) / ((q.1 - p.1 : Int) : Rat)) 18 9 := bd_div (by omega) (by omega) (by omega)
  have sk := fun st => lshare_k (a := q.2 - p.2) (b := q.1 - p.1) (n := 18) (s := st) (by omega) (by omega) (by omega) (b1_pow (d := 9) (by omega) (by omega))
  have tk := fun st => ltimes_k (s := st) bm bf (by decide) (by decide)
  have bt := bd_mul bm bf
  have b2' : Bd ((p.2 : Int) : Rat) 17 1 := bd_int (by omega)
  have pk := fun st => lplus_k (s := st) b2' bt (by decide) (by decide)
  rw [line_frac rs] at pk
  generalize ((q.2 - p.2 : Int) : Rat) / ((q.1 - p.1 : Int) : Rat) = fr at *
  generalize t - (p.1 : Rat) = w at *
  rw [rd_int] at mk pk
  have w1 : ∀ q : Rat, rd q = .tup [.int q.num, .int q.den] := fun _ => rfl
  rw [ap_zCons, show zSet (gV 2) (eC (.int 0)) [tbD l, rd t, .undef, .undef, .undef, .undef] [] = .nx [tbD l, rd t, .int 0, .undef, .undef, .undef] [] by simp, andThen_nx, ap_zCons, e, andThen_nx]
  unfold lvE tbD
  rw [w1 t] at mk ⊢
  rw [w1 w] at mk tk
  rw [w1 fr] at sk tk
  rw [w1 (w * fr)] at tk pk
  simp [i1, i2, prD, mk, sk, tk, pk]
end YE

/-! YI: the area below a table up to a day. -/
namespace YE
open Y YN
open PySem (Str PyData)
def ar : List (Int × Int) → Rat → Rat
  | p :: q :: r, t => if (q.1 : Rat) < t then (p.2 + q.2) * (q.1 - p.1) / 2 + ar (q :: r) t else (p.2 + line p q t) * (t - p.1) / 2
  | _, _ => 0
theorem ar_head {p q : Int × Int} {r : List (Int × Int)} (h : p.1 < q.1) : ar (p :: q :: r) p.1 = 0 := by
  unfold ar
  rw [if_neg (by have := ratI.mpr h; grind)]
  grind
theorem tz_alg {p2 p1 m a b : Rat} : ((p2 + m * (a - p1)) + (p2 + m * (b - p1))) * (b - a) / 2 = (p2 + (p2 + m * (b - p1))) * (b - p1) / 2 - (p2 + (p2 + m * (a - p1))) * (a - p1) / 2 := by
  grind
theorem line_slope {p q : Int × Int} (h : p.1 < q.1) (t : Rat) : line p q t = p.2 + (((q.2 : Rat) - p.2) / ((q.1 : Rat) - p.1)) * (t - p.1) := by
  have := sub_ne h
  unfold line
  grind
/-- no day of the table lies between -/
theorem trap : ∀ (l : List (Int × Int)) (a b : Rat), l.Pairwise (fun p q => p.1 < q.1) → 2 ≤ l.length → ((fst l).1 : Rat) ≤ a → a ≤ b → b ≤ (lst l).1 → (∀ p ∈ l, ¬ (a < p.1 ∧ (p.1 : Rat) < b)) → (vIn l a + vIn l b) * (b - a) / 2 = ar l b - ar l a
  | [], _, _, _, h, _, _, _, _ => by simp at h
  | [p], _, _, _, h, _, _, _, _ => by simp at h
  | p :: q :: r, a, b, hr, _, ha, hab, hb, hn => by
    obtain ⟨h1, h2⟩ := List.pairwise_cons.mp hr
    have hpq := h1 q List.mem_cons_self
    by_cases hq : (q.1 : Rat) < b
    · have hqa : (q.1 : Rat) ≤ a := by
        have := hn q (List.mem_cons_of_mem _ List.mem_cons_self)
        grind
      have hl : 2 ≤ (q :: r).length := by
        cases r with
        | nil =>
          have : lst [p, q] = q := rfl
          rw [this] at hb
          grind
        | cons z r => simp
      have ih := trap (q :: r) a b h2 hl hqa hab (by rw [← lst_cons p]; exact hb) (fun z hz => hn z (List.mem_cons_of_mem _ hz))
      by_cases hqa' : (q.1 : Rat) < a
      · have e1 : ar (p :: q :: r) a = (p.2 + q.2) * (q.1 - p.1) / 2 + ar (q :: r) a := by rw [ar, if_pos hqa']
        have e2 : ar (p :: q :: r) b = (p.2 + q.2) * (q.1 - p.1) / 2 + ar (q :: r) b := by rw [ar, if_pos hq]
        have e3 : vIn (p :: q :: r) a = vIn (q :: r) a := by rw [vIn, if_pos hqa']
        have e4 : vIn (p :: q :: r) b = vIn (q :: r) b := by rw [vIn, if_pos hq]
        rw [e1, e2, e3, e4, ih]
        grind
      · have ea : a = q.1 := by grind
        subst ea
        have e1 : ar (p :: q :: r) q.1 = (p.2 + q.2) * (q.1 - p.1) / 2 := by rw [ar, if_neg hqa', line_hi hpq]
        have e2 : ar (p :: q :: r) b = (p.2 + q.2) * (q.1 - p.1) / 2 + ar (q :: r) b := by rw [ar, if_pos hq]
        have e3 : vIn (p :: q :: r) q.1 = q.2 := by rw [vIn, if_neg hqa', line_hi hpq]
        have e4 : vIn (p :: q :: r) b = vIn (q :: r) b := by rw [vIn, if_pos hq]
        have e5 := vIn_day h2 hl q List.mem_cons_self
        have e6 : ar (q :: r) q.1 = 0 := by
          cases r with
          | nil => simp at hl
          | cons z r => exact ar_head ((List.pairwise_cons.mp h2).1 z List.mem_cons_self)
        rw [e5, e6] at ih
        rw [e1, e2, e3, e4, ih]
        grind
    · have hqa : ¬ (q.1 : Rat) < a := by grind
      have e1 : ar (p :: q :: r) a = (p.2 + line p q a) * (a - p.1) / 2 := by rw [ar, if_neg hqa]
      have e2 : ar (p :: q :: r) b = (p.2 + line p q b) * (b - p.1) / 2 := by rw [ar, if_neg hq]
      have e3 : vIn (p :: q :: r) a = line p q a := by rw [vIn, if_neg hqa]
      have e4 : vIn (p :: q :: r) b = line p q b := by rw [vIn, if_neg hq]
      rw [e1, e2, e3, e4, line_slope hpq, line_slope hpq, tz_alg]
theorem ar_form {t : Rat} (ht : Tm t) : ∀ l : List (Int × Int), (∀ p ∈ l, Ent p) → l.Pairwise (fun p q => p.1 < q.1) → ∃ (i : Int) (x : Rat), ar l t = (i : Rat) / ((2 : Int) : Rat) + x ∧ i.natAbs ≤ l.length * 73200000 ∧ Bd x 425 373
  | [], _, _ => ⟨0, 0, by show (0 : Rat) = _; grind, by simp, by decide, by decide⟩
  | [p], _, _ => ⟨0, 0, by show (0 : Rat) = _; grind, by simp, by decide, by decide⟩
  | p :: q :: r, he, hr => by
    obtain ⟨h1, h2⟩ := List.pairwise_cons.mp hr
    have hpq := h1 q List.mem_cons_self
    have ep := he p List.mem_cons_self
    have eq := he q (List.mem_cons_of_mem _ List.mem_cons_self)
    unfold ar
    by_cases hq : (q.1 : Rat) < t
    · obtain ⟨i, x, e, hi, hx⟩ := ar_form ht (q :: r) (fun z hz => he z (List.mem_cons_of_mem _ hz)) h2
      refine ⟨(p.2 + q.2) * (q.1 - p.1) + i, x, ?_, ?_, hx⟩
      · rw [if_pos hq, e, Rat.intCast_add, Rat.intCast_mul, Rat.intCast_add, Rat.intCast_sub]
        show _ = _ / (2 : Rat) + x
        show _ + (_ / (2 : Rat) + x) = _
        grind
      · have : ((p.2 + q.2) * (q.1 - p.1)).natAbs ≤ 200000 * 366 := by
          rw [Int.natAbs_mul]
          obtain ⟨a1, a2, a3, a4⟩ := ep
          obtain ⟨b1, b2, b3, b4⟩ := eq
          exact Nat.mul_le_mul (by omega) (by omega)
        have h3 := Int.natAbs_add_le ((p.2 + q.2) * (q.1 - p.1)) i
        simp only [List.length_cons] at hi ⊢
        omega
    · refine ⟨0, (p.2 + line p q t) * (t - p.1) / 2, ?_, by simp, ?_⟩
      · rw [if_neg hq]
        grind
      · have bl := bd_line ep eq hpq ht
        obtain ⟨a1, a2, a3, a4⟩ := ep
        have b1 : Bd ((p.2 : Int) : Rat) 17 1 := bd_int (by omega)
        have b2 := bd_sub ht (bd_int (i := p.1) (n := 9) (by omega))
        have b3 := bd_mul (bd_add b1 bl) b2
        have b4 : Bd (1 / 2 : Rat) 1 2 := by unfold Bd; decide +kernel
        have b5 := bd_mul b3 b4
        rw [show (p.2 + line p q t) * (t - p.1) / 2 = (p.2 + line p q t) * (t - p.1) * (1 / 2) by grind]
        exact b5.le (by decide) (by decide)
theorem bd_ar {l : List (Int × Int)} (hl : Tab l) {t : Rat} (ht : Tm t) : Bd (ar l t) 428 375 := by
  obtain ⟨i, x, e, hi, hx⟩ := ar_form ht l hl.ent hl.ris
  have := hl.hi
  have b : Bd ((i : Rat) / ((2 : Int) : Rat)) 33 2 := bd_div (by decide) (by omega) (by decide)
  rw [e]
  exact (bd_add b hx).le (by decide) (by decide)
def Ar (q : Rat) : Prop := Bd q 900 760
theorem bd_dar {l : List (Int × Int)} (hl : Tab l) {a b : Rat} (ha : Tm a) (hb : Tm b) : Ar (ar l b - ar l a) := (bd_sub (bd_ar hl hb) (bd_ar hl ha)).le (by decide) (by decide)
end YE

/-! YJ: knots and areas. -/
namespace YE
open Y YN
open PySem (Str PyData)
theorem add_refs {a b : Nat} {xs ys : List D} {s : S} (ha : s[a]? = some (.lst xs)) (hb : s[b]? = some (.lst ys)) (h : xs.length + ys.length ≤ 1000000) : oAdd (.ref a) (.ref b) s = .ok (.ref s.length) (s ++ [.lst (xs ++ ys)]) := by
  unfold oAdd
  simp only [ha, hb]
  rw [if_pos (show xs.length + ys.length ≤ LINE from h)]
def knots (l : List (Int × Int)) (a b : Rat) : List Rat := a :: ((l.filter fun p => decide (a < p.1) && decide ((p.1 : Rat) < b)).map fun p => (p.1 : Rat)) ++ (if a < b then [b] else [])
def kp (a b : Rat) : D → Bool
  | .tup [.int i, _] => decide (a < i) && decide ((i : Rat) < b)
  | _ => false
def kf : D → D
  | .tup [.int i, _] => .tup [.int i, .int 1]
  | _ => .non
def kr (l : List (Int × Int)) (a b : Rat) : D → Env
  | .tup [i, v] => [tbD l, rd a, rd b, .undef, i, v]
  | _ => []
theorem kp_map (a b : Rat) (l : List (Int × Int)) : (((l.map prD).filter (kp a b)).map kf) = ((l.filter fun p => decide (a < p.1) && decide ((p.1 : Rat) < b)).map fun p => (p.1 : Rat)).map rd := by
  rw [List.filter_map, List.map_map, List.map_map]
  rfl
theorem rds_pure : ∀ K : List Rat, D.pureL (K.map rd) = true
  | [] => rfl
  | q :: K => by
    rw [List.map_cons]
    show ((rd q).pure && D.pureL (K.map rd)) = true
    rw [rds_pure K]; rfl
theorem knots_len (l : List (Int × Int)) (a b : Rat) : (knots l a b).length ≤ l.length + 2 := by
  unfold knots
  have := List.length_filter_le (fun p : Int × Int => decide (a < p.1) && decide ((p.1 : Rat) < b)) l
  split <;> simp <;> omega
theorem knots_in_k {l : List (Int × Int)} (hl : Tab l) {a b : Rat} (ha : Tm a) (hb : Tm b) {s : S} : callK D_knots_in [tbD l, rd a, rd b] s = .ok (.ref s.length) (s ++ [.lst ((knots l a b).map rd)]) := by
  have hi := hl.hi
  have h2 := fun st => less_k (s := st) ha hb (by decide) (by decide)
  have er : ∀ q : Rat, rd q = .tup [.int q.num, .int q.den] := fun _ => rfl
  have key : ∃ g j, D_knots_in [tbD l, rd a, rd b] [] = .ok (.ref j) g ∧ g[j]? = some (.lst ((knots l a b).map rd)) := by
    rw [r_knots_in]
    unfold b_knots_in
    have hc := eLc_items (it := iTup (eV 0)) (g := gT (gsC (gV 4) (gsC (gV 5) gsN))) (t := tAnd (tst (eCallK 2 D_is_less (aC (eV 1) (aC (eTup (aC (eV 4) (aC (eC (.int 1)) aN))) aN)))) (tst (eCallK 2 D_is_less (aC (eTup (aC (eV 4) (aC (eC (.int 1)) aN))) (aC (eV 2) aN)))))
      (e := eTup (aC (eV 4) (aC (eC (.int 1)) aN))) (own := [4, 5]) (r := [tbD l, rd a, rd b, .undef, .undef, .undef]) (s := []) (s1 := []) (xs := l.map prD) (ap_iTup rfl) (kr l a b) (kp a b) kf (by
        intro x hx acc
        obtain ⟨p, hp, rfl⟩ := List.mem_map.mp hx
        have ep := hl.ent p hp
        have b1 := bd_day ep.1 ep.2.1
        have k1 := fun st => less_k (s := st) ha b1 (by decide) (by decide)
        have k2 := fun st => less_k (s := st) b1 hb (by decide) (by decide)
        rw [rd_day] at k1 k2
        rw [er a] at k1
        rw [er b] at k2
        refine ⟨rfl, ?_, fun _ => by simp [kr, prD, kf]⟩
        unfold kr prD kp
        simp only
        by_cases c1 : a < (p.1 : Rat)
        · simp [er a, er b, k1, k2, c1]
        · simp [er a, er b, k1, k2, c1]) (by rw [List.length_map]; omega)
    rw [kp_map] at hc
    simp only [List.length_nil, List.nil_append] at hc
    have hlen := List.length_filter_le (fun p : Int × Int => decide (a < p.1) && decide ((p.1 : Rat) < b)) l
    unfold knots
    generalize hm : (l.filter fun p => decide (a < p.1) && decide ((p.1 : Rat) < b)).map (fun p => (p.1 : Rat)) = mid at *
    have hml : mid.length ≤ 60 := by rw [← hm, List.length_map]; omega
    have ad1 : oAdd (.ref 1) (.ref 0) [.lst (mid.map rd), .lst [rd a]] = .ok (.ref 2) [.lst (mid.map rd), .lst [rd a], .lst ([rd a] ++ mid.map rd)] := add_refs (s := [.lst (mid.map rd), .lst [rd a]]) rfl rfl (by simp; omega)
    have ad2 : ∀ e : List D, e.length ≤ 1 → oAdd (.ref 2) (.ref 3) [.lst (mid.map rd), .lst [rd a], .lst ([rd a] ++ mid.map rd), .lst e] = .ok (.ref 4) [.lst (mid.map rd), .lst [rd a], .lst ([rd a] ++ mid.map rd), .lst e, .lst ([rd a] ++ mid.map rd ++ e)] := fun e he =>
      add_refs (s := [.lst (mid.map rd), .lst [rd a], .lst ([rd a] ++ mid.map rd), .lst e]) rfl rfl (by simp; omega)
    rw [ap_zCons]
    have w : wipeD [tbD l, rd a, rd b, .undef, .undef, .undef] [4, 5] = [tbD l, rd a, rd b, .undef, .undef, .undef] := rfl
    rw [show zSet (gV 3) (eLc (iTup (eV 0)) (gT (gsC (gV 4) (gsC (gV 5) gsN))) (tAnd (tst (eCallK 2 D_is_less (aC (eV 1) (aC (eTup (aC (eV 4) (aC (eC (.int 1)) aN))) aN)))) (tst (eCallK 2 D_is_less (aC (eTup (aC (eV 4) (aC (eC (.int 1)) aN))) (aC (eV 2) aN))))) (eTup (aC (eV 4) (aC (eC (.int 1)) aN))) [4, 5]) [tbD l, rd a, rd b, .undef, .undef, .undef] [] = .nx [tbD l, rd a, rd b, .ref 0, .undef, .undef] [.lst (mid.map rd)] by
      unfold zSet
      rw [hc]
      rfl, andThen_nx]
    by_cases c : a < b
    · refine ⟨[.lst (mid.map rd), .lst [rd a], .lst ([rd a] ++ mid.map rd), .lst [rd b], .lst ([rd a] ++ mid.map rd ++ [rd b])], 4, ?_, by rw [if_pos c]; simp⟩
      have a2 := ad2 [rd b] (by simp)
      unfold tbD
      rw [er a, er b] at *
      simp only [List.cons_append, List.nil_append] at ad1 a2 ⊢
      simp [h2, c, ad1, a2]
    · refine ⟨[.lst (mid.map rd), .lst [rd a], .lst ([rd a] ++ mid.map rd), .lst [], .lst ([rd a] ++ mid.map rd ++ [])], 4, ?_, by rw [if_neg c]; simp⟩
      have a2 := ad2 [] (by simp)
      unfold tbD
      rw [er a, er b] at *
      simp only [List.cons_append, List.nil_append] at ad1 a2 ⊢
      simp [h2, c, ad1, a2]
  obtain ⟨g, j, e, hj⟩ := key
  exact callK_new (by show (D.pureL (l.map prD) && true) = true; rw [tb_pure]; rfl) e hj (rds_pure _)
end YE

/-! YK: the program's area. -/
namespace YE
open Y YN
open PySem (Str PyData)
section
variable {g : Tg} {b : Sm}
theorem forF_inv {f : S → Option (List D)} {xs : List D} : ∀ (k i : Nat) (r : Env) (s : S) (P : Nat → Env → S → Prop), xs.length < k + i → P i r s → (∀ j r s, P j r s → f s = some xs) →
    (∀ j x r s, xs[j]? = some x → P j r s → ∃ r1 s1 r2 s2, g x r s = some (r1, s1) ∧ (b r1 s1 = .nx r2 s2 ∨ b r1 s1 = .ct r2 s2) ∧ P (j + 1) r2 s2) → i ≤ xs.length →
    ∃ r' s', forF g b f k i r s = .nx r' s' ∧ P xs.length r' s'
  | 0, i, r, s, P, h, _, _, _, hi => by omega
  | k + 1, i, r, s, P, h, p, hs, step, hi => by
    unfold forF
    rw [hs i r s p]
    simp only
    by_cases hl : i < xs.length
    · obtain ⟨r1, s1, r2, s2, e1, e2, p2⟩ := step i xs[i] r s (List.getElem?_eq_getElem hl) p
      rw [List.getElem?_eq_getElem hl]
      simp only [e1]
      obtain ⟨r', s', e3, p3⟩ := forF_inv k (i + 1) r2 s2 P (by omega) p2 hs step hl
      refine ⟨r', s', ?_, p3⟩
      rcases e2 with e2 | e2 <;> (rw [e2]; exact e3)
    · have e : i = xs.length := by omega
      subst e
      rw [List.getElem?_eq_none (Nat.le_refl _)]
      exact ⟨r, s, rfl, p⟩
end
structure Kn (l : List (Int × Int)) (a b : Rat) (K : List Rat) : Prop where
  tm : ∀ x ∈ K, Tm x
  lo : ∀ x ∈ K, a ≤ x
  hi : ∀ x ∈ K, x ≤ b
  one : 0 < K.length
  fs : K.head? = some a
  ls : K.getLast? = some b
  up : ∀ j (h : j + 1 < K.length), K[j] ≤ K[j + 1]
  no : ∀ j (h : j + 1 < K.length), ∀ p ∈ l, ¬ (K[j] < (p.1 : Rat) ∧ (p.1 : Rat) < K[j + 1])
theorem Kn.of {l : List (Int × Int)} (hl : Tab l) {a b : Rat} (ha : Tm a) (hb : Tm b) (hab : a ≤ b) : Kn l a b (knots l a b) := by
  by_cases c : a < b
  · have hm : ∀ x, x ∈ (l.filter fun p => decide (a < p.1) && decide ((p.1 : Rat) < b)).map (fun p => (p.1 : Rat)) ↔ ∃ p ∈ l, x = p.1 ∧ a < x ∧ x < b := by
      intro x
      rw [List.mem_map]
      constructor
      · rintro ⟨p, hp, rfl⟩
        obtain ⟨h1, h2⟩ := List.mem_filter.mp hp
        have h2 : a < (p.1 : Rat) ∧ (p.1 : Rat) < b := by simpa using h2
        exact ⟨p, h1, rfl, h2⟩
      · rintro ⟨p, hp, rfl, h1, h2⟩
        exact ⟨p, List.mem_filter.mpr ⟨hp, by simp [h1, h2]⟩, rfl⟩
    have hp : ((l.filter fun p => decide (a < p.1) && decide ((p.1 : Rat) < b)).map (fun p => (p.1 : Rat))).Pairwise (· < ·) := by
      rw [List.pairwise_map]
      exact (hl.ris.filter _).imp fun h => ratI.mpr h
    have ek : knots l a b = a :: (((l.filter fun p => decide (a < p.1) && decide ((p.1 : Rat) < b)).map fun p => (p.1 : Rat)) ++ [b]) := by
      unfold knots
      rw [if_pos c]; simp
    rw [ek]
    generalize (l.filter fun p => decide (a < p.1) && decide ((p.1 : Rat) < b)).map (fun p => (p.1 : Rat)) = mid at *
    have pw : (a :: (mid ++ [b])).Pairwise (· < ·) := by
      rw [List.pairwise_cons, List.pairwise_append]
      refine ⟨fun x hx => ?_, hp, by simp, fun x hx y hy => ?_⟩
      · rcases List.mem_append.mp hx with h | h
        · obtain ⟨_, _, _, h1, _⟩ := (hm x).mp h
          exact h1
        · rw [List.mem_singleton] at h
          rw [h]; exact c
      · rw [List.mem_singleton] at hy
        obtain ⟨_, _, _, _, h1⟩ := (hm x).mp hx
        rw [hy]; exact h1
    have mem : ∀ x ∈ a :: (mid ++ [b]), x = a ∨ x = b ∨ ∃ p ∈ l, x = p.1 ∧ a < x ∧ x < b := by
      intro x hx
      rcases List.mem_cons.mp hx with h | h
      · exact .inl h
      · rcases List.mem_append.mp h with h | h
        · exact .inr (.inr ((hm x).mp h))
        · exact .inr (.inl (List.mem_singleton.mp h))
    have lo : ∀ x ∈ a :: (mid ++ [b]), a ≤ x := by
      intro x hx
      rcases mem x hx with h | h | ⟨p, _, _, h, _⟩ <;> grind
    have hi : ∀ x ∈ a :: (mid ++ [b]), x ≤ b := by
      intro x hx
      rcases mem x hx with h | h | ⟨p, _, _, _, h⟩ <;> grind
    refine ⟨fun x hx => ?_, lo, hi, by simp, rfl, ?_, fun j h => ?_, fun j h p hp' q => ?_⟩
    · rcases mem x hx with h | h | ⟨p, hp', h, _, _⟩
      · rw [h]; exact ha
      · rw [h]; exact hb
      · rw [h]; exact bd_day (hl.ent p hp').1 (hl.ent p hp').2.1
    · rw [← List.cons_append, List.getLast?_append]
      rfl
    · exact Rat.le_of_lt (List.pairwise_iff_getElem.mp pw j (j + 1) (by omega) h (by omega))
    · have i1 := lo _ (List.getElem_mem (show j < _ by omega))
      have i2 := hi _ (List.getElem_mem h)
      have mp : (p.1 : Rat) ∈ a :: (mid ++ [b]) := List.mem_cons_of_mem _ (List.mem_append_left _ ((hm _).mpr ⟨p, hp', rfl, by grind, by grind⟩))
      obtain ⟨i, hi', e⟩ := List.mem_iff_getElem.mp mp
      obtain ⟨q1, q2⟩ := q
      rw [← e] at q1 q2
      by_cases h1 : i ≤ j
      · by_cases h2 : i = j
        · subst h2; exact absurd q1 (Rat.lt_irrefl)
        · have := List.pairwise_iff_getElem.mp pw i j (by omega) (by omega) (by omega)
          exact absurd q1 (by grind)
      · by_cases h2 : i = j + 1
        · subst h2; exact absurd q2 (Rat.lt_irrefl)
        · have := List.pairwise_iff_getElem.mp pw (j + 1) i (by omega) (by omega) (by omega)
          exact absurd q2 (by grind)
  · have e : a = b := by grind
    subst e
    have em : (l.filter fun p => decide (a < p.1) && decide ((p.1 : Rat) < a)) = [] := by
      rw [List.filter_eq_nil_iff]
      intro p _ h
      have : a < (p.1 : Rat) ∧ (p.1 : Rat) < a := by simpa using h
      grind
    have ek : knots l a a = [a] := by
      unfold knots
      rw [em, if_neg c]; rfl
    rw [ek]
    exact ⟨fun x hx => by rw [List.mem_singleton.mp hx]; exact ha, fun x hx => by rw [List.mem_singleton.mp hx]; exact Rat.le_refl, fun x hx => by rw [List.mem_singleton.mp hx]; exact Rat.le_refl, by simp, rfl, rfl, fun j h => by simp at h, fun j h => by simp at h⟩
theorem bd_vIn {t : Rat} (ht : Tm t) : ∀ (l : List (Int × Int)), (∀ p ∈ l, Ent p) → l.Pairwise (fun p q => p.1 < q.1) → Bd (vIn l t) 220 189
  | [], _, _ => by unfold vIn Bd; decide +kernel
  | [p], _, _ => by unfold vIn Bd; decide +kernel
  | p :: q :: r, he, hr => by
    obtain ⟨h1, h2⟩ := List.pairwise_cons.mp hr
    unfold vIn
    split
    · exact bd_vIn ht (q :: r) (fun z hz => he z (List.mem_cons_of_mem _ hz)) h2
    · exact bd_line (he p List.mem_cons_self) (he q (List.mem_cons_of_mem _ List.mem_cons_self)) (h1 q List.mem_cons_self) ht
def areaB : Sm := (zCons (zPar 7 8 (eCallK 2 D_plus (aC (eCallK 2 D_value_in (aC (eV 0) (aC (eV 5) aN))) (aC (eCallK 2 D_value_in (aC (eV 0) (aC (eV 6) aN))) aN))) (eCallK 2 D_plus (aC (eV 6) (aC (eTup (aC (e1 oNeg (e2 oIx (eV 5) (eC (.int 0)))) (aC (e2 oIx (eV 5) (eC (.int 1))) aN))) aN))))
    (zSet (gV 3) (eCallK 2 D_plus (aC (eV 3) (aC (eCallK 2 D_share (aC (e2 oMul (e2 oIx (eV 7) (eC (.int 0))) (e2 oIx (eV 8) (eC (.int 0)))) (aC (e2 oMul (e2 oMul (eC (.int 2)) (e2 oIx (eV 7) (eC (.int 1)))) (e2 oIx (eV 8) (eC (.int 1)))) aN))) aN)))))
theorem half_rat (p q : Rat) : p * q / 2 = ((p.num * q.num : Int) : Rat) / ((2 * (p.den : Int) * (q.den : Int) : Int) : Rat) := by
  have h1 := den_ne p
  have h2 := den_ne q
  have h3 := rat_eq p
  have h4 := rat_eq q
  rw [Rat.intCast_mul, Rat.intCast_mul, Rat.intCast_mul, Rat.intCast_natCast, Rat.intCast_natCast]
  show _ = _ / ((2 : Rat) * _ * _)
  grind
theorem area_step {l : List (Int × Int)} (hl : Tab l) {a b c x y z : Rat} (hx : Tm x) (hy : Tm y) (h0 : ((fst l).1 : Rat) ≤ x) (hxy : x ≤ y) (h1 : y ≤ (lst l).1) (hn : ∀ p ∈ l, ¬ (x < p.1 ∧ (p.1 : Rat) < y)) (hz : Ar z) (ez : z = ar l x - c) {N A B u v : D} {s : S} :
    ∃ u' v', areaB [tbD l, A, B, rd z, N, rd x, rd y, u, v] s = .nx [tbD l, A, B, rd (ar l y - c), N, rd x, rd y, u', v'] s := by
  have v1 := fun st => value_in_k hl hx (s := st) (by grind)
  have v2 := fun st => value_in_k hl hy (s := st) h1
  have bx := bd_vIn hx l hl.ent hl.ris
  have bY := bd_vIn hy l hl.ent hl.ris
  have tr := trap l x y hl.ris hl.lo h0 hxy h1 hn
  have pe := fun st => plus_k (s := st) bx bY (by decide) (by decide)
  have be := bd_add bx bY
  have nx := bd_neg hx
  have pw := fun st => plus_k (s := st) hy nx (by decide) (by decide)
  have bw := bd_add hy nx
  rw [show y + -x = y - x by grind] at pw bw
  generalize vIn l x = vx at *
  generalize vIn l y = vy at *
  have ne : rd (-x) = .tup [.int (-x.num), .int x.den] := rfl
  rw [ne] at pw
  generalize vx + vy = e at *
  generalize y - x = w at *
  have m1 := fun st => mul_pow (i := e.num) (j := w.num) (s := st) be.1 bw.1 (by decide)
  have m2 := fun st => v_mul64 (i := 2) (j := (e.den : Int)) (s := st) (by decide)
  have n2 : (2 * (e.den : Int)).natAbs < 2 ^ (2 + (189 + 189)) := natAbs_mul_lt (by decide) (bdn be)
  have m3 := fun st => mul_pow (i := 2 * (e.den : Int)) (j := w.den) (s := st) n2 (bdn bw) (by decide)
  have dp : (0 : Int) < 2 * (e.den : Int) * (w.den : Int) := Int.mul_pos (Int.mul_pos (by decide) (den_pos e)) (den_pos w)
  have n1 := natAbs_mul_lt be.1 bw.1
  have n3 := natAbs_mul_lt n2 (bdn bw)
  have sk := fun st => share_k (a := e.num * w.num) (b := 2 * (e.den : Int) * (w.den : Int)) (s := st) dp n1 (by decide) (b1_pow n3 (by decide))
  have bp := bd_div dp n1 n3
  rw [← half_rat] at sk bp
  rw [tr] at sk bp
  have pl := fun st => plus_k (s := st) hz bp (by decide) (by decide)
  rw [show z + (ar l y - ar l x) = ar l y - c by grind] at pl
  generalize ar l y - ar l x = d at *
  have er : ∀ q : Rat, rd q = .tup [.int q.num, .int q.den] := fun _ => rfl
  refine ⟨rd e, rd w, ?_⟩
  unfold areaB
  have et : tbD l = .tup (l.map prD) := rfl
  rw [et] at v1 v2 ⊢
  rw [er x, er y, er z, er (ar l y - c), er e, er w] at *
  rw [er vx] at v1 pe
  rw [er vy] at v2 pe
  rw [er d] at sk pl
  simp [v1, v2, pe, pw, m1, m2, m3, sk, pl]
theorem area_in_ok {l : List (Int × Int)} (hl : Tab l) {a b : Rat} (ha : Tm a) (hb : Tm b) (h0 : ((fst l).1 : Rat) ≤ a) (hab : a ≤ b) (h1 : b ≤ (lst l).1) : ∃ g, D_area_in [tbD l, rd a, rd b] [] = .ok (rd (ar l b - ar l a)) g := by
  have hk := Kn.of hl ha hb hab
  have kk := knots_in_k hl ha hb (s := [])
  have kl := knots_len l a b
  have hi := hl.hi
  generalize knots l a b = K at *
  rw [r_area_in]
  unfold b_area_in
  rw [show (zFor (iZip (eV 4) (eCut (eV 4) (.at (eC (.int 1))) .no)) (gT (gsC (gV 5) (gsC (gV 6) gsN))) (zCons (zPar 7 8 (eCallK 2 D_plus (aC (eCallK 2 D_value_in (aC (eV 0) (aC (eV 5) aN))) (aC (eCallK 2 D_value_in (aC (eV 0) (aC (eV 6) aN))) aN))) (eCallK 2 D_plus (aC (eV 6) (aC (eTup (aC (e1 oNeg (e2 oIx (eV 5) (eC (.int 0)))) (aC (e2 oIx (eV 5) (eC (.int 1))) aN))) aN))))
    (zSet (gV 3) (eCallK 2 D_plus (aC (eV 3) (aC (eCallK 2 D_share (aC (e2 oMul (e2 oIx (eV 7) (eC (.int 0))) (e2 oIx (eV 8) (eC (.int 0)))) (aC (e2 oMul (e2 oMul (eC (.int 2)) (e2 oIx (eV 7) (eC (.int 1)))) (e2 oIx (eV 8) (eC (.int 1)))) aN))) aN)))))) = zFor (iZip (eV 4) (eCut (eV 4) (.at (eC (.int 1))) .no)) (gT (gsC (gV 5) (gsC (gV 6) gsN))) areaB from rfl]
  have S0 : ∀ S : S, S = [.lst (K.map rd), .lst ((K.map rd).drop 1)] → zipF 0 1 S = some (zipD (K.map rd) ((K.map rd).drop 1)) := fun S e => by rw [e]; rfl
  have len : (zipD (K.map rd) ((K.map rd).drop 1)).length = K.length - 1 := by
    unfold zipD
    rw [List.length_zipWith, List.length_drop, List.length_map]
    omega
  have z0 : rd 0 = .tup [.int 0, .int 1] := rfl
  have p1 : zPar 3 4 (eTup (aC (eC (.int 0)) (aC (eC (.int 1)) aN))) (eCallK 3 D_knots_in (aC (eV 0) (aC (eV 1) (aC (eV 2) aN)))) [tbD l, rd a, rd b, .undef, .undef, .undef, .undef, .undef, .undef] [] = .nx [tbD l, rd a, rd b, rd 0, .ref 0, .undef, .undef, .undef, .undef] [.lst (K.map rd)] := by
    rw [z0]
    unfold zPar
    have e3 : ∀ q : Rat, rd q = .tup [.int q.num, .int q.den] := fun _ => rfl
    have et : tbD l = .tup (l.map prD) := rfl
    rw [et, e3 a, e3 b] at kk ⊢
    simp [kk]
  rw [ap_zCons, p1, andThen_nx, ap_zCons]
  have f0 := hk.one
  have hfin : ∃ r' s', zFor (iZip (eV 4) (eCut (eV 4) (.at (eC (.int 1))) .no)) (gT (gsC (gV 5) (gsC (gV 6) gsN))) areaB [tbD l, rd a, rd b, rd 0, .ref 0, .undef, .undef, .undef, .undef] [.lst (K.map rd)] = .nx r' s' ∧
      (∃ (h : K.length - 1 < K.length) (x y u v : D), r' = [tbD l, rd a, rd b, rd (ar l K[K.length - 1] - ar l a), .ref 0, x, y, u, v] ∧ s' = [.lst (K.map rd), .lst ((K.map rd).drop 1)]) := by
    have it : iZip (eV 4) (eCut (eV 4) (.at (eC (.int 1))) .no) [tbD l, rd a, rd b, rd 0, .ref 0, .undef, .undef, .undef, .undef] [.lst (K.map rd)] = .ok (.dyn (zipF 0 1)) [.lst (K.map rd), .lst ((K.map rd).drop 1)] := by
      have : cutD (K.map rd) (some 1) none = (K.map rd).drop 1 := cut_1
      have z1 := S0 _ rfl
      unfold iZip eCut
      simp [Part.run, this, seqL, tbD, rd, z1]
      simp [zipF]
    unfold zFor
    rw [it, then_ok]
    simp only
    have fz := forF_inv (g := gT (gsC (gV 5) (gsC (gV 6) gsN))) (b := areaB) (f := zipF 0 1) (xs := zipD (K.map rd) ((K.map rd).drop 1)) FUEL 0 [tbD l, rd a, rd b, rd 0, .ref 0, .undef, .undef, .undef, .undef] [.lst (K.map rd), .lst ((K.map rd).drop 1)]
      (fun j r s => ∃ (h : j < K.length) (x y u v : D), r = [tbD l, rd a, rd b, rd (ar l K[j] - ar l a), .ref 0, x, y, u, v] ∧ s = [.lst (K.map rd), .lst ((K.map rd).drop 1)]) (by
        rw [len]
        have := fuel_big (n := K.length) (by omega)
        omega) ⟨f0, .undef, .undef, .undef, .undef, by
          have : K[0] = a := by
            have := hk.fs
            rw [List.head?_eq_getElem?, List.getElem?_eq_getElem f0] at this
            exact Option.some.inj this
          rw [this, show ar l a - ar l a = 0 by grind], rfl⟩ (fun j r s hp => by
          obtain ⟨_, _, _, _, _, _, e⟩ := hp
          exact S0 s e) (by
          rintro j d r s hd ⟨h, x, y, u, v, rfl, rfl⟩
          have hj := (List.getElem?_eq_some_iff.mp hd).1
          rw [len] at hj
          have hj' : j + 1 < K.length := by omega
          have hd' : d = .tup [rd K[j], rd K[j + 1]] := by
            obtain ⟨x, y, e, e1, e2⟩ := zip_get hd
            rw [List.getElem?_map, List.getElem?_eq_getElem h] at e1
            rw [List.getElem?_drop, List.getElem?_map, Nat.add_comm, List.getElem?_eq_getElem hj'] at e2
            cases e1; cases e2
            exact e
          subst hd'
          have m1 := List.getElem_mem h
          have m2 := List.getElem_mem hj'
          obtain ⟨u', v', st⟩ := area_step hl (a := a) (b := b) (c := ar l a) (z := ar l K[j] - ar l a) (hk.tm _ m1) (hk.tm _ m2) (by have := hk.lo _ m1; grind) (hk.up j hj') (by have := hk.hi _ m2; grind) (hk.no j hj') (bd_dar hl ha (hk.tm _ m1)) rfl (N := .ref 0) (A := rd a) (B := rd b) (u := u) (v := v) (s := [.lst (K.map rd), .lst ((K.map rd).drop 1)])
          exact ⟨_, _, _, _, rfl, .inl st, hj', _, _, _, _, rfl, rfl⟩) (Nat.zero_le _)
    obtain ⟨r', s', e, hh, x, y, u, v, er, es⟩ := fz
    simp only [len] at hh er
    exact ⟨r', s', e, hh, x, y, u, v, er, es⟩
  obtain ⟨r', s', e, hh, x, y, u, v, rfl, rfl⟩ := hfin
  rw [e, andThen_nx]
  have : K[K.length - 1] = b := by
    have := hk.ls
    rw [List.getLast?_eq_getElem?, List.getElem?_eq_getElem hh] at this
    exact Option.some.inj this
  rw [this]
  exact ⟨_, rfl⟩
end YE

/-! YM: the law's area. -/
namespace YE
open Y YN
open PySem (Str PyData)
theorem area_in_k {l : List (Int × Int)} (hl : Tab l) {a b : Rat} (ha : Tm a) (hb : Tm b) (h0 : ((fst l).1 : Rat) ≤ a) (hab : a ≤ b) (h1 : b ≤ (lst l).1) {s : S} : callK D_area_in [tbD l, rd a, rd b] s = .ok (rd (ar l b - ar l a)) s := by
  obtain ⟨g, e⟩ := area_in_ok hl ha hb h0 hab h1
  exact callK_val (by show (D.pureL (l.map prD) && true) = true; rw [tb_pure]; rfl) e rfl
def clamp (a b x : Rat) : Rat := if x < a then a else if b < x then b else x
def lareaB : Sm := (zCons (zSet (gV 6) (eIf (tst (eCallK 2 D__law_less (aC (eTup (aC (e2 oIx (eV 4) (eC (.int 0))) (aC (eC (.int 1)) aN))) (aC (eV 1) aN)))) (eV 1) (eTup (aC (e2 oIx (eV 4) (eC (.int 0))) (aC (eC (.int 1)) aN)))))
    (zCons (zSet (gV 7) (eIf (tst (eCallK 2 D__law_less (aC (eV 2) (aC (eTup (aC (e2 oIx (eV 5) (eC (.int 0))) (aC (eC (.int 1)) aN))) aN)))) (eV 2) (eTup (aC (e2 oIx (eV 5) (eC (.int 0))) (aC (eC (.int 1)) aN)))))
    (zIf (tst (eCallK 2 D__law_less (aC (eV 6) (aC (eV 7) aN))))
     (zCons (zSet (gV 8) (eCallK 2 D__law_plus (aC (eCallK 2 D__law_value (aC (eV 0) (aC (eV 6) aN))) (aC (eCallK 2 D__law_value (aC (eV 0) (aC (eV 7) aN))) aN))))
    (zSet (gV 3) (eCallK 2 D__law_plus (aC (eV 3) (aC (eCallK 2 D__law_times (aC (eCallK 2 D__law_times (aC (eV 8) (aC (eTup (aC (eC (.int 1)) (aC (eC (.int 2)) aN))) aN))) (aC (eCallK 2 D__law_minus (aC (eV 7) (aC (eV 6) aN))) aN))) aN)))))
     zNil)))
/-- the piece between two times -/
def pieceB : Sm := (zIf (tst (eCallK 2 D__law_less (aC (eV 6) (aC (eV 7) aN))))
     (zCons (zSet (gV 8) (eCallK 2 D__law_plus (aC (eCallK 2 D__law_value (aC (eV 0) (aC (eV 6) aN))) (aC (eCallK 2 D__law_value (aC (eV 0) (aC (eV 7) aN))) aN))))
    (zSet (gV 3) (eCallK 2 D__law_plus (aC (eV 3) (aC (eCallK 2 D__law_times (aC (eCallK 2 D__law_times (aC (eV 8) (aC (eTup (aC (eC (.int 1)) (aC (eC (.int 2)) aN))) aN))) (aC (eCallK 2 D__law_minus (aC (eV 7) (aC (eV 6) aN))) aN))) aN)))))
     zNil)
theorem rd_half : rd (1 / 2) = .tup [.int 1, .int 2] := by
  have h1 : (1 / 2 : Rat).num = 1 := by decide +kernel
  have h2 : (1 / 2 : Rat).den = 2 := by decide +kernel
  unfold rd
  rw [h1, h2]; rfl
theorem piece_step {l : List (Int × Int)} (hl : Tab l) {c x y z : Rat} (hx : Tm x) (hy : Tm y) (h0 : ((fst l).1 : Rat) ≤ x) (h1 : y ≤ (lst l).1) (hn : x < y → ∀ p ∈ l, ¬ (x < p.1 ∧ (p.1 : Rat) < y)) (hz : Ar z) (ez : x < y → z = ar l x - c) (hlx : x ≤ (lst l).1) {A B P Q v : D} {s : S} :
    ∃ v', pieceB [tbD l, A, B, rd z, P, Q, rd x, rd y, v] s = .nx [tbD l, A, B, rd (if x < y then ar l y - c else z), P, Q, rd x, rd y, v'] s := by
  have lk := fun st => lless_k (s := st) hx hy (by decide) (by decide)
  have et : tbD l = .tup (l.map prD) := rfl
  have er : ∀ q : Rat, rd q = .tup [.int q.num, .int q.den] := fun _ => rfl
  unfold pieceB
  by_cases hxy : x < y
  · rw [if_pos hxy]
    have v1 := fun st => law_value_k hl hx (s := st) hlx
    have v2 := fun st => law_value_k hl hy (s := st) h1
    have bx := bd_vIn hx l hl.ent hl.ris
    have bY := bd_vIn hy l hl.ent hl.ris
    have tr := trap l x y hl.ris hl.lo h0 (Rat.le_of_lt hxy) h1 (hn hxy)
    have pe := fun st => lplus_k (s := st) bx bY (by decide) (by decide)
    have be := bd_add bx bY
    have b2 : Bd (1 / 2 : Rat) 1 2 := by unfold Bd; decide +kernel
    have ph := fun st => ltimes_k (s := st) be b2 (by decide) (by decide)
    have bh := bd_mul be b2
    have pw := fun st => lminus_k (s := st) hy hx (by decide) (by decide)
    have bw := bd_sub hy hx
    have pt := fun st => ltimes_k (s := st) bh bw (by decide) (by decide)
    have bt := bd_mul bh bw
    have pl := fun st => lplus_k (s := st) hz bt (by decide) (by decide)
    have e1 : (vIn l x + vIn l y) * (1 / 2) * (y - x) = (vIn l x + vIn l y) * (y - x) / 2 := by grind
    rw [show z + (vIn l x + vIn l y) * (1 / 2) * (y - x) = ar l y - c by rw [e1, tr, ez hxy]; grind] at pl
    rw [rd_half] at ph
    generalize vIn l x = vx at *
    generalize vIn l y = vy at *
    generalize vx + vy = e at *
    generalize y - x = w at *
    generalize hh : e * (1 / 2) = h at *
    generalize hf : h * w = f at *
    refine ⟨rd e, ?_⟩
    rw [et] at v1 v2 ⊢
    rw [er x] at v1 lk pw ⊢
    rw [er y] at v2 lk pw ⊢
    rw [er z] at pl ⊢
    rw [er vx] at v1 pe
    rw [er vy] at v2 pe
    rw [er e] at pe ph ⊢
    rw [er w] at pw pt
    rw [er h] at ph pt
    rw [er f] at pt pl
    rw [er (ar l y - c)] at pl ⊢
    simp [lk, hxy, v1, v2, pe, ph, pw, pt, pl]
  · rw [if_neg hxy]
    refine ⟨v, ?_⟩
    rw [et]
    rw [er x] at lk ⊢
    rw [er y] at lk ⊢
    simp [lk, hxy]
theorem clamp_lt {a b p q : Rat} (hab : a ≤ b) (h : p < q) (hlt : (if p < a then a else p) < (if b < q then b else q)) : clamp a b p = (if p < a then a else p) ∧ clamp a b q = (if b < q then b else q) := by
  unfold clamp
  by_cases c1 : p < a <;> by_cases c2 : b < q <;> by_cases c3 : b < p <;> by_cases c4 : q < a <;> simp only [c1, c2, c3, c4, if_true, if_false] at hlt ⊢ <;> constructor <;> grind
theorem clamp_ge {a b p q : Rat} (hab : a ≤ b) (h : p < q) (hlt : ¬ (if p < a then a else p) < (if b < q then b else q)) : clamp a b p = clamp a b q := by
  unfold clamp
  by_cases c1 : p < a <;> by_cases c2 : b < q <;> by_cases c3 : b < p <;> by_cases c4 : q < a <;> simp only [c1, c2, c3, c4, if_true, if_false] at hlt ⊢ <;> grind
theorem larea_step {l : List (Int × Int)} (hl : Tab l) {a b : Rat} (ha : Tm a) (hb : Tm b) (h0 : ((fst l).1 : Rat) ≤ a) (hab : a ≤ b) (h1 : b ≤ (lst l).1) {j : Nat} (hj : j + 1 < l.length) {u v w : D} {s : S} :
    ∃ u' v' w', lareaB [tbD l, rd a, rd b, rd (ar l (clamp a b l[j].1) - ar l a), prD l[j], prD l[j + 1], u, v, w] s = .nx [tbD l, rd a, rd b, rd (ar l (clamp a b l[j + 1].1) - ar l a), prD l[j], prD l[j + 1], u', v', w'] s := by
  have n1 := ent_at hl (show j < l.length by omega)
  have n2 := ent_at hl hj
  have rs := ratI.mpr (ris_at hl hj)
  have no : ∀ p ∈ l, ¬ ((l[j].1 : Rat) < p.1 ∧ (p.1 : Rat) < l[j + 1].1) := by
    rintro p hp ⟨q1, q2⟩
    obtain ⟨i, hi, rfl⟩ := List.mem_iff_getElem.mp hp
    have q1 := ratI.mp q1
    have q2 := ratI.mp q2
    have pw := List.pairwise_iff_getElem.mp hl.ris
    by_cases c1 : i ≤ j
    · by_cases c2 : i = j
      · subst c2; omega
      · have := pw i j hi (by omega) (by omega); omega
    · by_cases c2 : i = j + 1
      · subst c2; omega
      · have := pw (j + 1) i hj hi (by omega); omega
  have l1 := ratIe.mpr (le_lst hl.ris _ (List.getElem_mem (show j < l.length by omega)))
  have l2 := ratIe.mpr (le_lst hl.ris _ (List.getElem_mem hj))
  have l3 := ratIe.mpr (fst_le hl.ris _ (List.getElem_mem (show j < l.length by omega)))
  generalize l[j]'(by omega) = p at *
  generalize l[j + 1] = q at *
  have bp := bd_day n1.1 n1.2.1
  have bq := bd_day n2.1 n2.2.1
  have k1 := fun st => lless_k (s := st) bp ha (by decide) (by decide)
  have k2 := fun st => lless_k (s := st) hb bq (by decide) (by decide)
  have hx : Tm (if (p.1 : Rat) < a then a else p.1) := by split <;> assumption
  have hy : Tm (if b < (q.1 : Rat) then b else q.1) := by split <;> assumption
  have hc : Tm (clamp a b p.1) := by
    unfold clamp
    split
    · exact ha
    · split <;> assumption
  have er : ∀ q : Rat, rd q = .tup [.int q.num, .int q.den] := fun _ => rfl
  have s1 : lareaB [tbD l, rd a, rd b, rd (ar l (clamp a b p.1) - ar l a), prD p, prD q, u, v, w] s = pieceB [tbD l, rd a, rd b, rd (ar l (clamp a b p.1) - ar l a), prD p, prD q, rd (if (p.1 : Rat) < a then a else p.1), rd (if b < (q.1 : Rat) then b else q.1), w] s := by
    rw [show lareaB = (zCons (zSet (gV 6) (eIf (tst (eCallK 2 D__law_less (aC (eTup (aC (e2 oIx (eV 4) (eC (.int 0))) (aC (eC (.int 1)) aN))) (aC (eV 1) aN)))) (eV 1) (eTup (aC (e2 oIx (eV 4) (eC (.int 0))) (aC (eC (.int 1)) aN)))))
    (zCons (zSet (gV 7) (eIf (tst (eCallK 2 D__law_less (aC (eV 2) (aC (eTup (aC (e2 oIx (eV 5) (eC (.int 0))) (aC (eC (.int 1)) aN))) aN)))) (eV 2) (eTup (aC (e2 oIx (eV 5) (eC (.int 0))) (aC (eC (.int 1)) aN))))) pieceB)) from rfl]
    rw [rd_day] at k1 k2
    rw [er a] at k1
    rw [er b] at k2
    generalize pieceB = pb
    have et : tbD l = .tup (l.map prD) := rfl
    have hr1 : rd (if (p.1 : Rat) < a then a else p.1) = if (p.1 : Rat) < a then rd a else .tup [.int p.1, .int 1] := by split <;> rfl
    have hr2 : rd (if b < (q.1 : Rat) then b else q.1) = if b < (q.1 : Rat) then rd b else .tup [.int q.1, .int 1] := by split <;> rfl
    rw [hr1, hr2, et, er a, er b, er (ar l (clamp a b p.1) - ar l a)]
    unfold prD
    by_cases c1 : (p.1 : Rat) < a <;> by_cases c2 : b < (q.1 : Rat) <;> simp [k1, k2, c1, c2]
  obtain ⟨v', st⟩ := piece_step hl (c := ar l a) (z := ar l (clamp a b p.1) - ar l a) hx hy (by split <;> grind) (by split <;> grind) (fun hxy z hz hq => no z hz (by
    obtain ⟨q1, q2⟩ := hq
    refine ⟨?_, ?_⟩
    · revert q1; split <;> grind
    · revert q2; split <;> grind)) (bd_dar hl ha hc) (fun hxy => by rw [(clamp_lt hab rs hxy).1]) (by split <;> grind) (A := rd a) (B := rd b) (P := prD p) (Q := prD q) (v := w) (s := s)
  refine ⟨rd (if (p.1 : Rat) < a then a else p.1), rd (if b < (q.1 : Rat) then b else q.1), v', ?_⟩
  rw [s1, st]
  by_cases hxy : (if (p.1 : Rat) < a then a else p.1) < (if b < (q.1 : Rat) then b else q.1)
  · rw [if_pos hxy, (clamp_lt hab rs hxy).2]
  · rw [if_neg hxy, clamp_ge hab rs hxy]
theorem law_area_ok {l : List (Int × Int)} (hl : Tab l) {a b : Rat} (ha : Tm a) (hb : Tm b) (h0 : ((fst l).1 : Rat) ≤ a) (hab : a ≤ b) (h1 : b ≤ (lst l).1) : ∃ g, D__law_area [tbD l, rd a, rd b] [] = .ok (rd (ar l b - ar l a)) g := by
  have lo := hl.lo
  rw [r__law_area]
  rw [show b__law_area = zCons (zSet (gV 3) (eTup (aC (eC (.int 0)) (aC (eC (.int 1)) aN)))) (zCons (zFor (iZip (eV 0) (eCut (eV 0) (.at (eC (.int 1))) .no)) (gT (gsC (gV 4) (gsC (gV 5) gsN))) lareaB) (zRet (eV 3))) from rfl]
  have len : (zipD (l.map prD) ((l.map prD).drop 1)).length = l.length - 1 := by
    unfold zipD
    rw [List.length_zipWith, List.length_drop, List.length_map]
    omega
  rw [ap_zCons, show zSet (gV 3) (eTup (aC (eC (.int 0)) (aC (eC (.int 1)) aN))) [tbD l, rd a, rd b, .undef, .undef, .undef, .undef, .undef, .undef] [] = .nx [tbD l, rd a, rd b, rd 0, .undef, .undef, .undef, .undef, .undef] [] from rfl, andThen_nx, ap_zCons, zip_self (xs := l.map prD) (by rfl)]
  obtain ⟨r', s', e, hh, x, y, u, v, w, er, es⟩ := forM_inv (g := gT (gsC (gV 4) (gsC (gV 5) gsN))) (b := lareaB) (fun j r s => ∃ (h : j < l.length) (x y u v w : D), r = [tbD l, rd a, rd b, rd (ar l (clamp a b l[j].1) - ar l a), x, y, u, v, w] ∧ s = []) (zipD (l.map prD) ((l.map prD).drop 1)) 0
    [tbD l, rd a, rd b, rd 0, .undef, .undef, .undef, .undef, .undef] [] ⟨by omega, .undef, .undef, .undef, .undef, .undef, by
      have : (l[0]'(by omega)) = fst l := by
        cases l with
        | nil => simp at lo
        | cons p r => rfl
      rw [this]
      have : clamp a b (fst l).1 = a := by unfold clamp; grind
      rw [this, show ar l a - ar l a = 0 by grind], rfl⟩ (by
      rintro j d r s hd ⟨h, x, y, u, v, w, rfl, rfl⟩
      simp only [Nat.zero_add] at h ⊢
      have hj := (List.getElem?_eq_some_iff.mp hd).1
      rw [len] at hj
      have hj' : j + 1 < l.length := by omega
      have hd' : d = .tup [prD l[j], prD l[j + 1]] := by
        obtain ⟨x, y, e, e1, e2⟩ := zip_get hd
        rw [List.getElem?_map, List.getElem?_eq_getElem h] at e1
        rw [List.getElem?_drop, List.getElem?_map, Nat.add_comm, List.getElem?_eq_getElem hj'] at e2
        cases e1; cases e2
        exact e
      subst hd'
      obtain ⟨u', v', w', st⟩ := larea_step hl ha hb h0 hab h1 hj' (u := u) (v := v) (w := w) (s := [])
      exact ⟨_, _, _, _, rfl, .inl st, hj', _, _, _, _, _, rfl, rfl⟩)
  simp only [len, Nat.zero_add] at hh er
  have : l[l.length - 1] = lst l := by
    unfold lst
    rw [List.getLastD_eq_getLast?, List.getLast?_eq_getElem?, List.getElem?_eq_getElem hh]
    rfl
  rw [this] at er
  have : clamp a b (lst l).1 = b := by unfold clamp; grind
  rw [this] at er
  rw [e, andThen_nx, er]
  exact ⟨_, rfl⟩
theorem law_area_k {l : List (Int × Int)} (hl : Tab l) {a b : Rat} (ha : Tm a) (hb : Tm b) (h0 : ((fst l).1 : Rat) ≤ a) (hab : a ≤ b) (h1 : b ≤ (lst l).1) {s : S} : callK D__law_area [tbD l, rd a, rd b] s = .ok (rd (ar l b - ar l a)) s := by
  obtain ⟨g, e⟩ := law_area_ok hl ha hb h0 hab h1
  exact callK_val (by show (D.pureL (l.map prD) && true) = true; rw [tb_pure]; rfl) e rfl
end YE

/-! YR: which values are tables. -/
namespace YE
open Y YN
open PySem (Str PyData)
def FX : D → Bool
  | .int _ | .bl _ | .non => true
  | _ => false
def FE (s : S) : D → Prop
  | .tup xs => xs.all FX = true
  | .non => True
  | .ref n => ∃ xs, s[n]? = some (.lst xs)
  | _ => False
def FT (s : S) : D → Prop
  | .tup xs => (∀ e ∈ xs, FE s e) ∧ xs.length ≤ 1000
  | .ref n => ∃ xs, s[n]? = some (.lst xs)
  | .non | .int _ | .str _ => True
  | _ => False
def itD (lo hi : Nat) : D → Bool
  | .tup xs => decide (lo ≤ xs.length ∧ xs.length ≤ hi)
  | _ => false
def fwD (lo hi : Int) : D → Bool
  | .int i => decide (lo ≤ i ∧ i ≤ hi)
  | _ => false
def okE : D → Bool
  | .tup [x, y] => fwD 0 366 x && fwD (-100000) 100000 y
  | _ => false
def ltE : D → Bool
  | .tup [.tup [.int i, _], .tup [.int j, _]] => decide (i < j)
  | _ => false
def gdT : D → Bool
  | .tup xs => decide (2 ≤ xs.length ∧ xs.length ≤ 60) && (xs.all (itD 2 2) && (xs.all okE && (zipD xs (xs.drop 1)).all ltE))
  | _ => false
theorem FE.grow {s : S} {d : D} (h : FE s d) (G : S) : FE (s ++ G) d := by
  cases d <;> try exact h
  obtain ⟨xs, e⟩ := h
  exact ⟨xs, by rw [List.getElem?_append_left (List.getElem?_eq_some_iff.mp e).1]; exact e⟩
theorem ity_tup {s : S} {xs : List D} {lo hi : Nat} : D_is_tuple_of [.tup xs, .int lo, .int hi] s = .ok (.bl (itD lo hi (.tup xs))) s := by
  rw [r_is_tuple_of]
  unfold b_is_tuple_of itD
  by_cases h1 : lo ≤ xs.length <;> by_cases h2 : xs.length ≤ hi <;> simp [h1, h2]
theorem ity_ref {s : S} {n : Nat} {xs : List D} {lo hi : Nat} (h : s[n]? = some (.lst xs)) : D_is_tuple_of [.ref n, .int lo, .int hi] s = .ok (.bl (itD lo hi (.ref n))) s := by
  rw [r_is_tuple_of]
  unfold b_is_tuple_of itD
  simp [ty_lst h]
theorem ity_non {s : S} {lo hi : Nat} : D_is_tuple_of [.non, .int lo, .int hi] s = .ok (.bl (itD lo hi .non)) s := by
  rw [r_is_tuple_of]
  unfold b_is_tuple_of itD
  simp
theorem ity_int {s : S} {i : Int} {lo hi : Nat} : D_is_tuple_of [.int i, .int lo, .int hi] s = .ok (.bl (itD lo hi (.int i))) s := by
  rw [r_is_tuple_of]
  unfold b_is_tuple_of itD
  simp
theorem ity_str {s : S} {i : Str} {lo hi : Nat} : D_is_tuple_of [.str i, .int lo, .int hi] s = .ok (.bl (itD lo hi (.str i))) s := by
  rw [r_is_tuple_of]
  unfold b_is_tuple_of itD
  simp
theorem ity {s : S} {d : D} (h : FE s d) {lo hi : Nat} : D_is_tuple_of [d, .int lo, .int hi] s = .ok (.bl (itD lo hi d)) s := by
  cases d with
  | tup xs => exact ity_tup
  | non => exact ity_non
  | ref n => obtain ⟨xs, e⟩ := h; exact ity_ref e
  | _ => exact absurd h (by intro h; exact h)
theorem fw_k {x : D} (h : FX x = true) {lo hi : Int} {s : S} : callK D_fits_whole [x, .int lo, .int hi] s = .ok (.bl (fwD lo hi x)) s := by
  cases x with
  | int i => exact fits_whole_k
  | bl b => exact callK_val rfl (g := []) (by
      unfold D_fits_whole
      rw [ap_mkFn (k := 3) (ds := [.bl b, .int lo, .int hi]) rfl]
      unfold b_fits_whole
      simp [fwD]) rfl
  | non => exact callK_val rfl (g := []) (by
      unfold D_fits_whole
      rw [ap_mkFn (k := 3) (ds := [.non, .int lo, .int hi]) rfl]
      unfold b_fits_whole
      simp [fwD]) rfl
  | _ => exact absurd h Bool.false_ne_true
theorem fw_str {x : Str} {lo hi : Int} {s : S} : callK D_fits_whole [.str x, .int lo, .int hi] s = .ok (.bl false) s := callK_val rfl (g := []) (by
  unfold D_fits_whole
  rw [ap_mkFn (k := 3) (ds := [.str x, .int lo, .int hi]) rfl]
  unfold b_fits_whole
  simp) rfl
theorem FE.nu {s : S} {d : D} (h : FE s d) : d ≠ .undef := by
  intro e; subst e; exact h
theorem filter_yes (xs : List D) : xs.filter (fun _ => true) = xs := List.filter_eq_self.mpr fun _ _ => rfl
theorem boolsD (xs : List D) (f : D → Bool) : xs.map (fun d => D.bl (f d)) = (xs.map f).map D.bl := by rw [List.map_map]; rfl
theorem allid (xs : List D) (f : D → Bool) : (xs.map f).all id = xs.all f := by rw [List.all_map]; rfl
theorem fits_tup {s : S} {xs : List D} (h : ∀ e ∈ xs, FE s e) (hl : xs.length ≤ 1000) : ∃ G, D_fits_table [.tup xs] s = .ok (.bl (gdT (.tup xs))) (s ++ G) := by
  rw [r_fits_table]
  unfold b_fits_table
  have i0 : D_is_tuple_of [.tup xs, .int 2, .int 60] s = .ok (.bl (itD 2 60 (.tup xs))) s := ity_tup
  by_cases h1 : 2 ≤ xs.length ∧ xs.length ≤ 60
  · have i1 : itD 2 60 (.tup xs) = true := by simp [itD, h1]
    rw [i1] at i0
    -- the pairs
    have c1 := eLc_items (it := iTup (eV 0)) (g := gV 3) (t := tYes) (e := eCall 3 D_is_tuple_of (aC (eV 3) (aC (eC (.int 2)) (aC (eC (.int 2)) aN)))) (own := [3]) (r := [.tup xs, .undef, .undef, .undef]) (s := s) (s1 := s) (xs := xs) (ap_iTup rfl) (fun d => [.tup xs, .undef, .undef, d]) (fun _ => true) (fun d => .bl (itD 2 2 d)) (by
      intro d hd acc
      have fe := (h d hd).grow [.lst acc]
      have : D_is_tuple_of [d, .int 2, .int 2] (s ++ [.lst acc]) = .ok (.bl (itD 2 2 d)) (s ++ [.lst acc]) := ity fe
      refine ⟨rfl, rfl, fun _ => ?_⟩
      have ev : eV 0 [d] (s ++ [.lst acc]) = .ok d (s ++ [.lst acc]) := eV_any fe.nu
      simp [ev, this]) (by omega)
    rw [filter_yes, boolsD] at c1
    cases a1 : xs.all (itD 2 2) with
    | false =>
      refine ⟨[.lst ((xs.map (itD 2 2)).map D.bl)], ?_⟩
      have hg : gdT (.tup xs) = false := by simp [gdT, a1]
      rw [hg]
      simp [-List.map_map, i0, c1, allid, a1]
    | true =>
      have two : ∀ d ∈ xs, ∃ x y, d = .tup [x, y] ∧ FX x = true ∧ FX y = true := by
        intro d hd
        have e1 := List.all_eq_true.mp a1 d hd
        have e2 := h d hd
        cases d with
        | tup ys =>
          match ys with
          | [x, y] =>
            have : [x, y].all FX = true := e2
            simp only [List.all_cons, List.all_nil, Bool.and_true, Bool.and_eq_true] at this
            exact ⟨x, y, rfl, this⟩
          | [] => simp [itD] at e1
          | [x] => simp [itD] at e1
          | x :: y :: z :: r => simp [itD] at e1
        | _ => exact absurd e1 Bool.false_ne_true
      generalize hs1 : s ++ [.lst ((xs.map (itD 2 2)).map D.bl)] = s1 at c1
      have hx : ∀ d ∈ xs, ∀ st : S, (eAnd (eCallK 3 D_fits_whole (aC (e2 oIx (eV 3) (eC (.int 0))) (aC (eC (.int 0)) (aC (eC (.int 366)) aN)))) (eCallK 3 D_fits_whole (aC (e2 oIx (eV 3) (eC (.int 1))) (aC (e1 oNeg (eC (.int 100000))) (aC (eC (.int 100000)) aN))))) [.tup xs, .undef, .undef, d] st = .ok (.bl (okE d)) st := by
        intro d hd st
        obtain ⟨x, y, rfl, fx, fy⟩ := two d hd
        have k1 := fun st => fw_k fx (lo := 0) (hi := 366) (s := st)
        have k2 := fun st => fw_k fy (lo := -100000) (hi := 100000) (s := st)
        cases q : fwD 0 366 x <;> simp [k1, k2, okE, q]
      have c2 := eLc_items (it := iTup (eV 0)) (g := gV 3) (t := tYes) (e := eAnd (eCallK 3 D_fits_whole (aC (e2 oIx (eV 3) (eC (.int 0))) (aC (eC (.int 0)) (aC (eC (.int 366)) aN)))) (eCallK 3 D_fits_whole (aC (e2 oIx (eV 3) (eC (.int 1))) (aC (e1 oNeg (eC (.int 100000))) (aC (eC (.int 100000)) aN))))) (own := [3]) (r := [.tup xs, .undef, .undef, .undef]) (s := s1) (s1 := s1) (xs := xs) (ap_iTup rfl) (fun d => [.tup xs, .undef, .undef, d]) (fun _ => true) (fun d => .bl (okE d)) (by
        intro d hd acc
        exact ⟨rfl, rfl, fun _ => hx d hd _⟩) (by omega)
      rw [filter_yes, boolsD] at c2
      have l1 : s1[s.length]? = some (.lst ((xs.map (itD 2 2)).map D.bl)) := by rw [← hs1]; simp
      cases a2 : xs.all okE with
      | false =>
        refine ⟨[.lst ((xs.map (itD 2 2)).map D.bl), .lst ((xs.map okE).map D.bl)], ?_⟩
        have hg : gdT (.tup xs) = false := by simp [gdT, a2]
        rw [hg]
        simp [-List.map_map, i0, c1, l1, c2, allid, a1, a2]
        rw [← hs1]
        simp [-List.map_map]
      | true =>
        generalize hs2 : s1 ++ [.lst ((xs.map okE).map D.bl)] = s2 at c2
        have l2 : s2[s1.length]? = some (.lst ((xs.map okE).map D.bl)) := by rw [← hs2]; simp
        have hit : iZip (eV 0) (eCut (eV 0) (.at (eC (.int 1))) .no) [.tup xs, .undef, .undef, .undef] s2 = .ok (.items (zipD xs (xs.drop 1))) s2 := by
          have : cutD xs (some 1) none = xs.drop 1 := cut_1
          unfold iZip eCut
          simp [Part.run, this]
        have c3 := eLc_items (g := gT (gsC (gV 1) (gsC (gV 2) gsN))) (t := tYes) (e := e2 oLt (e2 oIx (eV 1) (eC (.int 0))) (e2 oIx (eV 2) (eC (.int 0)))) (own := [1, 2]) hit (fun d => match d with | .tup [x, y] => [.tup xs, x, y, .undef] | _ => []) (fun _ => true) (fun d => .bl (ltE d)) (by
          intro d hd acc
          obtain ⟨i, hi⟩ := List.mem_iff_getElem?.mp hd
          obtain ⟨x, y, rfl, ex, ey⟩ := zip_get hi
          have mx := List.mem_of_getElem? ex
          have my := List.mem_of_mem_drop (List.mem_of_getElem? ey)
          obtain ⟨x0, x1, rfl, _, _⟩ := two x mx
          obtain ⟨y0, y1, rfl, _, _⟩ := two y my
          have ox := List.all_eq_true.mp a2 _ mx
          have oy := List.all_eq_true.mp a2 _ my
          have ix : ∃ i, x0 = .int i := by cases x0 <;> first | exact ⟨_, rfl⟩ | exact absurd ox Bool.false_ne_true
          have iy : ∃ i, y0 = .int i := by cases y0 <;> first | exact ⟨_, rfl⟩ | exact absurd oy Bool.false_ne_true
          obtain ⟨i, rfl⟩ := ix
          obtain ⟨j, rfl⟩ := iy
          exact ⟨rfl, rfl, fun _ => by simp [ltE]⟩) (by
            unfold zipD
            rw [List.length_zipWith]; omega)
        rw [filter_yes, boolsD] at c3
        refine ⟨[.lst ((xs.map (itD 2 2)).map D.bl), .lst ((xs.map okE).map D.bl), .lst (((zipD xs (xs.drop 1)).map ltE).map D.bl)], ?_⟩
        have hg : gdT (.tup xs) = (zipD xs (xs.drop 1)).all ltE := by simp [gdT, a1, a2, h1]
        rw [hg]
        simp [-List.map_map, i0, c1, l1, c2, l2, c3, allid, a1, a2]
        rw [← hs2, ← hs1]
        simp [-List.map_map]
  · have i1 : itD 2 60 (.tup xs) = false := by simpa [itD] using h1
    rw [i1] at i0
    refine ⟨[], ?_⟩
    have hg : gdT (.tup xs) = false := by simp [gdT, h1]
    rw [hg]
    simp [i0]
theorem fits_g {s : S} {v : D} (h : FT s v) : ∃ G, D_fits_table [v] s = .ok (.bl (gdT v)) (s ++ G) := by
  cases v with
  | tup xs => exact fits_tup h.1 h.2
  | non =>
    refine ⟨[], ?_⟩
    rw [r_fits_table]
    unfold b_fits_table
    have i0 : D_is_tuple_of [.non, .int 2, .int 60] s = .ok (.bl (itD 2 60 .non)) s := ity_non
    simp [i0, itD, gdT]
  | int i =>
    refine ⟨[], ?_⟩
    rw [r_fits_table]
    unfold b_fits_table
    have i0 : D_is_tuple_of [.int i, .int 2, .int 60] s = .ok (.bl (itD 2 60 (.int i))) s := ity_int
    simp [i0, itD, gdT]
  | str i =>
    refine ⟨[], ?_⟩
    rw [r_fits_table]
    unfold b_fits_table
    have i0 : D_is_tuple_of [.str i, .int 2, .int 60] s = .ok (.bl (itD 2 60 (.str i))) s := ity_str
    simp [i0, itD, gdT]
  | ref n =>
    obtain ⟨xs, e⟩ := h
    refine ⟨[], ?_⟩
    rw [r_fits_table]
    unfold b_fits_table
    have i0 : D_is_tuple_of [.ref n, .int 2, .int 60] s = .ok (.bl (itD 2 60 (.ref n))) s := ity_ref e
    simp [i0, itD, gdT]
  | _ => exact absurd h (by intro h; exact h)
end YE

/-! YS: what the program answers at days of a table. -/
namespace YE
open Y YN
open PySem (Str PyData)
structure Day (l : List (Int × Int)) (t : Rat) : Prop where
  lo : ((fst l).1 : Rat) ≤ t
  hi : t ≤ (lst l).1
  nb : t.num.natAbs ≤ 1000000000
  db : t.den ≤ 1000000000
theorem Day.tm {l : List (Int × Int)} {t : Rat} (h : Day l t) : Tm t := ⟨Nat.lt_of_le_of_lt h.nb (by decide), Nat.lt_of_le_of_lt h.db (by decide)⟩
theorem gd_tab {l : List (Int × Int)} (hl : Tab l) : gdT (tbD l) = true := by
  have h1 : (l.map prD).all (itD 2 2) = true := by
    rw [List.all_map]; exact List.all_eq_true.mpr fun p _ => rfl
  have h2 : (l.map prD).all okE = true := by
    rw [List.all_map]
    refine List.all_eq_true.mpr fun p hp => ?_
    obtain ⟨a1, a2, a3, a4⟩ := hl.ent p hp
    show (fwD 0 366 (.int p.1) && fwD (-100000) 100000 (.int p.2)) = true
    simp [fwD, a1, a2, a3, a4]
  have h3 : ∀ l : List (Int × Int), l.Pairwise (fun p q => p.1 < q.1) → (zipD (l.map prD) ((l.map prD).drop 1)).all ltE = true := by
    intro l
    induction l with
    | nil => intro _; rfl
    | cons p r ih =>
      intro h
      cases r with
      | nil => rfl
      | cons q r =>
        obtain ⟨a, b⟩ := List.pairwise_cons.mp h
        rw [zip_tail, List.all_cons, ih b]
        have := a q List.mem_cons_self
        show (decide (p.1 < q.1) && true) = true
        simp [this]
  unfold gdT tbD
  simp only
  rw [h1, h2, h3 l hl.ris]
  have := hl.lo
  have := hl.hi
  rw [List.length_map]
  simp; omega
theorem tab_ft {l : List (Int × Int)} (hl : Tab l) (s : S) : FT s (tbD l) := by
  refine ⟨fun e he => ?_, ?_⟩
  · obtain ⟨p, hp, rfl⟩ := List.mem_map.mp he
    rfl
  · rw [List.length_map]
    have := hl.hi
    omega
theorem need_table_k {l : List (Int × Int)} (hl : Tab l) {s : S} : callK D_need_table [tbD l] s = .ok .non s := by
  obtain ⟨G, e⟩ := fits_g (tab_ft hl [])
  rw [gd_tab hl] at e
  refine callK_val (by show (D.pureL (l.map prD) && true) = true; rw [tb_pure]; rfl) (g := [] ++ G) ?_ rfl
  rw [r_need_table]
  unfold b_need_table
  unfold tbD at e ⊢
  simp at e
  simp [e]
theorem fits_share_k {t : Rat} (h1 : t.num.natAbs ≤ 1000000000) (h2 : t.den ≤ 1000000000) {s : S} : callK D_fits_share [rd t] s = .ok (.bl true) s := by
  refine callK_val rfl (g := []) ?_ rfl
  rw [r_fits_share]
  unfold b_fits_share rd
  have dp := den_pos t
  have i0 : D_is_tuple_of [.tup [.int t.num, .int t.den], .int 2, .int 2] [] = .ok (.bl (itD 2 2 (.tup [.int t.num, .int t.den]))) [] := ity_tup
  rw [show itD 2 2 (.tup [.int t.num, .int t.den]) = true from rfl] at i0
  have dk := fun st => divisor_in_k (a := t.num) (b := t.den) (n := 30) (s := st) (by omega) (by decide) (b1_pow (d := 30) (by omega) (by decide))
  have k1 := fun st => fits_whole_k (i := t.num) (lo := -1000000000) (hi := 1000000000) (s := st)
  have k2 := fun st => fits_whole_k (i := (t.den : Int)) (lo := 1) (hi := 1000000000) (s := st)
  have q1 : -1000000000 ≤ t.num ∧ t.num ≤ 1000000000 := by omega
  have q2 : (1 : Int) ≤ t.den ∧ (t.den : Int) ≤ 1000000000 := by omega
  rw [show decide (-1000000000 ≤ t.num ∧ t.num ≤ 1000000000) = true by simpa using q1] at k1
  rw [show decide ((1 : Int) ≤ t.den ∧ (t.den : Int) ≤ 1000000000) = true by simpa using q2] at k2
  have hg : Int.gcd t.num t.den = 1 := t.reduced
  rw [hg] at dk
  simp [i0, dk, k1, k2]
theorem at_fst {l : List (Int × Int)} (hl : Tab l) : atD (l.map prD) 0 = some (prD (fst l)) := by
  obtain ⟨p, q, r, rfl⟩ := tab_ne hl
  exact atD_0
theorem at_lst {l : List (Int × Int)} (hl : Tab l) : atD (l.map prD) (-1) = some (prD (lst l)) := by
  refine atD_neg1 ?_
  have := hl.lo
  rw [List.getElem?_map, List.length_map, ← List.getLast?_eq_getElem?]
  unfold lst
  rw [List.getLastD_eq_getLast?]
  cases h : l.getLast? with
  | none =>
    rw [List.getLast?_eq_none_iff] at h
    subst h; simp at this
  | some p => rfl
theorem fst_mem {l : List (Int × Int)} (hl : Tab l) : fst l ∈ l := by
  obtain ⟨p, q, r, rfl⟩ := tab_ne hl
  exact List.mem_cons_self
theorem lst_memT {l : List (Int × Int)} (hl : Tab l) : lst l ∈ l := lst_mem (by have := hl.lo; omega)
theorem need_day_k {l : List (Int × Int)} (hl : Tab l) {t : Rat} (h : Day l t) {s : S} : callK D_need_day [tbD l, rd t] s = .ok .non s := by
  refine callK_val (by show (D.pureL (l.map prD) && true) = true; rw [tb_pure]; rfl) (g := []) ?_ rfl
  rw [r_need_day]
  unfold b_need_day
  have fs := fun st => fits_share_k h.nb h.db (s := st)
  have e1 := hl.ent _ (fst_mem hl)
  have e2 := hl.ent _ (lst_memT hl)
  have b1 := bd_day e1.1 e1.2.1
  have b2 := bd_day e2.1 e2.2.1
  have k1 := fun st => less_k (s := st) h.tm b1 (by decide) (by decide)
  have k2 := fun st => less_k (s := st) b2 h.tm (by decide) (by decide)
  rw [show decide (t < ((fst l).1 : Rat)) = false by have := h.lo; simp; grind] at k1
  rw [show decide (((lst l).1 : Rat) < t) = false by have := h.hi; simp; grind] at k2
  rw [rd_day] at k1 k2
  have a1 := at_fst hl
  have a2 := at_lst hl
  unfold tbD rd at *
  simp [fs, k1, k2, a1, a2, prD]
theorem need_span_k {l : List (Int × Int)} (hl : Tab l) {a b : Rat} (ha : Day l a) (hb : Day l b) (hab : a ≤ b) {s : S} : callK D_need_span [tbD l, rd a, rd b] s = .ok .non s := by
  refine callK_val (by show (D.pureL (l.map prD) && true) = true; rw [tb_pure]; rfl) (g := []) ?_ rfl
  rw [r_need_span]
  unfold b_need_span
  have n1 := fun st => need_day_k hl ha (s := st)
  have n2 := fun st => need_day_k hl hb (s := st)
  have k1 := fun st => less_k (s := st) hb.tm ha.tm (by decide) (by decide)
  rw [show decide (b < a) = false by simp; grind] at k1
  unfold tbD rd at *
  simp [n1, n2, k1]
theorem value_at_k {l : List (Int × Int)} (hl : Tab l) {t : Rat} (h : Day l t) {s : S} : callK D_value_at [tbD l, rd t] s = .ok (rd (vIn l t)) s := by
  refine callK_val (by show (D.pureL (l.map prD) && true) = true; rw [tb_pure]; rfl) (g := []) ?_ rfl
  rw [r_value_at]
  unfold b_value_at
  have n1 := fun st => need_table_k hl (s := st)
  have n2 := fun st => need_day_k hl h (s := st)
  have n3 := fun st => value_in_k hl h.tm h.hi (s := st)
  have er : rd t = .tup [.int t.num, .int t.den] := rfl
  have et : tbD l = .tup (l.map prD) := rfl
  simp only [et, er] at n1 n2 n3 ⊢
  simp [n1, n2, n3]
theorem summed_k {l : List (Int × Int)} (hl : Tab l) {a b : Rat} (ha : Day l a) (hb : Day l b) (hab : a ≤ b) {s : S} : callK D_summed [tbD l, rd a, rd b] s = .ok (rd (ar l b - ar l a)) s := by
  refine callK_val (by show (D.pureL (l.map prD) && true) = true; rw [tb_pure]; rfl) (g := []) ?_ rfl
  rw [r_summed]
  unfold b_summed
  have n1 := fun st => need_table_k hl (s := st)
  have n2 := fun st => need_span_k hl ha hb hab (s := st)
  have n3 := fun st => area_in_k hl ha.tm hb.tm ha.lo hab hb.hi (s := st)
  have er : ∀ q : Rat, rd q = .tup [.int q.num, .int q.den] := fun _ => rfl
  have et : tbD l = .tup (l.map prD) := rfl
  simp only [et, er a, er b] at n1 n2 n3 ⊢
  simp [n1, n2, n3]
theorem quot_rat {p q : Rat} (hq : 0 < q) : p / q = ((p.num * q.den : Int) : Rat) / (((p.den : Int) * q.num : Int) : Rat) := by
  have h1 := den_ne p
  have h2 := den_ne q
  have h3 := rat_eq p
  have h4 := rat_eq q
  have h5 : (q.num : Rat) ≠ 0 := by
    intro h
    rw [h] at h4
    grind
  rw [Rat.intCast_mul, Rat.intCast_mul, Rat.intCast_natCast, Rat.intCast_natCast]
  grind
theorem num_pos {q : Rat} (hq : 0 < q) : 0 < q.num := by
  have := (Rat.lt_iff 0 q).mp hq
  simpa using this
/-- the mean -/
def mn (l : List (Int × Int)) (a b : Rat) : Rat := if a = b then vIn l a else (ar l b - ar l a) / (b - a)
theorem rd_eqv {p q : Rat} : PyData.eqv (pyP (rd p)) (pyP (rd q)) = decide (p = q) := by
  have e : PyData.eqv (pyP (rd p)) (pyP (rd q)) = decide (p.num = q.num ∧ (p.den : Int) = q.den) := by
    show (PyData.eqv (.int p.num) (.int q.num) && (PyData.eqv (.int p.den) (.int q.den) && true)) = _
    by_cases h1 : p.num = q.num <;> by_cases h2 : (p.den : Int) = q.den <;> simp [PyData.eqv, h1, h2]
  rw [e, Bool.eq_iff_iff, decide_eq_true_eq, decide_eq_true_eq]
  constructor
  · rintro ⟨h1, h2⟩
    exact Rat.ext h1 (by omega)
  · rintro rfl; exact ⟨rfl, rfl⟩
theorem eq_rd {p q : Rat} {s : S} : oEq (rd p) (rd q) s = .ok (.bl (decide (p = q))) s := by
  rw [eq_plain (rd_plain p) (rd_plain q) (by rw [rd_dep]; decide) (by rw [rd_dep]; decide), rd_eqv]
theorem ne_rd {p q : Rat} {s : S} : oNe (rd p) (rd q) s = .ok (.bl (!decide (p = q))) s := by
  rw [ne_plain (rd_plain p) (rd_plain q) (by rw [rd_dep]; decide) (by rw [rd_dep]; decide), rd_eqv]
theorem mean_k {l : List (Int × Int)} (hl : Tab l) {a b : Rat} (ha : Day l a) (hb : Day l b) (hab : a ≤ b) {s : S} : callK D_mean [tbD l, rd a, rd b] s = .ok (rd (mn l a b)) s := by
  refine callK_val (by show (D.pureL (l.map prD) && true) = true; rw [tb_pure]; rfl) (g := []) ?_ rfl
  rw [r_mean]
  unfold b_mean mn
  have n1 := fun st => need_table_k hl (s := st)
  have n2 := fun st => need_span_k hl ha hb hab (s := st)
  have n3 := fun st => area_in_k hl ha.tm hb.tm ha.lo hab hb.hi (s := st)
  have n4 := fun st => value_in_k hl ha.tm ha.hi (s := st)
  have n5 := fun st => eq_rd (p := a) (q := b) (s := st)
  have er : ∀ q : Rat, rd q = .tup [.int q.num, .int q.den] := fun _ => rfl
  have et : tbD l = .tup (l.map prD) := rfl
  by_cases c : a = b
  · rw [if_pos c]
    rw [show decide (a = b) = true by simpa using c] at n5
    simp only [et, er a, er b] at n1 n2 n4 n5 ⊢
    simp [n1, n2, n4, n5]
  · rw [if_neg c]
    rw [show decide (a = b) = false by simpa using c] at n5
    have hw : 0 < b - a := by grind
    have nx := bd_neg ha.tm
    have pw := fun st => plus_k (s := st) hb.tm nx (by decide) (by decide)
    have bw := bd_sub hb.tm ha.tm
    have ba := bd_dar hl ha.tm hb.tm
    rw [show b + -a = b - a by grind] at pw
    have ne : rd (-a) = .tup [.int (-a.num), .int a.den] := rfl
    rw [ne] at pw
    generalize b - a = w at *
    generalize ar l b - ar l a = z at *
    have zb : Bd z 900 760 := ba
    have m1 := fun st => mul_pow (i := z.num) (j := w.den) (s := st) zb.1 (bdn bw) (by decide)
    have m2 := fun st => mul_pow (i := (z.den : Int)) (j := w.num) (s := st) (bdn zb) bw.1 (by decide)
    have sk := fun st => share_k (a := z.num * w.den) (b := (z.den : Int) * w.num) (s := st) (Int.mul_pos (den_pos z) (num_pos hw)) (natAbs_mul_lt zb.1 (bdn bw)) (by decide) (b1_pow (natAbs_mul_lt (bdn zb) bw.1) (by decide))
    rw [← quot_rat hw] at sk
    simp only [et, er a, er b, er z, er w] at n1 n2 n3 n5 pw ⊢
    simp [n1, n2, n3, n5, pw, m1, m2, sk]
end YE

/-! YT: the law's tables and times. -/
namespace YE
open Y YN
open PySem (Str PyData)
/-- a dict of entries -/
structure DT (l : List (Int × D)) (m : Nat) (v : Int) : Prop where
  nd : (l.map (·.1)).Nodup
  ent : ∀ p ∈ l, ∃ w : Int, p.2 = .int w ∧ Ent (p.1, w) ∧ -v ≤ w ∧ w ≤ v
  len : l.length ≤ m
theorem keys_put (l : List (Int × D)) (k : Int) (v : D) : (putK l k v).map (·.1) = if (fndK l k).isSome = true then l.map (·.1) else l.map (·.1) ++ [k] := by
  unfold putK
  split
  · rw [List.map_map]
    refine List.map_congr_left fun p _ => ?_
    show (if p.1 = k then (p.1, v) else p).1 = p.1
    split <;> rfl
  · simp
theorem fnd_mem {l : List (Int × D)} {k : Int} : (fndK l k).isSome = true ↔ k ∈ l.map (·.1) := by
  unfold fndK
  rw [Option.isSome_map, List.find?_isSome, List.mem_map]
  constructor
  · rintro ⟨p, hp, e⟩; exact ⟨p, hp, by simpa using e⟩
  · rintro ⟨p, hp, e⟩; exact ⟨p, hp, by simpa using e⟩
theorem DT.put {l : List (Int × D)} {m : Nat} {v : Int} (h : DT l m v) {k w : Int} (he : Ent (k, w)) (hv : -v ≤ w ∧ w ≤ v) : DT (putK l k (.int w)) (m + 1) v := by
  refine ⟨?_, ?_, ?_⟩
  · rw [keys_put]
    split
    · exact h.nd
    · rename_i hk
      rw [fnd_mem] at hk
      rw [List.nodup_append]
      exact ⟨h.nd, by simp, fun a ha b hb => by
        rw [List.mem_singleton] at hb
        subst hb; intro e; subst e; exact hk ha⟩
  · intro p hp
    unfold putK at hp
    split at hp
    · obtain ⟨q, hq, rfl⟩ := List.mem_map.mp hp
      by_cases e : q.1 = k
      · rw [if_pos e]
        exact ⟨w, rfl, by show Ent (q.1, w); rw [e]; exact he, hv⟩
      · rw [if_neg e]; exact h.ent q hq
    · rcases List.mem_append.mp hp with q | q
      · exact h.ent p q
      · rw [List.mem_singleton] at q
        subst q; exact ⟨w, rfl, he, hv⟩
  · unfold putK
    have := h.len
    split
    · rw [List.length_map]; omega
    · rw [List.length_append, List.length_singleton]; omega
theorem put_has (l : List (Int × D)) (k : Int) (v : D) : k ∈ (putK l k v).map (·.1) := by
  rw [keys_put]
  split
  · rename_i h; exact fnd_mem.mp h
  · simp
theorem put_keep {l : List (Int × D)} {j : Int} (k : Int) (v : D) (h : j ∈ l.map (·.1)) : j ∈ (putK l k v).map (·.1) := by
  rw [keys_put]
  split
  · exact h
  · exact List.mem_append_left _ h
def wOf (l : List (Int × D)) (k : Int) : Int := match fndK l k with
  | some (.int w) => w
  | _ => 0
def tabOf (l : List (Int × D)) : List (Int × Int) := (srt (l.map (·.1))).map fun k => (k, wOf l k)
theorem wOf_ok {l : List (Int × D)} {m : Nat} {v : Int} (h : DT l m v) {k : Int} (hk : k ∈ l.map (·.1)) : fndK l k = some (.int (wOf l k)) ∧ Ent (k, wOf l k) ∧ -v ≤ wOf l k ∧ wOf l k ≤ v := by
  have h1 := fnd_mem.mpr hk
  have : ∃ w, fndK l k = some (.int w) ∧ Ent (k, w) ∧ -v ≤ w ∧ w ≤ v := by
    unfold fndK at h1 ⊢
    cases e : l.find? fun p => decide (p.1 = k) with
    | none => rw [e] at h1; cases h1
    | some p =>
      have hp := List.mem_of_find?_eq_some e
      have he := List.find?_some e
      have he : p.1 = k := by simpa using he
      obtain ⟨w, e1, e2⟩ := h.ent p hp
      exact ⟨w, by simp [e1], by rw [← he]; exact e2.1, e2.2⟩
  obtain ⟨w, e1, e2⟩ := this
  have : wOf l k = w := by unfold wOf; rw [e1]
  rw [this]; exact ⟨e1, e2⟩
theorem tab_of {l : List (Int × D)} {m : Nat} {v : Int} (h : DT l m v) (hm : m ≤ 60) {a b : Int} (hab : a ≠ b) (ha : a ∈ l.map (·.1)) (hb : b ∈ l.map (·.1)) : Tab (tabOf l) ∧ (tabOf l).length = l.length ∧ ∀ p ∈ tabOf l, -v ≤ p.2 ∧ p.2 ≤ v := by
  have hp := srt_perm (l.map (·.1))
  have hlen : (tabOf l).length = l.length := by
    unfold tabOf
    rw [List.length_map, hp.length_eq, List.length_map]
  have h2 : 2 ≤ l.length := by
    have nd := h.nd
    match l, ha, hb, nd with
    | [], ha, _, _ => cases ha
    | [p], ha, hb, _ =>
      simp at ha hb
      exact absurd (ha.trans hb.symm) hab
    | p :: q :: r, _, _, _ => simp
  refine ⟨⟨by omega, by have := h.len; omega, ?_, ?_⟩, hlen, fun p hp' => ?_⟩
  · intro p hp'
    obtain ⟨k, hk, rfl⟩ := List.mem_map.mp hp'
    exact (wOf_ok h (hp.mem_iff.mp hk)).2.1
  · unfold tabOf
    rw [List.pairwise_map]
    have h1 := srt_sorted (l.map (·.1))
    have h2 : (srt (l.map (·.1))).Nodup := hp.nodup_iff.mpr h.nd
    exact (List.pairwise_and_iff.mpr ⟨h1, h2⟩).imp fun ⟨a, b⟩ => by omega
  · obtain ⟨k, hk, rfl⟩ := List.mem_map.mp hp'
    exact (wOf_ok h (hp.mem_iff.mp hk)).2.2
theorem keysI_toKD (l : List (Int × D)) : keysI (l.map toKD) = some (l.map (·.1)) := by
  unfold keysI
  rw [List.map_map, show ((fun p : D × D => p.1) ∘ toKD) = D.int ∘ (fun p : Int × D => p.1) from rfl, ← List.map_map, intsOf_map]
def kd (l : List (Int × D)) : O := .dct false (l.map toKD)
theorem put_step {r : Env} {s s1 s3 : S} {o i e : E} {w k : Int} {l : List (Int × D)} {n : Nat} (he : e r s = .ok (.int w) s1) (ho : ∀ st, o r st = .ok (.ref n) st) (hi : i r s1 = .ok (.int k) s3) (hd : s3[n]? = some (kd l)) (hl : l.length < 1000000) :
    zPutD o i e r s = .nx r (s3.set n (kd (putK l k (.int w)))) := by
  have : putDct (.ref n) (.int k) (.int w) s3 = some (s3.set n (kd (putK l k (.int w)))) := by
    rw [putDct_ref, hd]
    unfold kd
    rw [dctO_dct, Option.bind_some, put_toKD, if_pos]
    exact ⟨keyOk_int, by rw [List.length_map]; exact hl⟩
  rw [ap_zPutD, he, then_ok, ho, then_ok, hi, then_ok, this]
  rfl
section
variable {rollF : Fn}
theorem law_table_ok (R : RollOk rollF) {a b c v2 v3 : Int} (h : Cup a b) (c0 : 0 ≤ c) (c1 : c ≤ 50) (h2 : 3 ≤ v2) (h2' : v2 ≤ 364) (h3 : 0 ≤ v3) (h3' : v3 ≤ 100000) :
    ∃ l a' b', Tab l ∧ l.length ≤ c.toNat + 2 ∧ (∀ p ∈ l, -v3 ≤ p.2 ∧ p.2 ≤ v3) ∧ Cup a' b' ∧ ∀ (n : Nat) (s : S), s[n]? = some (.lst [.int a, .int b]) → callK (D__law_table rollF) [.ref n, .int c, .int v2, .int v3] s = .ok (tbD l) (s.set n (.lst [.int a', .int b'])) := by
  have key : ∃ l a' b' g, Tab l ∧ l.length ≤ c.toNat + 2 ∧ (∀ p ∈ l, -v3 ≤ p.2 ∧ p.2 ≤ v3) ∧ Cup a' b' ∧ D__law_table rollF [.ref 0, .int c, .int v2, .int v3] [.lst [.int a, .int b]] = .ok (tbD l) (.lst [.int a', .int b'] :: g) := by
    rw [r__law_table]
    unfold b__law_table
    have m2 := fun st => v_mul64 (i := 2) (j := v3) (s := st) (by decide)
    have step : ∀ {a b : Int} (hc : Cup a b) {m : Nat} {l : List (Int × D)} (hl : DT l m v3) (hm : m ≤ 60) {k : E} {x y : D} {K : Int} (hK0 : 0 < K) (hK1 : K ≤ 367) {off : Int} (off0 : 0 ≤ off) (hoff : off + K ≤ 367)
        (hk : ∀ (r a b a' b' : Int), callK rollF [.ref 0, .int K] [.lst [.int a, .int b], kd l] = .ok (.int r) [.lst [.int a', .int b'], kd l] → k [.ref 0, .int c, .int v2, .int v3, .ref 1, x, y] [.lst [.int a, .int b], kd l] = .ok (.int (off + r)) [.lst [.int a', .int b'], kd l]),
        ∃ a' b' r w, Cup a' b' ∧ 0 ≤ r ∧ r < K ∧ DT (putK l (off + r) (.int w)) (m + 1) v3 ∧
          zPutD (eV 4) k (e2 oSub (eCallK 2 rollF (aC (eV 0) (aC (e2 oAdd (e2 oMul (eC (.int 2)) (eV 3)) (eC (.int 1))) aN))) (eV 3)) [.ref 0, .int c, .int v2, .int v3, .ref 1, x, y] [.lst [.int a, .int b], kd l] = .nx [.ref 0, .int c, .int v2, .int v3, .ref 1, x, y] [.lst [.int a', .int b'], kd (putK l (off + r) (.int w))] := by
      intro a b hc m l hl hm k x y K hK0 hK1 off off0 hoff hk
      obtain ⟨r1, a1, b1, g1, g2, hc1, e1⟩ := R hc (m := 2 * v3 + 1) (by omega) (by omega)
      obtain ⟨r2, a2, b2, g3, g4, hc2, e2'⟩ := R hc1 (m := K) hK0 (by omega)
      have q1 := e1 0 [.lst [.int a, .int b], kd l] rfl
      have q2 := hk r2 a1 b1 a2 b2 (e2' 0 [.lst [.int a1, .int b1], kd l] rfl)
      refine ⟨a2, b2, r2, r1 - v3, hc2, g3, g4, hl.put ⟨by show 0 ≤ off + r2; omega, by show off + r2 ≤ 366; omega, by show -100000 ≤ r1 - v3; omega, by show r1 - v3 ≤ 100000; omega⟩ ⟨by omega, by omega⟩, ?_⟩
      have he : (e2 oSub (eCallK 2 rollF (aC (eV 0) (aC (e2 oAdd (e2 oMul (eC (.int 2)) (eV 3)) (eC (.int 1))) aN))) (eV 3)) [.ref 0, .int c, .int v2, .int v3, .ref 1, x, y] [.lst [.int a, .int b], kd l] = .ok (.int (r1 - v3)) [.lst [.int a1, .int b1], kd l] := by
        simp [m2, q1]
      have := put_step he (fun st => rfl) q2 (n := 1) (o := eV 4) rfl (by have := hl.len; omega)
      rw [this]; rfl
    -- the inner days
    obtain ⟨r', s', ef, a1, b1, l1, x, hc1, hl1, rfl, rfl⟩ := forM_inv (g := gV 5) (b := zPutD (eV 4) (eCallK 2 rollF (aC (eV 0) (aC (e2 oAdd (eV 2) (eC (.int 1))) aN))) (e2 oSub (eCallK 2 rollF (aC (eV 0) (aC (e2 oAdd (e2 oMul (eC (.int 2)) (eV 3)) (eC (.int 1))) aN))) (eV 3)))
      (fun j r s => ∃ (a b : Int) (l : List (Int × D)) (x : D), Cup a b ∧ DT l j v3 ∧ r = [.ref 0, .int c, .int v2, .int v3, .ref 1, x, .undef] ∧ s = [.lst [.int a, .int b], kd l]) (range2 0 c) 0 [.ref 0, .int c, .int v2, .int v3, .ref 1, .undef, .undef] [.lst [.int a, .int b], kd []]
      ⟨a, b, [], .undef, h, ⟨by simp, by simp, by simp⟩, rfl, rfl⟩ (by
        rintro j d r s hd ⟨a, b, l, x, hc, hl, rfl, rfl⟩
        have hj := (List.getElem?_eq_some_iff.mp hd).1
        rw [range2_len] at hj
        simp only [Nat.zero_add] at hl ⊢
        obtain ⟨a', b', r, w, g1, g2, g3, g4, e⟩ := step hc hl (by omega) (k := eCallK 2 rollF (aC (eV 0) (aC (e2 oAdd (eV 2) (eC (.int 1))) aN))) (x := d) (y := .undef) (K := v2 + 1) (off := 0) (by omega) (by omega) (by omega) (by omega) (by
          intro r a b a' b' e
          rw [Int.zero_add]
          simp [e])
        exact ⟨_, _, _, _, rfl, .inl e, _, _, _, _, g1, g4, rfl, rfl⟩)
    rw [range2_len] at hl1
    simp only [Nat.zero_add, Int.sub_zero] at hl1
    -- the two that stand apart
    obtain ⟨r2, a2, b2, g1, g2, hc2, e2'⟩ := R hc1 (m := v3 + 1) (by omega) (by omega)
    obtain ⟨r3, a3, b3, g3, g4, hc3, e3'⟩ := R hc2 (m := 3) (by omega) (by omega)
    have q2 := e2' 0 [.lst [.int a1, .int b1], kd l1] rfl
    have q3 := e3' 0 [.lst [.int a2, .int b2], kd l1] rfl
    simp only [List.set_cons_zero] at q2 q3
    have hl2 := hl1.put (k := r3) (w := r2) ⟨by show 0 ≤ r3; omega, by show r3 ≤ 366; omega, by show -100000 ≤ r2; omega, by show r2 ≤ 100000; omega⟩ ⟨by omega, by omega⟩
    have p2 : zPutD (eV 4) (eCallK 2 rollF (aC (eV 0) (aC (eC (.int 3)) aN))) (eCallK 2 rollF (aC (eV 0) (aC (e2 oAdd (eV 3) (eC (.int 1))) aN))) [.ref 0, .int c, .int v2, .int v3, .ref 1, x, .undef] [.lst [.int a1, .int b1], kd l1] = .nx [.ref 0, .int c, .int v2, .int v3, .ref 1, x, .undef] [.lst [.int a3, .int b3], kd (putK l1 r3 (.int r2))] :=
      put_step (w := r2) (k := r3) (l := l1) (n := 1) (s1 := [.lst [.int a2, .int b2], kd l1]) (s3 := [.lst [.int a3, .int b3], kd l1]) (by simp [q2]) (fun st => rfl) (by simp [q3]) rfl (by have := hl1.len; omega)
    obtain ⟨a4, b4, r4, w4, hc4, g5, g6, hl3, p3⟩ := step hc3 hl2 (by omega) (k := e2 oAdd (eV 2) (eCallK 2 rollF (aC (eV 0) (aC (eC (.int 3)) aN)))) (x := x) (y := .undef) (K := 3) (off := v2) (by omega) (by omega) (by omega) (by omega) (by
      intro r a b a' b' e
      simp [e])
    have k1 : r3 ∈ (putK (putK l1 r3 (.int r2)) (v2 + r4) (.int w4)).map (·.1) := put_keep _ _ (put_has _ _ _)
    have k2 : v2 + r4 ∈ (putK (putK l1 r3 (.int r2)) (v2 + r4) (.int w4)).map (·.1) := put_has _ _ _
    generalize hL : putK (putK l1 r3 (.int r2)) (v2 + r4) (.int w4) = L at *
    obtain ⟨hT, hTl, hTv⟩ := tab_of hl3 (by omega) (show r3 ≠ v2 + r4 by omega) k1 k2
    have Llen := hl3.len
    have hp := srt_perm (L.map (·.1))
    have slen : (srt (L.map (·.1))).length = L.length := by rw [hp.length_eq, List.length_map]
    -- in order
    have so : ∀ (s : S), s = [.lst [.int a4, .int b4], kd L] → eN bSorted (aC (eV 4) aN) [.ref 0, .int c, .int v2, .int v3, .ref 1, x, .undef] s = .ok (.ref 2) [.lst [.int a4, .int b4], kd L, .lst ((srt (L.map (·.1))).map D.int)] := by
      rintro s rfl
      have kk := keysI_toKD L
      simp only [ap_eN, ap_aC, eV_succ, eV_ref, ap_aN, bind_ok]
      unfold bSorted kd
      simp only [List.getElem?_cons_succ, List.getElem?_cons_zero, kk]
      rw [if_pos (by rw [List.length_map]; omega)]
      rfl
    have it := ap_iLst (so _ rfl) (xs := (srt (L.map (·.1))).map D.int) rfl
    obtain ⟨G, ec⟩ := eLc_lst (g := gV 6) (t := tYes) (e := eTup (aC (eV 6) (aC (e2 oDIx (eV 4) (eV 6)) aN))) (own := [6]) it rfl (fun d => [.ref 0, .int c, .int v2, .int v3, .ref 1, x, d]) (fun _ => true) (fun d => match d with | .int k => .tup [.int k, .int (wOf L k)] | _ => .non) (by
      intro d hd
      obtain ⟨k, hk, rfl⟩ := List.mem_map.mp hd
      obtain ⟨w1, w2⟩ := wOf_ok hl3 (hp.mem_iff.mp hk)
      refine CStep.of (fun s' => rfl) (fun acc G => rfl) (fun _ acc G => ?_)
      have f1 := fnd_toKD k L
      rw [w1] at f1
      simp [kd, f1, OkO]) (by rw [List.length_map]; omega)
    rw [filter_yes, show ((srt (L.map (·.1))).map D.int).map (fun d => match d with | .int k => D.tup [.int k, .int (wOf L k)] | _ => .non) = (tabOf L).map prD by unfold tabOf; rw [List.map_map, List.map_map]; rfl] at ec
    refine ⟨tabOf L, a4, b4, kd L :: .lst ((srt (L.map (·.1))).map D.int) :: .lst ((tabOf L).map prD) :: G, hT, by omega, hTv, hc4, ?_⟩
    have s0 : zSet (gV 4) (eDNew false) [.ref 0, .int c, .int v2, .int v3, .undef, .undef, .undef] [.lst [.int a, .int b]] = .nx [.ref 0, .int c, .int v2, .int v3, .ref 1, .undef, .undef] [.lst [.int a, .int b], kd []] := rfl
    have fr : zFor (iRng1 (eV 1)) (gV 5) (zPutD (eV 4) (eCallK 2 rollF (aC (eV 0) (aC (e2 oAdd (eV 2) (eC (.int 1))) aN))) (e2 oSub (eCallK 2 rollF (aC (eV 0) (aC (e2 oAdd (e2 oMul (eC (.int 2)) (eV 3)) (eC (.int 1))) aN))) (eV 3))) [.ref 0, .int c, .int v2, .int v3, .ref 1, .undef, .undef] [.lst [.int a, .int b], kd []] = .nx [.ref 0, .int c, .int v2, .int v3, .ref 1, x, .undef] [.lst [.int a1, .int b1], kd l1] := by
      rw [← ef]
      simp [show c.natAbs < 4611686018427387904 by omega]
    rw [ap_zCons, s0, andThen_nx, ap_zCons, fr, andThen_nx, ap_zCons, p2, andThen_nx, ap_zCons, p3, andThen_nx]
    simp only [ap_zRet, ap_eN, ap_aC, ap_aN]
    rw [ec]
    simp [tbD]
  obtain ⟨l, a', b', g, hT, hlen, hv, hc, e⟩ := key
  exact ⟨l, a', b', hT, hlen, hv, hc, fun n s hs => callK_ref rfl hs rfl e rfl (tb_pure l)⟩
theorem day_ent {l : List (Int × Int)} (hl : Tab l) {p : Int × Int} (hp : p ∈ l) : Day l (p.1 : Rat) := by
  obtain ⟨a1, a2, _, _⟩ := hl.ent p hp
  refine ⟨ratIe.mpr (fst_le hl.ris p hp), ratIe.mpr (le_lst hl.ris p hp), ?_, ?_⟩
  · rw [Rat.num_intCast]; omega
  · rw [Rat.den_intCast]; decide
theorem div_between {f g r m : Int} (hm : 0 < m) (h0 : 0 ≤ r) (h1 : r ≤ g * m - f * m) : (f : Rat) ≤ ((f * m + r : Int) : Rat) / (m : Rat) ∧ ((f * m + r : Int) : Rat) / (m : Rat) ≤ g := by
  have hm' : (0 : Rat) < (m : Rat) := by
    have : ((0 : Int) : Rat) < (m : Rat) := ratI.mpr hm
    exact this
  constructor
  · rw [← Rat.not_lt, Rat.div_lt_iff hm', Rat.not_lt]
    have : ((f * m : Int) : Rat) ≤ ((f * m + r : Int) : Rat) := ratIe.mpr (by omega)
    rw [Rat.intCast_mul] at this
    exact this
  · rw [← Rat.not_lt, Rat.lt_div_iff hm', Rat.not_lt]
    have : ((f * m + r : Int) : Rat) ≤ ((g * m : Int) : Rat) := ratIe.mpr (by omega)
    rw [Rat.intCast_mul g] at this
    exact this
theorem law_time_ok (R : RollOk rollF) {a b : Int} (h : Cup a b) {l : List (Int × Int)} (hl : Tab l) :
    ∃ t a' b', Day l t ∧ Cup a' b' ∧ ∀ (n : Nat) (s : S), s[n]? = some (.lst [.int a, .int b]) → callK (D__law_time rollF (D_someG rollF)) [.ref n, tbD l] s = .ok (rd t) (s.set n (.lst [.int a', .int b'])) := by
  have key : ∃ t a' b' g, Day l t ∧ Cup a' b' ∧ D__law_time rollF (D_someG rollF) [.ref 0, tbD l] [.lst [.int a, .int b]] = .ok (rd t) (.lst [.int a', .int b'] :: g) := by
    rw [r__law_time]
    unfold b__law_time
    have lo := hl.lo
    have hi := hl.hi
    have ef := hl.ent _ (fst_mem hl)
    have el := hl.ent _ (lst_memT hl)
    have hfl := le_lst hl.ris _ (fst_mem hl)
    obtain ⟨f1, f2, _, _⟩ := ef
    obtain ⟨g1, g2, _, _⟩ := el
    have a1 := at_fst hl
    have a2 := at_lst hl
    obtain ⟨r1, b1, c1, z1, z2, hc1, e1⟩ := R h (m := 9) (by decide) (by decide)
    have m1 := fun st => v_mul64 (i := (fst l).1) (j := 1 + r1) (s := st) (by omega)
    have m2 := fun st => v_mul64 (i := (lst l).1) (j := 1 + r1) (s := st) (by omega)
    obtain ⟨k, b2, c2, hk, hc2, e2'⟩ := some_tup R hc1 (xs := l.map prD) (by rw [List.length_map]; omega) (by rw [List.length_map]; omega) (tb_pure l)
    rw [List.length_map] at hk
    have em := ent_at hl hk
    have dk := day_ent hl (List.getElem_mem hk)
    simp only [List.getElem_map] at e2'
    have hge : 0 ≤ (lst l).1 * (1 + r1) - (fst l).1 * (1 + r1) := by
      rw [← Int.sub_mul]
      exact Int.mul_nonneg (by omega) (by omega)
    have hle : (lst l).1 * (1 + r1) ≤ 366 * 9 := Int.mul_le_mul g2 (by omega) (by omega) (by omega)
    have hfe : 0 ≤ (fst l).1 * (1 + r1) := Int.mul_nonneg f1 (by omega)
    obtain ⟨r3, b3, c3, z3, z4, hc3, e3'⟩ := R hc2 (m := (lst l).1 * (1 + r1) - (fst l).1 * (1 + r1) + 1) (by omega) (by omega)
    have db := div_between (f := (fst l).1) (g := (lst l).1) (r := r3) (m := 1 + r1) (by omega) z3 (by omega)
    have hn : ((fst l).1 * (1 + r1) + r3).natAbs < 2 ^ 20 := by omega
    have hd : (1 + r1).natAbs < 2 ^ 20 := by omega
    have bq := bd_div (show (0 : Int) < 1 + r1 by omega) hn hd
    have sk := fun st => lshare_k (a := (fst l).1 * (1 + r1) + r3) (b := 1 + r1) (s := st) (by omega) hn (by decide) (b1_pow hd (by decide))
    generalize hq : (((fst l).1 * (1 + r1) + r3 : Int) : Rat) / ((1 + r1 : Int) : Rat) = q at *
    have dq : Day l q := ⟨db.1, db.2, by have := bq.1; omega, by have := bq.2; omega⟩
    obtain ⟨k', b4, c4, hk', hc4, e4⟩ := some_lst R hc3 (xs := [rd (l[k].1 : Rat), rd q]) (by simp) (by simp) (by show ((rd (l[k].1 : Rat)).pure && ((rd q).pure && true)) = true; rw [rd_pure, rd_pure]; rfl)
    have p1 := e1 0 [.lst [.int a, .int b]] rfl
    have p2 := e2' 0 [.lst [.int b1, .int c1]] rfl
    have p3 := e3' 0 [.lst [.int b2, .int c2]] rfl
    have p4 := e4 0 1 [.lst [.int b3, .int c3], .lst [rd (l[k].1 : Rat), rd q]] (by decide) rfl rfl
    simp only [List.set_cons_zero] at p1 p2 p3 p4
    have er : rd q = .tup [.int q.num, .int q.den] := rfl
    have res : ∃ t, Day l t ∧ [rd (l[k].1 : Rat), rd q][k'] = rd t := by
      have : k' = 0 ∨ k' = 1 := by simp at hk'; omega
      rcases this with rfl | rfl
      · exact ⟨_, dk, rfl⟩
      · exact ⟨_, dq, rfl⟩
    obtain ⟨t, dt, ht⟩ := res
    rw [ht] at p4
    refine ⟨t, b4, c4, [.lst [rd (l[k].1 : Rat), rd q]], dt, hc4, ?_⟩
    rw [rd_int, er] at p4 ⊢
    rw [er] at sk
    generalize (rd t) = rt at *
    simp only [prD] at p2 a1 a2
    unfold tbD
    simp [p1, a1, a2, m1, m2, p2, p3, sk, p4, prD]
  obtain ⟨t, a', b', g, hd, hc, e⟩ := key
  exact ⟨t, a', b', hd, hc, fun n s hs => callK_ref (by show (D.pureL (l.map prD) && true) = true; rw [tb_pure]; rfl) hs rfl e rfl rfl⟩
end
end YE

/-! YU: small helps for the laws over tables. -/
namespace YE
open Y YN
open PySem (Str PyData)
@[simp] theorem eV_rd {q : Rat} {r : Env} {s : S} : eV 0 (rd q :: r) s = .ok (rd q) s := rfl
@[simp] theorem eV_tb {l : List (Int × Int)} {r : Env} {s : S} : eV 0 (tbD l :: r) s = .ok (tbD l) s := rfl
@[simp] theorem ix_rd0 {q : Rat} {s : S} : oIx (rd q) (.int 0) s = .ok (.int q.num) s := rfl
@[simp] theorem ix_rd1 {q : Rat} {s : S} : oIx (rd q) (.int 1) s = .ok (.int q.den) s := rfl
/-- the cup's place -/
def Cp (s : S) (a b : Int) : Prop := s[0]? = some (.lst [.int a, .int b])
theorem Cp.set {s : S} {a b a' b' : Int} (h : Cp s a b) : Cp (s.set 0 (.lst [.int a', .int b'])) a' b' := by
  have := (List.getElem?_eq_some_iff.mp h).1
  unfold Cp
  rw [List.getElem?_set_self this]
theorem Cp.app {s : S} {a b : Int} (h : Cp s a b) (G : S) : Cp (s ++ G) a b := by
  have := (List.getElem?_eq_some_iff.mp h).1
  unfold Cp
  rw [List.getElem?_append_left this]
  exact h
theorem Cp.pos {s : S} {a b : Int} (h : Cp s a b) : 0 < s.length := (List.getElem?_eq_some_iff.mp h).1
/-- one of three numbers, from a new list -/
theorem pick3 {f : Fn} (R : RollOk f) {a b : Int} (h : Cup a b) {s : S} (hs : Cp s a b) (i j k : Int) :
    ∃ v a' b' s', (v = i ∨ v = j ∨ v = k) ∧ Cup a' b' ∧ Cp s' a' b' ∧ callK (D_someG f) [.ref 0, .ref s.length] (s ++ [.lst [.int i, .int j, .int k]]) = .ok (.int v) s' := by
  obtain ⟨m, a', b', hm, hc, e⟩ := some_lst R h (xs := [.int i, .int j, .int k]) (by simp) (by simp) rfl
  have := e 0 s.length (s ++ [.lst [.int i, .int j, .int k]]) (by have := hs.pos; omega) (hs.app _) (by simp)
  have hm3 : m < 3 := by simpa using hm
  have : ∃ v, (v = i ∨ v = j ∨ v = k) ∧ [D.int i, .int j, .int k][m] = .int v := by
    rcases (show m = 0 ∨ m = 1 ∨ m = 2 by omega) with rfl | rfl | rfl
    · exact ⟨i, .inl rfl, rfl⟩
    · exact ⟨j, .inr (.inl rfl), rfl⟩
    · exact ⟨k, .inr (.inr rfl), rfl⟩
  obtain ⟨v, hv, ev⟩ := this
  refine ⟨v, a', b', _, hv, hc, (hs.app [.lst [.int i, .int j, .int k]]).set, ?_⟩
  rw [← ev]; assumption
theorem roll_cp {f : Fn} (R : RollOk f) {a b m : Int} (h : Cup a b) (hm : 0 < m) (hm2 : m < 1000000000000) {s : S} (hs : Cp s a b) :
    ∃ r a' b' s', 0 ≤ r ∧ r < m ∧ Cup a' b' ∧ Cp s' a' b' ∧ (∀ k o, s[k + 1]? = some o → s'[k + 1]? = some o) ∧ callK f [.ref 0, .int m] s = .ok (.int r) s' := by
  obtain ⟨r, a', b', h0, h1, hc, e⟩ := R h hm hm2
  exact ⟨r, a', b', _, h0, h1, hc, hs.set, fun k o hk => by rw [List.getElem?_set_ne (by omega)]; exact hk, e 0 s hs⟩
theorem table_cp {f : Fn} (R : RollOk f) {a b c v2 v3 : Int} (h : Cup a b) (c0 : 0 ≤ c) (c1 : c ≤ 50) (h2 : 3 ≤ v2) (h2' : v2 ≤ 364) (h3 : 0 ≤ v3) (h3' : v3 ≤ 100000) {s : S} (hs : Cp s a b) :
    ∃ l a' b' s', Tab l ∧ l.length ≤ c.toNat + 2 ∧ (∀ p ∈ l, -v3 ≤ p.2 ∧ p.2 ≤ v3) ∧ Cup a' b' ∧ Cp s' a' b' ∧ callK (D__law_table f) [.ref 0, .int c, .int v2, .int v3] s = .ok (tbD l) s' := by
  obtain ⟨l, a', b', hT, hl, hv, hc, e⟩ := law_table_ok R h c0 c1 h2 h2' h3 h3'
  exact ⟨l, a', b', _, hT, hl, hv, hc, hs.set, e 0 s hs⟩
theorem time_cp {f : Fn} (R : RollOk f) {a b : Int} (h : Cup a b) {l : List (Int × Int)} (hl : Tab l) {s : S} (hs : Cp s a b) :
    ∃ t a' b' s', Day l t ∧ Cup a' b' ∧ Cp s' a' b' ∧ s'.length = s.length ∧ (∀ k o, s[k + 1]? = some o → s'[k + 1]? = some o) ∧ callK (D__law_time f (D_someG f)) [.ref 0, tbD l] s = .ok (rd t) s' := by
  obtain ⟨t, a', b', hd, hc, e⟩ := law_time_ok R h hl
  exact ⟨t, a', b', _, hd, hc, hs.set, List.length_set, fun k o hk => by rw [List.getElem?_set_ne (by omega)]; exact hk, e 0 s hs⟩
/-- two times drawn by a comprehension -/
theorem two_times {f : Fn} (R : RollOk f) {a b : Int} (h : Cup a b) {l : List (Int × Int)} (hl : Tab l) {s : S} (hs : Cp s a b) {it : IW} {g : Tg} {e : E} {own : List Nat} {r rx ry : Env} {x y : D} (hit : it r s = .ok (.items [x, y]) s)
    (gx : ∀ st, g x (wipeD r own) st = some (rx, st)) (gy : ∀ st, g y (wipeD r own) st = some (ry, st)) (ex : ∀ st, e rx st = callK (D__law_time f (D_someG f)) [.ref 0, tbD l] st) (ey : ∀ st, e ry st = callK (D__law_time f (D_someG f)) [.ref 0, tbD l] st) :
    ∃ t u a' b' s' m, Day l t ∧ Day l u ∧ Cup a' b' ∧ Cp s' a' b' ∧ s'[m]? = some (.lst [rd t, rd u]) ∧ eLc it g tYes e own r s = .ok (.ref m) s' := by
  have p := hs.pos
  obtain ⟨t, a1, b1, s1, d1, c1, p1, l1, k1, e1⟩ := time_cp R h hl (hs.app [.lst []])
  have q1 : s1[s.length]? = some (.lst []) := by
    have := k1 (s.length - 1) (.lst []) (by rw [show s.length - 1 + 1 = s.length by omega]; simp)
    rwa [show s.length - 1 + 1 = s.length by omega] at this
  have l1' : s.length < s1.length := (List.getElem?_eq_some_iff.mp q1).1
  have ap1 : appendAt s.length (rd t) s1 = some (s1.set s.length (.lst [rd t])) := by
    unfold appendAt
    rw [q1]; rfl
  have cp1 : Cp (s1.set s.length (.lst [rd t])) a1 b1 := by
    unfold Cp
    rw [List.getElem?_set_ne (by omega)]; exact p1
  obtain ⟨u, a2, b2, s2, d2, c2, p2, l2, k2, e2'⟩ := time_cp R c1 hl cp1
  have q2 : s2[s.length]? = some (.lst [rd t]) := by
    have := k2 (s.length - 1) (.lst [rd t]) (by rw [show s.length - 1 + 1 = s.length by omega]; rw [List.getElem?_set_self l1'])
    rwa [show s.length - 1 + 1 = s.length by omega] at this
  have ap2 : appendAt s.length (rd u) s2 = some (s2.set s.length (.lst [rd t, rd u])) := by
    unfold appendAt
    rw [q2]; rfl
  refine ⟨t, u, a2, b2, s2.set s.length (.lst [rd t, rd u]), s.length, d1, d2, c2, ?_, ?_, ?_⟩
  · unfold Cp
    rw [List.getElem?_set_ne (by omega)]; exact p2
  · rw [List.getElem?_set_self (List.getElem?_eq_some_iff.mp q2).1]
  · unfold eLc
    rw [hit]
    show compM g tYes e s.length [x, y] (wipeD r own) (s ++ [.lst []]) = _
    unfold compM
    simp only [gx, ap_tYes, ex, e1, ap1]
    unfold compM
    simp only [gy, ap_tYes, ey, e2', ap2]
    rfl
end YE

/-! YV: more shared defs of day tables: meetings, longer shares, lowered tables. -/
namespace YN
open Y
open PySem (Str PyData)
def b_days_of : Sm :=
  (zCons (zSet (gT (gsC (gV 2) (gsC (gV 3) gsN))) (eTup (aC (eN bMax2 (aC (e2 oIx (e2 oIx (eV 0) (eC (.int 0))) (eC (.int 0))) (aC (e2 oIx (e2 oIx (eV 1) (eC (.int 0))) (eC (.int 0))) aN))) (aC (eN bMin2 (aC (e2 oIx (e2 oIx (eV 0) (e1 oNeg (eC (.int 1)))) (eC (.int 0))) (aC (e2 oIx (e2 oIx (eV 1) (e1 oNeg (eC (.int 1)))) (eC (.int 0))) aN))) aN))))
    (zCons (zSet (gV 4) (e1 oSortSet (e2 oAdd (eLc2 (iTup (eTup (aC (eV 0) (aC (eV 1) aN)))) (gV 6) tYes (iTup (eV 6)) (gT (gsC (gV 5) (gsC (gV 7) gsN))) tYes (eV 5) [6, 5, 7] [5, 7]) (eLst (aC (eV 2) (aC (eV 3) aN))))))
    (zRet (eLc (iLst (eV 4)) (gV 5) (tst (eCh oLe oLe (eV 2) (eV 5) (eV 3))) (eV 5) [5]))))
def D_days_of : Fn := mkFn 8 2 b_days_of
theorem r_days_of {a0 a1 : D} {s : S} : D_days_of [a0, a1] s = (b_days_of [a0, a1, .undef, .undef, .undef, .undef, .undef, .undef] s).out := ap_mkFn rfl
def b_need_both : Sm :=
  (zCons (zEx (eCallK 1 D_need_table (aC (eV 0) aN)))
    (zCons (zEx (eCallK 1 D_need_table (aC (eV 1) aN)))
    (zIf (tst (e2 oGe (eN bMax2 (aC (e2 oIx (e2 oIx (eV 0) (eC (.int 0))) (eC (.int 0))) (aC (e2 oIx (e2 oIx (eV 1) (eC (.int 0))) (eC (.int 0))) aN))) (eN bMin2 (aC (e2 oIx (e2 oIx (eV 0) (e1 oNeg (eC (.int 1)))) (eC (.int 0))) (aC (e2 oIx (e2 oIx (eV 1) (e1 oNeg (eC (.int 1)))) (eC (.int 0))) aN)))))
     (zRaise 7)
     zNil)))
def D_need_both : Fn := mkFn 2 2 b_need_both
theorem r_need_both {a0 a1 : D} {s : S} : D_need_both [a0, a1] s = (b_need_both [a0, a1] s).out := ap_mkFn rfl
def b_sorted_in : Sm :=
  (zCons (zSet (gV 1) (eLst aN))
    (zCons (zFor (iLst (eV 0)) (gV 2)
     (zCons (zSet (gV 3) (eN bLen (aC (eV 1) aN)))
    (zCons (zWhile (tAnd (tst (e2 oGt (eV 3) (eC (.int 0)))) (tst (eCallK 2 D_is_less (aC (eV 2) (aC (e2 oIx (eV 1) (e2 oSub (eV 3) (eC (.int 1)))) aN)))))
     (zSet (gV 3) (e2 oSub (eV 3) (eC (.int 1)))))
    (zEx (eMe isL mIns (eV 1) (aC (eV 3) (aC (eV 2) aN)))))))
    (zRet (eV 1))))
def D_sorted_in : Fn := mkFn 4 1 b_sorted_in
theorem r_sorted_in {a0 : D} {s : S} : D_sorted_in [a0] s = (b_sorted_in [a0, .undef, .undef, .undef] s).out := ap_mkFn rfl
def b_meetings_in : Sm :=
  (zCons (zPar 2 3 (eCallK 2 D_days_of (aC (eV 0) (aC (eV 1) aN))) (eDNew true))
    (zCons (zFor (iZip (eV 2) (eCut (eV 2) (.at (eC (.int 1))) .no)) (gT (gsC (gV 4) (gsC (gV 5) gsN)))
     (zCons (zPar 6 7 (eTup (aC (eV 4) (aC (eC (.int 1)) aN))) (eTup (aC (eV 5) (aC (eC (.int 1)) aN))))
    (zCons (zSet (gV 8) (eCallK 2 D_plus (aC (eCallK 2 D_value_in (aC (eV 0) (aC (eV 6) aN))) (aC (eCallK 2 D_share (aC (e1 oNeg (e2 oIx (eCallK 2 D_value_in (aC (eV 1) (aC (eV 6) aN))) (eC (.int 0)))) (aC (e2 oIx (eCallK 2 D_value_in (aC (eV 1) (aC (eV 6) aN))) (eC (.int 1))) aN))) aN))))
    (zCons (zSet (gV 9) (eCallK 2 D_plus (aC (eCallK 2 D_value_in (aC (eV 0) (aC (eV 7) aN))) (aC (eCallK 2 D_share (aC (e1 oNeg (e2 oIx (eCallK 2 D_value_in (aC (eV 1) (aC (eV 7) aN))) (eC (.int 0)))) (aC (e2 oIx (eCallK 2 D_value_in (aC (eV 1) (aC (eV 7) aN))) (eC (.int 1))) aN))) aN))))
    (zCons (zIf (tst (e2 oEq (e2 oIx (eV 8) (eC (.int 0))) (eC (.int 0))))
     (zPutD (eV 3) (eV 6) (eC (.bl true)))
     zNil)
    (zCons (zIf (tst (e2 oEq (e2 oIx (eV 9) (eC (.int 0))) (eC (.int 0))))
     (zPutD (eV 3) (eV 7) (eC (.bl true)))
     zNil)
    (zIf (tst (e2 oLt (e2 oMul (e2 oIx (eV 8) (eC (.int 0))) (e2 oIx (eV 9) (eC (.int 0)))) (eC (.int 0))))
     (zCons (zSet (gV 10) (eCallK 2 D_share (aC (e2 oMul (e2 oIx (eV 8) (eC (.int 0))) (e2 oIx (eV 9) (eC (.int 1)))) (aC (e2 oSub (e2 oMul (e2 oIx (eV 8) (eC (.int 0))) (e2 oIx (eV 9) (eC (.int 1)))) (e2 oMul (e2 oIx (eV 9) (eC (.int 0))) (e2 oIx (eV 8) (eC (.int 1))))) aN))))
    (zPutD (eV 3) (eCallK 2 D_plus (aC (eV 6) (aC (eCallK 2 D_share (aC (e2 oMul (e2 oIx (eV 10) (eC (.int 0))) (e2 oSub (eV 5) (eV 4))) (aC (e2 oIx (eV 10) (eC (.int 1))) aN))) aN))) (eC (.bl true))))
     zNil)))))))
    (zRet (eCallK 1 D_sorted_in (aC (eN bListD (aC (eV 3) aN)) aN)))))
def D_meetings_in : Fn := mkFn 11 2 b_meetings_in
theorem r_meetings_in {a0 a1 : D} {s : S} : D_meetings_in [a0, a1] s = (b_meetings_in [a0, a1, .undef, .undef, .undef, .undef, .undef, .undef, .undef, .undef, .undef] s).out := ap_mkFn rfl
def b_times_with : Sm :=
  (zCons (zEx (eCallK 1 D_need_table (aC (eV 0) aN)))
    (zCons (zEx (eCallK 3 D_need_whole (aC (eV 1) (aC (e1 oNeg (eC (.int 100000))) (aC (eC (.int 100000)) aN)))))
    (zRet (eN bTuple (aC (eCallK 2 D_meetings_in (aC (eV 0) (aC (eTup (aC (eTup (aC (e2 oIx (e2 oIx (eV 0) (eC (.int 0))) (eC (.int 0))) (aC (eV 1) aN))) (aC (eTup (aC (e2 oIx (e2 oIx (eV 0) (e1 oNeg (eC (.int 1)))) (eC (.int 0))) (aC (eV 1) aN))) aN))) aN))) aN)))))
def D_times_with : Fn := mkFn 2 2 b_times_with
theorem r_times_with {a0 a1 : D} {s : S} : D_times_with [a0, a1] s = (b_times_with [a0, a1] s).out := ap_mkFn rfl
def b_meetings : Sm :=
  (zCons (zEx (eCallK 2 D_need_both (aC (eV 0) (aC (eV 1) aN))))
    (zRet (eN bTuple (aC (eCallK 2 D_meetings_in (aC (eV 0) (aC (eV 1) aN))) aN))))
def D_meetings : Fn := mkFn 2 2 b_meetings
theorem r_meetings {a0 a1 : D} {s : S} : D_meetings [a0, a1] s = (b_meetings [a0, a1] s).out := ap_mkFn rfl
def b_longer_share : Sm :=
  (zCons (zEx (eCallK 2 D_need_both (aC (eV 0) (aC (eV 1) aN))))
    (zCons (zPar 2 3 (eCallK 2 D_days_of (aC (eV 0) (aC (eV 1) aN))) (eTup (aC (eC (.int 0)) (aC (eC (.int 1)) aN))))
    (zCons (zSet (gV 4) (eCallK 1 D_sorted_in (aC (eN bListD (aC (eN bDictT (aC (eLc (iLst (e2 oAdd (eLc (iLst (eV 2)) (gV 9) tYes (eTup (aC (eV 9) (aC (eC (.int 1)) aN))) [9]) (eCallK 2 D_meetings_in (aC (eV 0) (aC (eV 1) aN))))) (gV 8) tYes (eTup (aC (eV 8) (aC (eC (.bl true)) aN))) [8]) aN)) aN)) aN)))
    (zCons (zFor (iZip (eV 4) (eCut (eV 4) (.at (eC (.int 1))) .no)) (gT (gsC (gV 5) (gsC (gV 6) gsN)))
     (zCons (zSet (gV 7) (eCallK 2 D_share (aC (e2 oAdd (e2 oMul (e2 oIx (eV 5) (eC (.int 0))) (e2 oIx (eV 6) (eC (.int 1)))) (e2 oMul (e2 oIx (eV 6) (eC (.int 0))) (e2 oIx (eV 5) (eC (.int 1))))) (aC (e2 oMul (e2 oMul (eC (.int 2)) (e2 oIx (eV 5) (eC (.int 1)))) (e2 oIx (eV 6) (eC (.int 1)))) aN))))
    (zIf (tst (eCallK 2 D_is_less (aC (eCallK 2 D_value_in (aC (eV 1) (aC (eV 7) aN))) (aC (eCallK 2 D_value_in (aC (eV 0) (aC (eV 7) aN))) aN))))
     (zSet (gV 3) (eCallK 2 D_plus (aC (eV 3) (aC (eCallK 2 D_plus (aC (eV 6) (aC (eTup (aC (e1 oNeg (e2 oIx (eV 5) (eC (.int 0)))) (aC (e2 oIx (eV 5) (eC (.int 1))) aN))) aN))) aN))))
     zNil)))
    (zRet (eCallK 2 D_share (aC (e2 oIx (eV 3) (eC (.int 0))) (aC (e2 oMul (e2 oIx (eV 3) (eC (.int 1))) (e2 oSub (e2 oIx (eV 2) (e1 oNeg (eC (.int 1)))) (e2 oIx (eV 2) (eC (.int 0))))) aN))))))))
def D_longer_share : Fn := mkFn 10 2 b_longer_share
theorem r_longer_share {a0 a1 : D} {s : S} : D_longer_share [a0, a1] s = (b_longer_share [a0, a1, .undef, .undef, .undef, .undef, .undef, .undef, .undef, .undef] s).out := ap_mkFn rfl
def b_lowered : Sm :=
  (zCons (zEx (eCallK 1 D_need_table (aC (eV 0) aN)))
    (zCons (zSet (gV 1) (eLst (aC (e2 oIx (eV 0) (eC (.int 0))) aN)))
    (zCons (zFor (iRng2 (eC (.int 1)) (e2 oSub (eN bLen (aC (eV 0) aN)) (eC (.int 1)))) (gV 2)
     (zIf (tst (e2 oNe (eCallK 3 D_on_line (aC (e2 oIx (eV 1) (e1 oNeg (eC (.int 1)))) (aC (e2 oIx (eV 0) (e2 oAdd (eV 2) (eC (.int 1)))) (aC (eTup (aC (e2 oIx (e2 oIx (eV 0) (eV 2)) (eC (.int 0))) (aC (eC (.int 1)) aN))) aN)))) (eTup (aC (e2 oIx (e2 oIx (eV 0) (eV 2)) (eC (.int 1))) (aC (eC (.int 1)) aN)))))
     (zEx (eMe isL mApp (eV 1) (aC (e2 oIx (eV 0) (eV 2)) aN)))
     zNil))
    (zRet (eN bTuple (aC (e2 oAdd (eV 1) (eLst (aC (e2 oIx (eV 0) (e1 oNeg (eC (.int 1)))) aN))) aN))))))
def D_lowered : Fn := mkFn 3 1 b_lowered
theorem r_lowered {a0 : D} {s : S} : D_lowered [a0] s = (b_lowered [a0, .undef, .undef] s).out := ap_mkFn rfl
end YN

/-! YW: the common days of two tables. -/
namespace YE
open Y YN
open PySem (Str PyData)
def loD (l m : List (Int × Int)) : Int := if (fst m).1 > (fst l).1 then (fst m).1 else (fst l).1
def hiD (l m : List (Int × Int)) : Int := if (lst m).1 < (lst l).1 then (lst m).1 else (lst l).1
def allD (l m : List (Int × Int)) : List Int := l.map (·.1) ++ m.map (·.1) ++ [loD l m, hiD l m]
def dys (l m : List (Int × Int)) : List Int := (srt (ddp (allD l m))).filter fun d => decide (loD l m ≤ d ∧ d ≤ hiD l m)
def fstI : D → D
  | .tup [x, _] => x
  | _ => .non
theorem comp_days {T0 T1 v2 v3 v4 : D} {l m : List (Int × Int)} (hT0 : T0 = tbD l) (hT1 : T1 = tbD m) (hl : l.length ≤ 1000) (hm : m.length ≤ 1000) {s : S} :
    eLc2 (iTup (eTup (aC (eV 0) (aC (eV 1) aN)))) (gV 6) tYes (iTup (eV 6)) (gT (gsC (gV 5) (gsC (gV 7) gsN))) tYes (eV 5) [6, 5, 7] [5, 7] [T0, T1, v2, v3, v4, .undef, .undef, .undef] s = .ok (.ref s.length) (s ++ [.lst ((l.map (·.1) ++ m.map (·.1)).map D.int)]) := by
  subst hT0 hT1
  have one : ∀ (k : List (Int × Int)) (acc : List D), acc.length + k.length ≤ 2000 → compM (gT (gsC (gV 5) (gsC (gV 7) gsN))) tYes (eV 5) s.length (k.map prD) [tbD l, tbD m, v2, v3, v4, .undef, tbD k, .undef] (s ++ [.lst acc]) = .ok (.ref s.length) (s ++ [.lst (acc ++ (k.map (·.1)).map D.int)]) := by
    intro k acc hk
    have := compM_items (g := gT (gsC (gV 5) (gsC (gV 7) gsN))) (t := tYes) (e := eV 5) (n := s.length) (r := [tbD l, tbD m, v2, v3, v4, .undef, tbD k, .undef]) (s := s) rfl (fun d => match d with | .tup [x, y] => [tbD l, tbD m, v2, v3, v4, x, tbD k, y] | _ => []) (fun _ => true) fstI (k.map prD) acc (by
      intro d hd acc
      obtain ⟨p, hp, rfl⟩ := List.mem_map.mp hd
      exact ⟨rfl, rfl, fun _ => rfl⟩) (by rw [List.length_map]; omega)
    rw [this, filter_yes, List.map_map, List.map_map]
    rfl
  have hit : iTup (eTup (aC (eV 0) (aC (eV 1) aN))) [tbD l, tbD m, v2, v3, v4, .undef, .undef, .undef] s = .ok (.items [tbD l, tbD m]) s := by
    unfold iTup
    simp
  unfold eLc2
  have w0 : wipeD [tbD l, tbD m, v2, v3, v4, .undef, .undef, .undef] [6, 5, 7] = [tbD l, tbD m, v2, v3, v4, .undef, .undef, .undef] := rfl
  rw [hit, bind_ok]
  simp only [w0]
  have it6 : ∀ (k : List (Int × Int)) (st : S), iTup (eV 6) [tbD l, tbD m, v2, v3, v4, .undef, tbD k, .undef] st = .ok (.items (k.map prD)) st := fun k st => by
    unfold iTup
    simp [tbD]
  have g6 : ∀ (k : List (Int × Int)) (st : S), gV 6 (tbD k) [tbD l, tbD m, v2, v3, v4, .undef, .undef, .undef] st = some ([tbD l, tbD m, v2, v3, v4, .undef, tbD k, .undef], st) := fun k st => rfl
  have w : ∀ k : List (Int × Int), wipeD [tbD l, tbD m, v2, v3, v4, .undef, tbD k, .undef] [5, 7] = [tbD l, tbD m, v2, v3, v4, .undef, tbD k, .undef] := fun k => rfl
  unfold compO
  simp only [g6, ap_tYes, it6, w, one l [] (by simp; omega), thenD]
  unfold compO
  simp only [g6, ap_tYes, it6, w, one m ([] ++ (l.map (·.1)).map D.int) (by simp; omega), thenD]
  unfold compO
  simp
theorem days_of_ok {l m : List (Int × Int)} (hl : Tab l) (hm : Tab m) (hn : (ddp (allD l m)).length < 64) : ∃ G, D_days_of [tbD l, tbD m] [] = .ok (.ref 4) ([.lst ((l.map (·.1) ++ m.map (·.1)).map D.int), .lst [.int (loD l m), .int (hiD l m)], .lst ((allD l m).map D.int), .lst ((srt (ddp (allD l m))).map D.int), .lst ((dys l m).map D.int)] ++ G) := by
  have l1 := hl.hi
  have m1 := hm.hi
  rw [r_days_of]
  unfold b_days_of
  have a1 := at_fst hl
  have a2 := at_lst hl
  have a3 := at_fst hm
  have a4 := at_lst hm
  have z1 : zSet (gT (gsC (gV 2) (gsC (gV 3) gsN))) (eTup (aC (eN bMax2 (aC (e2 oIx (e2 oIx (eV 0) (eC (.int 0))) (eC (.int 0))) (aC (e2 oIx (e2 oIx (eV 1) (eC (.int 0))) (eC (.int 0))) aN))) (aC (eN bMin2 (aC (e2 oIx (e2 oIx (eV 0) (e1 oNeg (eC (.int 1)))) (eC (.int 0))) (aC (e2 oIx (e2 oIx (eV 1) (e1 oNeg (eC (.int 1)))) (eC (.int 0))) aN))) aN))) [tbD l, tbD m, .undef, .undef, .undef, .undef, .undef, .undef] [] = .nx [tbD l, tbD m, .int (loD l m), .int (hiD l m), .undef, .undef, .undef, .undef] [] := by
    unfold tbD
    simp [a1, a2, a3, a4, prD, loD, hiD]
  have c1 := comp_days (T0 := tbD l) (T1 := tbD m) (v2 := .int (loD l m)) (v3 := .int (hiD l m)) (v4 := .undef) rfl rfl (show l.length ≤ 1000 by omega) (show m.length ≤ 1000 by omega) (s := [])
  simp only [List.length_nil, List.nil_append] at c1
  have ad : oAdd (.ref 0) (.ref 1) [.lst ((l.map (·.1) ++ m.map (·.1)).map D.int), .lst [.int (loD l m), .int (hiD l m)]] = .ok (.ref 2) [.lst ((l.map (·.1) ++ m.map (·.1)).map D.int), .lst [.int (loD l m), .int (hiD l m)], .lst ((allD l m).map D.int)] := by
    rw [add_refs (xs := (l.map (·.1) ++ m.map (·.1)).map D.int) (ys := [.int (loD l m), .int (hiD l m)]) rfl rfl (by simp; omega)]
    unfold allD
    simp
  have al : (allD l m).length ≤ 4000 := by unfold allD; simp; omega
  have so : oSortSet (.ref 2) [.lst ((l.map (·.1) ++ m.map (·.1)).map D.int), .lst [.int (loD l m), .int (hiD l m)], .lst ((allD l m).map D.int)] = .ok (.ref 3) [.lst ((l.map (·.1) ++ m.map (·.1)).map D.int), .lst [.int (loD l m), .int (hiD l m)], .lst ((allD l m).map D.int), .lst ((srt (ddp (allD l m))).map D.int)] := by
    unfold oSortSet
    simp [al, hn]
  have z2 : zSet (gV 4) (e1 oSortSet (e2 oAdd (eLc2 (iTup (eTup (aC (eV 0) (aC (eV 1) aN)))) (gV 6) tYes (iTup (eV 6)) (gT (gsC (gV 5) (gsC (gV 7) gsN))) tYes (eV 5) [6, 5, 7] [5, 7]) (eLst (aC (eV 2) (aC (eV 3) aN))))) [tbD l, tbD m, .int (loD l m), .int (hiD l m), .undef, .undef, .undef, .undef] [] = .nx [tbD l, tbD m, .int (loD l m), .int (hiD l m), .ref 3, .undef, .undef, .undef] [.lst ((l.map (·.1) ++ m.map (·.1)).map D.int), .lst [.int (loD l m), .int (hiD l m)], .lst ((allD l m).map D.int), .lst ((srt (ddp (allD l m))).map D.int)] := by
    unfold zSet
    rw [ap_e1, ap_e2, c1]
    simp only [bind_ok, ap_eLst, ap_aC, ap_aN, eV_succ, eV_int, List.length_cons, List.length_nil]
    rw [if_pos (by decide)]
    show ((oAdd (.ref 0) (.ref 1) [.lst ((l.map (·.1) ++ m.map (·.1)).map D.int), .lst [.int (loD l m), .int (hiD l m)]]).bind fun x s1 => oSortSet x s1).then _ _ = _
    rw [ad, bind_ok, so]
    rfl
  rw [ap_zCons, z1, andThen_nx, ap_zCons, z2, andThen_nx]
  have it := ap_iLst (a := eV 4) (r := [tbD l, tbD m, .int (loD l m), .int (hiD l m), .ref 3, .undef, .undef, .undef]) (s := [.lst ((l.map (·.1) ++ m.map (·.1)).map D.int), .lst [.int (loD l m), .int (hiD l m)], .lst ((allD l m).map D.int), .lst ((srt (ddp (allD l m))).map D.int)]) (s1 := [.lst ((l.map (·.1) ++ m.map (·.1)).map D.int), .lst [.int (loD l m), .int (hiD l m)], .lst ((allD l m).map D.int), .lst ((srt (ddp (allD l m))).map D.int)]) (n := 3) (xs := (srt (ddp (allD l m))).map D.int) (by simp) rfl
  have sl : (srt (ddp (allD l m))).length < 64 := by rw [(srt_perm _).length_eq]; exact hn
  obtain ⟨G, ec⟩ := eLc_lst (g := gV 5) (t := tst (eCh oLe oLe (eV 2) (eV 5) (eV 3))) (e := eV 5) (own := [5]) it rfl (fun d => [tbD l, tbD m, .int (loD l m), .int (hiD l m), .ref 3, d, .undef, .undef]) (fun d => match d with | .int i => decide (loD l m ≤ i ∧ i ≤ hiD l m) | _ => false) id (fun d hd => by
    obtain ⟨i, hi, rfl⟩ := List.mem_map.mp hd
    refine CStep.of (fun s' => rfl) (fun acc G => ?_) (fun _ acc G => by simp)
    by_cases h1 : loD l m ≤ i <;> by_cases h2 : i ≤ hiD l m <;> simp [h1, h2]) (by rw [List.length_map]; omega)
  rw [List.map_id, List.filter_map] at ec
  refine ⟨G, ?_⟩
  rw [ap_zRet, ec]
  rfl
theorem ints_pure' (is : List Int) : D.pureL (is.map D.int) = true := ints_pure is
theorem days_of_k {l m : List (Int × Int)} (hl : Tab l) (hm : Tab m) (hn : (ddp (allD l m)).length < 64) {s : S} : callK D_days_of [tbD l, tbD m] s = .ok (.ref s.length) (s ++ [.lst ((dys l m).map D.int)]) := by
  obtain ⟨G, e⟩ := days_of_ok hl hm hn
  exact callK_new (by show (D.pureL (l.map prD) && (D.pureL (m.map prD) && true)) = true; rw [tb_pure, tb_pure]; rfl) e rfl (ints_pure' _)
end YE

/-! YX: sorted lists of shares. -/
namespace YE
open Y YN
open PySem (Str PyData)
def Sz (q : Rat) : Prop := Bd q 400 200
theorem rds_at {qs : List Rat} {i : Nat} (h : i < qs.length) : (qs.map rd)[i]? = some (rd qs[i]) := by
  rw [List.getElem?_map, List.getElem?_eq_getElem h]; rfl
theorem ix_rds {qs : List Rat} {i : Int} {k : Nat} (h : k < qs.length) (e : i = (k : Int)) : atD (qs.map rd) i = some (rd qs[k]) := by
  subst e
  exact atD_nat (rds_at h)
def siC : T := tAnd (tst (e2 oGt (eV 3) (eC (.int 0)))) (tst (eCallK 2 D_is_less (aC (eV 2) (aC (e2 oIx (eV 1) (e2 oSub (eV 3) (eC (.int 1)))) aN))))
def siB : Sm := zSet (gV 3) (e2 oSub (eV 3) (eC (.int 1)))
/-- the place for one more -/
theorem si_place {F : List Rat} {x : Rat} (hF : ∀ q ∈ F, Sz q) (hx : Sz x) (hl : F.length ≤ 1000) {o : O} : ∃ p : Nat, p ≤ F.length ∧ (∀ k (h : k < F.length), p ≤ k → x < F[k]) ∧ (∀ h : 0 < p, ∀ h2 : p - 1 < F.length, F[p - 1] ≤ x) ∧
    zWhile siC siB [.ref 0, .ref 1, rd x, .int F.length] [o, .lst (F.map rd)] = .nx [.ref 0, .ref 1, rd x, .int p] [o, .lst (F.map rd)] := by
  obtain ⟨r', s', e, p, h1, h2, h3, rfl, rfl⟩ := zWhile_inv (c := siC) (b := siB) (fun r s => ∃ p : Nat, p ≤ F.length ∧ (∀ k (h : k < F.length), p ≤ k → x < F[k]) ∧ r = [.ref 0, .ref 1, rd x, .int p] ∧ s = [o, .lst (F.map rd)])
    (fun r s => ∃ p : Nat, p ≤ F.length ∧ (∀ k (h : k < F.length), p ≤ k → x < F[k]) ∧ (∀ h : 0 < p, ∀ h2 : p - 1 < F.length, F[p - 1] ≤ x) ∧ r = [.ref 0, .ref 1, rd x, .int p] ∧ s = [o, .lst (F.map rd)])
    (fun r _ => match r with | [_, _, _, .int p] => p.toNat | _ => 0) (by
      rintro r s ⟨p, hp, hk, rfl, rfl⟩
      by_cases h0 : p = 0
      · subst h0
        exact ⟨false, _, by simp [siC], fun _ => ⟨0, hp, hk, fun h => absurd h (by omega), rfl, rfl⟩, fun h => by cases h⟩
      · have hp1 : p - 1 < F.length := by omega
        have ix := ix_rds (i := (p : Int) - 1) hp1 (by omega)
        have lk := fun st => less_k (s := st) hx (hF _ (List.getElem_mem hp1)) (by decide) (by decide)
        refine ⟨decide (x < F[p - 1]), [o, .lst (F.map rd)], by simp [siC, show (0 : Int) < p by omega, h0, ix, lk], fun h => ⟨p, hp, hk, fun _ _ => ?_, rfl, rfl⟩, fun h => ⟨[.ref 0, .ref 1, rd x, .int (p - 1 : Int)], _, .inl (by simp [siB]), ⟨p - 1, by omega, fun k hkl hle => ?_, by rw [show ((p - 1 : Nat) : Int) = (p : Int) - 1 by omega], rfl⟩, ?_⟩⟩
        · have h : ¬ x < F[p - 1] := by simpa using h
          grind
        · have h : x < F[p - 1] := by simpa using h
          by_cases e : k = p - 1
          · subst e; exact h
          · exact hk k hkl (by omega)
        · show ((p : Int) - 1).toNat < (p : Int).toNat
          omega) (r := [.ref 0, .ref 1, rd x, .int F.length]) (s := [o, .lst (F.map rd)]) ⟨F.length, Nat.le_refl _, fun k h hle => absurd h (by omega), rfl, rfl⟩ (by
      show ((F.length : Int)).toNat < _
      omega)
  exact ⟨p, h1, h2, h3, e⟩
theorem ins_sorted {F : List Rat} {x : Rat} {p : Nat} (hs : F.Pairwise (· ≤ ·)) (h1 : p ≤ F.length) (h2 : ∀ k (h : k < F.length), p ≤ k → x < F[k]) (h3 : ∀ h : 0 < p, ∀ h2 : p - 1 < F.length, F[p - 1] ≤ x) : (F.take p ++ [x] ++ F.drop p).Pairwise (· ≤ ·) := by
  have t : ∀ y ∈ F.take p, y ≤ x := by
    intro y hy
    obtain ⟨i, hi, rfl⟩ := List.mem_iff_getElem.mp hy
    rw [List.length_take] at hi
    rw [List.getElem_take]
    have hl := h3 (by omega) (by omega)
    by_cases e : i = p - 1
    · subst e; exact hl
    · exact Rat.le_trans (List.pairwise_iff_getElem.mp hs i (p - 1) (by omega) (by omega) (by omega)) hl
  have d : ∀ y ∈ F.drop p, x ≤ y := by
    intro y hy
    obtain ⟨i, hi, rfl⟩ := List.mem_iff_getElem.mp hy
    rw [List.length_drop] at hi
    rw [List.getElem_drop]
    exact Rat.le_of_lt (h2 _ (by omega) (by omega))
  have tk : (F.take p).Pairwise (· ≤ ·) := hs.sublist (List.take_sublist _ _)
  have dr : (F.drop p).Pairwise (· ≤ ·) := hs.sublist (List.drop_sublist _ _)
  rw [List.pairwise_append, List.pairwise_append]
  refine ⟨⟨tk, by simp, fun a ha b hb => ?_⟩, dr, fun a ha b hb => ?_⟩
  · rw [List.mem_singleton] at hb
    subst hb; exact t a ha
  · rcases List.mem_append.mp ha with h | h
    · exact Rat.le_trans (t a h) (d b hb)
    · rw [List.mem_singleton] at h
      subst h; exact d b hb
theorem ins_perm {F : List Rat} {x : Rat} {p : Nat} : (F.take p ++ [x] ++ F.drop p).Perm (F ++ [x]) := by
  have h1 : (F.take p ++ [x] ++ F.drop p).Perm (x :: (F.take p ++ F.drop p)) := by
    rw [List.append_assoc]
    exact List.perm_middle
  rw [List.take_append_drop] at h1
  exact h1.trans (List.perm_append_singleton x F).symm
theorem sorted_in_ok {qs : List Rat} (hq : ∀ q ∈ qs, Sz q) (hl : qs.length ≤ 1000) : ∃ F : List Rat, F.Perm qs ∧ F.Pairwise (· ≤ ·) ∧ D_sorted_in [.ref 0] [.lst (qs.map rd)] = .ok (.ref 1) [.lst (qs.map rd), .lst (F.map rd)] := by
  rw [r_sorted_in]
  rw [show b_sorted_in = zCons (zSet (gV 1) (eLst aN)) (zCons (zFor (iLst (eV 0)) (gV 2) (zCons (zSet (gV 3) (eN bLen (aC (eV 1) aN))) (zCons (zWhile siC siB) (zEx (eMe isL mIns (eV 1) (aC (eV 3) (aC (eV 2) aN))))))) (zRet (eV 1))) from rfl]
  have z1 : zSet (gV 1) (eLst aN) [.ref 0, .undef, .undef, .undef] [.lst (qs.map rd)] = .nx [.ref 0, .ref 1, .undef, .undef] [.lst (qs.map rd), .lst []] := by simp
  rw [ap_zCons, z1, andThen_nx, ap_zCons, zFor_lst]
  obtain ⟨r', s', ef, F, x2, x3, hp, hs, rfl, rfl⟩ := forR_forM (g := gV 2) (b := zCons (zSet (gV 3) (eN bLen (aC (eV 1) aN))) (zCons (zWhile siC siB) (zEx (eMe isL mIns (eV 1) (aC (eV 3) (aC (eV 2) aN)))))) (n := 0) (xs := qs.map rd) FUEL 0 [.ref 0, .ref 1, .undef, .undef] [.lst (qs.map rd), .lst []]
    (fun j r s => ∃ (F : List Rat) (x2 x3 : D), F.Perm (qs.take j) ∧ F.Pairwise (· ≤ ·) ∧ r = [.ref 0, .ref 1, x2, x3] ∧ s = [.lst (qs.map rd), .lst (F.map rd)]) (fuel_big (by rw [List.length_map]; omega)) ⟨[], .undef, .undef, by simp, by simp, rfl, rfl⟩ (by
      rintro j r s ⟨F, x2, x3, _, _, _, rfl⟩
      rfl) (by
      rintro j d r s hd ⟨F, x2, x3, hp, hs, rfl, rfl⟩
      have hj := (List.getElem?_eq_some_iff.mp hd).1
      rw [List.length_map] at hj
      rw [rds_at hj] at hd
      cases hd
      have hF : ∀ q ∈ F, Sz q := fun q h => hq q (List.mem_of_mem_take (hp.mem_iff.mp h))
      have hFl : F.length ≤ 1000 := by
        have := hp.length_eq
        rw [List.length_take] at this
        omega
      obtain ⟨p, h1, h2, h3, ew⟩ := si_place hF (hq _ (List.getElem_mem hj)) hFl (o := .lst (qs.map rd))
      refine ⟨[.ref 0, .ref 1, rd qs[j], x3], [.lst (qs.map rd), .lst (F.map rd)], [.ref 0, .ref 1, rd qs[j], .int p], [.lst (qs.map rd), .lst ((F.take p ++ [qs[j]] ++ F.drop p).map rd)], rfl, .inl ?_, F.take p ++ [qs[j]] ++ F.drop p, _, _, ?_, ins_sorted hs h1 h2 h3, rfl, rfl⟩
      · have e1 : zSet (gV 3) (eN bLen (aC (eV 1) aN)) [.ref 0, .ref 1, rd qs[j], x3] [.lst (qs.map rd), .lst (F.map rd)] = .nx [.ref 0, .ref 1, rd qs[j], .int F.length] [.lst (qs.map rd), .lst (F.map rd)] := by simp
        have e3 : mIns (.ref 1) [.int p, rd qs[j]] [.lst (qs.map rd), .lst (F.map rd)] = .ok .non [.lst (qs.map rd), .lst ((F.take p ++ [qs[j]] ++ F.drop p).map rd)] := by
          show (if (F.map rd).length < LINE ∧ (0 : Int) ≤ p ∧ (p : Int) < 4611686018427387904 then _ else _) = _
          rw [if_pos ⟨by rw [List.length_map]; unfold LINE; omega, by omega, by omega⟩, Int.toNat_natCast, ← List.map_take, ← List.map_drop]
          simp
        rw [ap_zCons, e1, andThen_nx, ap_zCons, ew, andThen_nx]
        simp [isL, seqL, e3]
      · rw [List.take_add_one, List.getElem?_eq_getElem hj]
        exact ins_perm.trans (hp.append_right _)) (Nat.zero_le _)
  rw [List.length_map, List.take_length] at hp
  refine ⟨F, hp, hs, ?_⟩
  have e0 : (eV 0 : E) [.ref 0, .ref 1, .undef, .undef] [.lst (qs.map rd), .lst []] = .ok (.ref 0) [.lst (qs.map rd), .lst []] := rfl
  rw [e0, then_ok, NL_ref, show lstO ([O.lst (qs.map rd), .lst []])[0]? = some (qs.map rd) from rfl, Option.isSome_some, if_pos rfl, ef, andThen_nx]
  rfl
theorem sorted_in_k {qs : List Rat} (hq : ∀ q ∈ qs, Sz q) (hl : qs.length ≤ 1000) {n : Nat} {s : S} (hn : s[n]? = some (.lst (qs.map rd))) : ∃ F : List Rat, F.Perm qs ∧ F.Pairwise (· ≤ ·) ∧ callK D_sorted_in [.ref n] s = .ok (.ref s.length) (s ++ [.lst (F.map rd)]) := by
  obtain ⟨F, hp, hs, e⟩ := sorted_in_ok hq hl
  refine ⟨F, hp, hs, ?_⟩
  have := callK_ref_new (f := D_sorted_in) (ds := []) (o := .lst (qs.map rd)) (o' := .lst (qs.map rd)) (o2 := .lst (F.map rd)) (j := 0) rfl hn (rds_pure qs) e (rds_pure qs) rfl (rds_pure F)
  rw [this, set_same hn]
/-- strictly ascending lists of the same members -/
theorem asc_uniq : ∀ {a b : List Rat}, a.Pairwise (· < ·) → b.Pairwise (· < ·) → (∀ x, x ∈ a ↔ x ∈ b) → a = b
  | [], [], _, _, _ => rfl
  | [], y :: b, _, _, h => by have := (h y).mpr List.mem_cons_self; cases this
  | x :: a, [], _, _, h => by have := (h x).mp List.mem_cons_self; cases this
  | x :: a, y :: b, ha, hb, h => by
    obtain ⟨a1, a2⟩ := List.pairwise_cons.mp ha
    obtain ⟨b1, b2⟩ := List.pairwise_cons.mp hb
    have e : x = y := by
      rcases List.mem_cons.mp ((h x).mp List.mem_cons_self) with q | q
      · exact q
      · rcases List.mem_cons.mp ((h y).mpr List.mem_cons_self) with q2 | q2
        · exact q2.symm
        · have := b1 x q
          have := a1 y q2
          grind
    subst e
    congr 1
    refine asc_uniq a2 b2 fun z => ⟨fun hz => ?_, fun hz => ?_⟩
    · rcases List.mem_cons.mp ((h z).mp (List.mem_cons_of_mem _ hz)) with q | q
      · have := a1 z hz
        grind
      · exact q
    · rcases List.mem_cons.mp ((h z).mpr (List.mem_cons_of_mem _ hz)) with q | q
      · have := b1 z hz
        grind
      · exact q
theorem strict {a : List Rat} (h : a.Pairwise (· ≤ ·)) (hn : a.Nodup) : a.Pairwise (· < ·) := (List.pairwise_and_iff.mpr ⟨h, hn⟩).imp fun ⟨h1, h2⟩ => by grind
end YE

/-! YYA: pieces between the common days. -/
namespace YE
open Y YN
open PySem (Str PyData)
/-- two tables with common days -/
structure Two (l m : List (Int × Int)) : Prop where
  tl : Tab l
  tm : Tab m
  lt : loD l m < hiD l m
  few : (ddp (allD l m)).length < 64
theorem srt_lt (l : List Int) : (srt (ddp l)).Pairwise (· < ·) := by
  have h1 := srt_sorted (ddp l)
  have h2 : (srt (ddp l)).Nodup := (srt_perm (ddp l)).nodup_iff.mpr (nodup_ddp l)
  exact (List.pairwise_and_iff.mpr ⟨h1, h2⟩).imp fun ⟨a, b⟩ => by omega
section
variable {l m : List (Int × Int)}
theorem dys_mem {x : Int} : x ∈ dys l m ↔ x ∈ allD l m ∧ loD l m ≤ x ∧ x ≤ hiD l m := by
  unfold dys
  rw [List.mem_filter, (srt_perm _).mem_iff, mem_ddp, decide_eq_true_eq]
theorem dys_lt : (dys l m).Pairwise (· < ·) := (srt_lt _).filter _
theorem dys_len (h : Two l m) : (dys l m).length < 64 := by
  unfold dys
  have h1 := List.length_filter_le (fun d => decide (loD l m ≤ d ∧ d ≤ hiD l m)) (srt (ddp (allD l m)))
  rw [(srt_perm _).length_eq] at h1
  have := h.few
  omega
theorem lo_mem (h : Two l m) : loD l m ∈ dys l m := dys_mem.mpr ⟨by unfold allD; simp, Int.le_refl _, Int.le_of_lt h.lt⟩
theorem hi_mem (h : Two l m) : hiD l m ∈ dys l m := dys_mem.mpr ⟨by unfold allD; simp, Int.le_of_lt h.lt, Int.le_refl _⟩
theorem dys_two (h : Two l m) : 2 ≤ (dys l m).length := by
  have h1 := lo_mem h
  have h2 := hi_mem h
  have h3 := h.lt
  match e : dys l m, h1, h2 with
  | [], h1, _ => cases h1
  | [x], h1, h2 =>
    simp at h1 h2
    omega
  | x :: y :: r, _, _ => simp
theorem lo_l : (fst l).1 ≤ loD l m := by unfold loD; split <;> omega
theorem lo_m : (fst m).1 ≤ loD l m := by unfold loD; split <;> omega
theorem hi_l : hiD l m ≤ (lst l).1 := by unfold hiD; split <;> omega
theorem hi_m : hiD l m ≤ (lst m).1 := by unfold hiD; split <;> omega
theorem dys_first (h : Two l m) (hl : 0 < (dys l m).length) : (dys l m)[0] = loD l m := by
  obtain ⟨i, hi, e⟩ := List.mem_iff_getElem.mp (lo_mem h)
  have := (dys_mem.mp (List.getElem_mem hl)).2.1
  by_cases h0 : i = 0
  · subst h0; exact e
  · have := List.pairwise_iff_getElem.mp dys_lt 0 i hl hi (by omega)
    omega
theorem dys_last (h : Two l m) {k : Nat} (hk : k + 1 = (dys l m).length) : (dys l m)[k]'(by omega) = hiD l m := by
  obtain ⟨i, hi, e⟩ := List.mem_iff_getElem.mp (hi_mem h)
  have := (dys_mem.mp (List.getElem_mem (show k < (dys l m).length by omega))).2.2
  by_cases h0 : i = k
  · subst h0; exact e
  · have := List.pairwise_iff_getElem.mp dys_lt i k hi (by omega) (by omega)
    omega
theorem dys_in {k : Nat} (hk : k < (dys l m).length) : loD l m ≤ (dys l m)[k] ∧ (dys l m)[k] ≤ hiD l m := (dys_mem.mp (List.getElem_mem hk)).2
theorem dys_ris {k : Nat} (hk : k + 1 < (dys l m).length) : (dys l m)[k] < (dys l m)[k + 1] := List.pairwise_iff_getElem.mp dys_lt k (k + 1) (by omega) hk (by omega)
theorem dys_bd (h : Two l m) {k : Nat} (hk : k < (dys l m).length) : 0 ≤ (dys l m)[k] ∧ (dys l m)[k] ≤ 366 := by
  obtain ⟨h1, h2⟩ := dys_in hk
  have a := (h.tl.ent _ (fst_mem h.tl)).1
  have b := (h.tl.ent _ (lst_memT h.tl)).2.1
  have := lo_l (l := l) (m := m)
  have := hi_l (l := l) (m := m)
  omega
/-- no day of either between two common ones -/
theorem dys_gap {k : Nat} (hk : k + 1 < (dys l m).length) {p : Int × Int} (hp : p ∈ l ∨ p ∈ m) : ¬ ((((dys l m)[k] : Int) : Rat) < p.1 ∧ (p.1 : Rat) < ((dys l m)[k + 1] : Int)) := by
  rintro ⟨q1, q2⟩
  have q1 := ratI.mp q1
  have q2 := ratI.mp q2
  have h1 := dys_in (show k < (dys l m).length by omega)
  have h2 := dys_in hk
  have mem : p.1 ∈ dys l m := by
    refine dys_mem.mpr ⟨?_, by omega, by omega⟩
    unfold allD
    rcases hp with hp | hp
    · exact List.mem_append_left _ (List.mem_append_left _ (List.mem_map_of_mem hp))
    · exact List.mem_append_left _ (List.mem_append_right _ (List.mem_map_of_mem hp))
  obtain ⟨i, hi, e⟩ := List.mem_iff_getElem.mp mem
  rw [← e] at q1 q2
  by_cases c1 : i ≤ k
  · by_cases c2 : i = k
    · subst c2; omega
    · have := List.pairwise_iff_getElem.mp dys_lt i k hi (by omega) (by omega)
      omega
  · by_cases c2 : i = k + 1
    · subst c2; omega
    · have := List.pairwise_iff_getElem.mp dys_lt (k + 1) i hk hi (by omega)
      omega
end
/-- straight between two times with no day of the table between -/
theorem vIn_lin : ∀ (l : List (Int × Int)) (a b t : Rat), l.Pairwise (fun p q => p.1 < q.1) → 2 ≤ l.length → ((fst l).1 : Rat) ≤ a → a < b → b ≤ (lst l).1 → (∀ p ∈ l, ¬ (a < p.1 ∧ (p.1 : Rat) < b)) → a ≤ t → t ≤ b → vIn l t = vIn l a + (vIn l b - vIn l a) * ((t - a) / (b - a))
  | [], _, _, _, _, h, _, _, _, _, _, _ => by simp at h
  | [p], _, _, _, _, h, _, _, _, _, _, _ => by simp at h
  | p :: q :: r, a, b, t, hr, _, ha, hab, hb, hn, h1t, h2t => by
    obtain ⟨h1, h2⟩ := List.pairwise_cons.mp hr
    have hpq := h1 q List.mem_cons_self
    have hne : b - a ≠ 0 := by grind
    by_cases hq : (q.1 : Rat) < b
    · have hqa : (q.1 : Rat) ≤ a := by
        have := hn q (List.mem_cons_of_mem _ List.mem_cons_self)
        grind
      have hl : 2 ≤ (q :: r).length := by
        cases r with
        | nil =>
          have : lst [p, q] = q := rfl
          rw [this] at hb
          grind
        | cons z r => simp
      have ih := vIn_lin (q :: r) a b t h2 hl hqa hab (by rw [← lst_cons p]; exact hb) (fun z hz => hn z (List.mem_cons_of_mem _ hz)) h1t h2t
      have e4 : vIn (p :: q :: r) b = vIn (q :: r) b := by rw [vIn, if_pos hq]
      have ea : vIn (p :: q :: r) a = vIn (q :: r) a := by
        by_cases hqa' : (q.1 : Rat) < a
        · rw [vIn, if_pos hqa']
        · have ea : a = q.1 := by grind
          rw [vIn, if_neg hqa', ea, line_hi hpq, vIn_day h2 hl q List.mem_cons_self]
      have et : vIn (p :: q :: r) t = vIn (q :: r) t := by
        by_cases hqt : (q.1 : Rat) < t
        · rw [vIn, if_pos hqt]
        · have e2 : t = q.1 := by grind
          rw [vIn, if_neg hqt, e2, line_hi hpq, vIn_day h2 hl q List.mem_cons_self]
      rw [et, ea, e4, ih]
    · have e1 : vIn (p :: q :: r) a = line p q a := by rw [vIn, if_neg (by grind)]
      have e2 : vIn (p :: q :: r) b = line p q b := by rw [vIn, if_neg hq]
      have e3 : vIn (p :: q :: r) t = line p q t := by rw [vIn, if_neg (by grind)]
      rw [e1, e2, e3, line_slope hpq, line_slope hpq, line_slope hpq]
      generalize ((q.2 : Rat) - p.2) / ((q.1 : Rat) - p.1) = sl
      grind
/-- values at days are small -/
theorem bd_vDay {d : Int} (h0 : 0 ≤ d) (h1 : d ≤ 366) : ∀ (l : List (Int × Int)), (∀ p ∈ l, Ent p) → l.Pairwise (fun p q => p.1 < q.1) → Bd (vIn l d) 29 9
  | [], _, _ => by unfold vIn Bd; decide +kernel
  | [p], _, _ => by unfold vIn Bd; decide +kernel
  | p :: q :: r, he, hr => by
    obtain ⟨a1, a2⟩ := List.pairwise_cons.mp hr
    have hpq := a1 q List.mem_cons_self
    unfold vIn
    split
    · exact bd_vDay h0 h1 (q :: r) (fun z hz => he z (List.mem_cons_of_mem _ hz)) a2
    · obtain ⟨p1, p2, p3, p4⟩ := he p List.mem_cons_self
      obtain ⟨q1, q2, q3, q4⟩ := he q (List.mem_cons_of_mem _ List.mem_cons_self)
      rw [line_eq hpq, Rat.num_intCast, Rat.den_intCast]
      have e1 : (p.2 * (q.1 - p.1)).natAbs < 2 ^ (17 + 9) := natAbs_mul_lt (by omega) (by omega)
      have e2 : ((q.2 - p.2) * (d - p.1 * ((1 : Nat) : Int))).natAbs < 2 ^ (18 + 9) := natAbs_mul_lt (by omega) (by omega)
      have e3 : (p.2 * (q.1 - p.1) * ((1 : Nat) : Int)).natAbs < 2 ^ (17 + 9) := by
        rw [show p.2 * (q.1 - p.1) * ((1 : Nat) : Int) = p.2 * (q.1 - p.1) by omega]; exact e1
      have e4 := natAbs_add_lt e3 e2
      exact (bd_div (by omega) e4 (show ((q.1 - p.1) * ((1 : Nat) : Int)).natAbs < 2 ^ 9 by omega)).le (by decide) (by decide)
def gp (l m : List (Int × Int)) (t : Rat) : Rat := vIn l t - vIn m t
theorem bd_gp {l m : List (Int × Int)} (hl : Tab l) (hm : Tab m) {d : Int} (h0 : 0 ≤ d) (h1 : d ≤ 366) : Bd (gp l m d) 39 18 := (bd_sub (bd_vDay h0 h1 l hl.ent hl.ris) (bd_vDay h0 h1 m hm.ent hm.ris)).le (by decide) (by decide)
end YE

/-! YYB: shares with a negative below. -/
namespace YE
open Y YN
open PySem (Str PyData)
theorem rd_neg {a b : Int} (hb : b < 0) : rd ((a : Rat) / b) = .tup [.int (-(a / Int.gcd a b)), .int (-(b / Int.gcd a b))] := by
  have e : (a : Rat) / b = ((-a : Int) : Rat) / ((-b : Int) : Rat) := by
    have : (b : Rat) ≠ 0 := by
      intro h
      have := Rat.intCast_eq_zero_iff.mp h
      omega
    rw [Rat.intCast_neg, Rat.intCast_neg]
    grind
  rw [e, rd_div (by omega), Int.gcd_neg, Int.neg_gcd, Int.neg_ediv_of_dvd (Int.gcd_dvd_left ..), Int.neg_ediv_of_dvd (Int.gcd_dvd_right ..)]
theorem gcd_pos' {a b : Int} (hb : b ≠ 0) : (0 : Int) < Int.gcd a b := by
  have := Int.gcd_pos_of_ne_zero_right a hb
  omega
theorem gcd_le' {a b : Int} (hb : b ≠ 0) : (Int.gcd a b : Int) ≤ b.natAbs := by
  have h : Int.gcd a b ∣ b.natAbs := Int.gcd_dvd_natAbs_right a b
  have := Nat.le_of_dvd (by omega) h
  omega
theorem div_negd {i g : Int} {s : S} (hg : 0 < g) (h : g ∣ i) (hb : g.natAbs < B1) : oDiv (.int i) (.int (-g)) s = .ok (.int (-(i / g))) s := by
  have h1 := log2_B1 (show (-g).natAbs < B1 by omega)
  show (if -g ≠ 0 ∧ (-g).natAbs.log2 < 9000 then Rs.ok (D.int (pdiv i (-g))) s else .stk) = _
  rw [if_pos ⟨by omega, by omega⟩]
  congr 2
  show (if 0 < -g then i / -g else i.fdiv (-g)) = _
  rw [if_neg (by omega)]
  rw [Int.fdiv_eq_ediv_of_dvd (Int.neg_dvd.mpr h), Int.ediv_neg]
theorem share_neg {a b : Int} {n : Nat} {s : S} (hb : b < 0) (ha : a.natAbs < 2 ^ n) (hn : n ≤ 400000) (hbb : b.natAbs < B1) : callK D_share [.int a, .int b] s = .ok (rd ((a : Rat) / b)) s := by
  have dk := fun st => divisor_in_k (a := a) (b := b) (s := st) ha hn hbb
  have gp := gcd_pos' (a := a) (show b ≠ 0 by omega)
  have gl := gcd_le' (a := a) (show b ≠ 0 by omega)
  have d1 := fun st => div_negd (s := st) gp (Int.gcd_dvd_left (a := a) (b := b)) (by omega)
  have d2 := fun st => div_negd (s := st) gp (Int.gcd_dvd_right (a := a) (b := b)) (by omega)
  have m1 := fun i st => v_mul64r (i := i) (j := -1) (s := st) (by decide)
  rw [rd_neg hb]
  refine callK_val rfl (g := []) ?_ rfl
  rw [r_share]
  unfold b_share
  generalize (Int.gcd a b : Int) = g at dk gp gl d1 d2
  have e : g * (-1) = -g := by omega
  simp [dk, show ¬ 0 < b by omega, m1, e, d1, d2]
/-- any below but 0 -/
theorem share_any {a b : Int} {n : Nat} {s : S} (hb : b ≠ 0) (ha : a.natAbs < 2 ^ n) (hn : n ≤ 400000) (hbb : b.natAbs < B1) : callK D_share [.int a, .int b] s = .ok (rd ((a : Rat) / b)) s := by
  by_cases h : 0 < b
  · exact share_k h ha hn hbb
  · exact share_neg (by omega) ha hn hbb
theorem lshare_neg {a b : Int} {n : Nat} {s : S} (hb : b < 0) (ha : a.natAbs < 2 ^ n) (hn : n ≤ 400000) (hbb : b.natAbs < B1) : callK D__law_share [.int a, .int b] s = .ok (rd ((a : Rat) / b)) s := by
  have gp := gcd_pos' (a := a) (show b ≠ 0 by omega)
  have gl := gcd_le' (a := a) (show b ≠ 0 by omega)
  rw [rd_neg hb]
  refine callK_val rfl (g := []) ?_ rfl
  rw [r__law_share]
  unfold b__law_share
  obtain ⟨r', s', e, y, rfl, rfl⟩ := zWhile_invB (c := tst (e2 oGt (eV 3) (eC (.int 0)))) (b := zPar 2 3 (eV 3) (e2 oMod (eN bInt (aC (eV 2) aN)) (eV 3)))
    (fun r t => ∃ x y : Int, 0 ≤ x ∧ 0 ≤ y ∧ y < B1 ∧ Int.gcd x y = Int.gcd a b ∧ r = [.int a, .int b, .int x, .int y, .undef] ∧ t = [])
    (fun r t => ∃ y : D, r = [.int a, .int b, .int (Int.gcd a b), y, .undef] ∧ t = [])
    (fun r _ => match r with | [_, _, _, .int y, _] => y.toNat | _ => 0) (by
      rintro r t ⟨x, y, hx, hy, by', hg, rfl, rfl⟩
      refine ⟨decide (0 < y), [], by simp, fun q => ?_, fun q => ?_⟩
      · have q : ¬ 0 < y := by simpa using q
        have : y = 0 := by omega
        subst this
        rw [Int.gcd_zero_right] at hg
        exact ⟨.int 0, by rw [← hg, Int.natAbs_of_nonneg hx], rfl⟩
      · have q : 0 < y := by simpa using q
        have r1 := Int.emod_nonneg x (show y ≠ 0 by omega)
        have r2 := Int.emod_lt_of_pos x q
        refine ⟨[.int a, .int b, .int y, .int (x % y), .undef], [], .inl (by simp [v_modP q]), ⟨y, x % y, hy, r1, by omega, by rw [gcd_step hx hy, hg], rfl, rfl⟩, ?_⟩
        show (x % y).toNat < y.toNat
        omega) (r := [.int a, .int b, .int (if -a > a then -a else a), .int (if -b > b then -b else b), .undef]) (s := []) ⟨_, _, by split <;> omega, by split <;> omega, by split <;> omega, by
      have ea : (if -a > a then -a else a) = (a.natAbs : Int) := by split <;> omega
      have eb : (if -b > b then -b else b) = (b.natAbs : Int) := by split <;> omega
      rw [ea, eb]
      show Nat.gcd _ _ = Nat.gcd _ _
      simp, rfl, rfl⟩ (by
      show (if -b > b then -b else b).toNat < B1
      split <;> omega)
  have d1 := fun i st => div_big (i := i) (j := Int.gcd a b) (s := st) gp (by omega)
  have m1 := fun i st => v_mul64 (i := -1) (j := i) (s := st) (by decide)
  have e1 : ∀ i : Int, -1 * i = -i := fun i => by omega
  simp only [gt_iff_lt] at e
  generalize (Int.gcd a b : Int) = g at e gp gl d1
  simp [e, show ¬ 0 < b by omega, d1, m1, e1]
theorem lshare_any {a b : Int} {n : Nat} {s : S} (hb : b ≠ 0) (ha : a.natAbs < 2 ^ n) (hn : n ≤ 400000) (hbb : b.natAbs < B1) : callK D__law_share [.int a, .int b] s = .ok (rd ((a : Rat) / b)) s := by
  by_cases h : 0 < b
  · exact lshare_k h ha hn hbb
  · exact lshare_neg (by omega) ha hn hbb
end YE

/-! YYC: dicts by shares. -/
namespace YE
open Y YN
open PySem (Str PyData)
def kq (L : List Rat) : List (D × D) := L.map fun q => (rd q, .bl true)
def putQ (L : List Rat) (q : Rat) : List Rat := if q ∈ L then L else L ++ [q]
theorem keyEq_rd {p q : Rat} : keyEq (rd p) (rd q) = decide (p = q) := by
  have e : keyEq (rd p) (rd q) = decide ((([.inl p.num, .inl (p.den : Int)] : List (Int ⊕ Str))) = [.inl q.num, .inl (q.den : Int)]) := by
    unfold keyEq rd
    simp [keyD, keyT, keysD]
  rw [e, Bool.eq_iff_iff, decide_eq_true_eq, decide_eq_true_eq]
  constructor
  · intro h
    simp at h
    exact Rat.ext h.1 (by omega)
  · rintro rfl; rfl
theorem fnd_rd {L : List Rat} {q : Rat} : (fndD (kq L) (rd q)).isSome = true ↔ q ∈ L := by
  unfold fndD kq
  rw [Option.isSome_map, List.find?_isSome]
  constructor
  · rintro ⟨x, hx, e⟩
    obtain ⟨p, hp, rfl⟩ := List.mem_map.mp hx
    rw [keyEq_rd, decide_eq_true_eq] at e
    rw [← e]; exact hp
  · intro h
    exact ⟨(rd q, .bl true), List.mem_map.mpr ⟨q, h, rfl⟩, by rw [keyEq_rd]; simp⟩
theorem put_rd {L : List Rat} {q : Rat} : putD (kq L) (rd q) (.bl true) = kq (putQ L q) := by
  unfold putD putQ
  by_cases h : q ∈ L
  · rw [if_pos (fnd_rd.mpr h), if_pos h]
    unfold kq
    rw [List.map_map]
    refine List.map_congr_left fun p _ => ?_
    show (if keyEq (rd p) (rd q) = true then (rd p, D.bl true) else (rd p, .bl true)) = (rd p, .bl true)
    split <;> rfl
  · rw [if_neg (fun z => h (fnd_rd.mp z)), if_neg h]
    unfold kq
    simp
theorem putDct_rd {L : List Rat} {q : Rat} {n : Nat} {s : S} (h : s[n]? = some (.dct true (kq L))) (hl : L.length < 1000000) : putDct (.ref n) (rd q) (.bl true) s = some (s.set n (.dct true (kq (putQ L q)))) := by
  rw [putDct_ref, h, dctO_dct, Option.bind_some, put_rd, if_pos]
  refine ⟨rfl, ?_⟩
  show (kq L).length < LINE
  unfold kq
  rw [List.length_map]; exact hl
def addQ (L ps : List Rat) : List Rat := ps.foldl putQ L
theorem putQ_mem {L : List Rat} {q x : Rat} : x ∈ putQ L q ↔ x ∈ L ∨ x = q := by
  unfold putQ
  by_cases h : q ∈ L
  · rw [if_pos h]
    constructor
    · exact .inl
    · rintro (h2 | rfl)
      · exact h2
      · exact h
  · rw [if_neg h]; simp
theorem putQ_nodup {L : List Rat} {q : Rat} (h : L.Nodup) : (putQ L q).Nodup := by
  unfold putQ
  split
  · exact h
  · rename_i hq
    rw [List.nodup_append]
    exact ⟨h, by simp, fun a ha b hb => by
      rw [List.mem_singleton] at hb
      subst hb; intro e; subst e; exact hq ha⟩
theorem putQ_len (L : List Rat) (q : Rat) : (putQ L q).length ≤ L.length + 1 := by
  unfold putQ
  split <;> simp
theorem addQ_mem {x : Rat} : ∀ {ps L : List Rat}, x ∈ addQ L ps ↔ x ∈ L ∨ x ∈ ps
  | [], L => by simp [addQ]
  | p :: ps, L => by
    show x ∈ addQ (putQ L p) ps ↔ _
    rw [addQ_mem, putQ_mem, List.mem_cons]
    constructor
    · rintro ((h | h) | h)
      · exact .inl h
      · exact .inr (.inl h)
      · exact .inr (.inr h)
    · rintro (h | h | h)
      · exact .inl (.inl h)
      · exact .inl (.inr h)
      · exact .inr h
theorem addQ_nodup : ∀ {ps L : List Rat}, L.Nodup → (addQ L ps).Nodup
  | [], L, h => h
  | p :: ps, L, h => addQ_nodup (ps := ps) (putQ_nodup h)
theorem addQ_len : ∀ (ps L : List Rat), (addQ L ps).length ≤ L.length + ps.length
  | [], L => by simp [addQ]
  | p :: ps, L => by
    have h1 := addQ_len ps (putQ L p)
    have h2 := putQ_len L p
    show (addQ (putQ L p) ps).length ≤ _
    simp only [List.length_cons]
    omega
theorem kq_keys (L : List Rat) : (kq L).map (·.1) = L.map rd := by
  unfold kq
  rw [List.map_map]; rfl
/-! ### the points of a piece -/
def cross (l m : List (Int × Int)) (a b : Int) : Rat := a + gp l m a / (gp l m a - gp l m b) * (b - a)
def opp (x y : Rat) : Prop := (x < 0 ∧ 0 < y) ∨ (0 < x ∧ y < 0)
instance (x y : Rat) : Decidable (opp x y) := by unfold opp; exact inferInstance
def pts (l m : List (Int × Int)) (a b : Int) : List Rat :=
  (if gp l m a = 0 then [(a : Rat)] else []) ++ ((if gp l m b = 0 then [(b : Rat)] else []) ++ (if opp (gp l m a) (gp l m b) then [cross l m a b] else []))
theorem num_neg {q : Rat} : q.num < 0 ↔ q < 0 := by
  have h := Rat.lt_iff q 0
  simp at h
  exact h.symm
theorem num_pos' {q : Rat} : 0 < q.num ↔ 0 < q := by
  have h := Rat.lt_iff 0 q
  simp at h
  exact h.symm
theorem num_zero {q : Rat} : q.num = 0 ↔ q = 0 := by
  constructor
  · intro h
    have h1 := rat_eq q
    rw [h] at h1
    have h2 := den_ne q
    grind
  · rintro rfl; rfl
theorem opp_num {x y : Rat} : x.num * y.num < 0 ↔ opp x y := by
  unfold opp
  rw [← num_neg, ← num_pos', ← num_pos', ← num_neg]
  constructor
  · intro h
    by_cases h1 : x.num < 0
    · by_cases h2 : 0 < y.num
      · exact .inl ⟨h1, h2⟩
      · have := Int.mul_nonneg_of_nonpos_of_nonpos (show x.num ≤ 0 by omega) (show y.num ≤ 0 by omega)
        omega
    · by_cases h2 : y.num < 0
      · by_cases h3 : 0 < x.num
        · exact .inr ⟨h3, h2⟩
        · have : x.num = 0 := by omega
          rw [this] at h; omega
      · have := Int.mul_nonneg (show 0 ≤ x.num by omega) (show 0 ≤ y.num by omega)
        omega
  · rintro (⟨h1, h2⟩ | ⟨h1, h2⟩)
    · exact Int.mul_neg_of_neg_of_pos h1 h2
    · exact Int.mul_neg_of_pos_of_neg h1 h2
theorem opp_ne {x y : Rat} (h : opp x y) : x - y ≠ 0 := by
  unfold opp at h
  grind
/-- the part up to the meeting -/
theorem part_rat {x y : Rat} (h : x - y ≠ 0) : x / (x - y) = ((x.num * y.den : Int) : Rat) / ((x.num * y.den - y.num * x.den : Int) : Rat) := by
  have h1 := den_ne x
  have h2 := den_ne y
  have h3 := rat_eq x
  have h4 := rat_eq y
  rw [Rat.intCast_sub, Rat.intCast_mul, Rat.intCast_mul, Rat.intCast_natCast, Rat.intCast_natCast]
  have e : (x.num : Rat) * y.den - y.num * x.den = (x - y) * (x.den * y.den) := by grind
  have h5 : (x.num : Rat) * y.den - y.num * x.den ≠ 0 := by rw [e]; grind
  grind
theorem part_ne {x y : Rat} (h : x - y ≠ 0) : x.num * y.den - y.num * x.den ≠ 0 := by
  intro e
  have h1 := den_ne x
  have h2 := den_ne y
  have h3 := rat_eq x
  have h4 := rat_eq y
  have e2 : ((x.num * y.den - y.num * x.den : Int) : Rat) = 0 := by rw [e]; rfl
  rw [Rat.intCast_sub, Rat.intCast_mul, Rat.intCast_mul, Rat.intCast_natCast, Rat.intCast_natCast] at e2
  have e3 : (x.num : Rat) * y.den - y.num * x.den = (x - y) * (x.den * y.den) := by grind
  rw [e3] at e2
  grind
theorem times_rat {q : Rat} {i : Int} : q * (i : Rat) = ((q.num * i : Int) : Rat) / ((q.den : Int) : Rat) := by
  have h1 := den_ne q
  have h3 := rat_eq q
  rw [Rat.intCast_mul, Rat.intCast_natCast]
  grind
theorem bd_divA {a b : Int} {n d : Nat} (hb : b ≠ 0) (ha : a.natAbs < 2 ^ n) (hd : b.natAbs < 2 ^ d) : Bd ((a : Rat) / b) n d := by
  by_cases h : 0 < b
  · exact bd_div h ha hd
  · have e : (a : Rat) / b = ((-a : Int) : Rat) / ((-b : Int) : Rat) := by
      have : (b : Rat) ≠ 0 := by
        intro h
        have := Rat.intCast_eq_zero_iff.mp h
        omega
      rw [Rat.intCast_neg, Rat.intCast_neg]
      grind
    rw [e]
    exact bd_div (by omega) (by omega) (by omega)
theorem bd_part {x y : Rat} (hx : Bd x 39 18) (hy : Bd y 39 18) (h : x - y ≠ 0) : Bd (x / (x - y)) 57 58 := by
  rw [part_rat h]
  have e1 := natAbs_mul_lt hx.1 (bdn hy)
  have e2 := natAbs_sub_lt e1 (natAbs_mul_lt hy.1 (bdn hx))
  exact (bd_divA (part_ne h) e1 e2).le (by decide) (by decide)
theorem bd_cross {l m : List (Int × Int)} (hl : Tab l) (hm : Tab m) {a b : Int} (a0 : 0 ≤ a) (a1 : a ≤ 366) (b0 : 0 ≤ b) (b1 : b ≤ 366) (h : opp (gp l m a) (gp l m b)) : Bd (cross l m a b) 69 60 := by
  have p := bd_part (bd_gp hl hm a0 a1) (bd_gp hl hm b0 b1) (opp_ne h)
  have q : Bd ((b : Rat) - a) 9 1 := by
    have : (b : Rat) - a = ((b - a : Int) : Rat) := by rw [Rat.intCast_sub]
    rw [this]
    exact bd_int (by omega)
  exact (bd_add (bd_int (n := 9) (by omega)) (bd_mul p q)).le (by decide) (by decide)
end YE

/-! YYD: meetings. -/
namespace YE
open Y YN
open PySem (Str PyData)
def dif (t : Nat) (k : Nat) : Sm := zSet (gV t) (eCallK 2 D_plus (aC (eCallK 2 D_value_in (aC (eV 0) (aC (eV k) aN))) (aC (eCallK 2 D_share (aC (e1 oNeg (e2 oIx (eCallK 2 D_value_in (aC (eV 1) (aC (eV k) aN))) (eC (.int 0)))) (aC (e2 oIx (eCallK 2 D_value_in (aC (eV 1) (aC (eV k) aN))) (eC (.int 1))) aN))) aN)))
def mtB : Sm := (zCons (zPar 6 7 (eTup (aC (eV 4) (aC (eC (.int 1)) aN))) (eTup (aC (eV 5) (aC (eC (.int 1)) aN))))
    (zCons (dif 8 6)
    (zCons (dif 9 7)
    (zCons (zIf (tst (e2 oEq (e2 oIx (eV 8) (eC (.int 0))) (eC (.int 0))))
     (zPutD (eV 3) (eV 6) (eC (.bl true)))
     zNil)
    (zCons (zIf (tst (e2 oEq (e2 oIx (eV 9) (eC (.int 0))) (eC (.int 0))))
     (zPutD (eV 3) (eV 7) (eC (.bl true)))
     zNil)
    (zIf (tst (e2 oLt (e2 oMul (e2 oIx (eV 8) (eC (.int 0))) (e2 oIx (eV 9) (eC (.int 0)))) (eC (.int 0))))
     (zCons (zSet (gV 10) (eCallK 2 D_share (aC (e2 oMul (e2 oIx (eV 8) (eC (.int 0))) (e2 oIx (eV 9) (eC (.int 1)))) (aC (e2 oSub (e2 oMul (e2 oIx (eV 8) (eC (.int 0))) (e2 oIx (eV 9) (eC (.int 1)))) (e2 oMul (e2 oIx (eV 9) (eC (.int 0))) (e2 oIx (eV 8) (eC (.int 1))))) aN))))
    (zPutD (eV 3) (eCallK 2 D_plus (aC (eV 6) (aC (eCallK 2 D_share (aC (e2 oMul (e2 oIx (eV 10) (eC (.int 0))) (e2 oSub (eV 5) (eV 4))) (aC (e2 oIx (eV 10) (eC (.int 1))) aN))) aN))) (eC (.bl true))))
     zNil))))))
section
variable {l m : List (Int × Int)} {x4 x5 x6 x7 x8 x9 x10 : D} {s : S}
theorem neg_rat (v : Rat) : ((-v.num : Int) : Rat) / ((v.den : Int) : Rat) = -v := by
  have h1 := rat_eq v
  rw [Rat.intCast_neg, Rat.intCast_natCast]
  grind
theorem dif_ok (hl : Tab l) (hm : Tab m) {d : Int} (h0 : 0 ≤ d) (h1 : d ≤ 366) (h2 : d ≤ (lst l).1) (h3 : d ≤ (lst m).1) (st : S) :
    (eCallK 2 D_plus (aC (eCallK 2 D_value_in (aC (eV 0) (aC (eV 2) aN))) (aC (eCallK 2 D_share (aC (e1 oNeg (e2 oIx (eCallK 2 D_value_in (aC (eV 1) (aC (eV 2) aN))) (eC (.int 0)))) (aC (e2 oIx (eCallK 2 D_value_in (aC (eV 1) (aC (eV 2) aN))) (eC (.int 1))) aN))) aN))) [tbD l, tbD m, rd d] st = .ok (rd (gp l m d)) st := by
  have v1 := fun st => value_in_k hl (bd_day h0 h1) (s := st) (ratIe.mpr h2)
  have v2 := fun st => value_in_k hm (bd_day h0 h1) (s := st) (ratIe.mpr h3)
  have b1 := bd_vDay h0 h1 l hl.ent hl.ris
  have b2 := bd_vDay h0 h1 m hm.ent hm.ris
  have sk := fun st => share_k (a := -(vIn m d).num) (b := ((vIn m d).den : Int)) (n := 29) (s := st) (den_pos _) (by have := b2.1; omega) (by decide) (b1_pow (bdn b2) (by decide))
  simp only [neg_rat] at sk
  have pk := fun st => plus_k (s := st) b1 (bd_neg b2) (by decide) (by decide)
  rw [show vIn l d + -vIn m d = gp l m d by unfold gp; grind] at pk
  simp [v1, v2, sk, pk]
theorem put_bl {r : Env} {o i : E} {q : Rat} {L : List Rat} {n : Nat} {s : S} (ho : ∀ st, o r st = .ok (.ref n) st) (hi : ∀ st, i r st = .ok (rd q) st) (h : s[n]? = some (.dct true (kq L))) (hl : L.length < 1000000) : zPutD o i (eC (.bl true)) r s = .nx r (s.set n (.dct true (kq (putQ L q)))) := by
  rw [ap_zPutD, ap_eC, then_ok, ho, then_ok, hi, then_ok, putDct_rd h hl]
  rfl
theorem mtB_ok (hl : Tab l) (hm : Tab m) {a b : Int} (a0 : 0 ≤ a) (a1 : a ≤ 366) (b0 : 0 ≤ b) (b1 : b ≤ 366) (la : a ≤ (lst l).1) (ma : a ≤ (lst m).1) (lb : b ≤ (lst l).1) (mb : b ≤ (lst m).1) {L : List Rat} (hL : L.length ≤ 1000) {o1 o3 : O} :
    ∃ y8 y9 y10, mtB [tbD l, tbD m, .ref 0, .ref 1, .int a, .int b, x6, x7, x8, x9, x10] [o1, .dct true (kq L), o3] = .nx [tbD l, tbD m, .ref 0, .ref 1, .int a, .int b, rd a, rd b, y8, y9, y10] [o1, .dct true (kq (addQ L (pts l m a b))), o3] := by
  have de1 : ∀ x8 x9, dif 8 6 [tbD l, tbD m, .ref 0, .ref 1, .int a, .int b, rd a, rd b, x8, x9, x10] [o1, .dct true (kq L), o3] = .nx [tbD l, tbD m, .ref 0, .ref 1, .int a, .int b, rd a, rd b, rd (gp l m a), x9, x10] [o1, .dct true (kq L), o3] := fun x8 x9 => by
    have := dif_ok hl hm a0 a1 la ma [o1, .dct true (kq L), o3]
    simp only [ap_eCallK, ap_aC, eV_tb, eV_succ, eV_rd, ap_aN, bind_ok, ap_e1, ap_e2, ap_eC] at this
    unfold dif
    simp only [ap_zSet, ap_eCallK, ap_aC, eV_tb, eV_succ, eV_rd, ap_aN, bind_ok, ap_e1, ap_e2, ap_eC, this]
    rfl
  have de2 : ∀ x9, dif 9 7 [tbD l, tbD m, .ref 0, .ref 1, .int a, .int b, rd a, rd b, rd (gp l m a), x9, x10] [o1, .dct true (kq L), o3] = .nx [tbD l, tbD m, .ref 0, .ref 1, .int a, .int b, rd a, rd b, rd (gp l m a), rd (gp l m b), x10] [o1, .dct true (kq L), o3] := fun x9 => by
    have := dif_ok hl hm b0 b1 lb mb [o1, .dct true (kq L), o3]
    simp only [ap_eCallK, ap_aC, eV_tb, eV_succ, eV_rd, ap_aN, bind_ok, ap_e1, ap_e2, ap_eC] at this
    unfold dif
    simp only [ap_zSet, ap_eCallK, ap_aC, eV_tb, eV_succ, eV_rd, ap_aN, bind_ok, ap_e1, ap_e2, ap_eC, this]
    rfl
  have bx := bd_gp hl hm a0 a1
  have bY := bd_gp hl hm b0 b1
  have ep : zPar 6 7 (eTup (aC (eV 4) (aC (eC (.int 1)) aN))) (eTup (aC (eV 5) (aC (eC (.int 1)) aN))) [tbD l, tbD m, .ref 0, .ref 1, .int a, .int b, x6, x7, x8, x9, x10] [o1, .dct true (kq L), o3] = .nx [tbD l, tbD m, .ref 0, .ref 1, .int a, .int b, rd a, rd b, x8, x9, x10] [o1, .dct true (kq L), o3] := by
    rw [rd_int, rd_int]
    simp
  unfold mtB
  rw [ap_zCons, ep, andThen_nx, ap_zCons, de1, andThen_nx, ap_zCons, de2, andThen_nx, ap_zCons]
  -- the three puts
  have p1 : zIf (tst (e2 oEq (e2 oIx (eV 8) (eC (.int 0))) (eC (.int 0)))) (zPutD (eV 3) (eV 6) (eC (.bl true))) zNil [tbD l, tbD m, .ref 0, .ref 1, .int a, .int b, rd a, rd b, rd (gp l m a), rd (gp l m b), x10] [o1, .dct true (kq L), o3] = .nx [tbD l, tbD m, .ref 0, .ref 1, .int a, .int b, rd a, rd b, rd (gp l m a), rd (gp l m b), x10] [o1, .dct true (kq (addQ L (if gp l m a = 0 then [(a : Rat)] else []))), o3] := by
    by_cases c : gp l m a = 0
    · have n0 := num_zero.mpr c
      have pb := put_bl (o := eV 3) (i := eV 6) (r := [tbD l, tbD m, .ref 0, .ref 1, .int a, .int b, rd a, rd b, rd (gp l m a), rd (gp l m b), x10]) (q := (a : Rat)) (L := L) (n := 1) (s := [o1, .dct true (kq L), o3]) (fun _ => rfl) (fun _ => rfl) rfl (by omega)
      rw [if_pos c]
      generalize zPutD (eV 3) (eV 6) (eC (.bl true)) = z at *
      simp [n0, pb]
      rfl
    · have n0 : ¬ (gp l m a).num = 0 := fun z => c (num_zero.mp z)
      rw [if_neg c]
      simp [n0]
      rfl
  rw [p1, andThen_nx, ap_zCons]
  have l1 : (addQ L (if gp l m a = 0 then [(a : Rat)] else [])).length ≤ 1001 := by
    have h1 := addQ_len (if gp l m a = 0 then [(a : Rat)] else []) L
    have h2 : (if gp l m a = 0 then [(a : Rat)] else []).length ≤ 1 := by split <;> simp
    omega
  have pe : addQ L (pts l m a b) = addQ (addQ (addQ L (if gp l m a = 0 then [(a : Rat)] else [])) (if gp l m b = 0 then [(b : Rat)] else [])) (if opp (gp l m a) (gp l m b) then [cross l m a b] else []) := by
    unfold pts addQ
    rw [List.foldl_append, List.foldl_append]
  rw [pe]
  generalize addQ L (if gp l m a = 0 then [(a : Rat)] else []) = L1 at *
  have p2 : zIf (tst (e2 oEq (e2 oIx (eV 9) (eC (.int 0))) (eC (.int 0)))) (zPutD (eV 3) (eV 7) (eC (.bl true))) zNil [tbD l, tbD m, .ref 0, .ref 1, .int a, .int b, rd a, rd b, rd (gp l m a), rd (gp l m b), x10] [o1, .dct true (kq L1), o3] = .nx [tbD l, tbD m, .ref 0, .ref 1, .int a, .int b, rd a, rd b, rd (gp l m a), rd (gp l m b), x10] [o1, .dct true (kq (addQ L1 (if gp l m b = 0 then [(b : Rat)] else []))), o3] := by
    by_cases c : gp l m b = 0
    · have n0 := num_zero.mpr c
      have pb := put_bl (o := eV 3) (i := eV 7) (r := [tbD l, tbD m, .ref 0, .ref 1, .int a, .int b, rd a, rd b, rd (gp l m a), rd (gp l m b), x10]) (q := (b : Rat)) (L := L1) (n := 1) (s := [o1, .dct true (kq L1), o3]) (fun _ => rfl) (fun _ => rfl) rfl (by omega)
      rw [if_pos c]
      generalize zPutD (eV 3) (eV 7) (eC (.bl true)) = z at *
      simp [n0, pb]
      rfl
    · have n0 : ¬ (gp l m b).num = 0 := fun z => c (num_zero.mp z)
      rw [if_neg c]
      simp [n0]
      rfl
  rw [p2, andThen_nx]
  have l2 : (addQ L1 (if gp l m b = 0 then [(b : Rat)] else [])).length ≤ 1002 := by
    have h1 := addQ_len (if gp l m b = 0 then [(b : Rat)] else []) L1
    have h2 : (if gp l m b = 0 then [(b : Rat)] else []).length ≤ 1 := by split <;> simp
    omega
  generalize addQ L1 (if gp l m b = 0 then [(b : Rat)] else []) = L2 at *
  have hop := opp_num (x := gp l m a) (y := gp l m b)
  have m1 := fun st => mul_pow (i := (gp l m a).num) (j := (gp l m b).num) (s := st) bx.1 bY.1 (by decide)
  by_cases c : opp (gp l m a) (gp l m b)
  · have pn := part_ne (opp_ne c)
    have pr := part_rat (opp_ne c)
    have pc := bd_part bx bY (opp_ne c)
    have crd : cross l m a b = (a : Rat) + gp l m a / (gp l m a - gp l m b) * (((b - a : Int) : Rat)) := by
      unfold cross
      rw [Rat.intCast_sub]
    rw [if_pos c]
    have hneg := hop.mpr c
    have m2 := fun st => mul_pow (i := (gp l m a).num) (j := ((gp l m b).den : Int)) (s := st) bx.1 (bdn bY) (by decide)
    have m3 := fun st => mul_pow (i := (gp l m b).num) (j := ((gp l m a).den : Int)) (s := st) bY.1 (bdn bx) (by decide)
    have f1 := natAbs_mul_lt bx.1 (bdn bY)
    have f2 := natAbs_sub_lt f1 (natAbs_mul_lt bY.1 (bdn bx))
    have s1 := fun st => share_any (s := st) pn f1 (by decide) (b1_pow f2 (by decide))
    rw [← pr] at s1
    generalize gp l m a / (gp l m a - gp l m b) = w at *
    have m4 := fun st => v_mul64r (i := w.num) (j := b - a) (s := st) (by omega)
    have f3 : (w.num * (b - a)).natAbs < 2 ^ (57 + 9) := natAbs_mul_lt pc.1 (by omega)
    have s2 := fun st => share_k (a := w.num * (b - a)) (b := (w.den : Int)) (s := st) (den_pos w) f3 (by decide) (b1_pow (bdn pc) (by decide))
    rw [← times_rat] at s2
    have bw := bd_mul pc (bd_int (i := b - a) (n := 9) (by omega))
    have pk := fun st => plus_k (p := (a : Rat)) (s := st) (bd_int (n := 9) (by omega)) bw (by decide) (by decide)
    rw [← crd] at pk
    refine ⟨rd (gp l m a), rd (gp l m b), rd w, ?_⟩
    have q1 : zSet (gV 10) (eCallK 2 D_share (aC (e2 oMul (e2 oIx (eV 8) (eC (.int 0))) (e2 oIx (eV 9) (eC (.int 1)))) (aC (e2 oSub (e2 oMul (e2 oIx (eV 8) (eC (.int 0))) (e2 oIx (eV 9) (eC (.int 1)))) (e2 oMul (e2 oIx (eV 9) (eC (.int 0))) (e2 oIx (eV 8) (eC (.int 1))))) aN))) [tbD l, tbD m, .ref 0, .ref 1, .int a, .int b, rd a, rd b, rd (gp l m a), rd (gp l m b), x10] [o1, .dct true (kq L2), o3] = .nx [tbD l, tbD m, .ref 0, .ref 1, .int a, .int b, rd a, rd b, rd (gp l m a), rd (gp l m b), rd w] [o1, .dct true (kq L2), o3] := by
      simp [m2, m3, s1]
    have pb := put_bl (o := eV 3) (i := eCallK 2 D_plus (aC (eV 6) (aC (eCallK 2 D_share (aC (e2 oMul (e2 oIx (eV 10) (eC (.int 0))) (e2 oSub (eV 5) (eV 4))) (aC (e2 oIx (eV 10) (eC (.int 1))) aN))) aN))) (r := [tbD l, tbD m, .ref 0, .ref 1, .int a, .int b, rd a, rd b, rd (gp l m a), rd (gp l m b), rd w]) (q := cross l m a b) (L := L2) (n := 1) (s := [o1, .dct true (kq L2), o3]) (fun _ => rfl) (fun st => by simp [-Rat.intCast_sub, m4, s2, pk]) rfl (by omega)
    rw [ap_zIf]
    have tc : tst (e2 oLt (e2 oMul (e2 oIx (eV 8) (eC (.int 0))) (e2 oIx (eV 9) (eC (.int 0)))) (eC (.int 0))) [tbD l, tbD m, .ref 0, .ref 1, .int a, .int b, rd a, rd b, rd (gp l m a), rd (gp l m b), x10] [o1, .dct true (kq L2), o3] = .ok true [o1, .dct true (kq L2), o3] := by
      simp [m1, hneg]
    rw [tc, then_ok, if_pos rfl, ap_zCons, q1, andThen_nx, pb]
    rfl
  · have hnn : ¬ (gp l m a).num * (gp l m b).num < 0 := fun z => c (hop.mp z)
    rw [if_neg c]
    refine ⟨rd (gp l m a), rd (gp l m b), x10, ?_⟩
    rw [ap_zIf]
    have tc : tst (e2 oLt (e2 oMul (e2 oIx (eV 8) (eC (.int 0))) (e2 oIx (eV 9) (eC (.int 0)))) (eC (.int 0))) [tbD l, tbD m, .ref 0, .ref 1, .int a, .int b, rd a, rd b, rd (gp l m a), rd (gp l m b), x10] [o1, .dct true (kq L2), o3] = .ok false [o1, .dct true (kq L2), o3] := by
      simp [m1, hnn]
    rw [tc, then_ok, if_neg Bool.false_ne_true]
    rfl
end
end YE

/-! YYE: the list of meetings. -/
namespace YE
open Y YN
open PySem (Str PyData)
/-- a time at which both have one value, by the pieces -/
def Meet (l m : List (Int × Int)) (q : Rat) : Prop := ∃ k, ∃ h : k + 1 < (dys l m).length, q ∈ pts l m (dys l m)[k] (dys l m)[k + 1]
theorem pts_sz {l m : List (Int × Int)} (h : Two l m) {k : Nat} (hk : k + 1 < (dys l m).length) : (∀ q ∈ pts l m (dys l m)[k] (dys l m)[k + 1], Bd q 69 60) ∧ (pts l m (dys l m)[k] (dys l m)[k + 1]).length ≤ 3 := by
  obtain ⟨a0, a1⟩ := dys_bd h (show k < (dys l m).length by omega)
  obtain ⟨b0, b1⟩ := dys_bd h hk
  generalize (dys l m)[k]'(by omega) = a at *
  generalize (dys l m)[k + 1] = b at *
  refine ⟨fun q hq => ?_, ?_⟩
  · unfold pts at hq
    rcases List.mem_append.mp hq with hq | hq
    · split at hq
      · rw [List.mem_singleton] at hq
        subst hq; exact (bd_int (n := 9) (by omega)).le (by decide) (by decide)
      · cases hq
    · rcases List.mem_append.mp hq with hq | hq
      · split at hq
        · rw [List.mem_singleton] at hq
          subst hq; exact (bd_int (n := 9) (by omega)).le (by decide) (by decide)
        · cases hq
      · split at hq
        · rename_i c
          rw [List.mem_singleton] at hq
          subst hq; exact bd_cross h.tl h.tm a0 a1 b0 b1 c
        · cases hq
  · unfold pts
    split <;> split <;> split <;> simp
theorem zip_ints {is : List Int} {j : Nat} {d : D} (hd : (zipD (is.map D.int) ((is.map D.int).drop 1))[j]? = some d) : ∃ h : j + 1 < is.length, d = .tup [.int (is[j]'(by omega)), .int is[j + 1]] := by
  obtain ⟨x, y, e, e1, e2⟩ := zip_get hd
  rw [List.getElem?_map] at e1
  rw [List.getElem?_drop, List.getElem?_map, Nat.add_comm] at e2
  have h2 : j + 1 < is.length := by
    cases c : is[j + 1]? with
    | none => rw [c] at e2; cases e2
    | some z => exact (List.getElem?_eq_some_iff.mp c).1
  rw [List.getElem?_eq_getElem h2] at e2
  rw [List.getElem?_eq_getElem (show j < is.length by omega)] at e1
  cases e1; cases e2
  exact ⟨h2, e⟩
theorem zip_len (is : List Int) : (zipD (is.map D.int) ((is.map D.int).drop 1)).length = is.length - 1 := by
  unfold zipD
  rw [List.length_zipWith, List.length_drop, List.length_map]
  omega
/-- a walk over the pieces of a list of the store -/
theorem zip_walk {is : List Int} (hl : is.length ≤ 1000) {n : Nat} {a : E} {g : Tg} {b : Sm} {r : Env} {s : S} (ha : ∀ st, a r st = .ok (.ref n) st) (hn : s[n]? = some (.lst (is.map D.int))) (P : Nat → Env → S → Prop) (h0 : P 0 r (s ++ [.lst ((is.map D.int).drop 1)]))
    (hs : ∀ j r' s', P j r' s' → s'[n]? = some (.lst (is.map D.int)) ∧ s'[s.length]? = some (.lst ((is.map D.int).drop 1)))
    (step : ∀ j r' s', (h : j + 1 < is.length) → P j r' s' → ∃ r1 r2 s2, g (.tup [.int (is[j]'(by omega)), .int is[j + 1]]) r' s' = some (r1, s') ∧ (b r1 s' = .nx r2 s2 ∨ b r1 s' = .ct r2 s2) ∧ P (j + 1) r2 s2) :
    ∃ r' s', zFor (iZip a (eCut a (.at (eC (.int 1))) .no)) g b r s = .nx r' s' ∧ P (is.length - 1) r' s' := by
  have cutE : cutD (is.map D.int) (some 1) none = (is.map D.int).drop 1 := cut_1
  have hnl := (List.getElem?_eq_some_iff.mp hn).1
  have zf : ∀ s', s'[n]? = some (.lst (is.map D.int)) ∧ s'[s.length]? = some (.lst ((is.map D.int).drop 1)) → zipF n s.length s' = some (zipD (is.map D.int) ((is.map D.int).drop 1)) := by
    rintro s' ⟨h1, h2⟩
    unfold zipF
    rw [h1, h2]
  have it : iZip a (eCut a (.at (eC (.int 1))) .no) r s = .ok (.dyn (zipF n s.length)) (s ++ [.lst ((is.map D.int).drop 1)]) := by
    have z := zf _ (hs _ _ _ h0)
    unfold iZip eCut
    rw [ha, bind_ok, ha]
    simp only [Part.run, bind_ok, ap_eC, seqL_ref, hn, lstO_some, cutE, z, Option.isSome_some, if_true]
  obtain ⟨r', s', e, p⟩ := forF_inv (g := g) (b := b) (f := zipF n s.length) (xs := zipD (is.map D.int) ((is.map D.int).drop 1)) FUEL 0 r (s ++ [.lst ((is.map D.int).drop 1)]) P (by
    rw [zip_len]
    exact fuel_big (by omega)) h0 (fun j r' s' p => zf _ (hs _ _ _ p)) (by
    intro j d r' s' hd p
    obtain ⟨h, rfl⟩ := zip_ints hd
    obtain ⟨r1, r2, s2, e1, e2, p2⟩ := step j r' s' h p
    exact ⟨r1, s', r2, s2, e1, e2, p2⟩) (Nat.zero_le _)
  rw [zip_len] at p
  refine ⟨r', s', ?_, p⟩
  unfold zFor
  rw [it, then_ok]
  exact e
theorem meetings_in_ok {l m : List (Int × Int)} (h : Two l m) : ∃ (F : List Rat) (g : S), F.Pairwise (· < ·) ∧ (∀ q, q ∈ F ↔ Meet l m q) ∧ F.length ≤ 200 ∧ ∃ j, D_meetings_in [tbD l, tbD m] [] = .ok (.ref j) g ∧ g[j]? = some (.lst (F.map rd)) := by
  have hK := dys_len h
  have h2 := dys_two h
  rw [r_meetings_in]
  rw [show b_meetings_in = zCons (zPar 2 3 (eCallK 2 D_days_of (aC (eV 0) (aC (eV 1) aN))) (eDNew true)) (zCons (zFor (iZip (eV 2) (eCut (eV 2) (.at (eC (.int 1))) .no)) (gT (gsC (gV 4) (gsC (gV 5) gsN))) mtB) (zRet (eCallK 1 D_sorted_in (aC (eN bListD (aC (eV 3) aN)) aN)))) from rfl]
  have dk := days_of_k h.tl h.tm h.few (s := [])
  simp only [List.length_nil, List.nil_append] at dk
  have z1 : zPar 2 3 (eCallK 2 D_days_of (aC (eV 0) (aC (eV 1) aN))) (eDNew true) [tbD l, tbD m, .undef, .undef, .undef, .undef, .undef, .undef, .undef, .undef, .undef] [] = .nx [tbD l, tbD m, .ref 0, .ref 1, .undef, .undef, .undef, .undef, .undef, .undef, .undef] [.lst ((dys l m).map D.int), .dct true (kq [])] := by
    simp [dk, kq]
  rw [ap_zCons, z1, andThen_nx, ap_zCons]
  obtain ⟨r', s', ef, L, x4, x5, x6, x7, x8, x9, x10, hn, hm, hl, hz, rfl, rfl⟩ := zip_walk (is := dys l m) (by omega) (n := 0) (a := eV 2) (g := gT (gsC (gV 4) (gsC (gV 5) gsN))) (b := mtB) (r := [tbD l, tbD m, .ref 0, .ref 1, .undef, .undef, .undef, .undef, .undef, .undef, .undef]) (s := [.lst ((dys l m).map D.int), .dct true (kq [])]) (fun st => rfl) rfl
    (fun j r s => ∃ (L : List Rat) (x4 x5 x6 x7 x8 x9 x10 : D), L.Nodup ∧ (∀ q, q ∈ L ↔ ∃ k, k < j ∧ ∃ hk : k + 1 < (dys l m).length, q ∈ pts l m (dys l m)[k] (dys l m)[k + 1]) ∧ L.length ≤ 3 * j ∧ (∀ q ∈ L, Bd q 69 60) ∧ r = [tbD l, tbD m, .ref 0, .ref 1, x4, x5, x6, x7, x8, x9, x10] ∧ s = [.lst ((dys l m).map D.int), .dct true (kq L), .lst (((dys l m).map D.int).drop 1)])
    ⟨[], .undef, .undef, .undef, .undef, .undef, .undef, .undef, by simp, by simp, by simp, by simp, rfl, rfl⟩ (by
      rintro j r s ⟨L, _, _, _, _, _, _, _, _, _, _, _, _, rfl⟩
      exact ⟨rfl, rfl⟩) (by
      rintro j r s hj ⟨L, x4, x5, x6, x7, x8, x9, x10, hn, hm, hl, hz, rfl, rfl⟩
      obtain ⟨a0, a1⟩ := dys_bd h (show j < (dys l m).length by omega)
      obtain ⟨b0, b1⟩ := dys_bd h hj
      have i1 := (dys_in (l := l) (m := m) (show j < (dys l m).length by omega)).2
      have i2 := (dys_in (l := l) (m := m) hj).2
      have q1 := hi_l (l := l) (m := m)
      have q2 := hi_m (l := l) (m := m)
      obtain ⟨p1, p2⟩ := pts_sz h hj
      obtain ⟨y8, y9, y10, e⟩ := mtB_ok (x6 := x6) (x7 := x7) (x8 := x8) (x9 := x9) (x10 := x10) h.tl h.tm a0 a1 b0 b1 (by omega) (by omega) (by omega) (by omega) (L := L) (by omega) (o1 := .lst ((dys l m).map D.int)) (o3 := .lst (((dys l m).map D.int).drop 1))
      have al := addQ_len (pts l m (dys l m)[j] (dys l m)[j + 1]) L
      refine ⟨_, _, _, rfl, .inl e, addQ L (pts l m (dys l m)[j] (dys l m)[j + 1]), _, _, _, _, _, _, _, addQ_nodup hn, fun q => ?_, by omega, fun q hq => ?_, rfl, rfl⟩
      · rw [addQ_mem, hm]
        constructor
        · rintro (⟨k, k1, k2, k3⟩ | k3)
          · exact ⟨k, by omega, k2, k3⟩
          · exact ⟨j, by omega, hj, k3⟩
        · rintro ⟨k, k1, k2, k3⟩
          by_cases e : k = j
          · subst e; exact .inr k3
          · exact .inl ⟨k, by omega, k2, k3⟩
      · rcases addQ_mem.mp hq with q3 | q3
        · exact hz q q3
        · exact p1 q q3)
  rw [ef, andThen_nx]
  have hL : L.length ≤ 200 := by omega
  clear ef
  generalize ((dys l m).map D.int).drop 1 = C
  obtain ⟨F, hp, hs, ek⟩ := sorted_in_k (qs := L) (fun q hq => (hz q hq).le (by decide) (by decide)) (by omega) (n := 3) (s := [.lst ((dys l m).map D.int), .dct true (kq L), .lst C, .lst (L.map rd)]) rfl
  refine ⟨F, [.lst ((dys l m).map D.int), .dct true (kq L), .lst C, .lst (L.map rd), .lst (F.map rd)], strict hs (hp.nodup_iff.mpr hn), fun q => ?_, by rw [hp.length_eq]; exact hL, 4, ?_, rfl⟩
  · rw [hp.mem_iff, hm]
    constructor
    · rintro ⟨k, _, k2, k3⟩; exact ⟨k, k2, k3⟩
    · rintro ⟨k, k2, k3⟩; exact ⟨k, by omega, k2, k3⟩
  · have bl : bListD [.ref 1] [.lst ((dys l m).map D.int), .dct true (kq L), .lst C] = .ok (.ref 3) [.lst ((dys l m).map D.int), .dct true (kq L), .lst C, .lst (L.map rd)] := by
      unfold bListD
      simp [kq_keys]
    simp [bl, ek]
theorem meetings_in_k {l m : List (Int × Int)} (h : Two l m) {s : S} : ∃ F : List Rat, F.Pairwise (· < ·) ∧ (∀ q, q ∈ F ↔ Meet l m q) ∧ F.length ≤ 200 ∧ callK D_meetings_in [tbD l, tbD m] s = .ok (.ref s.length) (s ++ [.lst (F.map rd)]) := by
  obtain ⟨F, g, h1, h2, h3, j, e, hj⟩ := meetings_in_ok h
  exact ⟨F, h1, h2, h3, callK_new (by show (D.pureL (l.map prD) && (D.pureL (m.map prD) && true)) = true; rw [tb_pure, tb_pure]; rfl) e hj (rds_pure F)⟩
end YE

/-! YYF: all times at which either has a day or both meet. -/
namespace YE
open Y YN
open PySem (Str PyData)
def flat (l m : List (Int × Int)) : Int → List Int → List Rat
  | a, b :: r => (if opp (gp l m a) (gp l m b) then [cross l m a b] else []) ++ ((b : Rat) :: flat l m b r)
  | _, [] => []
theorem gp_lin {l m : List (Int × Int)} (hl : Tab l) (hm : Tab m) {a b : Int} (hab : a < b) (l0 : (fst l).1 ≤ a) (m0 : (fst m).1 ≤ a) (l1 : b ≤ (lst l).1) (m1 : b ≤ (lst m).1) (hn : ∀ p : Int × Int, p ∈ l ∨ p ∈ m → ¬ ((a : Rat) < p.1 ∧ (p.1 : Rat) < b)) {t : Rat} (h1 : (a : Rat) ≤ t) (h2 : t ≤ b) :
    gp l m t = gp l m a + (gp l m b - gp l m a) * ((t - a) / ((b : Rat) - a)) := by
  have e1 := vIn_lin l a b t hl.ris hl.lo (ratIe.mpr l0) (ratI.mpr hab) (ratIe.mpr l1) (fun p hp => hn p (.inl hp)) h1 h2
  have e2 := vIn_lin m a b t hm.ris hm.lo (ratIe.mpr m0) (ratI.mpr hab) (ratIe.mpr m1) (fun p hp => hn p (.inr hp)) h1 h2
  unfold gp
  rw [e1, e2]
  generalize (t - a) / ((b : Rat) - a) = w
  grind
theorem part_in {x y : Rat} (h : opp x y) : 0 < x / (x - y) ∧ x / (x - y) < 1 := by
  have hne := opp_ne h
  rcases h with ⟨h1, h2⟩ | ⟨h1, h2⟩
  · have e : x / (x - y) = (-x) / (y - x) := by grind
    have hp : 0 < y - x := by grind
    rw [e]
    exact ⟨by rw [Rat.lt_div_iff hp]; grind, by rw [Rat.div_lt_iff hp]; grind⟩
  · have hp : 0 < x - y := by grind
    exact ⟨by rw [Rat.lt_div_iff hp]; grind, by rw [Rat.div_lt_iff hp]; grind⟩
theorem cross_in {l m : List (Int × Int)} {a b : Int} (hab : a < b) (h : opp (gp l m a) (gp l m b)) : (a : Rat) < cross l m a b ∧ cross l m a b < b := by
  obtain ⟨h1, h2⟩ := part_in h
  have hw : (0 : Rat) < (b : Rat) - a := by
    have := ratI.mpr hab
    grind
  unfold cross
  generalize gp l m a / (gp l m a - gp l m b) = w at *
  have p1 : 0 < w * ((b : Rat) - a) := Rat.mul_pos h1 hw
  have p2 : w * ((b : Rat) - a) < 1 * ((b : Rat) - a) := Rat.mul_lt_mul_of_pos_right h2 hw
  exact ⟨by grind, by grind⟩
theorem flat_lo {l m : List (Int × Int)} : ∀ (r : List Int) (a : Int), (a :: r).Pairwise (· < ·) → ∀ q ∈ flat l m a r, (a : Rat) < q
  | [], a, _, q, hq => by cases hq
  | b :: r, a, hr, q, hq => by
    obtain ⟨h1, h2⟩ := List.pairwise_cons.mp hr
    have hab := h1 b List.mem_cons_self
    unfold flat at hq
    rcases List.mem_append.mp hq with hq | hq
    · split at hq
      · rename_i c
        rw [List.mem_singleton] at hq
        subst hq; exact (cross_in hab c).1
      · cases hq
    · rcases List.mem_cons.mp hq with rfl | hq
      · exact ratI.mpr hab
      · have := flat_lo r b h2 q hq
        have := ratI.mpr hab
        grind
theorem flat_asc {l m : List (Int × Int)} : ∀ (r : List Int) (a : Int), (a :: r).Pairwise (· < ·) → ((a : Rat) :: flat l m a r).Pairwise (· < ·)
  | [], a, _ => by simp [flat]
  | b :: r, a, hr => by
    obtain ⟨h1, h2⟩ := List.pairwise_cons.mp hr
    have hab := h1 b List.mem_cons_self
    have ih := flat_asc (l := l) (m := m) r b h2
    rw [List.pairwise_cons]
    refine ⟨flat_lo _ _ hr, ?_⟩
    unfold flat
    rw [List.pairwise_append]
    refine ⟨by split <;> simp, ih, fun x hx y hy => ?_⟩
    split at hx
    · rename_i c
      rw [List.mem_singleton] at hx
      subst hx
      have := (cross_in hab c).2
      rcases List.mem_cons.mp hy with rfl | hy
      · exact this
      · have := flat_lo r b h2 y hy
        grind
    · cases hx
theorem flat_mem {l m : List (Int × Int)} {q : Rat} : ∀ (r : List Int) (a : Int), q ∈ (a : Rat) :: flat l m a r ↔ (∃ d ∈ a :: r, q = (d : Rat)) ∨ ∃ k, ∃ h : k + 1 < (a :: r).length, opp (gp l m (a :: r)[k]) (gp l m (a :: r)[k + 1]) ∧ q = cross l m (a :: r)[k] (a :: r)[k + 1]
  | [], a => by
    constructor
    · intro h
      have : q = a := by simpa [flat] using h
      exact .inl ⟨a, List.mem_cons_self, this⟩
    · rintro (⟨d, hd, rfl⟩ | ⟨k, h, _⟩)
      · have : d = a := by simpa using hd
        subst this; exact List.mem_cons_self
      · simp at h
  | b :: r, a => by
    have ih := flat_mem (l := l) (m := m) (q := q) r b
    constructor
    · intro h
      rcases List.mem_cons.mp h with h | h
      · exact .inl ⟨a, List.mem_cons_self, h⟩
      · unfold flat at h
        rcases List.mem_append.mp h with h | h
        · split at h
          · rename_i c
            rw [List.mem_singleton] at h
            exact .inr ⟨0, by simp, c, h⟩
          · cases h
        · rcases ih.mp h with ⟨d, hd, e⟩ | ⟨k, hk, c, e⟩
          · exact .inl ⟨d, List.mem_cons_of_mem _ hd, e⟩
          · exact .inr ⟨k + 1, by simp at hk ⊢; omega, c, e⟩
    · rintro (⟨d, hd, e⟩ | ⟨k, hk, c, e⟩)
      · rcases List.mem_cons.mp hd with rfl | hd
        · rw [e]; exact List.mem_cons_self
        · refine List.mem_cons_of_mem _ ?_
          unfold flat
          exact List.mem_append_right _ (ih.mpr (.inl ⟨d, hd, e⟩))
      · refine List.mem_cons_of_mem _ ?_
        unfold flat
        cases k with
        | zero =>
          have c : opp (gp l m a) (gp l m b) := c
          rw [if_pos c]
          have e : q = cross l m a b := e
          rw [e]; simp
        | succ k => exact List.mem_append_right _ (ih.mpr (.inr ⟨k, by simp at hk ⊢; omega, c, e⟩))
/-- how long the first has more -/
def lsum (g : Rat → Rat) : List Rat → Rat
  | x :: y :: r => (if 0 < g ((x + y) / 2) then y - x else 0) + lsum g (y :: r)
  | _ => 0
/-- .. in a piece, by its ends -/
def pieceL (x y w : Rat) : Rat := if 0 < x ∧ y < 0 then x / (x - y) * w else if x < 0 ∧ 0 < y then (1 - x / (x - y)) * w else if 0 < x ∨ 0 < y then w else 0
def psum (l m : List (Int × Int)) : List Int → Rat
  | a :: b :: r => pieceL (gp l m a) (gp l m b) (b - a) + psum l m (b :: r)
  | _ => 0
/-- the piece's part of the sum -/
theorem piece_sum {l m : List (Int × Int)} (hl : Tab l) (hm : Tab m) {a b : Int} (hab : a < b) (l0 : (fst l).1 ≤ a) (m0 : (fst m).1 ≤ a) (l1 : b ≤ (lst l).1) (m1 : b ≤ (lst m).1) (hn : ∀ p : Int × Int, p ∈ l ∨ p ∈ m → ¬ ((a : Rat) < p.1 ∧ (p.1 : Rat) < b)) (r : List Rat) :
    lsum (gp l m) ((a : Rat) :: ((if opp (gp l m a) (gp l m b) then [cross l m a b] else []) ++ (b : Rat) :: r)) = pieceL (gp l m a) (gp l m b) (b - a) + lsum (gp l m) ((b : Rat) :: r) := by
  have lin := fun t => gp_lin hl hm hab l0 m0 l1 m1 hn (t := t)
  have hw : (0 : Rat) < (b : Rat) - a := by
    have := ratI.mpr hab
    grind
  by_cases c : opp (gp l m a) (gp l m b)
  · rw [if_pos c]
    obtain ⟨c1, c2⟩ := cross_in hab c
    have e1 := lin (((a : Rat) + cross l m a b) / 2) (by grind) (by grind)
    have e2 := lin ((cross l m a b + b) / 2) (by grind) (by grind)
    have hne := opp_ne c
    show (if 0 < gp l m (((a : Rat) + cross l m a b) / 2) then cross l m a b - a else 0) + ((if 0 < gp l m ((cross l m a b + b) / 2) then (b : Rat) - cross l m a b else 0) + lsum (gp l m) ((b : Rat) :: r)) = _
    rw [e1, e2]
    unfold pieceL
    unfold cross
    generalize gp l m a = x at *
    generalize gp l m b = y at *
    generalize (b : Rat) = B at *
    generalize (a : Rat) = A at *
    have hB : B - A ≠ 0 := by grind
    have f1 : x + (y - x) * (((A + (A + x / (x - y) * (B - A))) / 2 - A) / (B - A)) = x / 2 := by grind
    have f2 : x + (y - x) * (((A + x / (x - y) * (B - A) + B) / 2 - A) / (B - A)) = y / 2 := by grind
    rw [f1, f2]
    rcases c with ⟨x0, y0⟩ | ⟨x0, y0⟩
    · rw [if_neg (by grind), if_pos (by grind), if_neg (by grind), if_pos ⟨x0, y0⟩]
      grind
    · rw [if_pos (by grind), if_neg (by grind), if_pos ⟨x0, y0⟩]
      grind
  · rw [if_neg c]
    have e1 := lin (((a : Rat) + b) / 2) (by grind) (by grind)
    show (if 0 < gp l m (((a : Rat) + b) / 2) then (b : Rat) - a else 0) + lsum (gp l m) ((b : Rat) :: r) = _
    rw [e1]
    unfold pieceL
    generalize gp l m a = x at *
    generalize gp l m b = y at *
    generalize (b : Rat) = B at *
    generalize (a : Rat) = A at *
    have hB : B - A ≠ 0 := by grind
    have f1 : x + (y - x) * (((A + B) / 2 - A) / (B - A)) = (x + y) / 2 := by grind
    rw [f1]
    unfold opp at c
    by_cases x0 : 0 < x <;> by_cases y0 : 0 < y <;> by_cases x1 : x < 0 <;> by_cases y1 : y < 0 <;> simp only [x0, y0, x1, y1, true_and, and_true, false_and, and_false, true_or, or_true, false_or, or_false, not_true, not_false_iff, if_true, if_false] at c ⊢ <;> first | (exfalso; grind) | (rw [if_pos (by grind)]) | (rw [if_neg (by grind)])
end YE

/-! YYG: the share of the time in which one has more. -/
namespace YE
open Y YN
open PySem (Str PyData)
/-- a piece without a day of either inside -/
structure Pc (l m : List (Int × Int)) (a b : Int) : Prop where
  ab : a < b
  l0 : (fst l).1 ≤ a
  m0 : (fst m).1 ≤ a
  l1 : b ≤ (lst l).1
  m1 : b ≤ (lst m).1
  no : ∀ p : Int × Int, p ∈ l ∨ p ∈ m → ¬ ((a : Rat) < p.1 ∧ (p.1 : Rat) < b)
theorem dys_pc {l m : List (Int × Int)} {k : Nat} (hk : k + 1 < (dys l m).length) : Pc l m (dys l m)[k] (dys l m)[k + 1] := by
  have i1 := dys_in (l := l) (m := m) (show k < (dys l m).length by omega)
  have i2 := dys_in (l := l) (m := m) hk
  have h1 := lo_l (l := l) (m := m)
  have h2 := lo_m (l := l) (m := m)
  have h3 := hi_l (l := l) (m := m)
  have h4 := hi_m (l := l) (m := m)
  exact ⟨dys_ris hk, by omega, by omega, by omega, by omega, fun p hp => dys_gap hk hp⟩
theorem lsum_flat {l m : List (Int × Int)} (hl : Tab l) (hm : Tab m) : ∀ (r : List Int) (a : Int), (∀ k (h : k + 1 < (a :: r).length), Pc l m (a :: r)[k] (a :: r)[k + 1]) → lsum (gp l m) ((a : Rat) :: flat l m a r) = psum l m (a :: r)
  | [], a, _ => rfl
  | b :: r, a, h => by
    have p := h 0 (by simp)
    have p : Pc l m a b := p
    have ih := lsum_flat hl hm r b (fun k hk => h (k + 1) (by simp at hk ⊢; omega))
    show lsum (gp l m) ((a : Rat) :: ((if opp (gp l m a) (gp l m b) then [cross l m a b] else []) ++ (b : Rat) :: flat l m b r)) = pieceL (gp l m a) (gp l m b) (b - a) + psum l m (b :: r)
    rw [piece_sum hl hm p.ab p.l0 p.m0 p.l1 p.m1 p.no, ih]
def bt (q : Rat) : Nat := if q.den = 1 then 1 else 60
theorem bt_bd {q : Rat} (h : Bd q 69 60) : Bd q 69 (bt q) := by
  refine ⟨h.1, ?_⟩
  unfold bt
  split
  · rename_i e; rw [e]; decide
  · exact h.2
theorem bt_le (q : Rat) : 1 ≤ bt q ∧ bt q ≤ 60 := by unfold bt; split <;> omega
theorem bt_int (i : Int) : bt (i : Rat) = 1 := by unfold bt; rw [Rat.den_intCast, if_pos rfl]
def bsum : List Rat → Nat
  | x :: y :: r => bt x + bt y + bsum (y :: r)
  | _ => 0
theorem bsum_flat {l m : List (Int × Int)} : ∀ (r : List Int) (a : Int), bsum ((a : Rat) :: flat l m a r) ≤ 122 * r.length
  | [], a => by simp [flat, bsum]
  | b :: r, a => by
    have ih := bsum_flat (l := l) (m := m) r b
    unfold flat
    by_cases c : opp (gp l m a) (gp l m b)
    · rw [if_pos c]
      show bt (a : Rat) + bt (cross l m a b) + (bt (cross l m a b) + bt (b : Rat) + bsum ((b : Rat) :: flat l m b r)) ≤ _
      have := (bt_le (cross l m a b)).2
      rw [bt_int, bt_int, List.length_cons]
      omega
    · rw [if_neg c]
      show bt (a : Rat) + bt (b : Rat) + bsum ((b : Rat) :: flat l m b r) ≤ _
      rw [bt_int, bt_int, List.length_cons]
      omega
/-- a walk over neighbours in a list of the store -/
theorem zip_walkD {xs : List D} (hl : xs.length ≤ 1000) {n : Nat} {a : E} {g : Tg} {b : Sm} {r : Env} {s : S} (ha : ∀ st, a r st = .ok (.ref n) st) (hn : s[n]? = some (.lst xs)) (P : Nat → Env → S → Prop) (h0 : P 0 r (s ++ [.lst (xs.drop 1)]))
    (hs : ∀ j r' s', P j r' s' → s'[n]? = some (.lst xs) ∧ s'[s.length]? = some (.lst (xs.drop 1)))
    (step : ∀ j r' s', (h : j + 1 < xs.length) → P j r' s' → ∃ r1 r2 s2, g (.tup [xs[j]'(by omega), xs[j + 1]]) r' s' = some (r1, s') ∧ (b r1 s' = .nx r2 s2 ∨ b r1 s' = .ct r2 s2) ∧ P (j + 1) r2 s2) :
    ∃ r' s', zFor (iZip a (eCut a (.at (eC (.int 1))) .no)) g b r s = .nx r' s' ∧ P (xs.length - 1) r' s' := by
  have cutE : cutD xs (some 1) none = xs.drop 1 := cut_1
  have zl : (zipD xs (xs.drop 1)).length = xs.length - 1 := by
    unfold zipD
    rw [List.length_zipWith, List.length_drop]
    omega
  have zf : ∀ s', s'[n]? = some (.lst xs) ∧ s'[s.length]? = some (.lst (xs.drop 1)) → zipF n s.length s' = some (zipD xs (xs.drop 1)) := by
    rintro s' ⟨h1, h2⟩
    unfold zipF
    rw [h1, h2]
  have it : iZip a (eCut a (.at (eC (.int 1))) .no) r s = .ok (.dyn (zipF n s.length)) (s ++ [.lst (xs.drop 1)]) := by
    have z := zf _ (hs _ _ _ h0)
    unfold iZip eCut
    rw [ha, bind_ok, ha]
    simp only [Part.run, bind_ok, ap_eC, seqL_ref, hn, lstO_some, cutE, z, Option.isSome_some, if_true]
  obtain ⟨r', s', e, p⟩ := forF_inv (g := g) (b := b) (f := zipF n s.length) (xs := zipD xs (xs.drop 1)) FUEL 0 r (s ++ [.lst (xs.drop 1)]) P (by
    rw [zl]
    exact fuel_big (by omega)) h0 (fun j r' s' p => zf _ (hs _ _ _ p)) (by
    intro j d r' s' hd p
    obtain ⟨x, y, rfl, e1, e2⟩ := zip_get hd
    rw [List.getElem?_drop, Nat.add_comm] at e2
    have h2 := (List.getElem?_eq_some_iff.mp e2).1
    rw [List.getElem?_eq_getElem h2] at e2
    rw [List.getElem?_eq_getElem (show j < xs.length by omega)] at e1
    cases e1; cases e2
    obtain ⟨r1, r2, s2, e1, e2, p2⟩ := step j r' s' h2 p
    exact ⟨r1, s', r2, s2, e1, e2, p2⟩) (Nat.zero_le _)
  rw [zl] at p
  refine ⟨r', s', ?_, p⟩
  unfold zFor
  rw [it, then_ok]
  exact e
def lgB : Sm := (zCons (zSet (gV 7) (eCallK 2 D_share (aC (e2 oAdd (e2 oMul (e2 oIx (eV 5) (eC (.int 0))) (e2 oIx (eV 6) (eC (.int 1)))) (e2 oMul (e2 oIx (eV 6) (eC (.int 0))) (e2 oIx (eV 5) (eC (.int 1))))) (aC (e2 oMul (e2 oMul (eC (.int 2)) (e2 oIx (eV 5) (eC (.int 1)))) (e2 oIx (eV 6) (eC (.int 1)))) aN))))
    (zIf (tst (eCallK 2 D_is_less (aC (eCallK 2 D_value_in (aC (eV 1) (aC (eV 7) aN))) (aC (eCallK 2 D_value_in (aC (eV 0) (aC (eV 7) aN))) aN))))
     (zSet (gV 3) (eCallK 2 D_plus (aC (eV 3) (aC (eCallK 2 D_plus (aC (eV 6) (aC (eTup (aC (e1 oNeg (e2 oIx (eV 5) (eC (.int 0)))) (aC (e2 oIx (eV 5) (eC (.int 1))) aN))) aN))) aN))))
     zNil))
theorem mid_rat (p q : Rat) : (p + q) / 2 = ((p.num * q.den + q.num * p.den : Int) : Rat) / ((2 * (p.den : Int) * (q.den : Int) : Int) : Rat) := by
  have h1 := den_ne p
  have h2 := den_ne q
  have h3 := rat_eq p
  have h4 := rat_eq q
  rw [Rat.intCast_add, Rat.intCast_mul, Rat.intCast_mul, Rat.intCast_mul, Rat.intCast_mul, Rat.intCast_natCast, Rat.intCast_natCast]
  show _ = _ / ((2 : Rat) * _ * _)
  grind
theorem lgB_ok {l m : List (Int × Int)} (hl : Tab l) (hm : Tab m) {x y R : Rat} (hx : Bd x 69 60) (hy : Bd y 69 60) {n e : Nat} (hS : Bd R n e) (he : e + (bt x + bt y) ≤ 8990) (hn : n ≤ 300000) (hxl : x ≤ (lst l).1) (hyl : y ≤ (lst l).1) (hxm : x ≤ (lst m).1) (hym : y ≤ (lst m).1) {v2 v4 x7 x8 x9 : D} {s : Y.S} :
    lgB [tbD l, tbD m, v2, rd R, v4, rd x, rd y, x7, x8, x9] s = .nx [tbD l, tbD m, v2, rd (R + (if 0 < gp l m ((x + y) / 2) then y - x else 0)), v4, rd x, rd y, rd ((x + y) / 2), x8, x9] s := by
  have n1 := natAbs_mul_lt hx.1 (bdn hy)
  have n2 := natAbs_mul_lt hy.1 (bdn hx)
  have n3 := natAbs_add_lt n1 n2
  have n4 : (2 * (x.den : Int)).natAbs < 2 ^ (2 + 60) := natAbs_mul_lt (by decide) (bdn hx)
  have n5 := natAbs_mul_lt n4 (bdn hy)
  have m1 := fun st => mul_pow (i := x.num) (j := (y.den : Int)) (s := st) hx.1 (bdn hy) (by decide)
  have m2 := fun st => mul_pow (i := y.num) (j := (x.den : Int)) (s := st) hy.1 (bdn hx) (by decide)
  have m3 := fun st => v_mul64 (i := 2) (j := (x.den : Int)) (s := st) (by decide)
  have m4 := fun st => mul_pow (i := 2 * (x.den : Int)) (j := (y.den : Int)) (s := st) n4 (bdn hy) (by decide)
  have dp : (0 : Int) < 2 * (x.den : Int) * (y.den : Int) := Int.mul_pos (Int.mul_pos (by decide) (den_pos x)) (den_pos y)
  have s1 := fun st => share_k (s := st) dp n3 (by decide) (b1_pow n5 (by decide))
  have bm := (bd_div dp n3 n5)
  rw [← mid_rat] at s1 bm
  have bm : Tm ((x + y) / 2) := bm.le (by decide) (by decide)
  have v1 := fun st => value_in_k hl bm (s := st) (by grind)
  have v2' := fun st => value_in_k hm bm (s := st) (by grind)
  have lk := fun st => less_k (s := st) (bd_vIn bm m hm.ent hm.ris) (bd_vIn bm l hl.ent hl.ris) (by decide) (by decide)
  have hb := bt_bd hx
  have hb' := bt_bd hy
  have c1 := bt_le x
  have c2 := bt_le y
  have ne : rd (-x) = .tup [.int (-x.num), .int x.den] := rfl
  have p1 := fun st => plus_k (s := st) hb' (bd_neg hb) (by omega) (by omega)
  have bp := bd_add hb' (bd_neg hb)
  rw [show y + -x = y - x by grind] at p1 bp
  rw [ne] at p1
  have p2 := fun st => plus_k (s := st) hS bp (by omega) (by omega)
  generalize hmid : (x + y) / 2 = md at *
  by_cases c : 0 < gp l m md
  · have c' : vIn m md < vIn l md := by unfold gp at c; grind
    rw [show decide (vIn m md < vIn l md) = true by simpa using c'] at lk
    rw [if_pos c]
    unfold lgB
    simp [m1, m2, m3, m4, s1, v1, v2', lk, p1, p2]
  · have c' : ¬ vIn m md < vIn l md := by unfold gp at c; grind
    rw [show decide (vIn m md < vIn l md) = false by simpa using c'] at lk
    rw [if_neg c, show R + 0 = R by grind]
    unfold lgB
    simp [m1, m2, m3, m4, s1, v1, v2', lk]
end YE

/-! YYH: meetings and longer shares, as the program tells them. -/
namespace YE
open Y YN
open PySem (Str PyData)
theorem need_both_k {l m : List (Int × Int)} (h : Two l m) {s : S} : callK D_need_both [tbD l, tbD m] s = .ok .non s := by
  refine callK_val (by show (D.pureL (l.map prD) && (D.pureL (m.map prD) && true)) = true; rw [tb_pure, tb_pure]; rfl) (g := []) ?_ rfl
  rw [r_need_both]
  unfold b_need_both
  have n1 := fun st => need_table_k h.tl (s := st)
  have n2 := fun st => need_table_k h.tm (s := st)
  have a1 := at_fst h.tl
  have a2 := at_lst h.tl
  have a3 := at_fst h.tm
  have a4 := at_lst h.tm
  have hlt := h.lt
  unfold loD hiD at hlt
  have hlt : ¬ (if (lst m).1 < (lst l).1 then (lst m).1 else (lst l).1) ≤ (if (fst m).1 > (fst l).1 then (fst m).1 else (fst l).1) := by omega
  simp only [gt_iff_lt] at hlt
  unfold tbD at *
  simp [n1, n2, a1, a2, a3, a4, prD, hlt]
theorem meetings_k {l m : List (Int × Int)} (h : Two l m) {s : S} : ∃ F : List Rat, F.Pairwise (· < ·) ∧ (∀ q, q ∈ F ↔ Meet l m q) ∧ F.length ≤ 200 ∧ callK D_meetings [tbD l, tbD m] s = .ok (.tup (F.map rd)) s := by
  obtain ⟨F, h1, h2, h3, e⟩ := meetings_in_k h (s := [])
  refine ⟨F, h1, h2, h3, callK_tup (by show (D.pureL (l.map prD) && (D.pureL (m.map prD) && true)) = true; rw [tb_pure, tb_pure]; rfl) (g := [.lst (F.map rd)]) ?_ (rds_pure F)⟩
  rw [r_meetings]
  unfold b_meetings
  have n1 := fun st => need_both_k h (s := st)
  simp only [List.length_nil, List.nil_append] at e
  simp [n1, e]
theorem meetings_uniq {l m : List (Int × Int)} {F G : List Rat} (h1 : F.Pairwise (· < ·)) (h2 : ∀ q, q ∈ F ↔ Meet l m q) (h3 : G.Pairwise (· < ·)) (h4 : ∀ q, q ∈ G ↔ Meet l m q) : F = G := asc_uniq h1 h3 fun q => (h2 q).trans (h4 q).symm
/-- all times -/
def times (l m : List (Int × Int)) : List Rat := match dys l m with
  | a :: r => (a : Rat) :: flat l m a r
  | [] => []
theorem dys_cons {l m : List (Int × Int)} (h : Two l m) : ∃ a r, dys l m = a :: r := by
  have := dys_two h
  match e : dys l m, this with
  | a :: r, _ => exact ⟨a, r, rfl⟩
theorem times_ok {l m : List (Int × Int)} (h : Two l m) : (times l m).Pairwise (· < ·) ∧ (∀ q, q ∈ times l m ↔ (∃ d ∈ dys l m, q = (d : Rat)) ∨ Meet l m q) ∧ lsum (gp l m) (times l m) = psum l m (dys l m) ∧ bsum (times l m) ≤ 7700 ∧ (times l m).length ≤ 300 := by
  obtain ⟨a, r, e⟩ := dys_cons h
  have hK := dys_len h
  have ht : times l m = (a : Rat) :: flat l m a r := by unfold times; rw [e]
  have pw := dys_lt (l := l) (m := m)
  rw [e] at pw hK
  have hlen : ∀ (r : List Int) (a : Int), (flat l m a r).length ≤ 2 * r.length := by
    intro r
    induction r with
    | nil => intro a; simp [flat]
    | cons b r ih =>
      intro a
      have := ih b
      unfold flat
      split <;> simp <;> omega
  rw [ht]
  refine ⟨flat_asc r a pw, fun q => ?_, ?_, ?_, ?_⟩
  · rw [flat_mem]
    constructor
    · rintro (⟨d, hd, rfl⟩ | ⟨k, hk, c, rfl⟩)
      · exact .inl ⟨d, by rw [e]; exact hd, rfl⟩
      · refine .inr ⟨k, by rw [e]; exact hk, ?_⟩
        simp only [e]
        unfold pts
        rw [if_pos c]
        simp
    · rintro (⟨d, hd, rfl⟩ | ⟨k, hk, hq⟩)
      · exact .inl ⟨d, by rw [← e]; exact hd, rfl⟩
      · simp only [e] at hk hq
        unfold pts at hq
        rcases List.mem_append.mp hq with hq | hq
        · split at hq
          · exact .inl ⟨_, List.getElem_mem (show k < (a :: r).length by omega), List.mem_singleton.mp hq⟩
          · cases hq
        · rcases List.mem_append.mp hq with hq | hq
          · split at hq
            · exact .inl ⟨_, List.getElem_mem hk, List.mem_singleton.mp hq⟩
            · cases hq
          · split at hq
            · rename_i c
              exact .inr ⟨k, hk, c, List.mem_singleton.mp hq⟩
            · cases hq
  · rw [lsum_flat h.tl h.tm r a (fun k hk => by
      have := dys_pc (l := l) (m := m) (k := k) (by rw [e]; exact hk)
      simp only [e] at this
      exact this), e]
  · have := bsum_flat (l := l) (m := m) r a
    simp only [List.length_cons] at hK
    omega
  · have := hlen r a
    simp only [List.length_cons] at hK ⊢
    omega
theorem meet_bd {l m : List (Int × Int)} (h : Two l m) {q : Rat} (hq : Meet l m q) : Bd q 69 60 := by
  obtain ⟨k, hk, hq⟩ := hq
  exact (pts_sz h hk).1 q hq
theorem times_bd {l m : List (Int × Int)} (h : Two l m) {q : Rat} (hq : q ∈ times l m) : Bd q 69 60 ∧ q ≤ (hiD l m : Int) := by
  rcases ((times_ok h).2.1 q).mp hq with ⟨d, hd, rfl⟩ | hm
  · obtain ⟨k, hk, rfl⟩ := List.mem_iff_getElem.mp hd
    obtain ⟨a0, a1⟩ := dys_bd h hk
    exact ⟨(bd_int (n := 9) (by omega)).le (by decide) (by decide), ratIe.mpr (dys_in hk).2⟩
  · refine ⟨meet_bd h hm, ?_⟩
    obtain ⟨k, hk, hq⟩ := hm
    have p := dys_pc hk
    have i1 := ratIe.mpr (dys_in (l := l) (m := m) hk).2
    have i2 := ratI.mpr p.ab
    unfold pts at hq
    rcases List.mem_append.mp hq with hq | hq
    · split at hq
      · rw [List.mem_singleton.mp hq]; grind
      · cases hq
    · rcases List.mem_append.mp hq with hq | hq
      · split at hq
        · rw [List.mem_singleton.mp hq]; exact i1
        · cases hq
      · split at hq
        · rename_i c
          have := (cross_in p.ab c).2
          rw [List.mem_singleton.mp hq]; grind
        · cases hq
/-- the share -/
def lgS (l m : List (Int × Int)) : Rat := psum l m (dys l m) / ((hiD l m - loD l m : Int) : Rat)
theorem pairsT_rd : ∀ L : List Rat, pairsT (L.map fun q => .tup [rd q, .bl true]) = some (kq L)
  | [] => rfl
  | q :: L => by
    have ih := pairsT_rd L
    rw [List.map_cons]
    unfold pairsT
    rw [ih]
    rfl
theorem merge_rd : ∀ (ps L : List Rat), mergeD (kq L) (kq ps) = kq (addQ L ps)
  | [], L => rfl
  | p :: ps, L => by
    show mergeD (putD (kq L) (rd p) (.bl true)) (kq ps) = _
    rw [put_rd, merge_rd ps]
    rfl
theorem sum_loop {l m : List (Int × Int)} (h : Two l m) {n : Nat} {s : S} {x5 x6 x7 x8 x9 : D} {v2 : D} (hn : s[n]? = some (.lst ((times l m).map rd))) :
    ∃ x5 x6 x7 e k, e ≤ 7800 ∧ k ≤ 200000 ∧ Bd (psum l m (dys l m)) k e ∧ zFor (iZip (eV 4) (eCut (eV 4) (.at (eC (.int 1))) .no)) (gT (gsC (gV 5) (gsC (gV 6) gsN))) lgB [tbD l, tbD m, v2, rd 0, .ref n, .undef, .undef, .undef, x8, x9] s =
      .nx [tbD l, tbD m, v2, rd (psum l m (dys l m)), .ref n, x5, x6, x7, x8, x9] (s ++ [.lst (((times l m).map rd).drop 1)]) := by
  obtain ⟨t1, t2, t3, t4, t5⟩ := times_ok h
  have tb := fun q hq => times_bd h (q := q) hq
  have q1 := ratIe.mpr (hi_l (l := l) (m := m))
  have q2 := ratIe.mpr (hi_m (l := l) (m := m))
  have hnl := (List.getElem?_eq_some_iff.mp hn).1
  have t0 : 0 < (times l m).length := by
    obtain ⟨a, r, e⟩ := dys_cons h
    unfold times; rw [e]; simp
  generalize hT : times l m = T at *
  have drop_c : ∀ j (hj : j + 1 < T.length), T.drop j = T[j]'(by omega) :: T[j + 1] :: T.drop (j + 2) := by
    intro j hj
    rw [List.drop_eq_getElem_cons (show j < T.length by omega), List.drop_eq_getElem_cons hj]
  obtain ⟨r', s', ef, R, e, k, y5, y6, y7, c1, c2, c3, c4, rfl, rfl⟩ := zip_walkD (xs := T.map rd) (by rw [List.length_map]; omega) (n := n) (a := eV 4) (g := gT (gsC (gV 5) (gsC (gV 6) gsN))) (b := lgB) (r := [tbD l, tbD m, v2, rd 0, .ref n, .undef, .undef, .undef, x8, x9]) (s := s) (fun st => by simp) hn
    (fun j r s' => ∃ (R : Rat) (e k : Nat) (y5 y6 y7 : D), R + lsum (gp l m) (T.drop j) = lsum (gp l m) T ∧ Bd R k e ∧ e + bsum (T.drop j) ≤ 1 + bsum T ∧ (k ≤ 200 + 200 * j + e ∧ e ≤ k) ∧ r = [tbD l, tbD m, v2, rd R, .ref n, y5, y6, y7, x8, x9] ∧ s' = s ++ [.lst ((T.map rd).drop 1)])
    ⟨0, 1, 1, .undef, .undef, .undef, by rw [List.drop_zero]; grind, by unfold Bd; decide, by rw [List.drop_zero]; omega, ⟨by omega, by omega⟩, rfl, rfl⟩ (by
      rintro j r s' ⟨_, _, _, _, _, _, _, _, _, _, _, rfl⟩
      exact ⟨by rw [List.getElem?_append_left hnl]; exact hn, by simp⟩) (by
      rintro j r s' hj ⟨R, e, k, y5, y6, y7, c1, c2, c3, c4, rfl, rfl⟩
      rw [List.length_map] at hj
      have b1 := tb _ (List.getElem_mem (show j < T.length by omega))
      have b2 := tb _ (List.getElem_mem hj)
      have dc := drop_c j hj
      have dc1 : T.drop (j + 1) = T[j + 1] :: T.drop (j + 2) := List.drop_eq_getElem_cons hj
      rw [dc] at c1 c3
      have bs : bsum (T[j]'(by omega) :: T[j + 1] :: T.drop (j + 2)) = bt (T[j]'(by omega)) + bt T[j + 1] + bsum (T[j + 1] :: T.drop (j + 2)) := rfl
      have ls : lsum (gp l m) (T[j]'(by omega) :: T[j + 1] :: T.drop (j + 2)) = (if 0 < gp l m ((T[j]'(by omega) + T[j + 1]) / 2) then T[j + 1] - T[j]'(by omega) else 0) + lsum (gp l m) (T[j + 1] :: T.drop (j + 2)) := rfl
      rw [bs] at c3
      rw [ls] at c1
      have g1 := bt_le (T[j]'(by omega))
      have g2 := bt_le T[j + 1]
      have st := lgB_ok h.tl h.tm b1.1 b2.1 c2 (by omega) (by omega) (by have := b1.2; grind) (by have := b2.2; grind) (by have := b1.2; grind) (by have := b2.2; grind) (v2 := v2) (v4 := .ref n) (x7 := y7) (x8 := x8) (x9 := x9) (s := s ++ [.lst ((T.map rd).drop 1)])
      have w := bd_add (bt_bd b2.1) (bd_neg (bt_bd b1.1))
      rw [show T[j + 1] + -T[j]'(by omega) = T[j + 1] - T[j]'(by omega) by grind] at w
      refine ⟨[tbD l, tbD m, v2, rd R, .ref n, rd (T[j]'(by omega)), rd T[j + 1], y7, x8, x9], _, _, by simp, .inl st, _, e + (bt (T[j]'(by omega)) + bt T[j + 1]), k + 200 + (bt (T[j]'(by omega)) + bt T[j + 1]) , _, _, _, ?_, ?_, ?_, ⟨by omega, by omega⟩, rfl, rfl⟩
      · rw [dc1]; grind
      · split
        · exact (bd_add c2 w).le (by omega) (by omega)
        · rw [show R + 0 = R by grind]
          exact c2.le (by omega) (by omega)
      · rw [dc1]; omega)
  rw [List.length_map] at c1 c3 c4
  have dl : T.drop (T.length - 1) = [T[T.length - 1]'(by omega)] := by
    rw [List.drop_eq_getElem_cons (show T.length - 1 < T.length by omega), List.drop_eq_nil_of_le (by omega)]
  rw [dl] at c1 c3
  have hR : R = psum l m (dys l m) := by
    rw [← t3, ← c1]
    show R = R + 0
    grind
  subst hR
  have b0 : bsum [T[T.length - 1]'(by omega)] = 0 := rfl
  rw [b0] at c3
  exact ⟨y5, y6, y7, e, k, by omega, by omega, c2, ef⟩
end YE

/-! YYI: longer_share, times_with. -/
namespace YE
open Y YN
open PySem (Str PyData)
theorem longer_share_ok {l m : List (Int × Int)} (h : Two l m) : ∃ g, D_longer_share [tbD l, tbD m] [] = .ok (rd (lgS l m)) g := by
  have hK := dys_len h
  have h2 := dys_two h
  obtain ⟨t1, t2, t3, t4, t5⟩ := times_ok h
  rw [r_longer_share]
  rw [show b_longer_share = zCons (zEx (eCallK 2 D_need_both (aC (eV 0) (aC (eV 1) aN)))) (zCons (zPar 2 3 (eCallK 2 D_days_of (aC (eV 0) (aC (eV 1) aN))) (eTup (aC (eC (.int 0)) (aC (eC (.int 1)) aN)))) (zCons (zSet (gV 4) (eCallK 1 D_sorted_in (aC (eN bListD (aC (eN bDictT (aC (eLc (iLst (e2 oAdd (eLc (iLst (eV 2)) (gV 9) tYes (eTup (aC (eV 9) (aC (eC (.int 1)) aN))) [9]) (eCallK 2 D_meetings_in (aC (eV 0) (aC (eV 1) aN))))) (gV 8) tYes (eTup (aC (eV 8) (aC (eC (.bl true)) aN))) [8]) aN)) aN)) aN))) (zCons (zFor (iZip (eV 4) (eCut (eV 4) (.at (eC (.int 1))) .no)) (gT (gsC (gV 5) (gsC (gV 6) gsN))) lgB)
    (zRet (eCallK 2 D_share (aC (e2 oIx (eV 3) (eC (.int 0))) (aC (e2 oMul (e2 oIx (eV 3) (eC (.int 1))) (e2 oSub (e2 oIx (eV 2) (e1 oNeg (eC (.int 1)))) (e2 oIx (eV 2) (eC (.int 0))))) aN))))))) from rfl]
  have dk := days_of_k h.tl h.tm h.few (s := [])
  simp only [List.length_nil, List.nil_append] at dk
  have n1 := need_both_k h (s := [])
  have z0 : zEx (eCallK 2 D_need_both (aC (eV 0) (aC (eV 1) aN))) [tbD l, tbD m, .undef, .undef, .undef, .undef, .undef, .undef, .undef, .undef] [] = .nx [tbD l, tbD m, .undef, .undef, .undef, .undef, .undef, .undef, .undef, .undef] [] := by
    simp [n1]
  have z1 : zPar 2 3 (eCallK 2 D_days_of (aC (eV 0) (aC (eV 1) aN))) (eTup (aC (eC (.int 0)) (aC (eC (.int 1)) aN))) [tbD l, tbD m, .undef, .undef, .undef, .undef, .undef, .undef, .undef, .undef] [] = .nx [tbD l, tbD m, .ref 0, rd 0, .undef, .undef, .undef, .undef, .undef, .undef] [.lst ((dys l m).map D.int)] := by
    rw [show rd 0 = .tup [.int 0, .int 1] from rfl]
    simp [dk]
  rw [ap_zCons, z0, andThen_nx, ap_zCons, z1, andThen_nx, ap_zCons]
  -- the days as times
  have it1 := ap_iLst (a := eV 2) (r := [tbD l, tbD m, .ref 0, rd 0, .undef, .undef, .undef, .undef, .undef, .undef]) (s := [.lst ((dys l m).map D.int)]) (s1 := [.lst ((dys l m).map D.int)]) (n := 0) (xs := (dys l m).map D.int) rfl rfl
  obtain ⟨G1, ec1⟩ := eLc_lst (g := gV 9) (t := tYes) (e := eTup (aC (eV 9) (aC (eC (.int 1)) aN))) (own := [9]) it1 rfl (fun d => [tbD l, tbD m, .ref 0, rd 0, .undef, .undef, .undef, .undef, .undef, d]) (fun _ => true) (fun d => .tup [d, .int 1]) (fun d hd => by
    obtain ⟨i, hi, rfl⟩ := List.mem_map.mp hd
    exact CStep.of (fun s' => rfl) (fun acc G => rfl) (fun _ acc G => by simp)) (by rw [List.length_map]; omega)
  rw [filter_yes, show ((dys l m).map D.int).map (fun d => D.tup [d, .int 1]) = ((dys l m).map fun (i : Int) => (i : Rat)).map rd by rw [List.map_map, List.map_map]; rfl] at ec1
  simp only [List.length_cons, List.length_nil] at ec1
  have c0 : ([O.lst ((dys l m).map D.int)] ++ .lst (((dys l m).map fun (i : Int) => (i : Rat)).map rd) :: G1)[0]? = some (.lst ((dys l m).map D.int)) := rfl
  have c1 : ([O.lst ((dys l m).map D.int)] ++ .lst (((dys l m).map fun (i : Int) => (i : Rat)).map rd) :: G1)[1]? = some (.lst (((dys l m).map fun (i : Int) => (i : Rat)).map rd)) := rfl
  generalize ([O.lst ((dys l m).map D.int)] ++ .lst (((dys l m).map fun (i : Int) => (i : Rat)).map rd) :: G1) = S1 at *
  have c0l := (List.getElem?_eq_some_iff.mp c0).1
  have c1l := (List.getElem?_eq_some_iff.mp c1).1
  -- the meetings behind them
  obtain ⟨F, f1, f2, f3, ef⟩ := meetings_in_k h (s := S1)
  have ad := add_refs (a := 1) (b := S1.length) (xs := ((dys l m).map fun (i : Int) => (i : Rat)).map rd) (ys := F.map rd) (s := S1 ++ [.lst (F.map rd)]) (by rw [List.getElem?_append_left c1l]; exact c1) (by simp) (by simp; omega)
  rw [← List.map_append] at ad
  generalize hA : (dys l m).map (fun (i : Int) => (i : Rat)) ++ F = A at *
  have Al : A.length ≤ 300 := by rw [← hA, List.length_append, List.length_map]; omega
  have Am : ∀ q, q ∈ A ↔ q ∈ times l m := by
    intro q
    rw [t2, ← hA, List.mem_append, List.mem_map, f2]
    constructor
    · rintro (⟨d, hd, rfl⟩ | hq)
      · exact .inl ⟨d, hd, rfl⟩
      · exact .inr hq
    · rintro (⟨d, hd, rfl⟩ | hq)
      · exact .inl ⟨d, hd, rfl⟩
      · exact .inr hq
  generalize hS2 : S1 ++ [.lst (F.map rd)] ++ [O.lst (A.map rd)] = S2 at *
  have d0 : S2[0]? = some (.lst ((dys l m).map D.int)) := by rw [← hS2, List.getElem?_append_left (by simp), List.getElem?_append_left c0l]; exact c0
  have d2 : S2[(S1 ++ [O.lst (F.map rd)]).length]? = some (.lst (A.map rd)) := by rw [← hS2, List.getElem?_concat_length]
  generalize hn2 : (S1 ++ [O.lst (F.map rd)]).length = n2 at *
  have pick : (e2 oAdd (eLc (iLst (eV 2)) (gV 9) tYes (eTup (aC (eV 9) (aC (eC (.int 1)) aN))) [9]) (eCallK 2 D_meetings_in (aC (eV 0) (aC (eV 1) aN)))) [tbD l, tbD m, .ref 0, rd 0, .undef, .undef, .undef, .undef, .undef, .undef] [.lst ((dys l m).map D.int)] = .ok (.ref n2) S2 := by
    rw [ap_e2, ec1, bind_ok]
    simp only [ap_eCallK, ap_aC, eV_tb, eV_succ, ap_aN, bind_ok, nArgs2, ef, ad]
  have it2 := ap_iLst pick d2
  obtain ⟨G2, ec2⟩ := eLc_lst (g := gV 8) (t := tYes) (e := eTup (aC (eV 8) (aC (eC (.bl true)) aN))) (own := [8]) it2 d2 (fun d => [tbD l, tbD m, .ref 0, rd 0, .undef, .undef, .undef, .undef, d, .undef]) (fun _ => true) (fun d => .tup [d, .bl true]) (fun d hd => by
    obtain ⟨q, hq, rfl⟩ := List.mem_map.mp hd
    exact CStep.of (fun s' => rfl) (fun acc G => rfl) (fun _ acc G => by simp)) (by rw [List.length_map]; omega)
  rw [filter_yes, show (A.map rd).map (fun d => D.tup [d, .bl true]) = A.map fun q => .tup [rd q, .bl true] by rw [List.map_map]; rfl] at ec2
  have g0 : (S2 ++ .lst (A.map fun q => .tup [rd q, .bl true]) :: G2)[0]? = some (.lst ((dys l m).map D.int)) := by rw [List.getElem?_append_left (List.getElem?_eq_some_iff.mp d0).1]; exact d0
  have g2 : (S2 ++ .lst (A.map fun q => .tup [rd q, .bl true]) :: G2)[S2.length]? = some (.lst (A.map fun q => .tup [rd q, .bl true])) := by simp
  generalize hS3 : S2 ++ .lst (A.map fun q => .tup [rd q, .bl true]) :: G2 = S3 at *
  have g0l := (List.getElem?_eq_some_iff.mp g0).1
  have bd : bDictT [.ref S2.length] S3 = .ok (.ref S3.length) (S3 ++ [.dct true (kq (addQ [] A))]) := by
    unfold bDictT
    simp only [seqL_ref, g2, lstO_some, pairsT_rd]
    rw [show ([] : List (D × D)) = kq [] from rfl, merge_rd]
  have bl : bListD [.ref S3.length] (S3 ++ [.dct true (kq (addQ [] A))]) = .ok (.ref (S3.length + 1)) (S3 ++ [.dct true (kq (addQ [] A)), .lst ((addQ [] A).map rd)]) := by
    unfold bListD
    simp [kq_keys]
  have nd : (addQ [] A).Nodup := addQ_nodup (by simp)
  have am : ∀ q, q ∈ addQ [] A ↔ q ∈ times l m := fun q => by
    rw [addQ_mem, Am]; simp
  have al := addQ_len A []
  obtain ⟨T, hp, hs, ek⟩ := sorted_in_k (qs := addQ [] A) (fun q hq => (times_bd h ((am q).mp hq)).1.le (by decide) (by decide)) (by simp at al; omega) (n := S3.length + 1) (s := S3 ++ [.dct true (kq (addQ [] A)), .lst ((addQ [] A).map rd)]) (by rw [List.getElem?_append_right (by omega), show S3.length + 1 - S3.length = 1 by omega]; rfl)
  have eT : T = times l m := asc_uniq (strict hs (hp.nodup_iff.mpr nd)) t1 fun q => hp.mem_iff.trans (am q)
  subst eT
  generalize hS4 : S3 ++ [.dct true (kq (addQ [] A)), .lst ((addQ [] A).map rd)] ++ [O.lst ((times l m).map rd)] = S4 at *
  have k0 : S4[0]? = some (.lst ((dys l m).map D.int)) := by rw [← hS4, List.append_assoc, List.getElem?_append_left g0l]; exact g0
  have k2 : S4[(S3 ++ [.dct true (kq (addQ [] A)), O.lst ((addQ [] A).map rd)]).length]? = some (.lst ((times l m).map rd)) := by rw [← hS4]; simp
  generalize hn4 : (S3 ++ [.dct true (kq (addQ [] A)), O.lst ((addQ [] A).map rd)]).length = n4 at *
  have z2 : zSet (gV 4) (eCallK 1 D_sorted_in (aC (eN bListD (aC (eN bDictT (aC (eLc (iLst (e2 oAdd (eLc (iLst (eV 2)) (gV 9) tYes (eTup (aC (eV 9) (aC (eC (.int 1)) aN))) [9]) (eCallK 2 D_meetings_in (aC (eV 0) (aC (eV 1) aN))))) (gV 8) tYes (eTup (aC (eV 8) (aC (eC (.bl true)) aN))) [8]) aN)) aN)) aN)) [tbD l, tbD m, .ref 0, rd 0, .undef, .undef, .undef, .undef, .undef, .undef] [.lst ((dys l m).map D.int)] = .nx [tbD l, tbD m, .ref 0, rd 0, .ref n4, .undef, .undef, .undef, .undef, .undef] S4 := by
    unfold zSet
    simp only [ap_eCallK, ap_aC, ap_eN, ap_aN]
    rw [ec2]
    simp only [bind_ok, bd, bl, nArgs1, ek, then_ok]
    rfl
  rw [z2, andThen_nx, ap_zCons]
  obtain ⟨x5, x6, x7, e, k, he, hk, hb, es⟩ := sum_loop h (v2 := .ref 0) (x5 := .undef) (x6 := .undef) (x7 := .undef) (x8 := .undef) (x9 := .undef) k2
  rw [es, andThen_nx]
  have k0' : (S4 ++ [O.lst (((times l m).map rd).drop 1)])[0]? = some (.lst ((dys l m).map D.int)) := by rw [List.getElem?_append_left (List.getElem?_eq_some_iff.mp k0).1]; exact k0
  generalize S4 ++ [O.lst (((times l m).map rd).drop 1)] = S5 at *
  have i0 : atD ((dys l m).map D.int) 0 = some (.int (loD l m)) := by
    have := atD_nat (xs := (dys l m).map D.int) (k := 0) (d := .int (loD l m)) (by rw [List.getElem?_map, List.getElem?_eq_getElem (show 0 < (dys l m).length by omega), dys_first h (by omega)]; rfl)
    exact this
  have i9 : atD ((dys l m).map D.int) (-1) = some (.int (hiD l m)) := atD_neg1 (by
    rw [List.length_map, List.getElem?_map, List.getElem?_eq_getElem (show (dys l m).length - 1 < (dys l m).length by omega), dys_last h (by omega)]; rfl)
  have wb : hiD l m - loD l m < 512 ∧ 0 < hiD l m - loD l m := by
    have a := (h.tl.ent _ (fst_mem h.tl)).1
    have b := (h.tl.ent _ (lst_memT h.tl)).2.1
    have := lo_l (l := l) (m := m)
    have := hi_l (l := l) (m := m)
    have := h.lt
    omega
  generalize hP : psum l m (dys l m) = P at *
  generalize hW : hiD l m - loD l m = W at *
  have m1 := fun st => v_mul64r (i := (P.den : Int)) (j := W) (s := st) (by omega)
  have f1 : ((P.den : Int) * W).natAbs < 2 ^ (e + 9) := natAbs_mul_lt (bdn hb) (by omega)
  have sk := fun st => share_k (a := P.num) (b := (P.den : Int) * W) (s := st) (Int.mul_pos (den_pos P) wb.2) hb.1 (by omega) (b1_pow f1 (by omega))
  have er : (P.num : Rat) / (((P.den : Int) * W : Int) : Rat) = lgS l m := by
    unfold lgS
    rw [hP, hW]
    have h3 := rat_eq P
    have h1 := den_ne P
    have h5 : (W : Rat) ≠ 0 := by
      intro z
      have := Rat.intCast_eq_zero_iff.mp z
      omega
    rw [Rat.intCast_mul, Rat.intCast_natCast]
    grind
  rw [er] at sk
  refine ⟨S5, ?_⟩
  simp [k0', i0, i9, hW, m1, sk]
theorem longer_share_k {l m : List (Int × Int)} (h : Two l m) {s : S} : callK D_longer_share [tbD l, tbD m] s = .ok (rd (lgS l m)) s := by
  obtain ⟨g, e⟩ := longer_share_ok h
  exact callK_val (by show (D.pureL (l.map prD) && (D.pureL (m.map prD) && true)) = true; rw [tb_pure, tb_pure]; rfl) e rfl
end YE

/-! YYJ: level tables; which pairs of tables are asked. -/
namespace YE
open Y YN
open PySem (Str PyData)
def lev (l : List (Int × Int)) (v : Int) : List (Int × Int) := [((fst l).1, v), ((lst l).1, v)]
theorem fst_lt_lst {l : List (Int × Int)} (hl : Tab l) : (fst l).1 < (lst l).1 := by
  obtain ⟨p, q, r, rfl⟩ := tab_ne hl
  have h1 := (List.pairwise_cons.mp hl.ris).1 q List.mem_cons_self
  have h2 := le_lst hl.ris q (List.mem_cons_of_mem _ List.mem_cons_self)
  show p.1 < _
  omega
theorem lev_tab {l : List (Int × Int)} (hl : Tab l) {v : Int} (h0 : -100000 ≤ v) (h1 : v ≤ 100000) : Tab (lev l v) := by
  have a := hl.ent _ (fst_mem hl)
  have b := hl.ent _ (lst_memT hl)
  refine ⟨by unfold lev; simp, by unfold lev; simp, ?_, ?_⟩
  · intro p hp
    unfold lev at hp
    simp only [List.mem_cons, List.not_mem_nil, or_false] at hp
    rcases hp with rfl | rfl
    · exact ⟨a.1, a.2.1, h0, h1⟩
    · exact ⟨b.1, b.2.1, h0, h1⟩
  · unfold lev
    simp
    exact fst_lt_lst hl
theorem lev_lo {l : List (Int × Int)} (v : Int) : loD l (lev l v) = (fst l).1 := by
  have : (fst (lev l v)).1 = (fst l).1 := rfl
  unfold loD
  rw [this, if_neg (by omega)]
theorem lev_hi {l : List (Int × Int)} (v : Int) : hiD l (lev l v) = (lst l).1 := by
  have : (lst (lev l v)).1 = (lst l).1 := rfl
  unfold hiD
  rw [this, if_neg (by omega)]
theorem lev_two {l : List (Int × Int)} (hl : Tab l) {v : Int} (h0 : -100000 ≤ v) (h1 : v ≤ 100000) (hf : (ddp (allD l (lev l v))).length < 64) : Two l (lev l v) := ⟨hl, lev_tab hl h0 h1, by rw [lev_lo, lev_hi]; exact fst_lt_lst hl, hf⟩
theorem few_of {l m : List (Int × Int)} (h : l.length + m.length ≤ 60) : (ddp (allD l m)).length < 64 := by
  have := ddp_le (allD l m)
  have e : (allD l m).length = l.length + m.length + 2 := by unfold allD; simp; omega
  omega
theorem times_with_k {l : List (Int × Int)} (hl : Tab l) {v : Int} (h0 : -100000 ≤ v) (h1 : v ≤ 100000) (hf : (ddp (allD l (lev l v))).length < 64) {s : S} : ∃ F : List Rat, F.Pairwise (· < ·) ∧ (∀ q, q ∈ F ↔ Meet l (lev l v) q) ∧ F.length ≤ 200 ∧ callK D_times_with [tbD l, .int v] s = .ok (.tup (F.map rd)) s := by
  obtain ⟨F, f1, f2, f3, e⟩ := meetings_in_k (lev_two hl h0 h1 hf) (s := [])
  refine ⟨F, f1, f2, f3, callK_tup (by show (D.pureL (l.map prD) && true) = true; rw [tb_pure]; rfl) (g := [.lst (F.map rd)]) ?_ (rds_pure F)⟩
  rw [r_times_with]
  unfold b_times_with
  have n1 := fun st => need_table_k hl (s := st)
  have n2 := fun st => need_whole_k (i := v) (lo := -100000) (hi := 100000) (s := st) h0 h1
  have a1 := at_fst hl
  have a2 := at_lst hl
  have el : tbD (lev l v) = .tup [.tup [.int (fst l).1, .int v], .tup [.int (lst l).1, .int v]] := rfl
  rw [el] at e
  simp only [List.length_nil, List.nil_append] at e
  unfold tbD at *
  simp [n1, n2, a1, a2, prD, e]
/-- the other way round the meetings are the same -/
theorem lo_comm (l m : List (Int × Int)) : loD m l = loD l m := by unfold loD; split <;> split <;> omega
theorem hi_comm (l m : List (Int × Int)) : hiD m l = hiD l m := by unfold hiD; split <;> split <;> omega
theorem dys_comm (l m : List (Int × Int)) : dys m l = dys l m := by
  have h1 := dys_lt (l := m) (m := l)
  have h2 := dys_lt (l := l) (m := m)
  have key : ∀ {a b : List Int}, a.Pairwise (· < ·) → b.Pairwise (· < ·) → (∀ x, x ∈ a ↔ x ∈ b) → a = b := by
    intro a b ha hb h
    have e1 : a = srt (ddp b) := ddp_uniq h ha
    have e2 : b = srt (ddp b) := ddp_uniq (fun k => Iff.rfl) hb
    rw [e1, ← e2]
  refine key h1 h2 fun x => ?_
  rw [dys_mem, dys_mem, lo_comm, hi_comm]
  unfold allD
  simp only [List.mem_append, lo_comm l m, hi_comm l m]
  constructor
  · rintro ⟨(h | h) | h, r⟩
    · exact ⟨.inl (.inr h), r⟩
    · exact ⟨.inl (.inl h), r⟩
    · exact ⟨.inr h, r⟩
  · rintro ⟨(h | h) | h, r⟩
    · exact ⟨.inl (.inr h), r⟩
    · exact ⟨.inl (.inl h), r⟩
    · exact ⟨.inr h, r⟩
theorem Two.swap {l m : List (Int × Int)} (h : Two l m) (hf : (ddp (allD m l)).length < 64) : Two m l := ⟨h.tm, h.tl, by rw [lo_comm, hi_comm]; exact h.lt, hf⟩
theorem gp_swap (l m : List (Int × Int)) (t : Rat) : gp m l t = - gp l m t := by unfold gp; grind
theorem opp_neg {x y : Rat} : opp (-x) (-y) ↔ opp x y := by
  unfold opp
  constructor
  · rintro (⟨a, b⟩ | ⟨a, b⟩)
    · right; constructor <;> grind
    · left; constructor <;> grind
  · rintro (⟨a, b⟩ | ⟨a, b⟩)
    · right; constructor <;> grind
    · left; constructor <;> grind
theorem cross_swap {l m : List (Int × Int)} {a b : Int} (h : opp (gp l m a) (gp l m b)) : cross m l a b = cross l m a b := by
  have := opp_ne h
  unfold cross
  rw [gp_swap l m, gp_swap l m]
  grind
theorem pts_swap {l m : List (Int × Int)} {a b : Int} {q : Rat} : q ∈ pts m l a b ↔ q ∈ pts l m a b := by
  have e1 : gp m l a = 0 ↔ gp l m a = 0 := by rw [gp_swap l m]; constructor <;> intro h <;> grind
  have e2 : gp m l b = 0 ↔ gp l m b = 0 := by rw [gp_swap l m]; constructor <;> intro h <;> grind
  have e3 : opp (gp m l a) (gp m l b) ↔ opp (gp l m a) (gp l m b) := by rw [gp_swap l m, gp_swap l m]; exact opp_neg
  unfold pts
  by_cases c3 : opp (gp l m a) (gp l m b)
  · simp only [e1, e2, e3, c3, if_true, cross_swap c3]
  · simp only [e1, e2, e3, c3, if_false]
theorem meet_swap {l m : List (Int × Int)} {q : Rat} : Meet m l q ↔ Meet l m q := by
  unfold Meet
  simp only [dys_comm l m]
  constructor
  · rintro ⟨k, h, hq⟩; exact ⟨k, h, pts_swap.mp hq⟩
  · rintro ⟨k, h, hq⟩; exact ⟨k, h, pts_swap.mpr hq⟩
/-- at a meeting both have one value -/
theorem meet_zero {l m : List (Int × Int)} (h : Two l m) {q : Rat} (hq : Meet l m q) : gp l m q = 0 ∧ ((loD l m : Int) : Rat) ≤ q ∧ q ≤ (hiD l m : Int) := by
  obtain ⟨k, hk, hq⟩ := hq
  have p := dys_pc hk
  have i1 := dys_in (l := l) (m := m) (show k < (dys l m).length by omega)
  have i2 := dys_in (l := l) (m := m) hk
  generalize (dys l m)[k]'(by omega) = a at *
  generalize (dys l m)[k + 1] = b at *
  have j1 := ratIe.mpr i1.1
  have j2 := ratIe.mpr i1.2
  have j3 := ratIe.mpr i2.1
  have j4 := ratIe.mpr i2.2
  unfold pts at hq
  rcases List.mem_append.mp hq with hq | hq
  · split at hq
    · rename_i c
      rw [List.mem_singleton.mp hq]; exact ⟨c, j1, j2⟩
    · cases hq
  · rcases List.mem_append.mp hq with hq | hq
    · split at hq
      · rename_i c
        rw [List.mem_singleton.mp hq]; exact ⟨c, j3, j4⟩
      · cases hq
    · split at hq
      · rename_i c
        obtain ⟨c1, c2⟩ := cross_in p.ab c
        rw [List.mem_singleton.mp hq]
        refine ⟨?_, by grind, by grind⟩
        have e := gp_lin h.tl h.tm p.ab p.l0 p.m0 p.l1 p.m1 p.no (Rat.le_of_lt c1) (Rat.le_of_lt c2)
        rw [e]
        have hne := opp_ne c
        have hw : (b : Rat) - a ≠ 0 := by
          have := ratI.mpr p.ab
          grind
        unfold cross
        grind
      · cases hq
end YE

/-! YYK: meetings are small shares. -/
namespace YE
open Y YN
open PySem (Str PyData)
theorem piece_line : ∀ (l : List (Int × Int)) (a b : Rat), l.Pairwise (fun p q => p.1 < q.1) → 2 ≤ l.length → ((fst l).1 : Rat) ≤ a → a < b → b ≤ (lst l).1 → (∀ p ∈ l, ¬ (a < p.1 ∧ (p.1 : Rat) < b)) → ∃ p q, p ∈ l ∧ q ∈ l ∧ p.1 < q.1 ∧ ∀ t, a ≤ t → t ≤ b → vIn l t = line p q t
  | [], _, _, _, h, _, _, _, _ => by simp at h
  | [p], _, _, _, h, _, _, _, _ => by simp at h
  | p :: q :: r, a, b, hr, _, ha, hab, hb, hn => by
    obtain ⟨h1, h2⟩ := List.pairwise_cons.mp hr
    have hpq := h1 q List.mem_cons_self
    by_cases hq : (q.1 : Rat) < b
    · have hqa : (q.1 : Rat) ≤ a := by
        have := hn q (List.mem_cons_of_mem _ List.mem_cons_self)
        grind
      have hl : 2 ≤ (q :: r).length := by
        cases r with
        | nil =>
          have : lst [p, q] = q := rfl
          rw [this] at hb
          grind
        | cons z r => simp
      obtain ⟨u, v, hu, hv, huv, e⟩ := piece_line (q :: r) a b h2 hl hqa hab (by rw [← lst_cons p]; exact hb) (fun z hz => hn z (List.mem_cons_of_mem _ hz))
      refine ⟨u, v, List.mem_cons_of_mem _ hu, List.mem_cons_of_mem _ hv, huv, fun t t1 t2 => ?_⟩
      by_cases hqt : (q.1 : Rat) < t
      · rw [vIn, if_pos hqt]; exact e t t1 t2
      · have e2 : t = q.1 := by grind
        rw [vIn, if_neg hqt, ← e t t1 t2, e2, line_hi hpq, vIn_day h2 hl q List.mem_cons_self]
    · exact ⟨p, q, List.mem_cons_self, List.mem_cons_of_mem _ List.mem_cons_self, hpq, fun t t1 t2 => by rw [vIn, if_neg (by grind)]⟩
theorem den_le {N B : Int} (hB : B ≠ 0) : ((((N : Rat) / (B : Rat)).den : Nat) : Int) ≤ B.natAbs := by
  have key : ∀ {N B : Int}, 0 < B → ((((N : Rat) / (B : Rat)).den : Nat) : Int) ≤ B := by
    intro N B h
    have e := rd_div (a := N) h
    unfold rd at e
    injection e with e
    injection e with e1 e
    injection e with e2 e
    injection e2 with e2
    rw [e2]
    exact Int.ediv_le_self _ (by omega)
  by_cases h : 0 < B
  · have := key (N := N) h; omega
  · have e : (N : Rat) / B = ((-N : Int) : Rat) / ((-B : Int) : Rat) := by
      have : (B : Rat) ≠ 0 := by
        intro h
        have := Rat.intCast_eq_zero_iff.mp h
        omega
      rw [Rat.intCast_neg, Rat.intCast_neg]
      grind
    rw [e]
    have := key (N := -N) (B := -B) (by omega)
    omega
theorem num_le {q : Rat} {c : Int} (h0 : 0 ≤ q) (h1 : q ≤ (c : Rat)) : 0 ≤ q.num ∧ q.num ≤ c * q.den := by
  have e := rat_eq q
  have d := den_pos q
  have d' : (0 : Rat) < (q.den : Rat) := by
    have : ((0 : Int) : Rat) < ((q.den : Int) : Rat) := ratI.mpr d
    rw [Rat.intCast_natCast] at this
    exact this
  refine ⟨Rat.num_nonneg.mpr h0, ?_⟩
  have h2 : q * q.den ≤ (c : Rat) * q.den := Rat.mul_le_mul_of_nonneg_right h1 (Rat.le_of_lt d')
  have h3 : q * q.den = q.num := by grind
  rw [h3] at h2
  have h4 : ((q.num : Int) : Rat) ≤ ((c * q.den : Int) : Rat) := by
    rw [Rat.intCast_mul, Rat.intCast_natCast]; exact h2
  exact ratIe.mp h4
theorem small_mul {x d : Int} (hx : x.natAbs ≤ 2000) (hd : d.natAbs ≤ 366) : (x * d).natAbs ≤ 732000 := by
  rw [Int.natAbs_mul]
  have := Nat.mul_le_mul hx hd
  omega
theorem meet_small {l m : List (Int × Int)} (h : Two l m) (vl : ∀ p ∈ l, -1000 ≤ p.2 ∧ p.2 ≤ 1000) (vm : ∀ p ∈ m, -1000 ≤ p.2 ∧ p.2 ≤ 1000) {q : Rat} (hq : Meet l m q) : q.num.natAbs ≤ 1000000000 ∧ q.den ≤ 1000000000 := by
  obtain ⟨mz, ml, mh⟩ := meet_zero h hq
  have lo0 : (0 : Rat) ≤ q := by
    have a := (h.tl.ent _ (fst_mem h.tl)).1
    have := lo_l (l := l) (m := m)
    have : ((0 : Int) : Rat) ≤ ((loD l m : Int) : Rat) := ratIe.mpr (by omega)
    have z : ((0 : Int) : Rat) = 0 := rfl
    grind
  have hi0 : q ≤ ((366 : Int) : Rat) := by
    have a := (h.tl.ent _ (lst_memT h.tl)).2.1
    have := hi_l (l := l) (m := m)
    have : ((hiD l m : Int) : Rat) ≤ ((366 : Int) : Rat) := ratIe.mpr (by omega)
    grind
  obtain ⟨n0, n1⟩ := num_le lo0 hi0
  have hd : (q.den : Int) ≤ 1464000 := by
    obtain ⟨k, hk, hq⟩ := hq
    have p := dys_pc hk
    obtain ⟨a0, a1⟩ := dys_bd h (show k < (dys l m).length by omega)
    obtain ⟨b0, b1⟩ := dys_bd h hk
    generalize (dys l m)[k]'(by omega) = a at *
    generalize (dys l m)[k + 1] = b at *
    unfold pts at hq
    rcases List.mem_append.mp hq with hq | hq
    · split at hq
      · rw [List.mem_singleton.mp hq, Rat.den_intCast]; decide
      · cases hq
    · rcases List.mem_append.mp hq with hq | hq
      · split at hq
        · rw [List.mem_singleton.mp hq, Rat.den_intCast]; decide
        · cases hq
      · split at hq
        · rename_i c
          have eq := List.mem_singleton.mp hq
          obtain ⟨c1, c2⟩ := cross_in p.ab c
          rw [← eq] at c1 c2
          have hab := ratI.mpr p.ab
          obtain ⟨u, v, hu, hv, huv, e1⟩ := piece_line l a b h.tl.ris h.tl.lo (ratIe.mpr p.l0) hab (ratIe.mpr p.l1) (fun z hz => p.no z (.inl hz))
          obtain ⟨x, y, hx, hy, hxy, e2⟩ := piece_line m a b h.tm.ris h.tm.lo (ratIe.mpr p.m0) hab (ratIe.mpr p.m1) (fun z hz => p.no z (.inr hz))
          have gz := mz
          unfold gp at gz
          rw [e1 q (Rat.le_of_lt c1) (Rat.le_of_lt c2), e2 q (Rat.le_of_lt c1) (Rat.le_of_lt c2)] at gz
          have ga : gp l m a = line u v a - line x y a := by unfold gp; rw [e1 a Rat.le_refl (Rat.le_of_lt hab), e2 a Rat.le_refl (Rat.le_of_lt hab)]
          have gb : gp l m b = line u v b - line x y b := by unfold gp; rw [e1 b (Rat.le_of_lt hab) Rat.le_refl, e2 b (Rat.le_of_lt hab) Rat.le_refl]
          have s1 := sub_ne huv
          have s2 := sub_ne hxy
          have hB : (v.2 - u.2) * (y.1 - x.1) - (y.2 - x.2) * (v.1 - u.1) ≠ 0 := by
            intro z
            have z' : (((v.2 - u.2) * (y.1 - x.1) - (y.2 - x.2) * (v.1 - u.1) : Int) : Rat) = 0 := by rw [z]; rfl
            rw [Rat.intCast_sub, Rat.intCast_mul, Rat.intCast_mul, Rat.intCast_sub, Rat.intCast_sub, Rat.intCast_sub, Rat.intCast_sub] at z'
            have : gp l m a = gp l m b := by
              rw [ga, gb]
              unfold line
              grind
            rw [this] at c
            unfold opp at c
            grind
          have eN : q = (((x.2 - u.2) * ((v.1 - u.1) * (y.1 - x.1)) + (v.2 - u.2) * (y.1 - x.1) * u.1 - (y.2 - x.2) * (v.1 - u.1) * x.1 : Int) : Rat) / (((v.2 - u.2) * (y.1 - x.1) - (y.2 - x.2) * (v.1 - u.1) : Int) : Rat) := by
            have hB' : (((v.2 - u.2) * (y.1 - x.1) - (y.2 - x.2) * (v.1 - u.1) : Int) : Rat) ≠ 0 := fun z => hB (Rat.intCast_eq_zero_iff.mp z)
            simp only [Rat.intCast_sub, Rat.intCast_mul, Rat.intCast_add] at hB' ⊢
            unfold line at gz
            grind
          have dl := den_le (N := (x.2 - u.2) * ((v.1 - u.1) * (y.1 - x.1)) + (v.2 - u.2) * (y.1 - x.1) * u.1 - (y.2 - x.2) * (v.1 - u.1) * x.1) hB
          rw [← eN] at dl
          have eu := h.tl.ent u hu
          have ev := h.tl.ent v hv
          have ex := h.tm.ent x hx
          have ey := h.tm.ent y hy
          have wu := vl u hu
          have wv := vl v hv
          have wx := vm x hx
          have wy := vm y hy
          obtain ⟨eu1, eu2, _, _⟩ := eu
          obtain ⟨ev1, ev2, _, _⟩ := ev
          obtain ⟨ex1, ex2, _, _⟩ := ex
          obtain ⟨ey1, ey2, _, _⟩ := ey
          have t1 := small_mul (x := v.2 - u.2) (d := y.1 - x.1) (by omega) (by omega)
          have t2 := small_mul (x := y.2 - x.2) (d := v.1 - u.1) (by omega) (by omega)
          omega
        · cases hq
  refine ⟨?_, by omega⟩
  have : (366 : Int) * q.den ≤ 366 * 1464000 := by omega
  omega
end YE

/-! YYL: shares of both ways; draws within a comprehension. -/
namespace YE
open Y YN
open PySem (Str PyData)
theorem piece_both {x y w : Rat} (hw : 0 ≤ w) : pieceL x y w + pieceL (-x) (-y) w ≤ w := by
  unfold pieceL
  by_cases x0 : 0 < x <;> by_cases y0 : 0 < y <;> by_cases x1 : x < 0 <;> by_cases y1 : y < 0
  all_goals first | (exfalso; grind) | skip
  · rw [if_neg (by grind), if_neg (by grind), if_pos (by grind), if_neg (by grind), if_neg (by grind), if_neg (by grind)]; grind
  · rw [if_pos (by grind), if_neg (by grind), if_pos (by grind)]
    have : -x / (-x - -y) = x / (x - y) := by
      have : x - y ≠ 0 := by grind
      grind
    rw [this]; grind
  · rw [if_neg (by grind), if_neg (by grind), if_pos (by grind), if_neg (by grind), if_neg (by grind), if_neg (by grind)]; grind
  · rw [if_neg (by grind), if_pos (by grind), if_pos (by grind)]
    have : -x / (-x - -y) = x / (x - y) := by
      have : x - y ≠ 0 := by grind
      grind
    rw [this]; grind
  · rw [if_neg (by grind), if_neg (by grind), if_pos (by grind), if_neg (by grind), if_neg (by grind), if_neg (by grind)]; grind
  · rw [if_neg (by grind), if_neg (by grind), if_neg (by grind), if_neg (by grind), if_neg (by grind), if_pos (by grind)]; grind
  · rw [if_neg (by grind), if_neg (by grind), if_neg (by grind), if_neg (by grind), if_neg (by grind), if_pos (by grind)]; grind
  · rw [if_neg (by grind), if_neg (by grind), if_neg (by grind), if_neg (by grind), if_neg (by grind), if_pos (by grind)]; grind
  · rw [if_neg (by grind), if_neg (by grind), if_neg (by grind), if_neg (by grind), if_neg (by grind), if_neg (by grind)]; grind
theorem psum_both {l m : List (Int × Int)} : ∀ (r : List Int) (a : Int), (a :: r).Pairwise (· < ·) → psum l m (a :: r) + psum m l (a :: r) ≤ (((a :: r).getLastD 0 : Int) : Rat) - a
  | [], a, _ => by
    show (0 : Rat) + 0 ≤ ((a : Int) : Rat) - a
    grind
  | b :: r, a, h => by
    obtain ⟨h1, h2⟩ := List.pairwise_cons.mp h
    have ih := psum_both (l := l) (m := m) r b h2
    have hab := ratI.mpr (h1 b List.mem_cons_self)
    have pb := piece_both (x := gp l m a) (y := gp l m b) (w := (b : Rat) - a) (by grind)
    rw [← gp_swap l m, ← gp_swap l m] at pb
    have e : (a :: b :: r).getLastD 0 = (b :: r).getLastD 0 := by simp [List.getLastD_cons]
    rw [e]
    show pieceL (gp l m a) (gp l m b) (b - a) + psum l m (b :: r) + (pieceL (gp m l a) (gp m l b) (b - a) + psum m l (b :: r)) ≤ _
    grind
theorem lgS_both {l m : List (Int × Int)} (h : Two l m) : lgS l m + lgS m l ≤ 1 := by
  obtain ⟨a, r, e⟩ := dys_cons h
  have pw := dys_lt (l := l) (m := m)
  have hf := dys_first h (by rw [e]; simp)
  have hl := dys_last h (k := r.length) (by rw [e]; simp)
  simp only [e] at hf hl pw
  have hf : a = loD l m := hf
  have hlast : (a :: r).getLastD 0 = hiD l m := by
    rw [← hl, List.getLastD_eq_getLast?, List.getLast?_eq_getElem?]
    simp
  have pb := psum_both (l := l) (m := m) r a pw
  rw [hlast, hf] at pb
  unfold lgS
  rw [dys_comm l m, lo_comm l m, hi_comm l m, e]
  have hw : (0 : Rat) < ((hiD l m - loD l m : Int) : Rat) := by
    have : ((0 : Int) : Rat) < ((hiD l m - loD l m : Int) : Rat) := ratI.mpr (by have := h.lt; omega)
    exact this
  rw [hf]
  have : psum l m (loD l m :: r) / ((hiD l m - loD l m : Int) : Rat) + psum m l (loD l m :: r) / ((hiD l m - loD l m : Int) : Rat) = (psum l m (loD l m :: r) + psum m l (loD l m :: r)) / ((hiD l m - loD l m : Int) : Rat) := by grind
  rw [this, ← Rat.not_lt, Rat.lt_div_iff hw, Rat.not_lt]
  rw [Rat.intCast_sub]
  grind
theorem lgS_self {l : List (Int × Int)} : lgS l l = 0 := by
  have g0 : ∀ t, gp l l t = 0 := fun t => by unfold gp; grind
  have p0 : ∀ w, pieceL 0 0 w = 0 := fun w => by unfold pieceL; rw [if_neg (by grind), if_neg (by grind), if_neg (by grind)]
  have : ∀ (r : List Int), psum l l r = 0 := by
    intro r
    induction r with
    | nil => rfl
    | cons a r ih =>
      cases r with
      | nil => rfl
      | cons b r =>
        show pieceL (gp l l a) (gp l l b) (b - a) + psum l l (b :: r) = 0
        rw [ih, g0, g0, p0]; grind
  unfold lgS
  rw [this]
  grind
/-- some of a tuple, drawn one by one -/
theorem comp_roll {f : Fn} (R : RollOk f) {g : Tg} {t : T} {e : E} {n : Nat} {r : Env} (rr : D → Env) (hg : ∀ d s, g d r s = some (rr d, s)) (he : ∀ d s, d ≠ .undef → e (rr d) s = .ok d s)
    (ht : ∀ d s s' i, callK f [.ref 0, .int 2] s = .ok (.int i) s' → t (rr d) s = .ok (decide (i = 0)) s') : ∀ (xs : List D) (acc : List D) (s : S) (a b : Int), (∀ d ∈ xs, d ≠ .undef) → n ≠ 0 → Cup a b → Cp s a b → s[n]? = some (.lst acc) → acc.length + xs.length ≤ 1000 →
    ∃ ys a' b' s', compM g t e n xs r s = .ok (.ref n) s' ∧ Cup a' b' ∧ Cp s' a' b' ∧ s'[n]? = some (.lst (acc ++ ys)) ∧ ys.Sublist xs ∧ s'.length = s.length ∧ (∀ k o, k ≠ 0 → k ≠ n → s[k]? = some o → s'[k]? = some o)
  | [], acc, s, a, b, _, _, hc, hs, hn, _ => ⟨[], a, b, s, by unfold compM; rfl, hc, hs, by simpa using hn, List.Sublist.slnil, rfl, fun _ _ _ _ h => h⟩
  | x :: xs, acc, s, a, b, hu, hn0, hc, hs, hn, hl => by
    rw [List.length_cons] at hl
    obtain ⟨i, a1, b1, r0, r1, c1, e1⟩ := R hc (m := 2) (by decide) (by decide)
    have e1 := e1 0 s hs
    have hs1 : Cp (s.set 0 (.lst [.int a1, .int b1])) a1 b1 := hs.set
    have hn1 : (s.set 0 (.lst [.int a1, .int b1]))[n]? = some (.lst acc) := by rw [List.getElem?_set_ne (Ne.symm hn0)]; exact hn
    have tt := ht x _ _ _ e1
    unfold compM
    simp only [hg, tt]
    by_cases c : i = 0
    · rw [show decide (i = 0) = true by simpa using c]
      simp only [he x _ (hu x List.mem_cons_self)]
      have hnl := (List.getElem?_eq_some_iff.mp hn1).1
      have ap : appendAt n x (s.set 0 (.lst [.int a1, .int b1])) = some ((s.set 0 (.lst [.int a1, .int b1])).set n (.lst (acc ++ [x]))) := by
        unfold appendAt
        rw [hn1]
        simp only
        rw [if_pos (by unfold LINE; omega)]
      simp only [ap]
      have hs2 : Cp ((s.set 0 (.lst [.int a1, .int b1])).set n (.lst (acc ++ [x]))) a1 b1 := by
        unfold Cp
        rw [List.getElem?_set_ne hn0]; exact hs1
      obtain ⟨ys, a', b', s', q1, q2, q3, q4, q5, q6, q7⟩ := comp_roll R rr hg he ht xs (acc ++ [x]) _ a1 b1 (fun d hd => hu d (List.mem_cons_of_mem _ hd)) hn0 c1 hs2 (List.getElem?_set_self hnl) (by simp; omega)
      refine ⟨x :: ys, a', b', s', q1, q2, q3, by rw [q4]; simp, q5.cons₂ x, by rw [q6]; simp, fun k o k0 kn ho => q7 k o k0 kn ?_⟩
      rw [List.getElem?_set_ne (Ne.symm kn), List.getElem?_set_ne (Ne.symm k0)]; exact ho
    · rw [show decide (i = 0) = false by simpa using c]
      simp only
      obtain ⟨ys, a', b', s', q1, q2, q3, q4, q5, q6, q7⟩ := comp_roll R rr hg he ht xs acc _ a1 b1 (fun d hd => hu d (List.mem_cons_of_mem _ hd)) hn0 c1 hs1 hn1 (by omega)
      refine ⟨ys, a', b', s', q1, q2, q3, q4, q5.cons x, by rw [q6]; simp, fun k o k0 kn ho => q7 k o k0 kn ?_⟩
      rw [List.getElem?_set_ne (Ne.symm k0)]; exact ho
end YE

/-! YZA: tables without the entries on straight lines. -/
namespace YE
open Y YN
open PySem (Str PyData)
def low (c : Int × Int) : List (Int × Int) → List (Int × Int)
  | x :: y :: r => if line c y x.1 = x.2 then low c (y :: r) else x :: low x (y :: r)
  | r => r
def lowT : List (Int × Int) → List (Int × Int)
  | p :: r => p :: low p r
  | [] => []
def lowC (l : List (Int × Int)) (F : List (Int × Int)) (c : Int × Int) (j : Nat) : Prop := F.getLast? = some c ∧ F.length ≤ j + 1 ∧ c ∈ l ∧ (∀ x, l[j + 1]? = some x → c.1 < x.1) ∧ F ++ low c (l.drop (j + 1)) = lowT l
theorem lowC_0 {l : List (Int × Int)} (hl : Tab l) : lowC l [fst l] (fst l) 0 := by
  obtain ⟨p, q, r, rfl⟩ := tab_ne hl
  refine ⟨rfl, by simp, by simp [fst], fun x hx => ?_, rfl⟩
  have : x = q := by simpa using hx.symm
  subst this
  exact (List.pairwise_cons.mp hl.ris).1 _ List.mem_cons_self
theorem lowC_step {l F : List (Int × Int)} {c : Int × Int} {j : Nat} (hl : Tab l) (h : lowC l F c j) (hj : j + 2 < l.length) : lowC l (if line c l[j + 2] l[j + 1].1 = l[j + 1].2 then F else F ++ [l[j + 1]]) (if line c l[j + 2] l[j + 1].1 = l[j + 1].2 then c else l[j + 1]) (j + 1) := by
  obtain ⟨h1, h2, h3, h4, h5⟩ := h
  have d1 : l.drop (j + 1) = l[j + 1] :: l[j + 2] :: l.drop (j + 3) := by
    rw [List.drop_eq_getElem_cons (by omega), List.drop_eq_getElem_cons (by omega)]
  have d2 : l.drop (j + 2) = l[j + 2] :: l.drop (j + 3) := by rw [List.drop_eq_getElem_cons (by omega)]
  have a1 : l[j + 1].1 < l[j + 2].1 := ris_at hl (by omega)
  have a2 := h4 l[j + 1] (List.getElem?_eq_getElem (by omega))
  rw [d1] at h5
  unfold low at h5
  by_cases hc : line c l[j + 2] l[j + 1].1 = l[j + 1].2
  · rw [if_pos hc] at h5
    simp only [hc, if_true]
    refine ⟨h1, by omega, h3, fun x hx => ?_, by rw [show j + 1 + 1 = j + 2 from rfl, d2]; exact h5⟩
    rw [show j + 1 + 1 = j + 2 from rfl, List.getElem?_eq_getElem (by omega)] at hx
    cases hx; omega
  · rw [if_neg hc] at h5
    simp only [hc, if_false]
    refine ⟨by simp, by rw [List.length_append]; simp; omega, List.getElem_mem _, fun x hx => ?_, by rw [show j + 1 + 1 = j + 2 from rfl, d2, List.append_assoc]; exact h5⟩
    rw [show j + 1 + 1 = j + 2 from rfl, List.getElem?_eq_getElem (by omega)] at hx
    cases hx; omega
def lwB : Sm := (zIf (tst (e2 oNe (eCallK 3 D_on_line (aC (e2 oIx (eV 1) (e1 oNeg (eC (.int 1)))) (aC (e2 oIx (eV 0) (e2 oAdd (eV 2) (eC (.int 1)))) (aC (eTup (aC (e2 oIx (e2 oIx (eV 0) (eV 2)) (eC (.int 0))) (aC (eC (.int 1)) aN))) aN)))) (eTup (aC (e2 oIx (e2 oIx (eV 0) (eV 2)) (eC (.int 1))) (aC (eC (.int 1)) aN)))))
     (zEx (eMe isL mApp (eV 1) (aC (e2 oIx (eV 0) (eV 2)) aN)))
     zNil)
theorem last_at {F : List (Int × Int)} {c : Int × Int} (h : F.getLast? = some c) : atD (F.map prD) (-1) = some (prD c) := by
  have hn : F ≠ [] := by rintro rfl; simp at h
  refine atD_neg1 ?_
  rw [List.length_map, List.getElem?_map, ← List.getLast?_eq_getElem?, h]
  rfl
theorem low_step {l F : List (Int × Int)} {c : Int × Int} {j : Nat} (hl : Tab l) (h : lowC l F c j) (hj : j + 2 < l.length) : lwB [tbD l, .ref 0, .int (j + 1)] [.lst (F.map prD)] = .nx [tbD l, .ref 0, .int (j + 1)] [.lst ((if line c l[j + 2] l[j + 1].1 = l[j + 1].2 then F else F ++ [l[j + 1]]).map prD)] := by
  obtain ⟨h1, h2, h3, h4, h5⟩ := h
  have hi := hl.hi
  have i1 := last_at h1
  have i2 : atD (l.map prD) ((j : Int) + 1 + 1) = some (prD l[j + 2]) := ix_tb (by omega) (by omega)
  have i3 : atD (l.map prD) ((j : Int) + 1) = some (prD l[j + 1]) := ix_tb (by omega) (by omega)
  have en1 := ent_at hl (show j + 1 < l.length by omega)
  have en2 := ent_at hl hj
  have a1 : l[j + 1].1 < l[j + 2].1 := ris_at hl (by omega)
  have a2 := h4 l[j + 1] (List.getElem?_eq_getElem (by omega))
  have ol := fun st => on_line_k (s := st) (hl.ent c h3) en2 (by omega) (bd_day en1.1 en1.2.1)
  rw [rd_day] at ol
  have ne := fun st => ne_rd (p := line c l[j + 2] l[j + 1].1) (q := ((l[j + 1].2 : Int) : Rat)) (s := st)
  rw [rd_int] at ne
  have ic : (.int ((j : Int) + 1) : D) = .int (((j + 1 : Nat)) : Int) := by simp
  have tc : (tst (e2 oNe (eCallK 3 D_on_line (aC (e2 oIx (eV 1) (e1 oNeg (eC (.int 1)))) (aC (e2 oIx (eV 0) (e2 oAdd (eV 2) (eC (.int 1)))) (aC (eTup (aC (e2 oIx (e2 oIx (eV 0) (eV 2)) (eC (.int 0))) (aC (eC (.int 1)) aN))) aN)))) (eTup (aC (e2 oIx (e2 oIx (eV 0) (eV 2)) (eC (.int 1))) (aC (eC (.int 1)) aN))))) [tbD l, .ref 0, .int (j + 1)] [.lst (F.map prD)] = .ok (!decide (line c l[j + 2] l[j + 1].1 = l[j + 1].2)) [.lst (F.map prD)] := by
    unfold tbD
    have p3 : prD l[j + 1] = .tup [.int l[j + 1].1, .int l[j + 1].2] := rfl
    simp [i1, i2, i3, p3, ol, ne]
  unfold lwB
  rw [ap_zIf, tc, then_ok]
  by_cases hc : line c l[j + 2] l[j + 1].1 = l[j + 1].2
  · rw [if_neg (by simp [hc])]
    simp only [hc, if_true]
    rfl
  · rw [if_pos (by simp [hc])]
    simp only [hc, if_false]
    have hL : F.length < LINE := by unfold LINE; omega
    unfold tbD
    simp [i3, hL, isL]
theorem lowered_ok {l : List (Int × Int)} (hl : Tab l) : ∃ g, D_lowered [tbD l] [] = .ok (tbD (lowT l)) g := by
  have lo := hl.lo
  have hi := hl.hi
  rw [r_lowered]
  rw [show b_lowered = zCons (zEx (eCallK 1 D_need_table (aC (eV 0) aN))) (zCons (zSet (gV 1) (eLst (aC (e2 oIx (eV 0) (eC (.int 0))) aN))) (zCons (zFor (iRng2 (eC (.int 1)) (e2 oSub (eN bLen (aC (eV 0) aN)) (eC (.int 1)))) (gV 2) lwB) (zRet (eN bTuple (aC (e2 oAdd (eV 1) (eLst (aC (e2 oIx (eV 0) (e1 oNeg (eC (.int 1)))) aN))) aN))))) from rfl]
  have nt := need_table_k hl (s := [])
  have a1 := at_fst hl
  have a2 := at_lst hl
  have ev : ∀ (r : Env) (st : S), eV 0 (tbD l :: r) st = .ok (tbD l) st := fun _ _ => rfl
  have z1 : zEx (eCallK 1 D_need_table (aC (eV 0) aN)) [tbD l, .undef, .undef] [] = .nx [tbD l, .undef, .undef] [] := by simp [ev, nt]
  have z2 : zSet (gV 1) (eLst (aC (e2 oIx (eV 0) (eC (.int 0))) aN)) [tbD l, .undef, .undef] [] = .nx [tbD l, .ref 0, .undef] [.lst ([fst l].map prD)] := by
    unfold tbD
    simp [a1]
  have n1 : (e2 oSub (eN bLen (aC (eV 0) aN)) (eC (.int 1))) [tbD l, .ref 0, .undef] [.lst ([fst l].map prD)] = .ok (.int ((l.length : Int) - 1)) [.lst ([fst l].map prD)] := by
    unfold tbD
    simp
  rw [ap_zCons, z1, andThen_nx, ap_zCons, z2, andThen_nx, ap_zCons, zFor_rng2, ap_eC, then_ok, n1, then_ok, NI_int, NI_int, if_pos (by omega)]
  refine for_out (fun j r s => ∃ F c v, lowC l F c j ∧ r = [tbD l, .ref 0, v] ∧ s = [.lst (F.map prD)]) ⟨_, _, _, lowC_0 hl, rfl, rfl⟩ ?_ ?_
  · rintro j d r s hd ⟨F, c, v, hF, rfl, rfl⟩
    obtain ⟨rfl, hj⟩ := range2_get hd
    have st := low_step hl hF (show j + 2 < l.length by omega)
    refine ⟨_, _, rfl, fun Q hQ => ?_⟩
    rw [show ([tbD l, .ref 0, v].set 2 (.int (1 + (j : Int)))) = [tbD l, .ref 0, .int ((j : Int) + 1)] by rw [Int.add_comm]; rfl, st]
    exact Nx_nx (hQ _ _ ⟨_, _, _, lowC_step hl hF (by omega), rfl, rfl⟩)
  · rintro r s ⟨F, c, v, hF, rfl, rfl⟩
    rw [range2_len] at hF
    obtain ⟨h1, h2, h3, h4, h5⟩ := hF
    have e : ((l.length : Int) - 1 - 1).toNat = l.length - 2 := by omega
    rw [e] at h2 h5
    have ed : l.drop (l.length - 2 + 1) = [lst l] := by
      rw [List.drop_eq_getElem_cons (by omega), List.drop_eq_nil_of_le (by omega)]
      congr 1
      unfold lst
      rw [List.getLastD_eq_getLast?, List.getLast?_eq_getElem?, List.getElem?_eq_getElem (by omega)]
      simp only [Option.getD_some]
      congr 1
      omega
    rw [ed] at h5
    have hL : F.length + 1 ≤ LINE := by unfold LINE; omega
    have ad : oAdd (.ref 0) (.ref 1) [.lst (F.map prD), .lst [prD (lst l)]] = .ok (.ref 2) [.lst (F.map prD), .lst [prD (lst l)], .lst ((lowT l).map prD)] := by
      rw [add_refs (xs := F.map prD) (ys := [prD (lst l)]) rfl rfl (by simp; unfold LINE at hL; omega)]
      have : F.map prD ++ [prD (lst l)] = (lowT l).map prD := by
        rw [← h5, List.map_append]; rfl
      rw [this]; rfl
    refine ⟨[.lst (F.map prD), .lst [prD (lst l)], .lst ((lowT l).map prD)], ?_⟩
    have el : (eLst (aC (e2 oIx (eV 0) (e1 oNeg (eC (.int 1)))) aN)) [tbD l, .ref 0, v] [.lst (F.map prD)] = .ok (.ref 1) [.lst (F.map prD), .lst [prD (lst l)]] := by
      unfold tbD
      simp [a2]
    have : (eN bTuple (aC (e2 oAdd (eV 1) (eLst (aC (e2 oIx (eV 0) (e1 oNeg (eC (.int 1)))) aN))) aN)) [tbD l, .ref 0, v] [.lst (F.map prD)] = .ok (tbD (lowT l)) [.lst (F.map prD), .lst [prD (lst l)], .lst ((lowT l).map prD)] := by
      simp only [ap_eN, ap_aC, ap_aN, ap_e2, eV_succ, eV_ref, bind_ok]
      rw [el, bind_ok, ad, bind_ok, bind_ok]
      simp [tuple_seq, tbD]
    rw [ap_zRet, this]
    rfl
theorem lowered_k {l : List (Int × Int)} (hl : Tab l) {s : S} : callK D_lowered [tbD l] s = .ok (tbD (lowT l)) s := by
  obtain ⟨g, e⟩ := lowered_ok hl
  exact callK_tup (by show (D.pureL (l.map prD) && true) = true; rw [tb_pure]; rfl) e (tb_pure _)
end YE

/-! YZB: tables by formulas, tables moved by one minute, meetings told by a check. -/
namespace YE
open Y YN
open PySem (Str PyData)
/-! given tables -/
def ml (l m : List (Int × Int)) : List Int → List Rat
  | a :: b :: r => pts l m a b ++ ml l m (b :: r)
  | _ => []
theorem ml_mem {l m : List (Int × Int)} {q : Rat} : ∀ K : List Int, q ∈ ml l m K ↔ ∃ k, ∃ h : k + 1 < K.length, q ∈ pts l m K[k] K[k + 1]
  | [] => by simp [ml]
  | [a] => by simp [ml]
  | a :: b :: r => by
    have ih := ml_mem (l := l) (m := m) (q := q) (b :: r)
    show q ∈ pts l m a b ++ ml l m (b :: r) ↔ _
    rw [List.mem_append, ih]
    constructor
    · rintro (h | ⟨k, hk, h⟩)
      · exact ⟨0, by simp, h⟩
      · exact ⟨k + 1, by simp at hk ⊢; omega, h⟩
    · rintro ⟨k, hk, h⟩
      cases k with
      | zero => exact .inl h
      | succ k => exact .inr ⟨k, by simp at hk ⊢; omega, h⟩
theorem meet_ml {l m : List (Int × Int)} {K : List Int} (hK : dys l m = K) {q : Rat} : Meet l m q ↔ q ∈ ml l m K := by
  subst hK
  exact (ml_mem (dys l m)).symm
def ckTab (l : List (Int × Int)) : Bool := decide (2 ≤ l.length) && decide (l.length ≤ 60) && l.all (fun p => decide (0 ≤ p.1 ∧ p.1 ≤ 366 ∧ -100000 ≤ p.2 ∧ p.2 ≤ 100000)) && decide (l.Pairwise fun p q => p.1 < q.1)
theorem tab_ck {l : List (Int × Int)} (h : ckTab l = true) : Tab l := by
  unfold ckTab at h
  simp only [Bool.and_eq_true, decide_eq_true_eq, List.all_eq_true] at h
  exact ⟨h.1.1.1, h.1.1.2, fun p hp => h.1.2 p hp, h.2⟩
def ckM (l m : List (Int × Int)) (K : List Int) (G : List Rat) : Bool := decide (G.Pairwise (· < ·)) && G.all (fun q => decide (q ∈ ml l m K)) && (ml l m K).all fun q => decide (q ∈ G)
theorem meet_ck {l m : List (Int × Int)} {K : List Int} {G F : List Rat} (hK : dys l m = K) (h : ckM l m K G = true) (h1 : F.Pairwise (· < ·)) (h2 : ∀ q, q ∈ F ↔ Meet l m q) : F = G := by
  unfold ckM at h
  simp only [Bool.and_eq_true, decide_eq_true_eq, List.all_eq_true] at h
  refine asc_uniq h1 h.1.1 fun q => ?_
  rw [h2, meet_ml hK]
  exact ⟨fun hq => h.2 q hq, fun hq => h.1.2 q hq⟩
/-! the common days where both have the same days -/
theorem nodup_le {a b : List Int} : a.Nodup → (∀ x ∈ a, x ∈ b) → a.length ≤ b.length := by
  induction a generalizing b with
  | nil => intro _ _; simp
  | cons x a ih =>
    intro hn hs
    obtain ⟨h1, h2⟩ := List.nodup_cons.mp hn
    have := ih (b := b.erase x) h2 fun y hy => (List.mem_erase_of_ne (by rintro rfl; exact h1 hy)).mpr (hs y (List.mem_cons_of_mem _ hy))
    have hl := List.length_erase_of_mem (hs x List.mem_cons_self)
    have : 0 < b.length := List.length_pos_of_mem (hs x List.mem_cons_self)
    rw [List.length_cons]; omega
theorem asc_le {l : List (Int × Int)} (hl : Tab l) : (l.map (·.1)).Pairwise (· < ·) := List.pairwise_map.mpr hl.ris
theorem same_all {l m : List (Int × Int)} (hl : Tab l) (hm : Tab m) (e : m.map (·.1) = l.map (·.1)) {x : Int} : (x ∈ allD l m ∧ loD l m ≤ x ∧ x ≤ hiD l m) ↔ x ∈ l.map (·.1) := by
  have ef : (fst m).1 = (fst l).1 := by
    obtain ⟨p, q, r, rfl⟩ := tab_ne hl
    obtain ⟨p', q', r', rfl⟩ := tab_ne hm
    simp at e
    exact e.1
  have el : (lst m).1 = (lst l).1 := by
    have : ∀ k : List (Int × Int), 2 ≤ k.length → (lst k).1 = (k.map (·.1)).getLastD 0 := fun k hk => by
      unfold lst
      rw [List.getLastD_eq_getLast?, List.getLastD_eq_getLast?, List.getLast?_map]
      cases h : k.getLast? with
      | none => rw [List.getLast?_eq_none_iff] at h; rw [h] at hk; simp at hk
      | some p => rfl
    rw [this m hm.lo, this l hl.lo, e]
  have elo : loD l m = (fst l).1 := by unfold loD; rw [ef]; simp
  have ehi : hiD l m = (lst l).1 := by unfold hiD; rw [el]; simp
  unfold allD
  rw [elo, ehi, e]
  simp only [List.mem_append, List.mem_cons, List.not_mem_nil, or_false]
  constructor
  · rintro ⟨((h | h) | h | h), _⟩
    · exact h
    · exact h
    · rw [h]; exact List.mem_map_of_mem (fst_mem hl)
    · rw [h]; exact List.mem_map_of_mem (lst_memT hl)
  · intro h
    refine ⟨.inl (.inl h), ?_⟩
    obtain ⟨p, hp, rfl⟩ := List.mem_map.mp h
    exact ⟨fst_le hl.ris p hp, le_lst hl.ris p hp⟩
theorem same_days {l m : List (Int × Int)} (hl : Tab l) (hm : Tab m) (e : m.map (·.1) = l.map (·.1)) : dys l m = l.map (·.1) := by
  refine sorted_uniq ?_ ((dys_lt).imp fun h => Int.le_of_lt h) ((asc_le hl).imp fun h => Int.le_of_lt h)
  refine (List.perm_ext_iff_of_nodup ((dys_lt).imp fun h => Int.ne_of_lt h) ((asc_le hl).imp fun h => Int.ne_of_lt h)).mpr fun x => ?_
  rw [dys_mem]
  exact same_all hl hm e
theorem same_two {l m : List (Int × Int)} (hl : Tab l) (hm : Tab m) (e : m.map (·.1) = l.map (·.1)) : Two l m := by
  have d := same_days hl hm e
  have lo := hl.lo
  have hi := hl.hi
  have ff := fst_mem hl
  have hh := lst_memT hl
  have a1 := (same_all hl hm e).mpr (List.mem_map_of_mem ff)
  have a2 := (same_all hl hm e).mpr (List.mem_map_of_mem hh)
  refine ⟨hl, hm, by have := fst_lt_lst hl; omega, ?_⟩
  have hn := nodup_le (nodup_ddp (allD l m)) (b := l.map (·.1)) fun x hx => ?_
  · rw [List.length_map] at hn; omega
  · have hx := mem_ddp.mp hx
    refine (same_all hl hm e).mp ⟨hx, ?_⟩
    unfold allD at hx
    rw [e] at hx
    simp only [List.mem_append, List.mem_cons, List.not_mem_nil, or_false] at hx
    rcases hx with (h | h) | h | h
    · exact ((same_all hl hm e).mpr h).2
    · exact ((same_all hl hm e).mpr h).2
    · rw [h]; omega
    · rw [h]; omega
/-- one table moved by one minute -/
def up1 (l : List (Int × Int)) : List (Int × Int) := l.map fun p => (p.1, p.2 + 1)
theorem vIn_up : ∀ {l : List (Int × Int)} {t : Rat}, 2 ≤ l.length → t ≤ (lst l).1 → vIn (up1 l) t = vIn l t + 1
  | [], _, h, _ => by simp at h
  | [p], _, h, _ => by simp at h
  | p :: q :: r, t, _, hl => by
    show (if (q.1 : Rat) < t then vIn (up1 (q :: r)) t else line (p.1, p.2 + 1) (q.1, q.2 + 1) t) = (if (q.1 : Rat) < t then vIn (q :: r) t else line p q t) + 1
    rw [lst_cons] at hl
    by_cases h : (q.1 : Rat) < t
    · rw [if_pos h, if_pos h]
      cases r with
      | nil =>
        have : (lst [q]).1 = q.1 := rfl
        rw [this] at hl
        grind
      | cons x r => exact vIn_up (by simp) hl
    · rw [if_neg h, if_neg h]
      unfold line
      simp only
      have e : (((q.2 + 1 : Int) : Rat) - ((p.2 + 1 : Int) : Rat)) = (q.2 : Rat) - p.2 := by
        rw [Rat.intCast_add, Rat.intCast_add]; grind
      rw [e, Rat.intCast_add]
      grind
theorem up_days (l : List (Int × Int)) : (up1 l).map (·.1) = l.map (·.1) := by
  unfold up1
  rw [List.map_map]; rfl
theorem fst_up {l : List (Int × Int)} : (fst (up1 l)).1 = (fst l).1 := by
  cases l <;> rfl
theorem lst_up {l : List (Int × Int)} : (lst (up1 l)).1 = (lst l).1 := by
  unfold lst up1
  rw [List.getLastD_eq_getLast?, List.getLastD_eq_getLast?, List.getLast?_map]
  cases l.getLast? <;> rfl
theorem up_tab {l : List (Int × Int)} (hl : Tab l) (h : ∀ p ∈ l, p.2 < 100000) : Tab (up1 l) := by
  refine ⟨by unfold up1; rw [List.length_map]; exact hl.lo, by unfold up1; rw [List.length_map]; exact hl.hi, fun p hp => ?_, ?_⟩
  · unfold up1 at hp
    obtain ⟨q, hq, rfl⟩ := List.mem_map.mp hp
    have e := hl.ent q hq
    have := h q hq
    exact ⟨e.1, e.2.1, by have := e.2.2.1; simp only; omega, by simp only; omega⟩
  · unfold up1
    exact List.pairwise_map.mpr hl.ris
theorem gp_up {l : List (Int × Int)} (hl : Tab l) {t : Rat} (h : t ≤ (lst l).1) : gp (up1 l) l t = 1 := by
  unfold gp
  rw [vIn_up hl.lo h]
  grind
theorem gp_self (l : List (Int × Int)) (t : Rat) : gp l l t = 0 := by unfold gp; grind
theorem day_le {l m : List (Int × Int)} {d : Int} (h : d ∈ dys m l) : (d : Rat) ≤ (lst l).1 := by
  have := (dys_mem.mp h).2.2
  have h2 := hi_m (l := m) (m := l)
  exact ratIe.mpr (by omega)
/-- the table moved up has more everywhere -/
theorem up_meet {l : List (Int × Int)} (hl : Tab l) {q : Rat} : ¬ Meet (up1 l) l q := by
  rintro ⟨k, hk, h⟩
  have g1 := gp_up hl (day_le (List.getElem_mem (show k < (dys (up1 l) l).length by omega)))
  have g2 := gp_up hl (day_le (List.getElem_mem (show k + 1 < (dys (up1 l) l).length from hk)))
  unfold pts at h
  rw [g1, g2, if_neg (by decide), if_neg (by decide), if_neg (by decide)] at h
  simp at h
theorem psum_up {l : List (Int × Int)} (hl : Tab l) : ∀ K : List Int, (∀ d ∈ K, d ∈ dys (up1 l) l) → ∀ (a : Int) (r : List Int), K = a :: r → psum (up1 l) l K = (((a :: r).getLastD 0 : Int) : Rat) - a
  | [], _, a, r, e => by cases e
  | [x], _, a, r, e => by
    cases e
    show (0 : Rat) = ((x : Int) : Rat) - x
    grind
  | x :: y :: k, h, a, r, e => by
    cases e
    have ih := psum_up hl (y :: k) (fun d hd => h d (List.mem_cons_of_mem _ hd)) y k rfl
    have g1 := gp_up hl (day_le (h x (by simp)))
    have g2 := gp_up hl (day_le (h y (by simp)))
    have e2 : (x :: y :: k).getLastD 0 = (y :: k).getLastD 0 := by simp
    rw [e2]
    show pieceL (gp (up1 l) l x) (gp (up1 l) l y) (y - x) + psum (up1 l) l (y :: k) = _
    rw [ih, g1, g2]
    unfold pieceL
    rw [if_neg (by decide), if_neg (by decide), if_pos (by decide)]
    grind
theorem up_share {l : List (Int × Int)} (hl : Tab l) (h2 : Two (up1 l) l) : lgS (up1 l) l = 1 := by
  unfold lgS
  obtain ⟨a, r, e⟩ := dys_cons h2
  have ps := psum_up hl _ (fun d hd => hd) a r e
  have h0 : 0 < (dys (up1 l) l).length := by rw [e]; simp
  have f := dys_first h2 h0
  have la := dys_last h2 (k := (dys (up1 l) l).length - 1) (by omega)
  have ef : a = loD (up1 l) l := by rw [← f]; simp [e]
  have el : (a :: r).getLastD 0 = hiD (up1 l) l := by
    rw [← la, List.getLastD_eq_getLast?, ← e, List.getLast?_eq_getElem?, List.getElem?_eq_getElem (by omega)]
    rfl
  rw [ps, el, ef]
  have := ratI.mpr h2.lt
  rw [Rat.intCast_sub]
  have hne : ((hiD (up1 l) l : Int) : Rat) - ((loD (up1 l) l : Int) : Rat) ≠ 0 := by grind
  grind
/-- a table meets itself at all its days -/
theorem self_meet {l : List (Int × Int)} (h2 : Two l l) {q : Rat} : Meet l l q ↔ q ∈ (dys l l).map fun d : Int => (d : Rat) := by
  have hp : ∀ a b : Int, pts l l a b = [(a : Rat), (b : Rat)] := fun a b => by
    unfold pts
    rw [gp_self, gp_self, if_pos rfl, if_pos rfl, if_neg (by decide)]
    rfl
  have two := dys_two h2
  constructor
  · rintro ⟨k, hk, h⟩
    rw [hp] at h
    simp only [List.mem_cons, List.not_mem_nil, or_false] at h
    rcases h with h | h
    · rw [h]; exact List.mem_map_of_mem (f := fun d : Int => (d : Rat)) (List.getElem_mem (show k < (dys l l).length by omega))
    · rw [h]; exact List.mem_map_of_mem (f := fun d : Int => (d : Rat)) (List.getElem_mem hk)
  · intro h
    obtain ⟨d, hd, rfl⟩ := List.mem_map.mp h
    obtain ⟨k, hk, rfl⟩ := List.mem_iff_getElem.mp hd
    by_cases hk1 : k + 1 < (dys l l).length
    · exact ⟨k, hk1, by rw [hp]; simp⟩
    · refine ⟨k - 1, by omega, ?_⟩
      rw [hp]
      have : k - 1 + 1 = k := by omega
      simp [this]
theorem self_list {l : List (Int × Int)} (hl : Tab l) (h2 : Two l l) {F : List Rat} (h1 : F.Pairwise (· < ·)) (hF : ∀ q, q ∈ F ↔ Meet l l q) : F = (l.map (·.1)).map fun d : Int => (d : Rat) := by
  have e := same_days hl hl rfl
  refine asc_uniq h1 (List.pairwise_map.mpr ((asc_le hl).imp fun h => ratI.mpr h)) fun q => ?_
  rw [hF, self_meet h2, e]
/-- the area from day to day -/
theorem ar_next {l : List (Int × Int)} (hl : Tab l) {j : Nat} (hj : j + 1 < l.length) : ar l l[j + 1].1 = ar l l[j].1 + ((l[j].2 : Rat) + l[j + 1].2) * ((l[j + 1].1 : Rat) - l[j].1) / 2 := by
  have m1 : l[j] ∈ l := List.getElem_mem _
  have m2 : l[j + 1] ∈ l := List.getElem_mem _
  have r1 := ris_at hl hj
  have t := trap l (l[j].1 : Rat) (l[j + 1].1 : Rat) hl.ris hl.lo (ratIe.mpr (fst_le hl.ris _ m1)) (ratIe.mpr (by omega)) (ratIe.mpr (le_lst hl.ris _ m2)) (by
    rintro p hp ⟨h1, h2⟩
    rw [ratI] at h1 h2
    obtain ⟨k, hk, rfl⟩ := List.mem_iff_getElem.mp hp
    have pw := List.pairwise_iff_getElem.mp hl.ris
    rcases Nat.lt_or_ge k (j + 1) with c | c
    · rcases Nat.lt_or_ge k j with c2 | c2
      · have := pw k j hk (by omega) c2; omega
      · have : k = j := by omega
        subst this; omega
    · rcases Nat.lt_or_ge (j + 1) k with c2 | c2
      · have := pw (j + 1) k (by omega) hk c2; omega
      · have : k = j + 1 := by omega
        subst this; omega)
  rw [vIn_day hl.ris hl.lo _ m1, vIn_day hl.ris hl.lo _ m2] at t
  grind
theorem ar_fst {l : List (Int × Int)} (hl : Tab l) : ar l (fst l).1 = 0 := by
  obtain ⟨p, q, r, rfl⟩ := tab_ne hl
  exact ar_head ((List.pairwise_cons.mp hl.ris).1 q List.mem_cons_self)
theorem rds_plain : ∀ F : List Rat, plainL (F.map rd) = true ∧ depL (F.map rd) ≤ 1
  | [] => ⟨rfl, by decide⟩
  | q :: F => by
    obtain ⟨a, b⟩ := rds_plain F
    refine ⟨by show (plainD (rd q) && plainL (F.map rd)) = true; rw [a, rd_plain]; rfl, ?_⟩
    show max (dep (rd q)) (depL (F.map rd)) ≤ 1
    rw [rd_dep]; omega
end YE

namespace K84
open Y
open PySem (Str)
abbrev b_fits_whole : Sm := YN.b_fits_whole
abbrev D_fits_whole : Fn := YN.D_fits_whole
abbrev b_is_tuple_of : Sm := YN.b_is_tuple_of
abbrev D_is_tuple_of : Fn := YN.D_is_tuple_of
abbrev b_divisor_in : Sm := YN.b_divisor_in
abbrev D_divisor_in : Fn := YN.D_divisor_in
abbrev b_fits_table : Sm := YN.b_fits_table
abbrev D_fits_table : Fn := YN.D_fits_table
abbrev b_need_table : Sm := YN.b_need_table
abbrev D_need_table : Fn := YN.D_need_table
abbrev b_fits_share : Sm := YN.b_fits_share
abbrev D_fits_share : Fn := YN.D_fits_share
abbrev b_share : Sm := YN.b_share
abbrev D_share : Fn := YN.D_share
abbrev b_plus : Sm := YN.b_plus
abbrev D_plus : Fn := YN.D_plus
abbrev b_is_less : Sm := YN.b_is_less
abbrev D_is_less : Fn := YN.D_is_less
abbrev b_need_day : Sm := YN.b_need_day
abbrev D_need_day : Fn := YN.D_need_day
abbrev b_need_span : Sm := YN.b_need_span
abbrev D_need_span : Fn := YN.D_need_span
abbrev b_on_line : Sm := YN.b_on_line
abbrev D_on_line : Fn := YN.D_on_line
abbrev b_value_in : Sm := YN.b_value_in
abbrev D_value_in : Fn := YN.D_value_in
abbrev b_knots_in : Sm := YN.b_knots_in
abbrev D_knots_in : Fn := YN.D_knots_in
abbrev b_area_in : Sm := YN.b_area_in
abbrev D_area_in : Fn := YN.D_area_in
abbrev b_days_of : Sm := YN.b_days_of
abbrev D_days_of : Fn := YN.D_days_of
abbrev b_need_both : Sm := YN.b_need_both
abbrev D_need_both : Fn := YN.D_need_both
abbrev b_sorted_in : Sm := YN.b_sorted_in
abbrev D_sorted_in : Fn := YN.D_sorted_in
abbrev b_meetings_in : Sm := YN.b_meetings_in
abbrev D_meetings_in : Fn := YN.D_meetings_in
abbrev b_value_at : Sm := YN.b_value_at
abbrev D_value_at : Fn := YN.D_value_at
abbrev b_summed : Sm := YN.b_summed
abbrev D_summed : Fn := YN.D_summed
abbrev b_mean : Sm := YN.b_mean
abbrev D_mean : Fn := YN.D_mean
abbrev b_meetings : Sm := YN.b_meetings
abbrev D_meetings : Fn := YN.D_meetings
abbrev b_longer_share : Sm := YN.b_longer_share
abbrev D_longer_share : Fn := YN.D_longer_share
abbrev b_lowered : Sm := YN.b_lowered
abbrev D_lowered : Fn := YN.D_lowered
abbrev b__law_cup : Sm := YN.b__law_cup 1249 1807 10283 2077510523 1181
abbrev D__law_cup : Fn := YN.D__law_cup 1249 1807 10283 2077510523 1181
abbrev b__law_roll : Sm := YN.b__law_roll 37993 12557 1745 2225
abbrev D__law_roll : Fn := YN.D__law_roll 37993 12557 1745 2225
abbrev b__law_same : Fn → Sm := YN.b__law_same
abbrev D__law_same : Nat → Fn := YN.D__law_same
abbrev b__law_share : Sm := YN.b__law_share
abbrev D__law_share : Fn := YN.D__law_share
abbrev b__law_plus : Sm := YN.b__law_plus
abbrev D__law_plus : Fn := YN.D__law_plus
abbrev b__law_minus : Sm := YN.b__law_minus
abbrev D__law_minus : Fn := YN.D__law_minus
abbrev b__law_times : Sm := YN.b__law_times
abbrev D__law_times : Fn := YN.D__law_times
abbrev b__law_less : Sm := YN.b__law_less
abbrev D__law_less : Fn := YN.D__law_less
abbrev b__law_value : Sm := YN.b__law_value
abbrev D__law_value : Fn := YN.D__law_value
def b_law : Sm :=
  (zCons (zSet (gV 1) (eCallK 1 D__law_cup (aC (eV 0) aN)))
    (zCons (zSet (gT (gsC (gV 2) (gsC (gV 3) gsN))) (eTup (aC (e2 oMul (eC (.int 2)) (e2 oAdd (eC (.int 1)) (eCallK 2 D__law_roll (aC (eV 1) (aC (eC (.int 500)) aN))))) (aC (e2 oAdd (eC (.int 1)) (eCallK 2 D__law_roll (aC (eV 1) (aC (eC (.int 6)) aN)))) aN))))
    (zCons (zSet (gV 4) (eLc (iRng1 (eC (.int 30))) (gV 19) tYes (eTup (aC (e2 oMul (eV 3) (eV 19)) (aC (e2 oMul (eV 2) (eV 19)) aN))) [19]))
    (zCons (zSet (gV 5) (eLc (iRng1 (eC (.int 30))) (gV 19) tYes (eTup (aC (e2 oMul (eV 3) (e2 oAdd (eC (.int 30)) (eV 19))) (aC (e2 oMul (eV 2) (e2 oSub (eC (.int 29)) (eV 19))) aN))) [19]))
    (zCons (zSet (gV 6) (eN bTuple (aC (e2 oAdd (eV 4) (eV 5)) aN)))
    (zCons (zSet (gV 7) (e2 oMul (eV 3) (eC (.int 59))))
    (zCons (zSet (gV 8) (e2 oMul (eV 2) (eC (.int 29))))
    (zCons (zSet (gV 9) (e2 oAdd (e2 oMul (eC (.int 2)) (e2 oDiv (e2 oMul (e2 oMul (e2 oMul (eV 2) (eC (.int 29))) (eC (.int 29))) (eV 3)) (eC (.int 2)))) (e2 oMul (eV 8) (eV 3))))
    (zCons (zIf (tNot (tst (eCallK 2 (D__law_same 10) (aC (eTup (aC (eCallK 3 D_summed (aC (eV 6) (aC (eTup (aC (eC (.int 0)) (aC (eC (.int 1)) aN))) (aC (eTup (aC (eV 7) (aC (eC (.int 1)) aN))) aN)))) (aC (eCallK 3 D_mean (aC (eV 6) (aC (eTup (aC (eC (.int 0)) (aC (eC (.int 1)) aN))) (aC (eTup (aC (eV 7) (aC (eC (.int 1)) aN))) aN)))) aN))) (aC (eTup (aC (eTup (aC (eV 9) (aC (eC (.int 1)) aN))) (aC (eCallK 2 D__law_share (aC (eV 9) (aC (eV 7) aN))) aN))) aN)))))
     (zRet (eC (.bl false)))
     zNil)
    (zCons (zIf (tNot (tst (eCallK 2 (D__law_same 10) (aC (eCallK 1 D_lowered (aC (eV 6) aN)) (aC (eTup (aC (eTup (aC (eC (.int 0)) (aC (eC (.int 0)) aN))) (aC (eTup (aC (e2 oMul (eC (.int 29)) (eV 3)) (aC (eV 8) aN))) (aC (eTup (aC (e2 oMul (eC (.int 30)) (eV 3)) (aC (eV 8) aN))) (aC (eTup (aC (eV 7) (aC (eC (.int 0)) aN))) aN))))) aN)))))
     (zRet (eC (.bl false)))
     zNil)
    (zCons (zSet (gV 10) (eN bTuple (aC (e1 oRev (eLc (iTup (eV 6)) (gT (gsC (gV 20) (gsC (gV 21) gsN))) tYes (eTup (aC (e2 oSub (eV 7) (eV 20)) (aC (eV 21) aN))) [20, 21])) aN)))
    (zCons (zIf (tNot (tst (eCallK 2 (D__law_same 10) (aC (eTup (aC (eCallK 2 D_meetings (aC (eV 6) (aC (eV 10) aN))) (aC (eCallK 2 D_longer_share (aC (eV 6) (aC (eV 10) aN))) aN))) (aC (eTup (aC (eN bTuple (aC (eLc (iTup (eV 6)) (gT (gsC (gV 20) (gsC (gV 21) gsN))) tYes (eTup (aC (eV 20) (aC (eC (.int 1)) aN))) [20, 21]) aN)) (aC (eTup (aC (eC (.int 0)) (aC (eC (.int 1)) aN))) aN))) aN)))))
     (zRet (eC (.bl false)))
     zNil)
    (zCons (zSet (gV 11) (e2 oAdd (e2 oPow (eC (.int 10)) (eC (.int 6))) (eCallK 2 D__law_roll (aC (eV 1) (aC (e2 oPow (eC (.int 10)) (eC (.int 6))) aN)))))
    (zCons (zSet (gV 12) (e2 oAdd (eC (.int 1)) (eCallK 2 D__law_roll (aC (eV 1) (aC (e2 oSub (e2 oMul (eV 11) (eV 7)) (eC (.int 1))) aN)))))
    (zCons (zSet (gV 13) (eCallK 2 D__law_share (aC (eV 12) (aC (eV 11) aN))))
    (zCons (zSet (gV 14) (eN bTuple (aC (eLc (iTup (eV 6)) (gT (gsC (gV 20) (gsC (gV 21) gsN))) tYes (eTup (aC (eV 20) (aC (e2 oAdd (eV 21) (eC (.int 1))) aN))) [20, 21]) aN)))
    (zCons (zIf (tst (e2 oLe (e2 oIx (eV 13) (eC (.int 0))) (e2 oPow (eC (.int 10)) (eC (.int 9)))))
     (zCons (zIf (tNot (tst (eCallK 2 (D__law_same 10) (aC (eTup (aC (eCallK 2 D_value_at (aC (eV 6) (aC (eV 13) aN))) (aC (eCallK 2 D_value_at (aC (eV 14) (aC (eV 13) aN))) aN))) (aC (eTup (aC (eCallK 2 D__law_value (aC (eV 6) (aC (eV 13) aN))) (aC (eCallK 2 D__law_plus (aC (eCallK 2 D__law_value (aC (eV 6) (aC (eV 13) aN))) (aC (eTup (aC (eC (.int 1)) (aC (eC (.int 1)) aN))) aN))) aN))) aN)))))
     (zRet (eC (.bl false)))
     zNil)
    (zCons (zSet (gV 15) (eCallK 2 D__law_plus (aC (eCallK 3 D_summed (aC (eV 6) (aC (eTup (aC (eC (.int 0)) (aC (eC (.int 1)) aN))) (aC (eV 13) aN)))) (aC (eCallK 3 D_summed (aC (eV 6) (aC (eV 13) (aC (eTup (aC (eV 7) (aC (eC (.int 1)) aN))) aN)))) aN))))
    (zIf (tOr (tst (e2 oNe (eV 15) (eTup (aC (eV 9) (aC (eC (.int 1)) aN))))) (tOr (tst (e2 oNe (eCallK 2 D_longer_share (aC (eV 14) (aC (eV 6) aN))) (eTup (aC (eC (.int 1)) (aC (eC (.int 1)) aN))))) (tst (e2 oNe (eCallK 2 D_meetings (aC (eV 14) (aC (eV 6) aN))) (eTup aN)))))
     (zRet (eC (.bl false)))
     zNil)))
     zNil)
    (zCons (zSet (gV 16) (eN bTuple (aC (eLc (iRngS (eC (.int 0)) (eC (.int 240)) 4) (gV 20) tYes (eTup (aC (eV 20) (aC (e2 oMul (eV 20) (eV 20)) aN))) [20]) aN)))
    (zCons (zSet (gV 17) (eN bTuple (aC (eLc (iRngS (eC (.int 0)) (eC (.int 240)) 4) (gV 20) tYes (eTup (aC (eV 20) (aC (e2 oSub (eC (.int 50000)) (e2 oMul (eV 20) (eV 20))) aN))) [20]) aN)))
    (zCons (zSet (gV 18) (eCallK 2 D_meetings (aC (eV 16) (aC (eV 17) aN))))
    (zRet (eAnd (e2 oEq (eN bLen (aC (eV 18) aN)) (eC (.int 1))) (eAnd (e2 oEq (eCallK 2 D_value_at (aC (eV 16) (aC (e2 oIx (eV 18) (eC (.int 0))) aN))) (eTup (aC (eC (.int 25000)) (aC (eC (.int 1)) aN)))) (e2 oEq (eCallK 2 D_longer_share (aC (eV 17) (aC (eV 16) aN))) (eCallK 2 D__law_share (aC (e2 oIx (e2 oIx (eV 18) (eC (.int 0))) (eC (.int 0))) (aC (e2 oMul (e2 oIx (e2 oIx (eV 18) (eC (.int 0))) (eC (.int 1))) (eC (.int 236))) aN)))))))))))))))))))))))))))
def D_law : Fn := mkFn 22 1 b_law
theorem r_law {a0 : D} {s : S} : D_law [a0] s = (b_law [a0, .undef, .undef, .undef, .undef, .undef, .undef, .undef, .undef, .undef, .undef, .undef, .undef, .undef, .undef, .undef, .undef, .undef, .undef, .undef, .undef, .undef] s).out := ap_mkFn rfl
end K84

namespace K84
open Y YN YE
open PySem (Str PyData)
/-! the table of the law -/
def ent (h w : Int) (k : Nat) : Int × Int := (w * k, h * (if k < 30 then (k : Int) else 59 - k))
def tbl (h w : Int) : List (Int × Int) := (List.range 60).map (ent h w)
structure Sz (h w : Int) : Prop where
  h0 : 2 ≤ h
  h1 : h ≤ 1000
  w0 : 1 ≤ w
  w1 : w ≤ 6
  ev : ∃ i, h = 2 * i
variable {h w : Int}
theorem tbl_at {k : Nat} (hk : k < (tbl h w).length) : (tbl h w)[k] = ent h w k := by
  have hk' : k < 60 := by unfold tbl at hk; simpa using hk
  have : (tbl h w)[k]? = some (ent h w k) := by
    unfold tbl
    rw [List.getElem?_map, List.getElem?_range hk']
    rfl
  exact (List.getElem?_eq_some_iff.mp this).2
theorem tbl_len : (tbl h w).length = 60 := by unfold tbl; simp
theorem mul_le {a b c : Int} (h0 : 0 ≤ a) (h : b ≤ c) : a * b ≤ a * c := Int.mul_le_mul_of_nonneg_left h h0
theorem tbl_tab (z : Sz h w) : Tab (tbl h w) := by
  refine ⟨by rw [tbl_len]; decide, by rw [tbl_len]; decide, fun p hp => ?_, ?_⟩
  · unfold tbl at hp
    obtain ⟨k, hk, rfl⟩ := List.mem_map.mp hp
    rw [List.mem_range] at hk
    obtain ⟨a1, a2, a3, a4, _⟩ := z
    have b1 := mul_le (a := w) (b := 0) (c := k) (by omega) (by omega)
    have b2 := mul_le (a := w) (b := k) (c := 59) (by omega) (by omega)
    refine ⟨by simp only [ent]; omega, by simp only [ent]; omega, ?_, ?_⟩
    · have := mul_le (a := h) (b := 0) (c := if k < 30 then (k : Int) else 59 - k) (by omega) (by split <;> omega)
      simp only [ent]; omega
    · have := mul_le (a := h) (b := if k < 30 then (k : Int) else 59 - k) (c := 30) (by omega) (by split <;> omega)
      simp only [ent]; omega
  · unfold tbl
    refine List.pairwise_map.mpr (List.pairwise_lt_range.imp fun hij => ?_)
    rename_i i j
    show w * (i : Int) < w * (j : Int)
    exact Int.mul_lt_mul_of_pos_left (by omega) (by have := z.w0; omega)
theorem tbl_small (z : Sz h w) : ∀ p ∈ tbl h w, p.2 < 100000 := by
  intro p hp
  unfold tbl at hp
  obtain ⟨k, hk, rfl⟩ := List.mem_map.mp hp
  have := mul_le (a := h) (b := if k < 30 then (k : Int) else 59 - k) (c := 30) (by have := z.h0; omega) (by rw [List.mem_range] at hk; split <;> omega)
  have := z.h1
  simp only [ent]; omega
theorem tbl_fst : fst (tbl h w) = (0, 0) := by
  show ent h w 0 = (0, 0)
  simp [ent]
theorem tbl_lst : lst (tbl h w) = (59 * w, 0) := by
  show ent h w 59 = (59 * w, 0)
  simp [ent, Int.mul_comm]
/-! the area -/
def arF (k : Nat) : Rat := if k < 30 then (k : Rat) * k / 2 else 870 - (59 - (k : Rat)) * (59 - k) / 2
theorem natC (k : Nat) : (((k + 1 : Nat) : Int) : Rat) = ((k : Int) : Rat) + 1 := by
  rw [Int.natCast_add, Rat.intCast_add]; rfl
theorem tbl_ar (z : Sz h w) : ∀ k : Nat, (hk : k < 60) → ar (tbl h w) ((ent h w k).1 : Rat) = (h : Rat) * w * arF k
  | 0, _ => by
    have := ar_fst (tbl_tab z)
    rw [tbl_fst] at this
    have e : (ent h w 0).1 = 0 := by simp [ent]
    rw [e, this]
    unfold arF
    grind
  | k + 1, hk => by
    have ih := tbl_ar z k (by omega)
    have n := ar_next (tbl_tab z) (j := k) (by rw [tbl_len]; omega)
    rw [tbl_at, tbl_at] at n
    rw [n, ih]
    unfold arF ent
    simp only
    have c1 : (((k + 1 : Nat) : Rat)) = (k : Rat) + 1 := by
      have := natC k
      exact_mod_cast this
    by_cases h1 : k + 1 < 30
    · rw [if_pos (show k < 30 by omega), if_pos h1, if_pos (show k < 30 by omega), if_pos h1, c1]
      simp only [Rat.intCast_mul, Int.natCast_add, Rat.intCast_add]
      have : ((k : Int) : Rat) = (k : Rat) := rfl
      rw [this]
      have o1 : (((1 : Nat) : Int) : Rat) = 1 := rfl
      rw [o1]
      grind
    · rw [if_neg h1, if_neg h1, c1]
      by_cases h2 : k < 30
      · have : k = 29 := by omega
        subst this
        rw [if_pos (by decide), if_pos (by decide)]
        simp only [Rat.intCast_mul]
        have e1 : (((29 + 1 : Nat) : Int) : Rat) = 30 := rfl
        have e2 : (((29 : Nat) : Int) : Rat) = 29 := rfl
        have e3 : ((59 - ((29 + 1 : Nat) : Int) : Int) : Rat) = 29 := rfl
        have e4 : ((29 : Nat) : Rat) = 29 := rfl
        rw [e1, e2, e3, e4]
        grind
      · rw [if_neg h2, if_neg h2]
        simp only [Rat.intCast_mul, Int.natCast_add, Rat.intCast_add, Rat.intCast_sub]
        have : ((k : Int) : Rat) = (k : Rat) := rfl
        rw [this]
        have o1 : (((1 : Nat) : Int) : Rat) = 1 := rfl
        have o2 : ((59 : Int) : Rat) = 59 := rfl
        rw [o1, o2]
        grind
theorem tbl_area (z : Sz h w) : ar (tbl h w) ((59 * w : Int) : Rat) - ar (tbl h w) 0 = ((870 * h * w : Int) : Rat) := by
  have a := tbl_ar z 59 (by decide)
  have b := tbl_ar z 0 (by decide)
  have e1 : (ent h w 59).1 = 59 * w := by simp [ent, Int.mul_comm]
  have e2 : (ent h w 0).1 = 0 := by simp [ent]
  rw [e1] at a
  rw [e2] at b
  have b : ar (tbl h w) 0 = (h : Rat) * w * arF 0 := b
  rw [a, b, show arF 59 = 870 by decide +kernel, show arF 0 = 0 by decide +kernel, Rat.intCast_mul, Rat.intCast_mul]
  have : ((870 : Int) : Rat) = 870 := rfl
  rw [this]
  grind
/-! .. without the entries on straight lines -/
theorem low_skip {c : Int × Int} {m : Rat} : ∀ (L : List (Int × Int)) (y : Int × Int) (r : List (Int × Int)), (∀ x ∈ L ++ [y], c.1 < x.1 ∧ (x.2 : Rat) = c.2 + m * (x.1 - c.1)) → low c (L ++ y :: r) = low c (y :: r)
  | [], _, _, _ => rfl
  | [x], y, r, hh => by
    obtain ⟨x1, x2⟩ := hh x (by simp)
    obtain ⟨y1, y2⟩ := hh y (by simp)
    show (if line c y x.1 = x.2 then low c (y :: r) else _) = _
    rw [if_pos]
    unfold line
    rw [x2, y2]
    have : (y.1 : Rat) - c.1 ≠ 0 := by have := ratI.mpr y1; grind
    grind
  | x :: x' :: L, y, r, hh => by
    obtain ⟨x1, x2⟩ := hh x (by simp)
    obtain ⟨y1, y2⟩ := hh x' (by simp)
    have ih := low_skip (x' :: L) y r fun z hz => hh z (List.mem_cons_of_mem _ hz)
    show (if line c x' x.1 = x.2 then low c (x' :: (L ++ y :: r)) else _) = _
    rw [if_pos]
    · exact ih
    · unfold line
      rw [x2, y2]
      have : (x'.1 : Rat) - c.1 ≠ 0 := by have := ratI.mpr y1; grind
      grind
theorem rng60 : List.range 60 = 0 :: (List.range' 1 28 ++ 29 :: 30 :: (List.range' 31 28 ++ [59])) := by decide
theorem ent_lo {k : Nat} (hk : k < 30) : ent h w k = (w * k, h * k) := by simp [ent, hk]
theorem ent_hi {k : Nat} (hk : 30 ≤ k) : ent h w k = (w * k, h * (59 - k)) := by simp [ent, Nat.not_lt.mpr hk]
theorem wne (z : Sz h w) : (w : Rat) ≠ 0 := by
  have := z.w0
  intro e
  have : w = 0 := by exact_mod_cast e
  omega
theorem hne (z : Sz h w) : (h : Rat) ≠ 0 := by
  have := z.h0
  intro e
  have : h = 0 := by exact_mod_cast e
  omega
theorem tbl_low (z : Sz h w) : lowT (tbl h w) = [(0, 0), (29 * w, 29 * h), (30 * w, 29 * h), (59 * w, 0)] := by
  have w0 := wne z
  have h0 := hne z
  have wp := z.w0
  unfold tbl
  rw [rng60, List.map_cons, List.map_append, List.map_cons, List.map_cons, List.map_append]
  show ent h w 0 :: low (ent h w 0) _ = _
  have e0 : ent h w 0 = (0, 0) := by simp [ent]
  have e29 : ent h w 29 = (w * 29, h * 29) := ent_lo (by decide)
  have e30 : ent h w 30 = (w * 30, h * 29) := ent_hi (by decide)
  have e31 : ent h w 31 = (w * 31, h * 28) := ent_hi (by decide)
  have e59 : ent h w 59 = (w * 59, h * 0) := ent_hi (by decide)
  rw [low_skip (m := (h : Rat) / w)]
  · show _ :: (if line (ent h w 0) (ent h w 30) (ent h w 29).1 = (ent h w 29).2 then _ else ent h w 29 :: low (ent h w 29) (ent h w 30 :: (List.map (ent h w) (List.range' 31 28) ++ [ent h w 59]))) = _
    rw [if_neg]
    · show _ :: _ :: (if line (ent h w 29) (ent h w 31) (ent h w 30).1 = (ent h w 30).2 then _ else ent h w 30 :: low (ent h w 30) (List.map (ent h w) (List.range' 31 28) ++ [ent h w 59])) = _
      rw [if_neg]
      · rw [low_skip (m := -(h : Rat) / w)]
        · show [ent h w 0, ent h w 29, ent h w 30, ent h w 59] = _
          rw [e0, e29, e30, e59]
          simp [Int.mul_comm]
        · intro x hx
          have : ∃ k : Nat, 31 ≤ k ∧ x = ent h w k := by
            rcases List.mem_append.mp hx with hx | hx
            · obtain ⟨k, hk, rfl⟩ := List.mem_map.mp hx
              exact ⟨k, (List.mem_range'_1.mp hk).1, rfl⟩
            · exact ⟨59, by decide, by simpa using hx⟩
          obtain ⟨k, hk, rfl⟩ := this
          rw [e30, ent_hi (k := k) (by omega)]
          refine ⟨Int.mul_lt_mul_of_pos_left (by omega) (by omega), ?_⟩
          simp only [Rat.intCast_mul, Rat.intCast_sub]
          have o1 : ((59 : Int) : Rat) = 59 := rfl
          have o2 : ((29 : Int) : Rat) = 29 := rfl
          have o3 : ((30 : Int) : Rat) = 30 := rfl
          rw [o1, o2, o3]
          grind
      · rw [e29, e30, e31]
        unfold line
        simp only [Rat.intCast_mul]
        have o1 : ((28 : Int) : Rat) = 28 := rfl
        have o2 : ((29 : Int) : Rat) = 29 := rfl
        have o3 : ((30 : Int) : Rat) = 30 := rfl
        have o4 : ((31 : Int) : Rat) = 31 := rfl
        rw [o1, o2, o3, o4]
        intro hc
        have w2 : (w : Rat) * 31 - w * 29 ≠ 0 := by grind
        have : (h : Rat) = 0 := by grind
        exact h0 this
    · rw [e0, e29, e30]
      unfold line
      simp only [Rat.intCast_mul]
      have o1 : ((0 : Int) : Rat) = 0 := rfl
      have o2 : ((29 : Int) : Rat) = 29 := rfl
      have o3 : ((30 : Int) : Rat) = 30 := rfl
      rw [o1, o2, o3]
      intro hc
      have w2 : (w : Rat) * 30 - 0 ≠ 0 := by grind
      have : (h : Rat) = 0 := by grind
      exact h0 this
  · intro x hx
    have : ∃ k : Nat, 1 ≤ k ∧ k < 30 ∧ x = ent h w k := by
      rcases List.mem_append.mp hx with hx | hx
      · obtain ⟨k, hk, rfl⟩ := List.mem_map.mp hx
        have := List.mem_range'_1.mp hk
        exact ⟨k, by omega, by omega, rfl⟩
      · exact ⟨29, by decide, by decide, by simpa using hx⟩
    obtain ⟨k, hk, hk2, rfl⟩ := this
    rw [ent_lo hk2, e0]
    refine ⟨by have := mul_le (a := w) (b := 1) (c := k) (by omega) (by omega); simp only; omega, ?_⟩
    simp only [Rat.intCast_mul]
    have o1 : ((0 : Int) : Rat) = 0 := rfl
    rw [o1]
    grind
end K84

namespace K84
open Y YN YE
open PySem (Str PyData)
theorem rolls : RollOk D__law_roll := rollOk (by decide) (by decide) (by decide)
variable {x0 x1 x2 x3 x4 x5 x6 x7 x8 x9 x10 x11 x12 x13 x14 x15 x16 x17 x18 x19 x20 x21 : D} {s : S} {K : Sm} {a b h w : Int}
abbrev Ends (K : Sm) (r : Env) (s : S) : Prop := ∃ s2, (K r s).out = .ok (.bl true) s2
theorem ends_of {A : Sm} {r r' : Env} {s s' : S} (e : A r s = K r' s') (H : Ends K r' s') : Ends A r s := by
  unfold Ends
  rw [e]; exact H
theorem st_size (hc : Cup a b) (hs : Cp s a b) (H : ∀ h w a b s, Sz h w → Cup a b → Cp s a b → Ends K [x0, .ref 0, .int h, .int w, x4, x5, x6, x7, x8, x9, x10, x11, x12, x13, x14, x15, x16, x17, x18, x19, x20, x21] s) : Ends (zCons (zSet (gT (gsC (gV 2) (gsC (gV 3) gsN))) (eTup (aC (e2 oMul (eC (.int 2)) (e2 oAdd (eC (.int 1)) (eCallK 2 D__law_roll (aC (eV 1) (aC (eC (.int 500)) aN))))) (aC (e2 oAdd (eC (.int 1)) (eCallK 2 D__law_roll (aC (eV 1) (aC (eC (.int 6)) aN)))) aN)))) K) [x0, .ref 0, x2, x3, x4, x5, x6, x7, x8, x9, x10, x11, x12, x13, x14, x15, x16, x17, x18, x19, x20, x21] s := by
  obtain ⟨i, a1, b1, s1, i0, i1, c1, p1, _, q1⟩ := roll_cp rolls hc (m := 500) (by decide) (by decide) hs
  obtain ⟨j, a2, b2, s2, j0, j1, c2, p2, _, q2⟩ := roll_cp rolls c1 (m := 6) (by decide) (by decide) p1
  have m1 : ∀ st, oMul (.int 2) (.int (1 + i)) st = .ok (.int (2 * (1 + i))) st := fun st => v_mul64 (by decide)
  refine ends_of ?_ (H (2 * (1 + i)) (1 + j) a2 b2 s2 ⟨by omega, by omega, by omega, by omega, _, rfl⟩ c2 p2)
  simp [q1, q2, m1]
theorem list_up (z : Sz h w) : ∀ i : Int, 0 ≤ i → i < 60 → (∀ st, oMul (.int w) (.int i) st = .ok (.int (w * i)) st) ∧ ∀ st, oMul (.int h) (.int i) st = .ok (.int (h * i)) st := by
  intro i _ _
  have := z.h1; have := z.w1; have := z.h0; have := z.w0
  exact ⟨fun st => v_mul64 (by omega), fun st => v_mul64 (by omega)⟩
theorem rng_int {n m : Int} {d : D} (h : d ∈ range2 n m) : ∃ i : Int, d = .int i ∧ n ≤ i ∧ i < m := by
  obtain ⟨k, hk⟩ := List.mem_iff_getElem?.mp h
  obtain ⟨rfl, h2⟩ := range2_get hk
  exact ⟨_, rfl, by omega, by omega⟩
def fI (f : Int → D) : D → D
  | .int i => f i
  | _ => .non
theorem map_fI (f : Int → D) (n : Nat) : (range2 0 n).map (fI f) = (List.range n).map fun (k : Nat) => f k := by
  unfold range2
  rw [List.map_map]
  rw [show ((n : Int) - 0).toNat = n by omega]
  refine List.map_congr_left fun k _ => ?_
  show f (0 + (k : Int)) = f k
  rw [Int.zero_add]
theorem st_table (z : Sz h w) (H : ∀ x4 x5 G, Ends K [x0, x1, .int h, .int w, x4, x5, tbD (tbl h w), .int (59 * w), .int (29 * h), .int (870 * h * w), x10, x11, x12, x13, x14, x15, x16, x17, x18, x19, x20, x21] (s ++ G)) : Ends (zCons (zSet (gV 4) (eLc (iRng1 (eC (.int 30))) (gV 19) tYes (eTup (aC (e2 oMul (eV 3) (eV 19)) (aC (e2 oMul (eV 2) (eV 19)) aN))) [19])) (zCons (zSet (gV 5) (eLc (iRng1 (eC (.int 30))) (gV 19) tYes (eTup (aC (e2 oMul (eV 3) (e2 oAdd (eC (.int 30)) (eV 19))) (aC (e2 oMul (eV 2) (e2 oSub (eC (.int 29)) (eV 19))) aN))) [19])) (zCons (zSet (gV 6) (eN bTuple (aC (e2 oAdd (eV 4) (eV 5)) aN))) (zCons (zSet (gV 7) (e2 oMul (eV 3) (eC (.int 59)))) (zCons (zSet (gV 8) (e2 oMul (eV 2) (eC (.int 29)))) (zCons (zSet (gV 9) (e2 oAdd (e2 oMul (eC (.int 2)) (e2 oDiv (e2 oMul (e2 oMul (e2 oMul (eV 2) (eC (.int 29))) (eC (.int 29))) (eV 3)) (eC (.int 2)))) (e2 oMul (eV 8) (eV 3)))) K)))))) [x0, x1, .int h, .int w, x4, x5, x6, x7, x8, x9, x10, x11, x12, x13, x14, x15, x16, x17, x18, x19, x20, x21] s := by
  have z' := z
  obtain ⟨h0, h1, w0, w1, i, ei⟩ := z'
  have it : ∀ (r : Env) (st : S), iRng1 (eC (.int 30)) r st = .ok (.items (range2 0 30)) st := fun r st => by
    unfold iRng1
    simp
  have c1 := eLc_items (g := gV 19) (t := tYes) (e := eTup (aC (e2 oMul (eV 3) (eV 19)) (aC (e2 oMul (eV 2) (eV 19)) aN))) (own := [19]) (it [x0, x1, .int h, .int w, x4, x5, x6, x7, x8, x9, x10, x11, x12, x13, x14, x15, x16, x17, x18, x19, x20, x21] s) (fun d => [x0, x1, .int h, .int w, x4, x5, x6, x7, x8, x9, x10, x11, x12, x13, x14, x15, x16, x17, x18, d, x20, x21]) (fun _ => true) (fI fun i => .tup [.int (w * i), .int (h * i)]) (by
    intro d hd acc
    obtain ⟨i, rfl, i0, i1⟩ := rng_int hd
    obtain ⟨m1, m2⟩ := list_up z i i0 (by omega)
    exact ⟨rfl, rfl, fun _ => by simp [m1, m2, fI]⟩) (by rw [range2_len]; decide)
  have mf : ∀ f, (range2 0 30).map (fI f) = (List.range 30).map fun (k : Nat) => f k := fun f => map_fI f 30
  rw [filter_yes, mf] at c1
  have c2 := fun x4 => eLc_items (g := gV 19) (t := tYes) (e := eTup (aC (e2 oMul (eV 3) (e2 oAdd (eC (.int 30)) (eV 19))) (aC (e2 oMul (eV 2) (e2 oSub (eC (.int 29)) (eV 19))) aN))) (own := [19]) (it [x0, x1, .int h, .int w, x4, x5, x6, x7, x8, x9, x10, x11, x12, x13, x14, x15, x16, x17, x18, x19, x20, x21] (s ++ [.lst ((List.range 30).map fun (k : Nat) => .tup [.int (w * k), .int (h * k)])])) (fun d => [x0, x1, .int h, .int w, x4, x5, x6, x7, x8, x9, x10, x11, x12, x13, x14, x15, x16, x17, x18, d, x20, x21]) (fun _ => true) (fI fun i => .tup [.int (w * (30 + i)), .int (h * (29 - i))]) (by
    intro d hd acc
    obtain ⟨i, rfl, i0, i1⟩ := rng_int hd
    obtain ⟨m1, _⟩ := list_up z (30 + i) (by omega) (by omega)
    obtain ⟨_, m2⟩ := list_up z (29 - i) (by omega) (by omega)
    exact ⟨rfl, rfl, fun _ => by simp [m1, m2, fI]⟩) (by rw [range2_len]; decide)
  simp only [filter_yes, mf] at c2
  have eU : ((List.range 30).map fun (k : Nat) => D.tup [.int (w * k), .int (h * k)]) ++ ((List.range 30).map fun (k : Nat) => D.tup [.int (w * (30 + k)), .int (h * (29 - k))]) = (tbl h w).map prD := by
    unfold tbl
    rw [show List.range 60 = List.range 30 ++ (List.range 30).map (30 + ·) by decide, List.map_append, List.map_append, List.map_map, List.map_map, List.map_map]
    congr 1
  generalize hU : ((List.range 30).map fun (k : Nat) => D.tup [.int (w * k), .int (h * k)]) = U at *
  generalize hV : ((List.range 30).map fun (k : Nat) => D.tup [.int (w * (30 + k)), .int (h * (29 - k))]) = V at *
  have lU : U.length = 30 := by rw [← hU]; simp
  have lV : V.length = 30 := by rw [← hV]; simp
  have c2 := c2 (.ref s.length)
  have l1 : (s ++ [O.lst U]).length = s.length + 1 := by simp
  rw [l1] at c2
  have l2 : (s ++ [O.lst U] ++ [O.lst V]).length = s.length + 2 := by simp
  have g1 : (s ++ [O.lst U] ++ [O.lst V])[s.length]? = some (.lst U) := by simp
  have g2 : (s ++ [O.lst U] ++ [O.lst V])[s.length + 1]? = some (.lst V) := by simp
  have ad := add_refs g1 g2 (by omega)
  rw [l2, eU] at ad
  have g3 : (s ++ [O.lst U] ++ [O.lst V] ++ [O.lst ((tbl h w).map prD)])[s.length + 2]? = some (.lst ((tbl h w).map prD)) := by simp
  have tp : bTuple [.ref (s.length + 2)] (s ++ [O.lst U] ++ [O.lst V] ++ [O.lst ((tbl h w).map prD)]) = .ok (tbD (tbl h w)) (s ++ [O.lst U] ++ [O.lst V] ++ [O.lst ((tbl h w).map prD)]) := by
    simp only [tuple_seq, seqX_ref, g3, lstO_some]
    rfl
  refine ends_of ?_ (H (.ref s.length) (.ref (s.length + 1)) ([O.lst U] ++ [O.lst V] ++ [O.lst ((tbl h w).map prD)]))
  rw [← List.append_assoc, ← List.append_assoc]
  generalize s ++ [O.lst U] ++ [O.lst V] = S2 at *
  generalize s ++ [O.lst U] = S1 at *
  generalize S2 ++ [O.lst ((tbl h w).map prD)] = S3 at *
  have m1 : ∀ st, oMul (.int w) (.int 59) st = .ok (.int (59 * w)) st := fun st => by rw [v_mul64 (by omega), Int.mul_comm]
  have m2 : ∀ st, oMul (.int h) (.int 29) st = .ok (.int (29 * h)) st := fun st => by rw [v_mul64 (by omega), Int.mul_comm]
  have m3 : ∀ st, oMul (.int (29 * h)) (.int 29) st = .ok (.int (29 * h * 29)) st := fun st => v_mul64 (by omega)
  have m4 : ∀ st, oMul (.int (29 * h * 29)) (.int w) st = .ok (.int (29 * h * 29 * w)) st := fun st => v_mul64 (by omega)
  have m5 : ∀ st, oMul (.int (29 * h)) (.int w) st = .ok (.int (29 * h * w)) st := fun st => v_mul64 (by omega)
  have d1 : ∀ st, oDiv (.int (29 * h * 29 * w)) (.int 2) st = .ok (.int (i * 841 * w)) st := fun st => by
    rw [v_div64 (by decide) (by decide)]
    congr 2
    have e : 29 * h * 29 * w = i * 841 * w * 2 := by subst ei; grind
    rw [e, Int.mul_ediv_cancel _ (by decide)]
  have m6 : ∀ st, oMul (.int 2) (.int (i * 841 * w)) st = .ok (.int (2 * (i * 841 * w))) st := fun st => v_mul64 (by decide)
  have ea : 2 * (i * 841 * w) + 29 * h * w = 870 * h * w := by subst ei; grind
  have z4 : zSet (gV 4) (eLc (iRng1 (eC (.int 30))) (gV 19) tYes (eTup (aC (e2 oMul (eV 3) (eV 19)) (aC (e2 oMul (eV 2) (eV 19)) aN))) [19]) [x0, x1, .int h, .int w, x4, x5, x6, x7, x8, x9, x10, x11, x12, x13, x14, x15, x16, x17, x18, x19, x20, x21] s = .nx [x0, x1, .int h, .int w, .ref s.length, x5, x6, x7, x8, x9, x10, x11, x12, x13, x14, x15, x16, x17, x18, x19, x20, x21] S1 := by
    unfold zSet
    rw [c1]; rfl
  have z5 : zSet (gV 5) (eLc (iRng1 (eC (.int 30))) (gV 19) tYes (eTup (aC (e2 oMul (eV 3) (e2 oAdd (eC (.int 30)) (eV 19))) (aC (e2 oMul (eV 2) (e2 oSub (eC (.int 29)) (eV 19))) aN))) [19]) [x0, x1, .int h, .int w, .ref s.length, x5, x6, x7, x8, x9, x10, x11, x12, x13, x14, x15, x16, x17, x18, x19, x20, x21] S1 = .nx [x0, x1, .int h, .int w, .ref s.length, .ref (s.length + 1), x6, x7, x8, x9, x10, x11, x12, x13, x14, x15, x16, x17, x18, x19, x20, x21] S2 := by
    unfold zSet
    rw [c2]; rfl
  have z6 : zSet (gV 6) (eN bTuple (aC (e2 oAdd (eV 4) (eV 5)) aN)) [x0, x1, .int h, .int w, .ref s.length, .ref (s.length + 1), x6, x7, x8, x9, x10, x11, x12, x13, x14, x15, x16, x17, x18, x19, x20, x21] S2 = .nx [x0, x1, .int h, .int w, .ref s.length, .ref (s.length + 1), tbD (tbl h w), x7, x8, x9, x10, x11, x12, x13, x14, x15, x16, x17, x18, x19, x20, x21] S3 := by
    simp only [ap_zSet, ap_eN, ap_aC, ap_aN, ap_e2, eV_succ, eV_ref, bind_ok]
    rw [ad, bind_ok, bind_ok, tp]
    rfl
  rw [ap_zCons, z4, andThen_nx, ap_zCons, z5, andThen_nx, ap_zCons, z6, andThen_nx]
  simp [m1, m2, m3, m4, m5, m6, d1, ea]
end K84

namespace K84
open Y YN YE
open PySem (Str PyData)
variable {x0 x1 x2 x3 x4 x5 x6 x7 x8 x9 x10 x11 x12 x13 x14 x15 x16 x17 x18 x19 x20 x21 : D} {s : S} {K : Sm} {a b h w : Int}
theorem r0 : rd 0 = .tup [.int 0, .int 1] := rd_int 0
theorem day_0 (z : Sz h w) : Day (tbl h w) ((0 : Int) : Rat) := by
  have := day_ent (tbl_tab z) (fst_mem (tbl_tab z))
  rw [tbl_fst] at this; exact this
theorem day_e (z : Sz h w) : Day (tbl h w) ((59 * w : Int) : Rat) := by
  have := day_ent (tbl_tab z) (lst_memT (tbl_tab z))
  rw [tbl_lst] at this; exact this
theorem hw_le (z : Sz h w) : 0 < h * w ∧ h * w ≤ 6000 ∧ 870 * h * w = 870 * (h * w) := by
  have a1 := mul_le (a := h) (b := 1) (c := w) (by have := z.h0; omega) z.w0
  have a2 := mul_le (a := h) (b := w) (c := 6) (by have := z.h0; omega) z.w1
  have := z.h0; have := z.h1
  exact ⟨by omega, by omega, Int.mul_assoc _ _ _⟩
theorem end_pos (z : Sz h w) : (0 : Rat) < ((59 * w : Int) : Rat) := by
  have : (0 : Int) < 59 * w := by have := z.w0; omega
  exact ratI.mpr this
theorem st_sum (z : Sz h w) (H : Ends K [x0, x1, .int h, .int w, x4, x5, tbD (tbl h w), .int (59 * w), .int (29 * h), .int (870 * h * w), x10, x11, x12, x13, x14, x15, x16, x17, x18, x19, x20, x21] s) : Ends (zCons (zIf (tNot (tst (eCallK 2 (D__law_same 10) (aC (eTup (aC (eCallK 3 D_summed (aC (eV 6) (aC (eTup (aC (eC (.int 0)) (aC (eC (.int 1)) aN))) (aC (eTup (aC (eV 7) (aC (eC (.int 1)) aN))) aN)))) (aC (eCallK 3 D_mean (aC (eV 6) (aC (eTup (aC (eC (.int 0)) (aC (eC (.int 1)) aN))) (aC (eTup (aC (eV 7) (aC (eC (.int 1)) aN))) aN)))) aN))) (aC (eTup (aC (eTup (aC (eV 9) (aC (eC (.int 1)) aN))) (aC (eCallK 2 D__law_share (aC (eV 9) (aC (eV 7) aN))) aN))) aN))))) (zRet (eC (.bl false))) zNil) K) [x0, x1, .int h, .int w, x4, x5, tbD (tbl h w), .int (59 * w), .int (29 * h), .int (870 * h * w), x10, x11, x12, x13, x14, x15, x16, x17, x18, x19, x20, x21] s := by
  have T := tbl_tab z
  obtain ⟨g1, g2, g3⟩ := hw_le z
  have ep := end_pos z
  have sm := fun st => summed_k T (day_0 z) (day_e z) (Rat.le_of_lt ep) (s := st)
  have mk := fun st => mean_k T (day_0 z) (day_e z) (Rat.le_of_lt ep) (s := st)
  have ae : ar (tbl h w) ((59 * w : Int) : Rat) - ar (tbl h w) ((0 : Int) : Rat) = ((870 * h * w : Int) : Rat) := tbl_area z
  have em : mn (tbl h w) ((0 : Int) : Rat) ((59 * w : Int) : Rat) = ((870 * h * w : Int) : Rat) / ((59 * w : Int) : Rat) := by
    unfold mn
    rw [if_neg (by have : ((0 : Int) : Rat) = 0 := rfl; grind), ae]
    have : ((0 : Int) : Rat) = 0 := rfl
    rw [this]
    congr 1
    grind
  rw [ae, rd_int, rd_int, rd_int] at sm
  rw [em, rd_int, rd_int] at mk
  have w0 := z.w0
  have w1 := z.w1
  have b40 : (870 * h * w).natAbs < 2 ^ 40 := by
    have e : (2 : Nat) ^ 40 = 1099511627776 := by decide
    rw [g3, e]; omega
  have bB : (59 * w).natAbs < B1 := by have := B0_big; have := B01; omega
  have ls := fun st => lshare_k (a := 870 * h * w) (b := 59 * w) (n := 40) (s := st) (by omega) b40 (by decide) bB
  generalize hq : ((870 * h * w : Int) : Rat) / ((59 * w : Int) : Rat) = q at *
  have sk := same_k (n := 9) (d := .tup [.tup [.int (870 * h * w), .int 1], rd q]) (s := s) (by
    show ((plainD (.tup [.int (870 * h * w), .int 1]) && (plainD (rd q) && true)) && true) = true
    rw [rd_plain]; rfl) (by
    show max (dep (.tup [.int (870 * h * w), .int 1])) (max (dep (rd q)) 0) + 1 ≤ 9
    rw [rd_dep]
    have : dep (.tup [.int (870 * h * w), .int 1]) = 1 := rfl
    omega)
  refine ends_of ?_ H
  simp [sm, mk, ls, sk]
theorem st_low (z : Sz h w) (H : Ends K [x0, x1, .int h, .int w, x4, x5, tbD (tbl h w), .int (59 * w), .int (29 * h), .int (870 * h * w), x10, x11, x12, x13, x14, x15, x16, x17, x18, x19, x20, x21] s) : Ends (zCons (zIf (tNot (tst (eCallK 2 (D__law_same 10) (aC (eCallK 1 D_lowered (aC (eV 6) aN)) (aC (eTup (aC (eTup (aC (eC (.int 0)) (aC (eC (.int 0)) aN))) (aC (eTup (aC (e2 oMul (eC (.int 29)) (eV 3)) (aC (eV 8) aN))) (aC (eTup (aC (e2 oMul (eC (.int 30)) (eV 3)) (aC (eV 8) aN))) (aC (eTup (aC (eV 7) (aC (eC (.int 0)) aN))) aN))))) aN))))) (zRet (eC (.bl false))) zNil) K) [x0, x1, .int h, .int w, x4, x5, tbD (tbl h w), .int (59 * w), .int (29 * h), .int (870 * h * w), x10, x11, x12, x13, x14, x15, x16, x17, x18, x19, x20, x21] s := by
  have T := tbl_tab z
  have lk := fun st => lowered_k T (s := st)
  rw [tbl_low z] at lk
  have et : tbD [((0 : Int), (0 : Int)), (29 * w, 29 * h), (30 * w, 29 * h), (59 * w, 0)] = .tup [.tup [.int 0, .int 0], .tup [.int (29 * w), .int (29 * h)], .tup [.int (30 * w), .int (29 * h)], .tup [.int (59 * w), .int 0]] := rfl
  rw [et] at lk
  have m1 : ∀ st, oMul (.int 29) (.int w) st = .ok (.int (29 * w)) st := fun st => v_mul64 (by decide)
  have m2 : ∀ st, oMul (.int 30) (.int w) st = .ok (.int (30 * w)) st := fun st => v_mul64 (by decide)
  have sk := same_k (n := 9) (d := .tup [.tup [.int 0, .int 0], .tup [.int (29 * w), .int (29 * h)], .tup [.int (30 * w), .int (29 * h)], .tup [.int (59 * w), .int 0]]) (s := s) rfl (by show 2 ≤ 9; decide)
  refine ends_of ?_ H
  simp [lk, m1, m2, sk]
theorem turn_list : ((tbl h w).map fun p => (59 * w - p.1, p.2)).reverse = tbl h w := by
  unfold tbl
  rw [← List.map_reverse, ← List.map_reverse, show (List.range 60).reverse = (List.range 60).map (59 - ·) by decide, List.map_map, List.map_map]
  refine List.map_congr_left fun k hk => ?_
  rw [List.mem_range] at hk
  show (59 * w - (ent h w (59 - k)).1, (ent h w (59 - k)).2) = ent h w k
  unfold ent
  have e1 : ((59 - k : Nat) : Int) = 59 - k := by omega
  rw [e1]
  refine Prod.ext ?_ ?_
  · show 59 * w - w * (59 - k) = w * k
    grind
  · show h * (if 59 - k < 30 then (59 : Int) - k else 59 - (59 - k)) = h * (if k < 30 then (k : Int) else 59 - k)
    congr 1
    by_cases c : k < 30
    · rw [if_neg (by omega), if_pos c]; omega
    · rw [if_pos (by omega), if_neg c]
def fP (f : Int → Int → D) : D → D
  | .tup [.int i, .int j] => f i j
  | _ => .non
theorem map_fP (f : Int → Int → D) (l : List (Int × Int)) : (l.map prD).map (fP f) = l.map fun p => f p.1 p.2 := by
  rw [List.map_map]; rfl
theorem walk_it {l : List (Int × Int)} {r : Env} {st : S} (h : r[6]? = some (tbD l)) : iTup (eV 6) r st = .ok (.items (l.map prD)) st := by
  have : eV 6 r st = .ok (.tup (l.map prD)) st := ap_eV h (by intro z; cases z)
  unfold iTup
  rw [this]
  rfl
theorem st_turn (z : Sz h w) (H : ∀ G, Ends K [x0, x1, .int h, .int w, x4, x5, tbD (tbl h w), .int (59 * w), .int (29 * h), .int (870 * h * w), tbD (tbl h w), x11, x12, x13, x14, x15, x16, x17, x18, x19, x20, x21] (s ++ G)) : Ends (zCons (zSet (gV 10) (eN bTuple (aC (e1 oRev (eLc (iTup (eV 6)) (gT (gsC (gV 20) (gsC (gV 21) gsN))) tYes (eTup (aC (e2 oSub (eV 7) (eV 20)) (aC (eV 21) aN))) [20, 21])) aN))) K) [x0, x1, .int h, .int w, x4, x5, tbD (tbl h w), .int (59 * w), .int (29 * h), .int (870 * h * w), x10, x11, x12, x13, x14, x15, x16, x17, x18, x19, x20, x21] s := by
  have c1 := eLc_items (g := gT (gsC (gV 20) (gsC (gV 21) gsN))) (t := tYes) (e := eTup (aC (e2 oSub (eV 7) (eV 20)) (aC (eV 21) aN))) (own := [20, 21]) (walk_it (l := tbl h w) (r := [x0, x1, .int h, .int w, x4, x5, tbD (tbl h w), .int (59 * w), .int (29 * h), .int (870 * h * w), x10, x11, x12, x13, x14, x15, x16, x17, x18, x19, x20, x21]) (st := s) rfl) (fun d => match d with | .tup [x, y] => [x0, x1, .int h, .int w, x4, x5, tbD (tbl h w), .int (59 * w), .int (29 * h), .int (870 * h * w), x10, x11, x12, x13, x14, x15, x16, x17, x18, x19, x, y] | _ => []) (fun _ => true) (fP fun i j => .tup [.int (59 * w - i), .int j]) (by
    intro d hd acc
    obtain ⟨p, hp, rfl⟩ := List.mem_map.mp hd
    exact ⟨rfl, rfl, fun _ => by simp [prD, fP]⟩) (by rw [List.length_map, tbl_len]; decide)
  rw [filter_yes, map_fP] at c1
  have er : ((tbl h w).map fun p => D.tup [.int (59 * w - p.1), .int p.2]).reverse = (tbl h w).map prD := by
    have := congrArg (List.map prD) (turn_list (h := h) (w := w))
    rw [List.map_reverse, List.map_map] at this
    exact this
  refine ends_of ?_ (H [O.lst ((tbl h w).map fun p => D.tup [.int (59 * w - p.1), .int p.2]), O.lst ((tbl h w).map prD)])
  have z1 : (zSet (gV 10) (eN bTuple (aC (e1 oRev (eLc (iTup (eV 6)) (gT (gsC (gV 20) (gsC (gV 21) gsN))) tYes (eTup (aC (e2 oSub (eV 7) (eV 20)) (aC (eV 21) aN))) [20, 21])) aN))) [x0, x1, .int h, .int w, x4, x5, tbD (tbl h w), .int (59 * w), .int (29 * h), .int (870 * h * w), x10, x11, x12, x13, x14, x15, x16, x17, x18, x19, x20, x21] s = .nx [x0, x1, .int h, .int w, x4, x5, tbD (tbl h w), .int (59 * w), .int (29 * h), .int (870 * h * w), tbD (tbl h w), x11, x12, x13, x14, x15, x16, x17, x18, x19, x20, x21] (s ++ [O.lst ((tbl h w).map fun p => D.tup [.int (59 * w - p.1), .int p.2]), O.lst ((tbl h w).map prD)]) := by
    simp only [ap_zSet, ap_eN, ap_aC, ap_aN, ap_e1]
    rw [c1]
    simp only [bind_ok, oRev, seqL_ref, List.getElem?_concat_length, lstO_some, er, tuple_seq, seqX_ref]
    simp
    rfl
  rw [ap_zCons, z1, andThen_nx]
end K84

namespace K84
open Y YN YE
open PySem (Str PyData)
variable {x0 x1 x2 x3 x4 x5 x6 x7 x8 x9 x10 x11 x12 x13 x14 x15 x16 x17 x18 x19 x20 x21 : D} {s : S} {K : Sm} {a b h w : Int}
theorem st_self (z : Sz h w) (H : ∀ G, Ends K [x0, x1, .int h, .int w, x4, x5, tbD (tbl h w), .int (59 * w), .int (29 * h), .int (870 * h * w), tbD (tbl h w), x11, x12, x13, x14, x15, x16, x17, x18, x19, x20, x21] (s ++ G)) : Ends (zCons (zIf (tNot (tst (eCallK 2 (D__law_same 10) (aC (eTup (aC (eCallK 2 D_meetings (aC (eV 6) (aC (eV 10) aN))) (aC (eCallK 2 D_longer_share (aC (eV 6) (aC (eV 10) aN))) aN))) (aC (eTup (aC (eN bTuple (aC (eLc (iTup (eV 6)) (gT (gsC (gV 20) (gsC (gV 21) gsN))) tYes (eTup (aC (eV 20) (aC (eC (.int 1)) aN))) [20, 21]) aN)) (aC (eTup (aC (eC (.int 0)) (aC (eC (.int 1)) aN))) aN))) aN))))) (zRet (eC (.bl false))) zNil) K) [x0, x1, .int h, .int w, x4, x5, tbD (tbl h w), .int (59 * w), .int (29 * h), .int (870 * h * w), tbD (tbl h w), x11, x12, x13, x14, x15, x16, x17, x18, x19, x20, x21] s := by
  have T := tbl_tab z
  have t2 := same_two T T rfl
  have mk : ∀ st, callK D_meetings [tbD (tbl h w), tbD (tbl h w)] st = .ok (.tup ((((tbl h w).map (·.1)).map fun d : Int => (d : Rat)).map rd)) st := fun st => by
    obtain ⟨F, f1, f2, _, e⟩ := meetings_k t2 (s := st)
    rw [self_list T t2 f1 f2] at e
    exact e
  have lk := fun st => longer_share_k t2 (s := st)
  rw [lgS_self, r0] at lk
  have c1 := eLc_items (g := gT (gsC (gV 20) (gsC (gV 21) gsN))) (t := tYes) (e := eTup (aC (eV 20) (aC (eC (.int 1)) aN))) (own := [20, 21]) (walk_it (l := tbl h w) (r := [x0, x1, .int h, .int w, x4, x5, tbD (tbl h w), .int (59 * w), .int (29 * h), .int (870 * h * w), tbD (tbl h w), x11, x12, x13, x14, x15, x16, x17, x18, x19, x20, x21]) (st := s) rfl) (fun d => match d with | .tup [x, y] => [x0, x1, .int h, .int w, x4, x5, tbD (tbl h w), .int (59 * w), .int (29 * h), .int (870 * h * w), tbD (tbl h w), x11, x12, x13, x14, x15, x16, x17, x18, x19, x, y] | _ => []) (fun _ => true) (fP fun i j => .tup [.int i, .int 1]) (by
    intro d hd acc
    obtain ⟨p, hp, rfl⟩ := List.mem_map.mp hd
    exact ⟨rfl, rfl, fun _ => by simp [prD, fP]⟩) (by rw [List.length_map, tbl_len]; decide)
  rw [filter_yes, map_fP] at c1
  have er : ((tbl h w).map fun p => D.tup [.int p.1, .int 1]) = (((tbl h w).map (·.1)).map fun d : Int => (d : Rat)).map rd := by
    rw [List.map_map, List.map_map]
    refine List.map_congr_left fun p _ => ?_
    exact (rd_int p.1).symm
  rw [er] at c1
  obtain ⟨p1, p2⟩ := rds_plain (((tbl h w).map (·.1)).map fun d : Int => (d : Rat))
  have hl : (((tbl h w).map (·.1)).map fun d : Int => (d : Rat)).length = 60 := by simp [tbl_len]
  generalize hF : (((tbl h w).map (·.1)).map fun d : Int => (d : Rat)) = F at *
  have sk := fun st => same_k (n := 9) (d := .tup [.tup (F.map rd), .tup [.int 0, .int 1]]) (s := st) (by
    show (((plainL (F.map rd) && decide ((F.map rd).length ≤ 1000000)) && (plainD (.tup [.int 0, .int 1]) && true)) && true) = true
    rw [p1, List.length_map, hl]; rfl) (by
    show max (depL (F.map rd) + 1) (max (dep (.tup [.int 0, .int 1])) 0) + 1 ≤ 9
    have : dep (.tup [.int 0, .int 1]) = 1 := rfl
    omega)
  refine ends_of ?_ (H [O.lst (F.map rd)])
  have z1 : (tNot (tst (eCallK 2 (D__law_same 10) (aC (eTup (aC (eCallK 2 D_meetings (aC (eV 6) (aC (eV 10) aN))) (aC (eCallK 2 D_longer_share (aC (eV 6) (aC (eV 10) aN))) aN))) (aC (eTup (aC (eN bTuple (aC (eLc (iTup (eV 6)) (gT (gsC (gV 20) (gsC (gV 21) gsN))) tYes (eTup (aC (eV 20) (aC (eC (.int 1)) aN))) [20, 21]) aN)) (aC (eTup (aC (eC (.int 0)) (aC (eC (.int 1)) aN))) aN))) aN))))) [x0, x1, .int h, .int w, x4, x5, tbD (tbl h w), .int (59 * w), .int (29 * h), .int (870 * h * w), tbD (tbl h w), x11, x12, x13, x14, x15, x16, x17, x18, x19, x20, x21] s = .ok false (s ++ [O.lst (F.map rd)]) := by
    have tt : (eN bTuple (aC (eLc (iTup (eV 6)) (gT (gsC (gV 20) (gsC (gV 21) gsN))) tYes (eTup (aC (eV 20) (aC (eC (.int 1)) aN))) [20, 21]) aN)) [x0, x1, .int h, .int w, x4, x5, tbD (tbl h w), .int (59 * w), .int (29 * h), .int (870 * h * w), tbD (tbl h w), x11, x12, x13, x14, x15, x16, x17, x18, x19, x20, x21] s = .ok (.tup (F.map rd)) (s ++ [O.lst (F.map rd)]) := by
      simp only [ap_eN, ap_aC, ap_aN]
      rw [c1]
      simp [tuple_seq]
    generalize (eN bTuple (aC (eLc (iTup (eV 6)) (gT (gsC (gV 20) (gsC (gV 21) gsN))) tYes (eTup (aC (eV 20) (aC (eC (.int 1)) aN))) [20, 21]) aN)) = E at *
    simp [mk, lk, tt, sk]
  rw [ap_zCons, ap_zIf, z1, then_ok, if_neg (by simp), ap_zNil, andThen_nx]
/-- the time of the law -/
structure Ti (w : Int) (A B : Int) : Prop where
  b0 : 1000000 ≤ B
  b1 : B < 2000000
  a0 : 1 ≤ A
  a1 : A < B * (59 * w)
theorem ti_day (z : Sz h w) {A B : Int} (t : Ti w A B) : Day (tbl h w) ((A : Rat) / B) := by
  have b0 := t.b0
  have b1 := t.b1
  have w1 := z.w1
  have w0 := z.w0
  have Bp : (0 : Rat) < (B : Rat) := by have := ratI.mpr (show (0 : Int) < B by omega); exact this
  have Ap : (0 : Rat) < (A : Rat) := by have := ratI.mpr (show (0 : Int) < A by have := t.a0; omega); exact this
  have le : (A : Rat) < (B : Rat) * ((59 * w : Int) : Rat) := by
    rw [← Rat.intCast_mul]
    exact ratI.mpr t.a1
  have hlo : (0 : Rat) ≤ (A : Rat) / B := Rat.le_of_lt (by rw [Rat.lt_div_iff Bp]; grind)
  have hhi : (A : Rat) / B ≤ ((59 * w : Int) : Rat) := Rat.le_of_lt (by rw [Rat.div_lt_iff Bp]; grind)
  have d := den_le (N := A) (B := B) (by omega)
  obtain ⟨n1, n2⟩ := num_le hlo hhi
  have np : 0 < ((A : Rat) / B).den := ((A : Rat) / B).den_pos
  generalize (A : Rat) / B = q at *
  refine ⟨by rw [tbl_fst]; exact hlo, by rw [tbl_lst]; exact hhi, ?_, by omega⟩
  have : 59 * w * q.den ≤ 354 * 2000000 := by
    have m1 := mul_le (a := 59 * w) (b := q.den) (c := 2000000) (by omega) (by omega)
    omega
  omega
theorem st_time (z : Sz h w) (hc : Cup a b) (hs : Cp s a b) (H : ∀ A B x11 x12 s, Ti w A B → Ends K [x0, .ref 0, .int h, .int w, x4, x5, tbD (tbl h w), .int (59 * w), .int (29 * h), .int (870 * h * w), x10, x11, x12, rd ((A : Rat) / B), x14, x15, x16, x17, x18, x19, x20, x21] s) : Ends (zCons (zSet (gV 11) (e2 oAdd (e2 oPow (eC (.int 10)) (eC (.int 6))) (eCallK 2 D__law_roll (aC (eV 1) (aC (e2 oPow (eC (.int 10)) (eC (.int 6))) aN))))) (zCons (zSet (gV 12) (e2 oAdd (eC (.int 1)) (eCallK 2 D__law_roll (aC (eV 1) (aC (e2 oSub (e2 oMul (eV 11) (eV 7)) (eC (.int 1))) aN))))) (zCons (zSet (gV 13) (eCallK 2 D__law_share (aC (eV 12) (aC (eV 11) aN)))) K))) [x0, .ref 0, .int h, .int w, x4, x5, tbD (tbl h w), .int (59 * w), .int (29 * h), .int (870 * h * w), x10, x11, x12, x13, x14, x15, x16, x17, x18, x19, x20, x21] s := by
  have w0 := z.w0
  have w1 := z.w1
  obtain ⟨i, a1, b1, s1, i0, i1, c1, p1, _, q1⟩ := roll_cp rolls hc (m := 1000000) (by decide) (by decide) hs
  have m1 : ∀ st, oMul (.int (1000000 + i)) (.int (59 * w)) st = .ok (.int ((1000000 + i) * (59 * w))) st := fun st => v_mul64 (by omega)
  have g1 := mul_le (a := 1000000 + i) (b := 59 * w) (c := 354) (by omega) (by omega)
  have g2 := mul_le (a := 1000000 + i) (b := 59) (c := 59 * w) (by omega) (by omega)
  obtain ⟨j, a2, b2, s2, j0, j1, c2, p2, _, q2⟩ := roll_cp rolls c1 (m := (1000000 + i) * (59 * w) - 1) (by omega) (by omega) p1
  have tt : Ti w (1 + j) (1000000 + i) := ⟨by omega, by omega, by omega, by omega⟩
  have p6 : ∀ st : S, oPow (.int 10) (.int 6) st = .ok (.int 1000000) st := fun st => rfl
  have b40 : (1 + j).natAbs < 2 ^ 40 := by
    have e : (2 : Nat) ^ 40 = 1099511627776 := by decide
    rw [e]; omega
  have bB : (1000000 + i).natAbs < B1 := by have := B0_big; have := B01; omega
  have ls := fun st => lshare_k (a := 1 + j) (b := 1000000 + i) (n := 40) (s := st) (by omega) b40 (by decide) bB
  refine ends_of ?_ (H (1 + j) (1000000 + i) (.int (1000000 + i)) (.int (1 + j)) s2 tt)
  generalize ((1 + j : Int) : Rat) / ((1000000 + i : Int) : Rat) = q at *
  simp [q1, q2, p6, m1, ls]
theorem st_more (z : Sz h w) {q : Rat} (H : ∀ G, Ends K [x0, x1, .int h, .int w, x4, x5, tbD (tbl h w), .int (59 * w), .int (29 * h), .int (870 * h * w), x10, x11, x12, rd q, tbD (up1 (tbl h w)), x15, x16, x17, x18, x19, x20, x21] (s ++ G)) : Ends (zCons (zSet (gV 14) (eN bTuple (aC (eLc (iTup (eV 6)) (gT (gsC (gV 20) (gsC (gV 21) gsN))) tYes (eTup (aC (eV 20) (aC (e2 oAdd (eV 21) (eC (.int 1))) aN))) [20, 21]) aN))) K) [x0, x1, .int h, .int w, x4, x5, tbD (tbl h w), .int (59 * w), .int (29 * h), .int (870 * h * w), x10, x11, x12, rd q, x14, x15, x16, x17, x18, x19, x20, x21] s := by
  have c1 := eLc_items (g := gT (gsC (gV 20) (gsC (gV 21) gsN))) (t := tYes) (e := eTup (aC (eV 20) (aC (e2 oAdd (eV 21) (eC (.int 1))) aN))) (own := [20, 21]) (walk_it (l := tbl h w) (r := [x0, x1, .int h, .int w, x4, x5, tbD (tbl h w), .int (59 * w), .int (29 * h), .int (870 * h * w), x10, x11, x12, rd q, x14, x15, x16, x17, x18, x19, x20, x21]) (st := s) rfl) (fun d => match d with | .tup [x, y] => [x0, x1, .int h, .int w, x4, x5, tbD (tbl h w), .int (59 * w), .int (29 * h), .int (870 * h * w), x10, x11, x12, rd q, x14, x15, x16, x17, x18, x19, x, y] | _ => []) (fun _ => true) (fP fun i j => .tup [.int i, .int (j + 1)]) (by
    intro d hd acc
    obtain ⟨p, hp, rfl⟩ := List.mem_map.mp hd
    exact ⟨rfl, rfl, fun _ => by simp [prD, fP]⟩) (by rw [List.length_map, tbl_len]; decide)
  rw [filter_yes, map_fP] at c1
  have er : ((tbl h w).map fun p => D.tup [.int p.1, .int (p.2 + 1)]) = (up1 (tbl h w)).map prD := by
    unfold up1
    rw [List.map_map]; rfl
  rw [er] at c1
  refine ends_of ?_ (H [O.lst ((up1 (tbl h w)).map prD)])
  have z1 : (zSet (gV 14) (eN bTuple (aC (eLc (iTup (eV 6)) (gT (gsC (gV 20) (gsC (gV 21) gsN))) tYes (eTup (aC (eV 20) (aC (e2 oAdd (eV 21) (eC (.int 1))) aN))) [20, 21]) aN))) [x0, x1, .int h, .int w, x4, x5, tbD (tbl h w), .int (59 * w), .int (29 * h), .int (870 * h * w), x10, x11, x12, rd q, x14, x15, x16, x17, x18, x19, x20, x21] s = .nx [x0, x1, .int h, .int w, x4, x5, tbD (tbl h w), .int (59 * w), .int (29 * h), .int (870 * h * w), x10, x11, x12, rd q, tbD (up1 (tbl h w)), x15, x16, x17, x18, x19, x20, x21] (s ++ [O.lst ((up1 (tbl h w)).map prD)]) := by
    simp only [ap_zSet, ap_eN, ap_aC, ap_aN]
    rw [c1]
    simp [tuple_seq]
    rfl
  rw [ap_zCons, z1, andThen_nx]
end K84

namespace K84
open Y YN YE
open PySem (Str PyData)
variable {x0 x1 x2 x3 x4 x5 x6 x7 x8 x9 x10 x11 x12 x13 x14 x15 x16 x17 x18 x19 x20 x21 : D} {s : S} {K : Sm} {a b h w : Int}
theorem r1 : rd 1 = .tup [.int 1, .int 1] := rd_int 1
theorem st_parts (z : Sz h w) {A B : Int} (t : Ti w A B) (H : ∀ x15, Ends K [x0, x1, .int h, .int w, x4, x5, tbD (tbl h w), .int (59 * w), .int (29 * h), .int (870 * h * w), x10, x11, x12, rd ((A : Rat) / B), tbD (up1 (tbl h w)), x15, x16, x17, x18, x19, x20, x21] s) : Ends (zCons (zIf (tst (e2 oLe (e2 oIx (eV 13) (eC (.int 0))) (e2 oPow (eC (.int 10)) (eC (.int 9))))) (zCons (zIf (tNot (tst (eCallK 2 (D__law_same 10) (aC (eTup (aC (eCallK 2 D_value_at (aC (eV 6) (aC (eV 13) aN))) (aC (eCallK 2 D_value_at (aC (eV 14) (aC (eV 13) aN))) aN))) (aC (eTup (aC (eCallK 2 D__law_value (aC (eV 6) (aC (eV 13) aN))) (aC (eCallK 2 D__law_plus (aC (eCallK 2 D__law_value (aC (eV 6) (aC (eV 13) aN))) (aC (eTup (aC (eC (.int 1)) (aC (eC (.int 1)) aN))) aN))) aN))) aN))))) (zRet (eC (.bl false))) zNil) (zCons (zSet (gV 15) (eCallK 2 D__law_plus (aC (eCallK 3 D_summed (aC (eV 6) (aC (eTup (aC (eC (.int 0)) (aC (eC (.int 1)) aN))) (aC (eV 13) aN)))) (aC (eCallK 3 D_summed (aC (eV 6) (aC (eV 13) (aC (eTup (aC (eV 7) (aC (eC (.int 1)) aN))) aN)))) aN)))) (zIf (tOr (tst (e2 oNe (eV 15) (eTup (aC (eV 9) (aC (eC (.int 1)) aN))))) (tOr (tst (e2 oNe (eCallK 2 D_longer_share (aC (eV 14) (aC (eV 6) aN))) (eTup (aC (eC (.int 1)) (aC (eC (.int 1)) aN))))) (tst (e2 oNe (eCallK 2 D_meetings (aC (eV 14) (aC (eV 6) aN))) (eTup aN))))) (zRet (eC (.bl false))) zNil))) zNil) K) [x0, x1, .int h, .int w, x4, x5, tbD (tbl h w), .int (59 * w), .int (29 * h), .int (870 * h * w), x10, x11, x12, rd ((A : Rat) / B), tbD (up1 (tbl h w)), x15, x16, x17, x18, x19, x20, x21] s := by
  have T := tbl_tab z
  have U := up_tab T (tbl_small z)
  have D1 := ti_day z t
  generalize (A : Rat) / B = q at *
  have D2 : Day (up1 (tbl h w)) q := ⟨by rw [fst_up]; exact D1.lo, by rw [lst_up]; exact D1.hi, D1.nb, D1.db⟩
  have tm := D1.tm
  have v1 := fun st => value_at_k T D1 (s := st)
  have v2 := fun st => value_at_k U D2 (s := st)
  rw [vIn_up T.lo D1.hi] at v2
  have v3 := fun st => law_value_k T tm D1.hi (s := st)
  have bv := bd_vIn tm (tbl h w) T.ent T.ris
  have v4 := fun st => lplus_k bv (bd_int (i := 1) (n := 1) (by decide)) (by decide) (by decide) (s := st)
  rw [rd_int] at v4
  have o1 : ((1 : Int) : Rat) = 1 := rfl
  rw [o1] at v4
  have lo := D1.lo
  rw [tbl_fst] at lo
  have hi := D1.hi
  rw [tbl_lst] at hi
  have s1 := fun st => summed_k T (day_0 z) D1 lo (s := st)
  have s2 := fun st => summed_k T D1 (day_e z) hi (s := st)
  have s3 := fun st => lplus_k (bd_dar T (day_0 z).tm tm) (bd_dar T tm (day_e z).tm) (by decide) (by decide) (s := st)
  have es : ar (tbl h w) q - ar (tbl h w) ((0 : Int) : Rat) + (ar (tbl h w) ((59 * w : Int) : Rat) - ar (tbl h w) q) = ((870 * h * w : Int) : Rat) := by
    have ae : ar (tbl h w) ((59 * w : Int) : Rat) - ar (tbl h w) ((0 : Int) : Rat) = ((870 * h * w : Int) : Rat) := tbl_area z
    rw [← ae]; grind
  rw [es, rd_int] at s3
  rw [rd_int] at s1 s2
  have ne1 := fun st => ne_rd (p := ((870 * h * w : Int) : Rat)) (q := ((870 * h * w : Int) : Rat)) (s := st)
  rw [rd_int] at ne1
  have tw := same_two U T (up_days _).symm
  have lk := fun st => longer_share_k tw (s := st)
  rw [up_share T tw, r1] at lk
  have ne2 := fun st => ne_rd (p := 1) (q := 1) (s := st)
  rw [r1] at ne2
  have mk : ∀ st, callK D_meetings [tbD (up1 (tbl h w)), tbD (tbl h w)] st = .ok (.tup []) st := fun st => by
    obtain ⟨F, f1, f2, _, e⟩ := meetings_k tw (s := st)
    have : F = [] := List.eq_nil_iff_forall_not_mem.mpr fun q hq => up_meet T ((f2 q).mp hq)
    rw [this] at e
    exact e
  have ne3 : ∀ st, oNe (.tup []) (.tup []) st = .ok (.bl false) st := fun st => rfl
  have nb := D1.nb
  have p9 : ∀ st : S, oPow (.int 10) (.int 9) st = .ok (.int 1000000000) st := fun st => rfl
  have le : q.num ≤ 1000000000 := by omega
  generalize vIn (tbl h w) q = V at *
  generalize ar (tbl h w) q - ar (tbl h w) ((0 : Int) : Rat) = A1 at *
  generalize ar (tbl h w) ((59 * w : Int) : Rat) - ar (tbl h w) q = A2 at *
  have sk := fun st => same_k (n := 9) (d := .tup [rd V, rd (V + 1)]) (s := st) (by
    show ((plainD (rd V) && (plainD (rd (V + 1)) && true)) && true) = true
    rw [rd_plain, rd_plain]; rfl) (by
    show max (dep (rd V)) (max (dep (rd (V + 1))) 0) + 1 ≤ 9
    rw [rd_dep, rd_dep]; decide)
  refine ends_of ?_ (H (.tup [.int (870 * h * w), .int 1]))
  rw [ap_zCons]
  have tc : (tst (e2 oLe (e2 oIx (eV 13) (eC (.int 0))) (e2 oPow (eC (.int 10)) (eC (.int 9))))) [x0, x1, .int h, .int w, x4, x5, tbD (tbl h w), .int (59 * w), .int (29 * h), .int (870 * h * w), x10, x11, x12, rd q, tbD (up1 (tbl h w)), x15, x16, x17, x18, x19, x20, x21] s = .ok true s := by simp [p9, le]
  rw [ap_zIf, tc, then_ok, if_pos rfl]
  simp [v1, v2, v3, v4, sk, s1, s2, s3, ne1, lk, ne2, mk, ne3]
end K84

namespace K84
open Y YN YE
open PySem (Str PyData)
variable {x0 x1 x2 x3 x4 x5 x6 x7 x8 x9 x10 x11 x12 x13 x14 x15 x16 x17 x18 x19 x20 x21 : D} {s : S} {K : Sm} {a b h w : Int}
/-! a table that grows and its opposite -/
def grow : List (Int × Int) := (List.range 60).map fun (k : Nat) => ((0 + (k : Int) * 4), (0 + (k : Int) * 4) * (0 + (k : Int) * 4))
def fall : List (Int × Int) := (List.range 60).map fun (k : Nat) => ((0 + (k : Int) * 4), 50000 - (0 + (k : Int) * 4) * (0 + (k : Int) * 4))
theorem grow_tab : Tab grow := tab_ck (by decide +kernel)
theorem fall_tab : Tab fall := tab_ck (by decide +kernel)
theorem gf_days : fall.map (·.1) = grow.map (·.1) := by decide +kernel
theorem gf_two : Two grow fall := same_two grow_tab fall_tab gf_days
theorem fg_two : Two fall grow := same_two fall_tab grow_tab gf_days.symm
def days4 : List Int := (List.range 60).map fun (k : Nat) => (k : Int) * 4
theorem dys_gf : dys grow fall = days4 := by rw [same_days grow_tab fall_tab gf_days]; decide +kernel
theorem dys_fg : dys fall grow = days4 := by rw [same_days fall_tab grow_tab gf_days.symm]; decide +kernel
def q0 : Rat := 12490 / 79
theorem rd_is {q : Rat} {n d : Int} (h : decide (q.num = n ∧ (q.den : Int) = d) = true) : rd q = .tup [.int n, .int d] := by
  have h := of_decide_eq_true h
  unfold rd
  rw [h.1, h.2]
theorem rd_q0 : rd q0 = .tup [.int 12490, .int 79] := rd_is (by decide +kernel)
theorem ck_gf : ckM grow fall days4 [q0] = true := by decide +kernel
theorem told_m (s : S) : callK D_meetings [tbD grow, tbD fall] s = .ok (.tup [.tup [.int 12490, .int 79]]) s := by
  obtain ⟨F, f1, f2, _, e⟩ := meetings_k gf_two (s := s)
  rw [meet_ck dys_gf ck_gf f1 f2] at e
  rw [← rd_q0]
  exact e
theorem told_v (s : S) : callK D_value_at [tbD grow, .tup [.int 12490, .int 79]] s = .ok (.tup [.int 25000, .int 1]) s := by
  have := value_at_k grow_tab (t := q0) ⟨by decide +kernel, by decide +kernel, by decide +kernel, by decide +kernel⟩ (s := s)
  rw [rd_q0, rd_is (q := vIn grow q0) (n := 25000) (d := 1) (by decide +kernel)] at this
  exact this
theorem told_l (s : S) : callK D_longer_share [tbD fall, tbD grow] s = .ok (.tup [.int 6245, .int 9322]) s := by
  rw [longer_share_k fg_two]
  have : lgS fall grow = 6245 / 9322 := by
    unfold lgS
    rw [dys_fg]
    decide +kernel
  rw [this, rd_is (q := (6245 / 9322 : Rat)) (n := 6245) (d := 9322) (by decide +kernel)]
theorem told_s (s : S) : callK D__law_share [.int 12490, .int 18644] s = .ok (.tup [.int 6245, .int 9322]) s := by
  rw [lshare_k (n := 40) (by decide) (by decide) (by decide) (by have := B0_big; have := B01; omega)]
  rw [rd_is (n := 6245) (d := 9322) (by decide +kernel)]
theorem eq_1 (s : S) : oEq (.tup [.int 25000, .int 1]) (.tup [.int 25000, .int 1]) s = .ok (.bl true) s := by
  rw [eq_plain rfl rfl (by decide) (by decide)]
  rfl
theorem eq_2 (s : S) : oEq (.tup [.int 6245, .int 9322]) (.tup [.int 6245, .int 9322]) s = .ok (.bl true) s := by
  rw [eq_plain rfl rfl (by decide) (by decide)]
  rfl
theorem fin_of {fM fV fL fS : Fn} {ts us : List D} (h1 : ∀ s, callK fM [.tup ts, .tup us] s = .ok (.tup [.tup [.int 12490, .int 79]]) s) (h2 : ∀ s, callK fV [.tup ts, .tup [.int 12490, .int 79]] s = .ok (.tup [.int 25000, .int 1]) s)
    (h3 : ∀ s, callK fL [.tup us, .tup ts] s = .ok (.tup [.int 6245, .int 9322]) s) (h4 : ∀ s, callK fS [.int 12490, .int 18644] s = .ok (.tup [.int 6245, .int 9322]) s) : ∃ s2, (((zCons (zSet (gV 18) (eCallK 2 fM (aC (eV 16) (aC (eV 17) aN)))) (zRet (eAnd (e2 oEq (eN bLen (aC (eV 18) aN)) (eC (.int 1))) (eAnd (e2 oEq (eCallK 2 fV (aC (eV 16) (aC (e2 oIx (eV 18) (eC (.int 0))) aN))) (eTup (aC (eC (.int 25000)) (aC (eC (.int 1)) aN)))) (e2 oEq (eCallK 2 fL (aC (eV 17) (aC (eV 16) aN))) (eCallK 2 fS (aC (e2 oIx (e2 oIx (eV 18) (eC (.int 0))) (eC (.int 0))) (aC (e2 oMul (e2 oIx (e2 oIx (eV 18) (eC (.int 0))) (eC (.int 1))) (eC (.int 236))) aN))))))))) [x0, x1, x2, x3, x4, x5, x6, x7, x8, x9, x10, x11, x12, x13, x14, x15, .tup ts, .tup us, x18, x19, x20, x21] s).out = .ok (.bl true) s2 := by
  have m1 : ∀ st, oMul (.int 79) (.int 236) st = .ok (.int 18644) st := fun st => v_mul64 (by decide)
  refine ⟨s, ?_⟩
  simp [h1, h2, h3, h4, eq_1, eq_2, m1]
theorem it_4 (r : Env) (st : S) : iRngS (eC (.int 0)) (eC (.int 240)) 4 r st = .ok (.items (rangeS 0 4 60)) st := by rfl
theorem mem_4 {d : D} (hd : d ∈ rangeS 0 4 60) : ∃ i : Int, d = .int i ∧ 0 ≤ i ∧ i < 240 := by
  unfold rangeS at hd
  obtain ⟨k, hk, rfl⟩ := List.mem_map.mp hd
  rw [List.mem_range] at hk
  exact ⟨_, rfl, by omega, by omega⟩
theorem map_4 (f : Int → D) : (rangeS 0 4 60).map (fI f) = (List.range 60).map fun (k : Nat) => f (0 + k * 4) := by
  unfold rangeS
  rw [List.map_map]; rfl
theorem set_grow : ∃ G, (zSet (gV 16) (eN bTuple (aC (eLc (iRngS (eC (.int 0)) (eC (.int 240)) 4) (gV 20) tYes (eTup (aC (eV 20) (aC (e2 oMul (eV 20) (eV 20)) aN))) [20]) aN))) [x0, x1, x2, x3, x4, x5, x6, x7, x8, x9, x10, x11, x12, x13, x14, x15, x16, x17, x18, x19, x20, x21] s = .nx [x0, x1, x2, x3, x4, x5, x6, x7, x8, x9, x10, x11, x12, x13, x14, x15, tbD grow, x17, x18, x19, x20, x21] (s ++ G) := by
  have c1 := eLc_items (g := gV 20) (t := tYes) (e := eTup (aC (eV 20) (aC (e2 oMul (eV 20) (eV 20)) aN))) (own := [20]) (it_4 [x0, x1, x2, x3, x4, x5, x6, x7, x8, x9, x10, x11, x12, x13, x14, x15, x16, x17, x18, x19, x20, x21] s) (fun d => [x0, x1, x2, x3, x4, x5, x6, x7, x8, x9, x10, x11, x12, x13, x14, x15, x16, x17, x18, x19, d, x21]) (fun _ => true) (fI fun i => .tup [.int i, .int (i * i)]) (by
    intro d hd acc
    obtain ⟨i, rfl, i0, i1⟩ := mem_4 hd
    have m : ∀ st, oMul (.int i) (.int i) st = .ok (.int (i * i)) st := fun st => v_mul64 (by omega)
    exact ⟨rfl, rfl, fun _ => by simp [m, fI]⟩) (by decide)
  rw [filter_yes, map_4] at c1
  have er : ((List.range 60).map fun (k : Nat) => D.tup [.int (0 + k * 4), .int ((0 + k * 4) * (0 + k * 4))]) = grow.map prD := by
    unfold grow
    rw [List.map_map]; rfl
  rw [er] at c1
  refine ⟨[O.lst (grow.map prD)], ?_⟩
  simp only [ap_zSet, ap_eN, ap_aC, ap_aN]
  rw [c1]
  simp only [bind_ok, tuple_seq, seqX_ref, List.getElem?_concat_length, lstO_some]
  rfl
theorem set_fall : ∃ G, (zSet (gV 17) (eN bTuple (aC (eLc (iRngS (eC (.int 0)) (eC (.int 240)) 4) (gV 20) tYes (eTup (aC (eV 20) (aC (e2 oSub (eC (.int 50000)) (e2 oMul (eV 20) (eV 20))) aN))) [20]) aN))) [x0, x1, x2, x3, x4, x5, x6, x7, x8, x9, x10, x11, x12, x13, x14, x15, tbD grow, x17, x18, x19, x20, x21] s = .nx [x0, x1, x2, x3, x4, x5, x6, x7, x8, x9, x10, x11, x12, x13, x14, x15, tbD grow, tbD fall, x18, x19, x20, x21] (s ++ G) := by
  have c1 := eLc_items (g := gV 20) (t := tYes) (e := eTup (aC (eV 20) (aC (e2 oSub (eC (.int 50000)) (e2 oMul (eV 20) (eV 20))) aN))) (own := [20]) (it_4 [x0, x1, x2, x3, x4, x5, x6, x7, x8, x9, x10, x11, x12, x13, x14, x15, tbD grow, x17, x18, x19, x20, x21] s) (fun d => [x0, x1, x2, x3, x4, x5, x6, x7, x8, x9, x10, x11, x12, x13, x14, x15, tbD grow, x17, x18, x19, d, x21]) (fun _ => true) (fI fun i => .tup [.int i, .int (50000 - i * i)]) (by
    intro d hd acc
    obtain ⟨i, rfl, i0, i1⟩ := mem_4 hd
    have m : ∀ st, oMul (.int i) (.int i) st = .ok (.int (i * i)) st := fun st => v_mul64 (by omega)
    exact ⟨rfl, rfl, fun _ => by simp [m, fI]⟩) (by decide)
  rw [filter_yes, map_4] at c1
  have er : ((List.range 60).map fun (k : Nat) => D.tup [.int (0 + k * 4), .int (50000 - (0 + k * 4) * (0 + k * 4))]) = fall.map prD := by
    unfold fall
    rw [List.map_map]; rfl
  rw [er] at c1
  refine ⟨[O.lst (fall.map prD)], ?_⟩
  simp only [ap_zSet, ap_eN, ap_aC, ap_aN]
  rw [c1]
  simp only [bind_ok, tuple_seq, seqX_ref, List.getElem?_concat_length, lstO_some]
  rfl
theorem tail_true : Ends (zCons (zSet (gV 17) (eN bTuple (aC (eLc (iRngS (eC (.int 0)) (eC (.int 240)) 4) (gV 20) tYes (eTup (aC (eV 20) (aC (e2 oSub (eC (.int 50000)) (e2 oMul (eV 20) (eV 20))) aN))) [20]) aN))) (zCons (zSet (gV 18) (eCallK 2 D_meetings (aC (eV 16) (aC (eV 17) aN)))) (zRet (eAnd (e2 oEq (eN bLen (aC (eV 18) aN)) (eC (.int 1))) (eAnd (e2 oEq (eCallK 2 D_value_at (aC (eV 16) (aC (e2 oIx (eV 18) (eC (.int 0))) aN))) (eTup (aC (eC (.int 25000)) (aC (eC (.int 1)) aN)))) (e2 oEq (eCallK 2 D_longer_share (aC (eV 17) (aC (eV 16) aN))) (eCallK 2 D__law_share (aC (e2 oIx (e2 oIx (eV 18) (eC (.int 0))) (eC (.int 0))) (aC (e2 oMul (e2 oIx (e2 oIx (eV 18) (eC (.int 0))) (eC (.int 1))) (eC (.int 236))) aN))))))))) [x0, x1, x2, x3, x4, x5, x6, x7, x8, x9, x10, x11, x12, x13, x14, x15, tbD grow, x17, x18, x19, x20, x21] s := by
  obtain ⟨G, e⟩ := set_fall (x0 := x0) (x1 := x1) (x2 := x2) (x3 := x3) (x4 := x4) (x5 := x5) (x6 := x6) (x7 := x7) (x8 := x8) (x9 := x9) (x10 := x10) (x11 := x11) (x12 := x12) (x13 := x13) (x14 := x14) (x15 := x15) (x17 := x17) (x18 := x18) (x19 := x19) (x20 := x20) (x21 := x21) (s := s)
  unfold Ends
  rw [ap_zCons, e, andThen_nx]
  exact fin_of (ts := grow.map prD) (us := fall.map prD) told_m told_v told_l told_s
theorem law_true : ∀ ns : List Int, ns.length ≤ 63 → ∃ s', D_law [.frl (ns.map Y.D.int)] [] = .ok (.bl true) s' := by
  intro ns hl
  rw [r_law]
  obtain ⟨a, b, hc, cup⟩ := cup_k (k1 := 1249) (k2 := 1807) (k3 := 10283) (k4 := 2077510523) (k5 := 1181) (by decide) (by decide) (by decide) (by decide) ns hl
  generalize ns.map Y.D.int = ns' at *
  have z1 : (zSet (gV 1) (eCallK 1 D__law_cup (aC (eV 0) aN))) [.frl ns', .undef, .undef, .undef, .undef, .undef, .undef, .undef, .undef, .undef, .undef, .undef, .undef, .undef, .undef, .undef, .undef, .undef, .undef, .undef, .undef, .undef] [] = .nx [.frl ns', .ref 0, .undef, .undef, .undef, .undef, .undef, .undef, .undef, .undef, .undef, .undef, .undef, .undef, .undef, .undef, .undef, .undef, .undef, .undef, .undef, .undef] [.lst [.int a, .int b]] := by
    simp [cup]
  show Ends b_law _ _
  rw [show b_law = zCons (zSet (gV 1) (eCallK 1 D__law_cup (aC (eV 0) aN))) (zCons (zSet (gT (gsC (gV 2) (gsC (gV 3) gsN))) (eTup (aC (e2 oMul (eC (.int 2)) (e2 oAdd (eC (.int 1)) (eCallK 2 D__law_roll (aC (eV 1) (aC (eC (.int 500)) aN))))) (aC (e2 oAdd (eC (.int 1)) (eCallK 2 D__law_roll (aC (eV 1) (aC (eC (.int 6)) aN)))) aN)))) (zCons (zSet (gV 4) (eLc (iRng1 (eC (.int 30))) (gV 19) tYes (eTup (aC (e2 oMul (eV 3) (eV 19)) (aC (e2 oMul (eV 2) (eV 19)) aN))) [19])) (zCons (zSet (gV 5) (eLc (iRng1 (eC (.int 30))) (gV 19) tYes (eTup (aC (e2 oMul (eV 3) (e2 oAdd (eC (.int 30)) (eV 19))) (aC (e2 oMul (eV 2) (e2 oSub (eC (.int 29)) (eV 19))) aN))) [19])) (zCons (zSet (gV 6) (eN bTuple (aC (e2 oAdd (eV 4) (eV 5)) aN))) (zCons (zSet (gV 7) (e2 oMul (eV 3) (eC (.int 59)))) (zCons (zSet (gV 8) (e2 oMul (eV 2) (eC (.int 29)))) (zCons (zSet (gV 9) (e2 oAdd (e2 oMul (eC (.int 2)) (e2 oDiv (e2 oMul (e2 oMul (e2 oMul (eV 2) (eC (.int 29))) (eC (.int 29))) (eV 3)) (eC (.int 2)))) (e2 oMul (eV 8) (eV 3)))) (zCons (zIf (tNot (tst (eCallK 2 (D__law_same 10) (aC (eTup (aC (eCallK 3 D_summed (aC (eV 6) (aC (eTup (aC (eC (.int 0)) (aC (eC (.int 1)) aN))) (aC (eTup (aC (eV 7) (aC (eC (.int 1)) aN))) aN)))) (aC (eCallK 3 D_mean (aC (eV 6) (aC (eTup (aC (eC (.int 0)) (aC (eC (.int 1)) aN))) (aC (eTup (aC (eV 7) (aC (eC (.int 1)) aN))) aN)))) aN))) (aC (eTup (aC (eTup (aC (eV 9) (aC (eC (.int 1)) aN))) (aC (eCallK 2 D__law_share (aC (eV 9) (aC (eV 7) aN))) aN))) aN))))) (zRet (eC (.bl false))) zNil) (zCons (zIf (tNot (tst (eCallK 2 (D__law_same 10) (aC (eCallK 1 D_lowered (aC (eV 6) aN)) (aC (eTup (aC (eTup (aC (eC (.int 0)) (aC (eC (.int 0)) aN))) (aC (eTup (aC (e2 oMul (eC (.int 29)) (eV 3)) (aC (eV 8) aN))) (aC (eTup (aC (e2 oMul (eC (.int 30)) (eV 3)) (aC (eV 8) aN))) (aC (eTup (aC (eV 7) (aC (eC (.int 0)) aN))) aN))))) aN))))) (zRet (eC (.bl false))) zNil) (zCons (zSet (gV 10) (eN bTuple (aC (e1 oRev (eLc (iTup (eV 6)) (gT (gsC (gV 20) (gsC (gV 21) gsN))) tYes (eTup (aC (e2 oSub (eV 7) (eV 20)) (aC (eV 21) aN))) [20, 21])) aN))) (zCons (zIf (tNot (tst (eCallK 2 (D__law_same 10) (aC (eTup (aC (eCallK 2 D_meetings (aC (eV 6) (aC (eV 10) aN))) (aC (eCallK 2 D_longer_share (aC (eV 6) (aC (eV 10) aN))) aN))) (aC (eTup (aC (eN bTuple (aC (eLc (iTup (eV 6)) (gT (gsC (gV 20) (gsC (gV 21) gsN))) tYes (eTup (aC (eV 20) (aC (eC (.int 1)) aN))) [20, 21]) aN)) (aC (eTup (aC (eC (.int 0)) (aC (eC (.int 1)) aN))) aN))) aN))))) (zRet (eC (.bl false))) zNil) (zCons (zSet (gV 11) (e2 oAdd (e2 oPow (eC (.int 10)) (eC (.int 6))) (eCallK 2 D__law_roll (aC (eV 1) (aC (e2 oPow (eC (.int 10)) (eC (.int 6))) aN))))) (zCons (zSet (gV 12) (e2 oAdd (eC (.int 1)) (eCallK 2 D__law_roll (aC (eV 1) (aC (e2 oSub (e2 oMul (eV 11) (eV 7)) (eC (.int 1))) aN))))) (zCons (zSet (gV 13) (eCallK 2 D__law_share (aC (eV 12) (aC (eV 11) aN)))) (zCons (zSet (gV 14) (eN bTuple (aC (eLc (iTup (eV 6)) (gT (gsC (gV 20) (gsC (gV 21) gsN))) tYes (eTup (aC (eV 20) (aC (e2 oAdd (eV 21) (eC (.int 1))) aN))) [20, 21]) aN))) (zCons (zIf (tst (e2 oLe (e2 oIx (eV 13) (eC (.int 0))) (e2 oPow (eC (.int 10)) (eC (.int 9))))) (zCons (zIf (tNot (tst (eCallK 2 (D__law_same 10) (aC (eTup (aC (eCallK 2 D_value_at (aC (eV 6) (aC (eV 13) aN))) (aC (eCallK 2 D_value_at (aC (eV 14) (aC (eV 13) aN))) aN))) (aC (eTup (aC (eCallK 2 D__law_value (aC (eV 6) (aC (eV 13) aN))) (aC (eCallK 2 D__law_plus (aC (eCallK 2 D__law_value (aC (eV 6) (aC (eV 13) aN))) (aC (eTup (aC (eC (.int 1)) (aC (eC (.int 1)) aN))) aN))) aN))) aN))))) (zRet (eC (.bl false))) zNil) (zCons (zSet (gV 15) (eCallK 2 D__law_plus (aC (eCallK 3 D_summed (aC (eV 6) (aC (eTup (aC (eC (.int 0)) (aC (eC (.int 1)) aN))) (aC (eV 13) aN)))) (aC (eCallK 3 D_summed (aC (eV 6) (aC (eV 13) (aC (eTup (aC (eV 7) (aC (eC (.int 1)) aN))) aN)))) aN)))) (zIf (tOr (tst (e2 oNe (eV 15) (eTup (aC (eV 9) (aC (eC (.int 1)) aN))))) (tOr (tst (e2 oNe (eCallK 2 D_longer_share (aC (eV 14) (aC (eV 6) aN))) (eTup (aC (eC (.int 1)) (aC (eC (.int 1)) aN))))) (tst (e2 oNe (eCallK 2 D_meetings (aC (eV 14) (aC (eV 6) aN))) (eTup aN))))) (zRet (eC (.bl false))) zNil))) zNil) (zCons (zSet (gV 16) (eN bTuple (aC (eLc (iRngS (eC (.int 0)) (eC (.int 240)) 4) (gV 20) tYes (eTup (aC (eV 20) (aC (e2 oMul (eV 20) (eV 20)) aN))) [20]) aN))) (zCons (zSet (gV 17) (eN bTuple (aC (eLc (iRngS (eC (.int 0)) (eC (.int 240)) 4) (gV 20) tYes (eTup (aC (eV 20) (aC (e2 oSub (eC (.int 50000)) (e2 oMul (eV 20) (eV 20))) aN))) [20]) aN))) (zCons (zSet (gV 18) (eCallK 2 D_meetings (aC (eV 16) (aC (eV 17) aN)))) (zRet (eAnd (e2 oEq (eN bLen (aC (eV 18) aN)) (eC (.int 1))) (eAnd (e2 oEq (eCallK 2 D_value_at (aC (eV 16) (aC (e2 oIx (eV 18) (eC (.int 0))) aN))) (eTup (aC (eC (.int 25000)) (aC (eC (.int 1)) aN)))) (e2 oEq (eCallK 2 D_longer_share (aC (eV 17) (aC (eV 16) aN))) (eCallK 2 D__law_share (aC (e2 oIx (e2 oIx (eV 18) (eC (.int 0))) (eC (.int 0))) (aC (e2 oMul (e2 oIx (e2 oIx (eV 18) (eC (.int 0))) (eC (.int 1))) (eC (.int 236))) aN)))))))))))))))))))))))))) from rfl]
  unfold Ends
  rw [ap_zCons, z1, andThen_nx]
  refine st_size hc rfl fun h w a b s z hc hs => ?_
  refine st_table z fun x4 x5 G => ?_
  refine st_sum z ?_
  refine st_low z ?_
  refine st_turn z fun G1 => ?_
  refine st_self z fun G2 => ?_
  refine st_time z hc (((hs.app G).app G1).app G2) fun A B x11 x12 s t => ?_
  refine st_more z fun G3 => ?_
  refine st_parts z t fun x15 => ?_
  obtain ⟨G, e⟩ := set_grow (s := s ++ G3)
  refine ends_of (by rw [ap_zCons, e, andThen_nx]) ?_
  exact tail_true
end K84

namespace K84
open PySem L2 Y
abbrev topS (i : Nat) : Stmt := PySem.Challenge.pw_wholeyard_k84_whole_great_tables.main.body.getD i (.Pass ⟨0, 0, 0, 0⟩)
abbrev s_fits_whole : Stmt := topS 5
theorem sc_fits_whole : FnScope ["value", "low", "high"] ["value", "low", "high"] (defScope s_fits_whole) := ⟨rfl, rfl, rfl, by decide +kernel, rfl, by decide +kernel, by decide +kernel⟩
abbrev s_is_tuple_of : Stmt := topS 6
theorem sc_is_tuple_of : FnScope ["value", "least", "most"] ["value", "least", "most"] (defScope s_is_tuple_of) := ⟨rfl, rfl, rfl, by decide +kernel, rfl, by decide +kernel, by decide +kernel⟩
abbrev s_divisor_in : Stmt := topS 7
theorem sc_divisor_in : FnScope ["one", "other"] ["one", "other"] (defScope s_divisor_in) := ⟨rfl, rfl, rfl, by decide +kernel, rfl, by decide +kernel, by decide +kernel⟩
abbrev s_fits_table : Stmt := topS 13
theorem sc_fits_table : FnScope ["value", "one", "other", "pair"] ["value"] (defScope s_fits_table) := ⟨rfl, rfl, rfl, by decide +kernel, rfl, by decide +kernel, by decide +kernel⟩
abbrev s_need_table : Stmt := topS 14
theorem sc_need_table : FnScope ["table"] ["table"] (defScope s_need_table) := ⟨rfl, rfl, rfl, by decide +kernel, rfl, by decide +kernel, by decide +kernel⟩
abbrev s_fits_share : Stmt := topS 15
theorem sc_fits_share : FnScope ["value"] ["value"] (defScope s_fits_share) := ⟨rfl, rfl, rfl, by decide +kernel, rfl, by decide +kernel, by decide +kernel⟩
abbrev s_share : Stmt := topS 16
theorem sc_share : FnScope ["above", "below", "found"] ["above", "below"] (defScope s_share) := ⟨rfl, rfl, rfl, by decide +kernel, rfl, by decide +kernel, by decide +kernel⟩
abbrev s_plus : Stmt := topS 17
theorem sc_plus : FnScope ["one", "other"] ["one", "other"] (defScope s_plus) := ⟨rfl, rfl, rfl, by decide +kernel, rfl, by decide +kernel, by decide +kernel⟩
abbrev s_is_less : Stmt := topS 18
theorem sc_is_less : FnScope ["one", "other"] ["one", "other"] (defScope s_is_less) := ⟨rfl, rfl, rfl, by decide +kernel, rfl, by decide +kernel, by decide +kernel⟩
abbrev s_need_day : Stmt := topS 19
theorem sc_need_day : FnScope ["table", "day"] ["table", "day"] (defScope s_need_day) := ⟨rfl, rfl, rfl, by decide +kernel, rfl, by decide +kernel, by decide +kernel⟩
abbrev s_need_span : Stmt := topS 20
theorem sc_need_span : FnScope ["table", "first", "last"] ["table", "first", "last"] (defScope s_need_span) := ⟨rfl, rfl, rfl, by decide +kernel, rfl, by decide +kernel, by decide +kernel⟩
abbrev s_on_line : Stmt := topS 21
theorem sc_on_line : FnScope ["one", "other", "day", "run", "rise"] ["one", "other", "day"] (defScope s_on_line) := ⟨rfl, rfl, rfl, by decide +kernel, rfl, by decide +kernel, by decide +kernel⟩
abbrev s_value_in : Stmt := topS 22
theorem sc_value_in : FnScope ["table", "day", "one", "other"] ["table", "day"] (defScope s_value_in) := ⟨rfl, rfl, rfl, by decide +kernel, rfl, by decide +kernel, by decide +kernel⟩
abbrev s_knots_in : Stmt := topS 23
theorem sc_knots_in : FnScope ["table", "first", "last", "inner", "day", "minutes"] ["table", "first", "last"] (defScope s_knots_in) := ⟨rfl, rfl, rfl, by decide +kernel, rfl, by decide +kernel, by decide +kernel⟩
abbrev s_area_in : Stmt := topS 24
theorem sc_area_in : FnScope ["table", "first", "last", "found", "knots", "one", "other", "middle", "wide"] ["table", "first", "last"] (defScope s_area_in) := ⟨rfl, rfl, rfl, by decide +kernel, rfl, by decide +kernel, by decide +kernel⟩
abbrev s_days_of : Stmt := topS 25
theorem sc_days_of : FnScope ["one", "other", "low", "high", "days", "day", "table", "minutes"] ["one", "other"] (defScope s_days_of) := ⟨rfl, rfl, rfl, by decide +kernel, rfl, by decide +kernel, by decide +kernel⟩
abbrev s_need_both : Stmt := topS 26
theorem sc_need_both : FnScope ["one", "other"] ["one", "other"] (defScope s_need_both) := ⟨rfl, rfl, rfl, by decide +kernel, rfl, by decide +kernel, by decide +kernel⟩
abbrev s_meetings_in : Stmt := topS 27
theorem sc_meetings_in : FnScope ["one", "other", "days", "found", "first", "last", "here", "there", "less", "more", "part"] ["one", "other"] (defScope s_meetings_in) := ⟨rfl, rfl, rfl, by decide +kernel, rfl, by decide +kernel, by decide +kernel⟩
abbrev s_sorted_in : Stmt := topS 28
theorem sc_sorted_in : FnScope ["shares", "found", "one", "place"] ["shares"] (defScope s_sorted_in) := ⟨rfl, rfl, rfl, by decide +kernel, rfl, by decide +kernel, by decide +kernel⟩
abbrev s_value_at : Stmt := topS 29
theorem sc_value_at : FnScope ["table", "day"] ["table", "day"] (defScope s_value_at) := ⟨rfl, rfl, rfl, by decide +kernel, rfl, by decide +kernel, by decide +kernel⟩
abbrev s_summed : Stmt := topS 30
theorem sc_summed : FnScope ["table", "first", "last"] ["table", "first", "last"] (defScope s_summed) := ⟨rfl, rfl, rfl, by decide +kernel, rfl, by decide +kernel, by decide +kernel⟩
abbrev s_mean : Stmt := topS 31
theorem sc_mean : FnScope ["table", "first", "last", "area", "wide"] ["table", "first", "last"] (defScope s_mean) := ⟨rfl, rfl, rfl, by decide +kernel, rfl, by decide +kernel, by decide +kernel⟩
abbrev s_meetings : Stmt := topS 32
theorem sc_meetings : FnScope ["one", "other"] ["one", "other"] (defScope s_meetings) := ⟨rfl, rfl, rfl, by decide +kernel, rfl, by decide +kernel, by decide +kernel⟩
abbrev s_longer_share : Stmt := topS 33
theorem sc_longer_share : FnScope ["one", "other", "days", "found", "times", "here", "there", "middle", "time", "day"] ["one", "other"] (defScope s_longer_share) := ⟨rfl, rfl, rfl, by decide +kernel, rfl, by decide +kernel, by decide +kernel⟩
abbrev s_lowered : Stmt := topS 34
theorem sc_lowered : FnScope ["table", "found", "at"] ["table"] (defScope s_lowered) := ⟨rfl, rfl, rfl, by decide +kernel, rfl, by decide +kernel, by decide +kernel⟩
abbrev s__law_cup : Stmt := topS 36
theorem sc__law_cup : FnScope ["script", "cell"] ["script"] (defScope s__law_cup) := ⟨rfl, rfl, rfl, by decide +kernel, rfl, by decide +kernel, by decide +kernel⟩
abbrev s__law_roll : Stmt := topS 37
theorem sc__law_roll : FnScope ["cup", "many", "found", "deep"] ["cup", "many"] (defScope s__law_roll) := ⟨rfl, rfl, rfl, by decide +kernel, rfl, by decide +kernel, by decide +kernel⟩
abbrev s__law_same : Stmt := topS 39
theorem sc__law_same : FnScope ["told", "due", "at"] ["told", "due"] (defScope s__law_same) := ⟨rfl, rfl, rfl, by decide +kernel, rfl, by decide +kernel, by decide +kernel⟩
abbrev s__law_share : Stmt := topS 41
theorem sc__law_share : FnScope ["above", "below", "one", "other", "sign"] ["above", "below"] (defScope s__law_share) := ⟨rfl, rfl, rfl, by decide +kernel, rfl, by decide +kernel, by decide +kernel⟩
abbrev s__law_plus : Stmt := topS 42
theorem sc__law_plus : FnScope ["one", "other"] ["one", "other"] (defScope s__law_plus) := ⟨rfl, rfl, rfl, by decide +kernel, rfl, by decide +kernel, by decide +kernel⟩
abbrev s__law_minus : Stmt := topS 43
theorem sc__law_minus : FnScope ["one", "other"] ["one", "other"] (defScope s__law_minus) := ⟨rfl, rfl, rfl, by decide +kernel, rfl, by decide +kernel, by decide +kernel⟩
abbrev s__law_times : Stmt := topS 44
theorem sc__law_times : FnScope ["one", "other"] ["one", "other"] (defScope s__law_times) := ⟨rfl, rfl, rfl, by decide +kernel, rfl, by decide +kernel, by decide +kernel⟩
abbrev s__law_less : Stmt := topS 45
theorem sc__law_less : FnScope ["one", "other"] ["one", "other"] (defScope s__law_less) := ⟨rfl, rfl, rfl, by decide +kernel, rfl, by decide +kernel, by decide +kernel⟩
abbrev s__law_value : Stmt := topS 46
theorem sc__law_value : FnScope ["table", "time", "at", "one", "other", "part"] ["table", "time"] (defScope s__law_value) := ⟨rfl, rfl, rfl, by decide +kernel, rfl, by decide +kernel, by decide +kernel⟩
abbrev s_law : Stmt := topS 48
theorem sc_law : FnScope ["script", "cup", "high", "wide", "up", "down", "table", "end", "top", "area", "turned", "below", "above", "time", "more", "parts", "grow", "fall", "times", "at", "day", "minutes"] ["script"] (defScope s_law) := ⟨rfl, rfl, rfl, by decide +kernel, rfl, by decide +kernel, by decide +kernel⟩
structure Txt (K : PySem.W.Frag) (mg : Str → Option Value) (fa : Nat → Option Addr) (xc : Nat → Option (Addr × List Str)) where
  f_fits_whole : Addr
  d_fits_whole : FuncData
  F_fits_whole : Fun K "fits_whole" "fits_whole" s_fits_whole f_fits_whole d_fits_whole
  g_fits_whole : mg "fits_whole" = some (.ref f_fits_whole)
  b_fits_whole : Binds K d_fits_whole ["value", "low", "high"] []
  f_is_tuple_of : Addr
  d_is_tuple_of : FuncData
  F_is_tuple_of : Fun K "is_tuple_of" "is_tuple_of" s_is_tuple_of f_is_tuple_of d_is_tuple_of
  g_is_tuple_of : mg "is_tuple_of" = some (.ref f_is_tuple_of)
  b_is_tuple_of : Binds K d_is_tuple_of ["value", "least", "most"] []
  f_divisor_in : Addr
  d_divisor_in : FuncData
  F_divisor_in : Fun K "divisor_in" "divisor_in" s_divisor_in f_divisor_in d_divisor_in
  g_divisor_in : mg "divisor_in" = some (.ref f_divisor_in)
  b_divisor_in : Binds K d_divisor_in ["one", "other"] []
  f_fits_table : Addr
  d_fits_table : FuncData
  F_fits_table : Fun K "fits_table" "fits_table" s_fits_table f_fits_table d_fits_table
  g_fits_table : mg "fits_table" = some (.ref f_fits_table)
  b_fits_table : Binds K d_fits_table ["value"] []
  f_need_table : Addr
  d_need_table : FuncData
  F_need_table : Fun K "need_table" "need_table" s_need_table f_need_table d_need_table
  g_need_table : mg "need_table" = some (.ref f_need_table)
  b_need_table : Binds K d_need_table ["table"] []
  f_fits_share : Addr
  d_fits_share : FuncData
  F_fits_share : Fun K "fits_share" "fits_share" s_fits_share f_fits_share d_fits_share
  g_fits_share : mg "fits_share" = some (.ref f_fits_share)
  b_fits_share : Binds K d_fits_share ["value"] []
  f_share : Addr
  d_share : FuncData
  F_share : Fun K "share" "share" s_share f_share d_share
  g_share : mg "share" = some (.ref f_share)
  b_share : Binds K d_share ["above", "below"] []
  f_plus : Addr
  d_plus : FuncData
  F_plus : Fun K "plus" "plus" s_plus f_plus d_plus
  g_plus : mg "plus" = some (.ref f_plus)
  b_plus : Binds K d_plus ["one", "other"] []
  f_is_less : Addr
  d_is_less : FuncData
  F_is_less : Fun K "is_less" "is_less" s_is_less f_is_less d_is_less
  g_is_less : mg "is_less" = some (.ref f_is_less)
  b_is_less : Binds K d_is_less ["one", "other"] []
  f_need_day : Addr
  d_need_day : FuncData
  F_need_day : Fun K "need_day" "need_day" s_need_day f_need_day d_need_day
  g_need_day : mg "need_day" = some (.ref f_need_day)
  b_need_day : Binds K d_need_day ["table", "day"] []
  f_need_span : Addr
  d_need_span : FuncData
  F_need_span : Fun K "need_span" "need_span" s_need_span f_need_span d_need_span
  g_need_span : mg "need_span" = some (.ref f_need_span)
  b_need_span : Binds K d_need_span ["table", "first", "last"] []
  f_on_line : Addr
  d_on_line : FuncData
  F_on_line : Fun K "on_line" "on_line" s_on_line f_on_line d_on_line
  g_on_line : mg "on_line" = some (.ref f_on_line)
  b_on_line : Binds K d_on_line ["one", "other", "day"] []
  f_value_in : Addr
  d_value_in : FuncData
  F_value_in : Fun K "value_in" "value_in" s_value_in f_value_in d_value_in
  g_value_in : mg "value_in" = some (.ref f_value_in)
  b_value_in : Binds K d_value_in ["table", "day"] []
  f_knots_in : Addr
  d_knots_in : FuncData
  F_knots_in : Fun K "knots_in" "knots_in" s_knots_in f_knots_in d_knots_in
  g_knots_in : mg "knots_in" = some (.ref f_knots_in)
  b_knots_in : Binds K d_knots_in ["table", "first", "last"] []
  f_area_in : Addr
  d_area_in : FuncData
  F_area_in : Fun K "area_in" "area_in" s_area_in f_area_in d_area_in
  g_area_in : mg "area_in" = some (.ref f_area_in)
  b_area_in : Binds K d_area_in ["table", "first", "last"] []
  f_days_of : Addr
  d_days_of : FuncData
  F_days_of : Fun K "days_of" "days_of" s_days_of f_days_of d_days_of
  g_days_of : mg "days_of" = some (.ref f_days_of)
  b_days_of : Binds K d_days_of ["one", "other"] []
  f_need_both : Addr
  d_need_both : FuncData
  F_need_both : Fun K "need_both" "need_both" s_need_both f_need_both d_need_both
  g_need_both : mg "need_both" = some (.ref f_need_both)
  b_need_both : Binds K d_need_both ["one", "other"] []
  f_meetings_in : Addr
  d_meetings_in : FuncData
  F_meetings_in : Fun K "meetings_in" "meetings_in" s_meetings_in f_meetings_in d_meetings_in
  g_meetings_in : mg "meetings_in" = some (.ref f_meetings_in)
  b_meetings_in : Binds K d_meetings_in ["one", "other"] []
  f_sorted_in : Addr
  d_sorted_in : FuncData
  F_sorted_in : Fun K "sorted_in" "sorted_in" s_sorted_in f_sorted_in d_sorted_in
  g_sorted_in : mg "sorted_in" = some (.ref f_sorted_in)
  b_sorted_in : Binds K d_sorted_in ["shares"] []
  f_value_at : Addr
  d_value_at : FuncData
  F_value_at : Fun K "value_at" "value_at" s_value_at f_value_at d_value_at
  g_value_at : mg "value_at" = some (.ref f_value_at)
  b_value_at : Binds K d_value_at ["table", "day"] []
  f_summed : Addr
  d_summed : FuncData
  F_summed : Fun K "summed" "summed" s_summed f_summed d_summed
  g_summed : mg "summed" = some (.ref f_summed)
  b_summed : Binds K d_summed ["table", "first", "last"] []
  f_mean : Addr
  d_mean : FuncData
  F_mean : Fun K "mean" "mean" s_mean f_mean d_mean
  g_mean : mg "mean" = some (.ref f_mean)
  b_mean : Binds K d_mean ["table", "first", "last"] []
  f_meetings : Addr
  d_meetings : FuncData
  F_meetings : Fun K "meetings" "meetings" s_meetings f_meetings d_meetings
  g_meetings : mg "meetings" = some (.ref f_meetings)
  b_meetings : Binds K d_meetings ["one", "other"] []
  f_longer_share : Addr
  d_longer_share : FuncData
  F_longer_share : Fun K "longer_share" "longer_share" s_longer_share f_longer_share d_longer_share
  g_longer_share : mg "longer_share" = some (.ref f_longer_share)
  b_longer_share : Binds K d_longer_share ["one", "other"] []
  f_lowered : Addr
  d_lowered : FuncData
  F_lowered : Fun K "lowered" "lowered" s_lowered f_lowered d_lowered
  g_lowered : mg "lowered" = some (.ref f_lowered)
  b_lowered : Binds K d_lowered ["table"] []
  f__law_cup : Addr
  d__law_cup : FuncData
  F__law_cup : Fun K "_law_cup" "_law_cup" s__law_cup f__law_cup d__law_cup
  g__law_cup : mg "_law_cup" = some (.ref f__law_cup)
  b__law_cup : Binds K d__law_cup ["script"] []
  f__law_roll : Addr
  d__law_roll : FuncData
  F__law_roll : Fun K "_law_roll" "_law_roll" s__law_roll f__law_roll d__law_roll
  g__law_roll : mg "_law_roll" = some (.ref f__law_roll)
  b__law_roll : Binds K d__law_roll ["cup", "many"] []
  f__law_same : Addr
  d__law_same : FuncData
  F__law_same : Fun K "_law_same" "_law_same" s__law_same f__law_same d__law_same
  g__law_same : mg "_law_same" = some (.ref f__law_same)
  b__law_same : Binds K d__law_same ["told", "due"] []
  f__law_share : Addr
  d__law_share : FuncData
  F__law_share : Fun K "_law_share" "_law_share" s__law_share f__law_share d__law_share
  g__law_share : mg "_law_share" = some (.ref f__law_share)
  b__law_share : Binds K d__law_share ["above", "below"] []
  f__law_plus : Addr
  d__law_plus : FuncData
  F__law_plus : Fun K "_law_plus" "_law_plus" s__law_plus f__law_plus d__law_plus
  g__law_plus : mg "_law_plus" = some (.ref f__law_plus)
  b__law_plus : Binds K d__law_plus ["one", "other"] []
  f__law_minus : Addr
  d__law_minus : FuncData
  F__law_minus : Fun K "_law_minus" "_law_minus" s__law_minus f__law_minus d__law_minus
  g__law_minus : mg "_law_minus" = some (.ref f__law_minus)
  b__law_minus : Binds K d__law_minus ["one", "other"] []
  f__law_times : Addr
  d__law_times : FuncData
  F__law_times : Fun K "_law_times" "_law_times" s__law_times f__law_times d__law_times
  g__law_times : mg "_law_times" = some (.ref f__law_times)
  b__law_times : Binds K d__law_times ["one", "other"] []
  f__law_less : Addr
  d__law_less : FuncData
  F__law_less : Fun K "_law_less" "_law_less" s__law_less f__law_less d__law_less
  g__law_less : mg "_law_less" = some (.ref f__law_less)
  b__law_less : Binds K d__law_less ["one", "other"] []
  f__law_value : Addr
  d__law_value : FuncData
  F__law_value : Fun K "_law_value" "_law_value" s__law_value f__law_value d__law_value
  g__law_value : mg "_law_value" = some (.ref f__law_value)
  b__law_value : Binds K d__law_value ["table", "time"] []
  f_law : Addr
  d_law : FuncData
  F_law : Fun K "law" "law" s_law f_law d_law
  g_law : mg "law" = some (.ref f_law)
  b_law : Binds K d_law ["script"] []
  c_DAYS : ∃ k, mg "DAYS" = some (.int 366 k)
  c_ENTRIES : ∃ k, mg "ENTRIES" = some (.int 60 k)
  c_FAR : ∃ k, mg "FAR" = some (.int 1000000000 k)
  c_MINUTES : ∃ k, mg "MINUTES" = some (.int 100000 k)
  z_abs : mg "abs" = none
  z_all : mg "all" = none
  z_bool : mg "bool" = none
  z_dict : mg "dict" = none
  z_int : mg "int" = none
  z_isinstance : mg "isinstance" = none
  z_len : mg "len" = none
  z_list : mg "list" = none
  z_max : mg "max" = none
  z_min : mg "min" = none
  z_range : mg "range" = none
  z_set : mg "set" = none
  z_sorted : mg "sorted" = none
  z_str : mg "str" = none
  z_tuple : mg "tuple" = none
  z_zip : mg "zip" = none
  x_InvalidNumber : XTxt K mg xc "InvalidNumber" 1
  x_InvalidTable : XTxt K mg xc "InvalidTable" 7
section
variable {P : Program} {w : World} {K : PySem.W.Frag} {mg : Str → Option Value} {base : Heap} {fa : Nat → Option Addr} {xc : Nat → Option (Addr × List Str)} {tT : List (Addr × Str)}
theorem ok_fits_whole (T : Txt K mg fa xc) : FnOk P w K mg base (L2.CX P w) 1 T.f_fits_whole T.d_fits_whole ["value", "low", "high"] (spF ⟨K, fa, xc, tT⟩ 3 D_fits_whole) :=
  fn_ok (P := P) (w := w) (mg := mg) (base := base) (t := ⟨K, fa, xc, tT⟩) T.F_fits_whole sc_fits_whole fun cdv A outer s H E hr => by
    have nd := sc_fits_whole.nd
    have hc : (cxOf (L2.CX P w) P w K mg base ["value", "low", "high"] "fits_whole" (defScope s_fits_whole) T.f_fits_whole cdv A outer s H E).calm = true := rfl
    have hu := hr.units
    have hu65 := Y.room65 hr
    have hdi := Nat.lt_of_le_of_lt (Nat.add_le_add_left (by decide : 1 ≤ 64) _) hr.units
    have tk : Takes (cxOf (L2.CX P w) P w K mg base ["value", "low", "high"] "fits_whole" (defScope s_fits_whole) T.f_fits_whole cdv A outer s H E) (fun cls d _ H => E cls d H) := takes_of rfl rfl rfl rfl
    have O : Okc (cxOf (L2.CX P w) P w K mg base ["value", "low", "high"] "fits_whole" (defScope s_fits_whole) T.f_fits_whole cdv A outer s H E) ⟨K, fa, xc, tT⟩ (fun _ => E) := okc_def rfl
    exact (z_one (z_ret (s_vand (s_isI .int rfl (by rfl) T.z_isinstance (by decide +kernel) (by rfl) T.z_int (by decide +kernel) (s_var 0)) (s_vand (s_vnot (s_isI .bool rfl (by rfl) T.z_isinstance (by decide +kernel) (by rfl) T.z_bool (by decide +kernel) (s_var 0))) (s_one (s_chain op_le op_le o_le o_le (s_var 1) (s_var 0) (s_var 2)))))))
theorem ok_is_tuple_of (T : Txt K mg fa xc) : FnOk P w K mg base (L2.CX P w) 1 T.f_is_tuple_of T.d_is_tuple_of ["value", "least", "most"] (spF ⟨K, fa, xc, tT⟩ 3 D_is_tuple_of) :=
  fn_ok (P := P) (w := w) (mg := mg) (base := base) (t := ⟨K, fa, xc, tT⟩) T.F_is_tuple_of sc_is_tuple_of fun cdv A outer s H E hr => by
    have nd := sc_is_tuple_of.nd
    have hc : (cxOf (L2.CX P w) P w K mg base ["value", "least", "most"] "is_tuple_of" (defScope s_is_tuple_of) T.f_is_tuple_of cdv A outer s H E).calm = true := rfl
    have hu := hr.units
    have hu65 := Y.room65 hr
    have hdi := Nat.lt_of_le_of_lt (Nat.add_le_add_left (by decide : 1 ≤ 64) _) hr.units
    have tk : Takes (cxOf (L2.CX P w) P w K mg base ["value", "least", "most"] "is_tuple_of" (defScope s_is_tuple_of) T.f_is_tuple_of cdv A outer s H E) (fun cls d _ H => E cls d H) := takes_of rfl rfl rfl rfl
    have O : Okc (cxOf (L2.CX P w) P w K mg base ["value", "least", "most"] "is_tuple_of" (defScope s_is_tuple_of) T.f_is_tuple_of cdv A outer s H E) ⟨K, fa, xc, tT⟩ (fun _ => E) := okc_def rfl
    exact (z_one (z_ret (s_vand (s_isI .tuple rfl (by rfl) T.z_isinstance (by decide +kernel) (by rfl) T.z_tuple (by decide +kernel) (s_var 0)) (s_one (s_chain op_le op_le o_le o_le (s_var 1) (s_bltB call_len3 n_len (by rfl) T.z_len (by decide +kernel) (s_cons (s_var 0) s_nil)) (s_var 2))))))
theorem ok_divisor_in (T : Txt K mg fa xc) : FnOk P w K mg base (L2.CX P w) 1 T.f_divisor_in T.d_divisor_in ["one", "other"] (spF ⟨K, fa, xc, tT⟩ 2 D_divisor_in) :=
  fn_ok (P := P) (w := w) (mg := mg) (base := base) (t := ⟨K, fa, xc, tT⟩) T.F_divisor_in sc_divisor_in fun cdv A outer s H E hr => by
    have nd := sc_divisor_in.nd
    have hc : (cxOf (L2.CX P w) P w K mg base ["one", "other"] "divisor_in" (defScope s_divisor_in) T.f_divisor_in cdv A outer s H E).calm = true := rfl
    have hu := hr.units
    have hu65 := Y.room65 hr
    have hdi := Nat.lt_of_le_of_lt (Nat.add_le_add_left (by decide : 1 ≤ 64) _) hr.units
    have tk : Takes (cxOf (L2.CX P w) P w K mg base ["one", "other"] "divisor_in" (defScope s_divisor_in) T.f_divisor_in cdv A outer s H E) (fun cls d _ H => E cls d H) := takes_of rfl rfl rfl rfl
    have O : Okc (cxOf (L2.CX P w) P w K mg base ["one", "other"] "divisor_in" (defScope s_divisor_in) T.f_divisor_in cdv A outer s H E) ⟨K, fa, xc, tT⟩ (fun _ => E) := okc_def rfl
    exact (z_cons (z_par (i := 0) (j := 1) hc nd rfl rfl (by decide) rfl rfl (s_bltB call_abs n_abs (by rfl) T.z_abs (by decide +kernel) (s_cons (s_var 0) s_nil)) (s_bltB call_abs n_abs (by rfl) T.z_abs (by decide +kernel) (s_cons (s_var 1) s_nil)) (by rfl))
      (z_cons (z_while pass_def (s_tcmp op_gt o_gt (s_var 1) s_int (nomark _)) (z_one (z_par (i := 0) (j := 1) hc nd rfl rfl (by decide) rfl rfl (s_var 1) (s_op op_sub o_sub (s_var 0) (s_op op_mul2 o_mul (s_op op_divG o_div (s_var 0) (s_var 1)) (s_var 1))) (by rfl))))
      (z_one (z_ret (s_var 0)))))
theorem ok_fits_table (T : Txt K mg fa xc) : FnOk P w K mg base (L2.CX P w) 2 T.f_fits_table T.d_fits_table ["value"] (spF ⟨K, fa, xc, tT⟩ 1 D_fits_table) :=
  fn_ok (P := P) (w := w) (mg := mg) (base := base) (t := ⟨K, fa, xc, tT⟩) T.F_fits_table sc_fits_table fun cdv A outer s H E hr => by
    have nd := sc_fits_table.nd
    have hc : (cxOf (L2.CX P w) P w K mg base ["value", "one", "other", "pair"] "fits_table" (defScope s_fits_table) T.f_fits_table cdv A outer s H E).calm = true := rfl
    have hu := hr.units
    have hu65 := Y.room65 hr
    have hdi := Nat.lt_of_le_of_lt (Nat.add_le_add_left (by decide : 1 ≤ 64) _) hr.units
    have tk : Takes (cxOf (L2.CX P w) P w K mg base ["value", "one", "other", "pair"] "fits_table" (defScope s_fits_table) T.f_fits_table cdv A outer s H E) (fun cls d _ H => E cls d H) := takes_of rfl rfl rfl rfl
    have O : Okc (cxOf (L2.CX P w) P w K mg base ["value", "one", "other", "pair"] "fits_table" (defScope s_fits_table) T.f_fits_table cdv A outer s H E) ⟨K, fa, xc, tT⟩ (fun _ => E) := okc_def rfl
    exact (z_cons (z_if (s_pw (s_or (s_tnot (s_tst (s_call O (ok_is_tuple_of T) (hr.mono (by decide)) (by rfl) T.g_is_tuple_of T.F_is_tuple_of.kp T.b_is_tuple_of (s_cons (s_var 0) (s_cons s_int (s_cons (s_glob (by rfl) T.c_ENTRIES) s_nil)))))) (s_or1 (s_tnot (s_tst (s_bltB (cr_all hc) n_all (by rfl) T.z_all (by decide +kernel) (s_cons (s_lc (own := [("pair", 3)]) rfl hc nd (i_tup rfl (s_var 0)) (blkOk_by (N := ["value", "one", "other", "pair"]) (sc := defScope s_fits_table) (own := [("pair", 3)]) (by decide +kernel)) (fun _ _ _ _ _ => (gw_name (i := 3) nd rfl (Or.inl rfl) (by decide))) (fun _ _ _ _ _ => ts_nil) (fun _ _ _ _ _ => (s_call O.blk (ok_is_tuple_of T) (hr.mono (by decide)) (by rfl) T.g_is_tuple_of T.F_is_tuple_of.kp T.b_is_tuple_of (s_cons (s_var 3) (s_cons s_int (s_cons s_int s_nil)))))) s_nil))))))) (z_one (z_ret s_bl)) z_nil)
      (z_cons (z_if (s_tnot (s_tst (s_bltB (cr_all hc) n_all (by rfl) T.z_all (by decide +kernel) (s_cons (s_lc (own := [("pair", 3)]) rfl hc nd (i_tup rfl (s_var 0)) (blkOk_by (N := ["value", "one", "other", "pair"]) (sc := defScope s_fits_table) (own := [("pair", 3)]) (by decide +kernel)) (fun _ _ _ _ _ => (gw_name (i := 3) nd rfl (Or.inl rfl) (by decide))) (fun _ _ _ _ _ => ts_nil) (fun _ _ _ _ _ => (s_vand (s_callK O.blk (ok_fits_whole T) (hr.mono (by decide)) (by rfl) T.g_fits_whole T.F_fits_whole.kp T.b_fits_whole (s_cons (s_ix ix_2 o_ix (s_var 3) s_int (fun _ _ => rfl)) (s_cons s_int (s_cons (s_glob (by rfl) T.c_DAYS) s_nil)))) (s_one (s_callK O.blk (ok_fits_whole T) (hr.mono (by decide)) (by rfl) T.g_fits_whole T.F_fits_whole.kp T.b_fits_whole (s_cons (s_ix ix_2 o_ix (s_var 3) s_int (fun _ _ => rfl)) (s_cons (s_un un_neg o_neg (s_glob (by rfl) T.c_MINUTES)) (s_cons (s_glob (by rfl) T.c_MINUTES) s_nil)))))))) s_nil)))) (z_one (z_ret s_bl)) z_nil)
      (z_one (z_ret (s_bltB (cr_all hc) n_all (by rfl) T.z_all (by decide +kernel) (s_cons (s_lc (own := [("one", 1), ("other", 2)]) rfl hc nd (i_zip rfl (by rfl) T.z_zip (s_var 0) (s_cut (pl := (.at (eC (.int 1)))) (ph := .no) rfl (s_var 0) s_int trivial)) (blkOk_by (N := ["value", "one", "other", "pair"]) (sc := defScope s_fits_table) (own := [("one", 1), ("other", 2)]) (by decide +kernel)) (fun _ _ _ _ _ => (gw_tup rfl hc (gsw_cons (gw_name (i := 1) nd rfl (Or.inl rfl) (by decide)) (gsw_cons (gw_name (i := 2) nd rfl (Or.inl rfl) (by decide)) gsw_nil)) ((len_gsC ((len_gsC (fun _ _ _ _ h => len_gsN h))))))) (fun _ _ _ _ _ => ts_nil) (fun _ _ _ _ _ => (s_cmp op_lt o_lt (s_ix ix_2 o_ix (s_var 1) s_int (fun _ _ => rfl)) (s_ix ix_2 o_ix (s_var 2) s_int (fun _ _ => rfl)) (nomark _)))) s_nil))))))
theorem ok_need_table (T : Txt K mg fa xc) : FnOk P w K mg base (L2.CX P w) 3 T.f_need_table T.d_need_table ["table"] (spF ⟨K, fa, xc, tT⟩ 1 D_need_table) :=
  fn_ok (P := P) (w := w) (mg := mg) (base := base) (t := ⟨K, fa, xc, tT⟩) T.F_need_table sc_need_table fun cdv A outer s H E hr => by
    have nd := sc_need_table.nd
    have hc : (cxOf (L2.CX P w) P w K mg base ["table"] "need_table" (defScope s_need_table) T.f_need_table cdv A outer s H E).calm = true := rfl
    have hu := hr.units
    have hu65 := Y.room65 hr
    have hdi := Nat.lt_of_le_of_lt (Nat.add_le_add_left (by decide : 1 ≤ 64) _) hr.units
    have tk : Takes (cxOf (L2.CX P w) P w K mg base ["table"] "need_table" (defScope s_need_table) T.f_need_table cdv A outer s H E) (fun cls d _ H => E cls d H) := takes_of rfl rfl rfl rfl
    have O : Okc (cxOf (L2.CX P w) P w K mg base ["table"] "need_table" (defScope s_need_table) T.f_need_table cdv A outer s H E) ⟨K, fa, xc, tT⟩ (fun _ => E) := okc_def rfl
    exact (z_one (z_if (s_tnot (s_tst (s_call O (ok_fits_table T) (hr.mono (by decide)) (by rfl) T.g_fits_table T.F_fits_table.kp T.b_fits_table (s_cons (s_var 0) s_nil)))) (z_one (z_raise hc tk PySem.F.excBase_ValueError T.x_InvalidTable.ex T.x_InvalidTable.g T.x_InvalidTable.kp (T.x_InvalidTable.r rfl) (by rfl) T.x_InvalidTable.xc)) z_nil))
theorem ok_fits_share (T : Txt K mg fa xc) : FnOk P w K mg base (L2.CX P w) 2 T.f_fits_share T.d_fits_share ["value"] (spF ⟨K, fa, xc, tT⟩ 1 D_fits_share) :=
  fn_ok (P := P) (w := w) (mg := mg) (base := base) (t := ⟨K, fa, xc, tT⟩) T.F_fits_share sc_fits_share fun cdv A outer s H E hr => by
    have nd := sc_fits_share.nd
    have hc : (cxOf (L2.CX P w) P w K mg base ["value"] "fits_share" (defScope s_fits_share) T.f_fits_share cdv A outer s H E).calm = true := rfl
    have hu := hr.units
    have hu65 := Y.room65 hr
    have hdi := Nat.lt_of_le_of_lt (Nat.add_le_add_left (by decide : 1 ≤ 64) _) hr.units
    have tk : Takes (cxOf (L2.CX P w) P w K mg base ["value"] "fits_share" (defScope s_fits_share) T.f_fits_share cdv A outer s H E) (fun cls d _ H => E cls d H) := takes_of rfl rfl rfl rfl
    have O : Okc (cxOf (L2.CX P w) P w K mg base ["value"] "fits_share" (defScope s_fits_share) T.f_fits_share cdv A outer s H E) ⟨K, fa, xc, tT⟩ (fun _ => E) := okc_def rfl
    exact (z_cons (z_if (s_pw (s_or (s_tnot (s_tst (s_call O (ok_is_tuple_of T) (hr.mono (by decide)) (by rfl) T.g_is_tuple_of T.F_is_tuple_of.kp T.b_is_tuple_of (s_cons (s_var 0) (s_cons s_int (s_cons s_int s_nil)))))) (s_or (s_tnot (s_tst (s_callK O (ok_fits_whole T) (hr.mono (by decide)) (by rfl) T.g_fits_whole T.F_fits_whole.kp T.b_fits_whole (s_cons (s_ix ix_2 o_ix (s_var 0) s_int (fun _ _ => rfl)) (s_cons (s_un un_neg o_neg (s_glob (by rfl) T.c_FAR)) (s_cons (s_glob (by rfl) T.c_FAR) s_nil)))))) (s_or1 (s_tnot (s_tst (s_callK O (ok_fits_whole T) (hr.mono (by decide)) (by rfl) T.g_fits_whole T.F_fits_whole.kp T.b_fits_whole (s_cons (s_ix ix_2 o_ix (s_var 0) s_int (fun _ _ => rfl)) (s_cons s_int (s_cons (s_glob (by rfl) T.c_FAR) s_nil)))))))))) (z_one (z_ret s_bl)) z_nil)
      (z_one (z_ret (s_cmp (op_eqD hu) o_eq (s_callK O (ok_divisor_in T) (hr.mono (by decide)) (by rfl) T.g_divisor_in T.F_divisor_in.kp T.b_divisor_in (s_cons (s_ix ix_2 o_ix (s_var 0) s_int (fun _ _ => rfl)) (s_cons (s_ix ix_2 o_ix (s_var 0) s_int (fun _ _ => rfl)) s_nil))) s_int (nomark _)))))
theorem ok_share (T : Txt K mg fa xc) : FnOk P w K mg base (L2.CX P w) 2 T.f_share T.d_share ["above", "below"] (spF ⟨K, fa, xc, tT⟩ 2 D_share) :=
  fn_ok (P := P) (w := w) (mg := mg) (base := base) (t := ⟨K, fa, xc, tT⟩) T.F_share sc_share fun cdv A outer s H E hr => by
    have nd := sc_share.nd
    have hc : (cxOf (L2.CX P w) P w K mg base ["above", "below", "found"] "share" (defScope s_share) T.f_share cdv A outer s H E).calm = true := rfl
    have hu := hr.units
    have hu65 := Y.room65 hr
    have hdi := Nat.lt_of_le_of_lt (Nat.add_le_add_left (by decide : 1 ≤ 64) _) hr.units
    have tk : Takes (cxOf (L2.CX P w) P w K mg base ["above", "below", "found"] "share" (defScope s_share) T.f_share cdv A outer s H E) (fun cls d _ H => E cls d H) := takes_of rfl rfl rfl rfl
    have O : Okc (cxOf (L2.CX P w) P w K mg base ["above", "below", "found"] "share" (defScope s_share) T.f_share cdv A outer s H E) ⟨K, fa, xc, tT⟩ (fun _ => E) := okc_def rfl
    exact (z_cons (z_set (i := 2) nd rfl (.inl rfl) (s_op op_mul2 o_mul (s_callK O (ok_divisor_in T) (hr.mono (by decide)) (by rfl) T.g_divisor_in T.F_divisor_in.kp T.b_divisor_in (s_cons (s_var 0) (s_cons (s_var 1) s_nil))) (s_if (s_tcmp op_gt o_gt (s_var 1) s_int (nomark _)) s_int (s_un un_neg o_neg s_int))))
      (z_one (z_ret (s_tup (s_cons (s_op op_divG o_div (s_var 0) (s_var 2)) (s_cons (s_op op_divG o_div (s_var 1) (s_var 2)) s_nil))))))
theorem ok_plus (T : Txt K mg fa xc) : FnOk P w K mg base (L2.CX P w) 3 T.f_plus T.d_plus ["one", "other"] (spF ⟨K, fa, xc, tT⟩ 2 D_plus) :=
  fn_ok (P := P) (w := w) (mg := mg) (base := base) (t := ⟨K, fa, xc, tT⟩) T.F_plus sc_plus fun cdv A outer s H E hr => by
    have nd := sc_plus.nd
    have hc : (cxOf (L2.CX P w) P w K mg base ["one", "other"] "plus" (defScope s_plus) T.f_plus cdv A outer s H E).calm = true := rfl
    have hu := hr.units
    have hu65 := Y.room65 hr
    have hdi := Nat.lt_of_le_of_lt (Nat.add_le_add_left (by decide : 1 ≤ 64) _) hr.units
    have tk : Takes (cxOf (L2.CX P w) P w K mg base ["one", "other"] "plus" (defScope s_plus) T.f_plus cdv A outer s H E) (fun cls d _ H => E cls d H) := takes_of rfl rfl rfl rfl
    have O : Okc (cxOf (L2.CX P w) P w K mg base ["one", "other"] "plus" (defScope s_plus) T.f_plus cdv A outer s H E) ⟨K, fa, xc, tT⟩ (fun _ => E) := okc_def rfl
    exact (z_one (z_ret (s_callK O (ok_share T) (hr.mono (by decide)) (by rfl) T.g_share T.F_share.kp T.b_share (s_cons (s_op op_add4 o_add (s_op op_mul2 o_mul (s_ix ix_2 o_ix (s_var 0) s_int (fun _ _ => rfl)) (s_ix ix_2 o_ix (s_var 1) s_int (fun _ _ => rfl))) (s_op op_mul2 o_mul (s_ix ix_2 o_ix (s_var 1) s_int (fun _ _ => rfl)) (s_ix ix_2 o_ix (s_var 0) s_int (fun _ _ => rfl)))) (s_cons (s_op op_mul2 o_mul (s_ix ix_2 o_ix (s_var 0) s_int (fun _ _ => rfl)) (s_ix ix_2 o_ix (s_var 1) s_int (fun _ _ => rfl))) s_nil)))))
theorem ok_is_less (T : Txt K mg fa xc) : FnOk P w K mg base (L2.CX P w) 1 T.f_is_less T.d_is_less ["one", "other"] (spF ⟨K, fa, xc, tT⟩ 2 D_is_less) :=
  fn_ok (P := P) (w := w) (mg := mg) (base := base) (t := ⟨K, fa, xc, tT⟩) T.F_is_less sc_is_less fun cdv A outer s H E hr => by
    have nd := sc_is_less.nd
    have hc : (cxOf (L2.CX P w) P w K mg base ["one", "other"] "is_less" (defScope s_is_less) T.f_is_less cdv A outer s H E).calm = true := rfl
    have hu := hr.units
    have hu65 := Y.room65 hr
    have hdi := Nat.lt_of_le_of_lt (Nat.add_le_add_left (by decide : 1 ≤ 64) _) hr.units
    have tk : Takes (cxOf (L2.CX P w) P w K mg base ["one", "other"] "is_less" (defScope s_is_less) T.f_is_less cdv A outer s H E) (fun cls d _ H => E cls d H) := takes_of rfl rfl rfl rfl
    have O : Okc (cxOf (L2.CX P w) P w K mg base ["one", "other"] "is_less" (defScope s_is_less) T.f_is_less cdv A outer s H E) ⟨K, fa, xc, tT⟩ (fun _ => E) := okc_def rfl
    exact (z_one (z_ret (s_cmp op_lt o_lt (s_op op_mul2 o_mul (s_ix ix_2 o_ix (s_var 0) s_int (fun _ _ => rfl)) (s_ix ix_2 o_ix (s_var 1) s_int (fun _ _ => rfl))) (s_op op_mul2 o_mul (s_ix ix_2 o_ix (s_var 1) s_int (fun _ _ => rfl)) (s_ix ix_2 o_ix (s_var 0) s_int (fun _ _ => rfl))) (nomark _))))
theorem ok_need_day (T : Txt K mg fa xc) : FnOk P w K mg base (L2.CX P w) 3 T.f_need_day T.d_need_day ["table", "day"] (spF ⟨K, fa, xc, tT⟩ 2 D_need_day) :=
  fn_ok (P := P) (w := w) (mg := mg) (base := base) (t := ⟨K, fa, xc, tT⟩) T.F_need_day sc_need_day fun cdv A outer s H E hr => by
    have nd := sc_need_day.nd
    have hc : (cxOf (L2.CX P w) P w K mg base ["table", "day"] "need_day" (defScope s_need_day) T.f_need_day cdv A outer s H E).calm = true := rfl
    have hu := hr.units
    have hu65 := Y.room65 hr
    have hdi := Nat.lt_of_le_of_lt (Nat.add_le_add_left (by decide : 1 ≤ 64) _) hr.units
    have tk : Takes (cxOf (L2.CX P w) P w K mg base ["table", "day"] "need_day" (defScope s_need_day) T.f_need_day cdv A outer s H E) (fun cls d _ H => E cls d H) := takes_of rfl rfl rfl rfl
    have O : Okc (cxOf (L2.CX P w) P w K mg base ["table", "day"] "need_day" (defScope s_need_day) T.f_need_day cdv A outer s H E) ⟨K, fa, xc, tT⟩ (fun _ => E) := okc_def rfl
    exact (z_one (z_if (s_pw (s_or (s_tnot (s_tst (s_callK O (ok_fits_share T) (hr.mono (by decide)) (by rfl) T.g_fits_share T.F_fits_share.kp T.b_fits_share (s_cons (s_var 1) s_nil)))) (s_or (s_tst (s_callK O (ok_is_less T) (hr.mono (by decide)) (by rfl) T.g_is_less T.F_is_less.kp T.b_is_less (s_cons (s_var 1) (s_cons (s_tup (s_cons (s_ix ix_2 o_ix (s_ix ix_2 o_ix (s_var 0) s_int (fun _ _ => rfl)) s_int (fun _ _ => rfl)) (s_cons s_int s_nil))) s_nil)))) (s_or1 (s_tst (s_callK O (ok_is_less T) (hr.mono (by decide)) (by rfl) T.g_is_less T.F_is_less.kp T.b_is_less (s_cons (s_tup (s_cons (s_ix ix_2 o_ix (s_ix ix_2 o_ix (s_var 0) (s_un un_neg o_neg s_int) (fun _ _ => rfl)) s_int (fun _ _ => rfl)) (s_cons s_int s_nil))) (s_cons (s_var 1) s_nil)))))))) (z_one (z_raise hc tk PySem.F.excBase_ValueError T.x_InvalidNumber.ex T.x_InvalidNumber.g T.x_InvalidNumber.kp (T.x_InvalidNumber.r rfl) (by rfl) T.x_InvalidNumber.xc)) z_nil))
theorem ok_need_span (T : Txt K mg fa xc) : FnOk P w K mg base (L2.CX P w) 4 T.f_need_span T.d_need_span ["table", "first", "last"] (spF ⟨K, fa, xc, tT⟩ 3 D_need_span) :=
  fn_ok (P := P) (w := w) (mg := mg) (base := base) (t := ⟨K, fa, xc, tT⟩) T.F_need_span sc_need_span fun cdv A outer s H E hr => by
    have nd := sc_need_span.nd
    have hc : (cxOf (L2.CX P w) P w K mg base ["table", "first", "last"] "need_span" (defScope s_need_span) T.f_need_span cdv A outer s H E).calm = true := rfl
    have hu := hr.units
    have hu65 := Y.room65 hr
    have hdi := Nat.lt_of_le_of_lt (Nat.add_le_add_left (by decide : 1 ≤ 64) _) hr.units
    have tk : Takes (cxOf (L2.CX P w) P w K mg base ["table", "first", "last"] "need_span" (defScope s_need_span) T.f_need_span cdv A outer s H E) (fun cls d _ H => E cls d H) := takes_of rfl rfl rfl rfl
    have O : Okc (cxOf (L2.CX P w) P w K mg base ["table", "first", "last"] "need_span" (defScope s_need_span) T.f_need_span cdv A outer s H E) ⟨K, fa, xc, tT⟩ (fun _ => E) := okc_def rfl
    exact (z_cons (z_expr (s_callK O (ok_need_day T) (hr.mono (by decide)) (by rfl) T.g_need_day T.F_need_day.kp T.b_need_day (s_cons (s_var 0) (s_cons (s_var 1) s_nil))))
      (z_cons (z_expr (s_callK O (ok_need_day T) (hr.mono (by decide)) (by rfl) T.g_need_day T.F_need_day.kp T.b_need_day (s_cons (s_var 0) (s_cons (s_var 2) s_nil))))
      (z_one (z_if (s_tst (s_callK O (ok_is_less T) (hr.mono (by decide)) (by rfl) T.g_is_less T.F_is_less.kp T.b_is_less (s_cons (s_var 2) (s_cons (s_var 1) s_nil)))) (z_one (z_raise hc tk PySem.F.excBase_ValueError T.x_InvalidNumber.ex T.x_InvalidNumber.g T.x_InvalidNumber.kp (T.x_InvalidNumber.r rfl) (by rfl) T.x_InvalidNumber.xc)) z_nil))))
theorem ok_on_line (T : Txt K mg fa xc) : FnOk P w K mg base (L2.CX P w) 3 T.f_on_line T.d_on_line ["one", "other", "day"] (spF ⟨K, fa, xc, tT⟩ 3 D_on_line) :=
  fn_ok (P := P) (w := w) (mg := mg) (base := base) (t := ⟨K, fa, xc, tT⟩) T.F_on_line sc_on_line fun cdv A outer s H E hr => by
    have nd := sc_on_line.nd
    have hc : (cxOf (L2.CX P w) P w K mg base ["one", "other", "day", "run", "rise"] "on_line" (defScope s_on_line) T.f_on_line cdv A outer s H E).calm = true := rfl
    have hu := hr.units
    have hu65 := Y.room65 hr
    have hdi := Nat.lt_of_le_of_lt (Nat.add_le_add_left (by decide : 1 ≤ 64) _) hr.units
    have tk : Takes (cxOf (L2.CX P w) P w K mg base ["one", "other", "day", "run", "rise"] "on_line" (defScope s_on_line) T.f_on_line cdv A outer s H E) (fun cls d _ H => E cls d H) := takes_of rfl rfl rfl rfl
    have O : Okc (cxOf (L2.CX P w) P w K mg base ["one", "other", "day", "run", "rise"] "on_line" (defScope s_on_line) T.f_on_line cdv A outer s H E) ⟨K, fa, xc, tT⟩ (fun _ => E) := okc_def rfl
    exact (z_cons (z_par (i := 3) (j := 4) hc nd rfl rfl (by decide) rfl rfl (s_op op_sub o_sub (s_ix ix_2 o_ix (s_var 1) s_int (fun _ _ => rfl)) (s_ix ix_2 o_ix (s_var 0) s_int (fun _ _ => rfl))) (s_op op_sub o_sub (s_ix ix_2 o_ix (s_var 1) s_int (fun _ _ => rfl)) (s_ix ix_2 o_ix (s_var 0) s_int (fun _ _ => rfl))) (by rfl))
      (z_one (z_ret (s_callK O (ok_share T) (hr.mono (by decide)) (by rfl) T.g_share T.F_share.kp T.b_share (s_cons (s_op op_add4 o_add (s_op op_mul2 o_mul (s_op op_mul2 o_mul (s_ix ix_2 o_ix (s_var 0) s_int (fun _ _ => rfl)) (s_var 3)) (s_ix ix_2 o_ix (s_var 2) s_int (fun _ _ => rfl))) (s_op op_mul2 o_mul (s_var 4) (s_op op_sub o_sub (s_ix ix_2 o_ix (s_var 2) s_int (fun _ _ => rfl)) (s_op op_mul2 o_mul (s_ix ix_2 o_ix (s_var 0) s_int (fun _ _ => rfl)) (s_ix ix_2 o_ix (s_var 2) s_int (fun _ _ => rfl)))))) (s_cons (s_op op_mul2 o_mul (s_var 3) (s_ix ix_2 o_ix (s_var 2) s_int (fun _ _ => rfl))) s_nil))))))
theorem ok_value_in (T : Txt K mg fa xc) : FnOk P w K mg base (L2.CX P w) 4 T.f_value_in T.d_value_in ["table", "day"] (spF ⟨K, fa, xc, tT⟩ 2 D_value_in) :=
  fn_ok (P := P) (w := w) (mg := mg) (base := base) (t := ⟨K, fa, xc, tT⟩) T.F_value_in sc_value_in fun cdv A outer s H E hr => by
    have nd := sc_value_in.nd
    have hc : (cxOf (L2.CX P w) P w K mg base ["table", "day", "one", "other"] "value_in" (defScope s_value_in) T.f_value_in cdv A outer s H E).calm = true := rfl
    have hu := hr.units
    have hu65 := Y.room65 hr
    have hdi := Nat.lt_of_le_of_lt (Nat.add_le_add_left (by decide : 1 ≤ 64) _) hr.units
    have tk : Takes (cxOf (L2.CX P w) P w K mg base ["table", "day", "one", "other"] "value_in" (defScope s_value_in) T.f_value_in cdv A outer s H E) (fun cls d _ H => E cls d H) := takes_of rfl rfl rfl rfl
    have O : Okc (cxOf (L2.CX P w) P w K mg base ["table", "day", "one", "other"] "value_in" (defScope s_value_in) T.f_value_in cdv A outer s H E) ⟨K, fa, xc, tT⟩ (fun _ => E) := okc_def rfl
    exact (z_cons (z_for pass_def hc rfl (i_zip rfl (by rfl) T.z_zip (s_var 0) (s_cut (pl := (.at (eC (.int 1)))) (ph := .no) rfl (s_var 0) s_int trivial)) (g_tup rfl hc (gs_cons (g_name (i := 2) nd rfl (.inl rfl)) (gs_cons (g_name (i := 3) nd rfl (.inl rfl)) gs_nil)) ((len_gsC ((len_gsC (fun _ _ _ _ h => len_gsN h)))))) (z_one (z_if (s_tnot (s_tst (s_callK O (ok_is_less T) (hr.mono (by decide)) (by rfl) T.g_is_less T.F_is_less.kp T.b_is_less (s_cons (s_tup (s_cons (s_ix ix_2 o_ix (s_var 3) s_int (fun _ _ => rfl)) (s_cons s_int s_nil))) (s_cons (s_var 1) s_nil))))) (z_one (z_ret (s_callK O (ok_on_line T) (hr.mono (by decide)) (by rfl) T.g_on_line T.F_on_line.kp T.b_on_line (s_cons (s_var 2) (s_cons (s_var 3) (s_cons (s_var 1) s_nil)))))) z_nil)))
      (z_one (z_ret (s_tup (s_cons (s_ix ix_2 o_ix (s_ix ix_2 o_ix (s_var 0) (s_un un_neg o_neg s_int) (fun _ _ => rfl)) s_int (fun _ _ => rfl)) (s_cons s_int s_nil))))))
theorem ok_knots_in (T : Txt K mg fa xc) : FnOk P w K mg base (L2.CX P w) 2 T.f_knots_in T.d_knots_in ["table", "first", "last"] (spF ⟨K, fa, xc, tT⟩ 3 D_knots_in) :=
  fn_ok (P := P) (w := w) (mg := mg) (base := base) (t := ⟨K, fa, xc, tT⟩) T.F_knots_in sc_knots_in fun cdv A outer s H E hr => by
    have nd := sc_knots_in.nd
    have hc : (cxOf (L2.CX P w) P w K mg base ["table", "first", "last", "inner", "day", "minutes"] "knots_in" (defScope s_knots_in) T.f_knots_in cdv A outer s H E).calm = true := rfl
    have hu := hr.units
    have hu65 := Y.room65 hr
    have hdi := Nat.lt_of_le_of_lt (Nat.add_le_add_left (by decide : 1 ≤ 64) _) hr.units
    have tk : Takes (cxOf (L2.CX P w) P w K mg base ["table", "first", "last", "inner", "day", "minutes"] "knots_in" (defScope s_knots_in) T.f_knots_in cdv A outer s H E) (fun cls d _ H => E cls d H) := takes_of rfl rfl rfl rfl
    have O : Okc (cxOf (L2.CX P w) P w K mg base ["table", "first", "last", "inner", "day", "minutes"] "knots_in" (defScope s_knots_in) T.f_knots_in cdv A outer s H E) ⟨K, fa, xc, tT⟩ (fun _ => E) := okc_def rfl
    exact (z_cons (z_setLc (i := 3) (own := [("day", 4), ("minutes", 5)]) rfl hc nd rfl rfl (sw_true rfl rfl rfl (by decide +kernel)) (i_tup rfl (s_var 0)) (blkOk_by (N := ["table", "first", "last", "inner", "day", "minutes"]) (sc := defScope s_knots_in) (own := [("day", 4), ("minutes", 5)]) (by decide +kernel)) (fun _ _ _ _ _ => (gw_tup rfl hc (gsw_cons (gw_name (i := 4) nd rfl (Or.inl rfl) (by decide)) (gsw_cons (gw_name (i := 5) nd rfl (Or.inl rfl) (by decide)) gsw_nil)) ((len_gsC ((len_gsC (fun _ _ _ _ h => len_gsN h))))))) (fun _ _ _ _ _ => (ts_one (s_pw (s_and (s_tst (s_callK O.blk (ok_is_less T) (hr.mono (by decide)) (by rfl) T.g_is_less T.F_is_less.kp T.b_is_less (s_cons (s_var 1) (s_cons (s_tup (s_cons (s_var 4) (s_cons s_int s_nil))) s_nil)))) (s_and1 (s_tst (s_callK O.blk (ok_is_less T) (hr.mono (by decide)) (by rfl) T.g_is_less T.F_is_less.kp T.b_is_less (s_cons (s_tup (s_cons (s_var 4) (s_cons s_int s_nil))) (s_cons (s_var 2) s_nil))))))))) (fun _ _ _ _ _ => (s_tup (s_cons (s_var 4) (s_cons s_int s_nil)))))
      (z_one (z_ret (s_op op_add4 o_add (s_op op_add4 o_add (s_lst (s_cons (s_var 1) s_nil)) (s_var 3)) (s_if (s_tst (s_callK O (ok_is_less T) (hr.mono (by decide)) (by rfl) T.g_is_less T.F_is_less.kp T.b_is_less (s_cons (s_var 1) (s_cons (s_var 2) s_nil)))) (s_lst (s_cons (s_var 2) s_nil)) (s_lst s_nil))))))
theorem ok_area_in (T : Txt K mg fa xc) : FnOk P w K mg base (L2.CX P w) 5 T.f_area_in T.d_area_in ["table", "first", "last"] (spF ⟨K, fa, xc, tT⟩ 3 D_area_in) :=
  fn_ok (P := P) (w := w) (mg := mg) (base := base) (t := ⟨K, fa, xc, tT⟩) T.F_area_in sc_area_in fun cdv A outer s H E hr => by
    have nd := sc_area_in.nd
    have hc : (cxOf (L2.CX P w) P w K mg base ["table", "first", "last", "found", "knots", "one", "other", "middle", "wide"] "area_in" (defScope s_area_in) T.f_area_in cdv A outer s H E).calm = true := rfl
    have hu := hr.units
    have hu65 := Y.room65 hr
    have hdi := Nat.lt_of_le_of_lt (Nat.add_le_add_left (by decide : 1 ≤ 64) _) hr.units
    have tk : Takes (cxOf (L2.CX P w) P w K mg base ["table", "first", "last", "found", "knots", "one", "other", "middle", "wide"] "area_in" (defScope s_area_in) T.f_area_in cdv A outer s H E) (fun cls d _ H => E cls d H) := takes_of rfl rfl rfl rfl
    have O : Okc (cxOf (L2.CX P w) P w K mg base ["table", "first", "last", "found", "knots", "one", "other", "middle", "wide"] "area_in" (defScope s_area_in) T.f_area_in cdv A outer s H E) ⟨K, fa, xc, tT⟩ (fun _ => E) := okc_def rfl
    exact (z_cons (z_par (i := 3) (j := 4) hc nd rfl rfl (by decide) rfl rfl (s_tup (s_cons s_int (s_cons s_int s_nil))) (s_callK O (ok_knots_in T) (hr.mono (by decide)) (by rfl) T.g_knots_in T.F_knots_in.kp T.b_knots_in (s_cons (s_var 0) (s_cons (s_var 1) (s_cons (s_var 2) s_nil)))) (by rfl))
      (z_cons (z_for pass_def hc rfl (i_zip rfl (by rfl) T.z_zip (s_var 4) (s_cut (pl := (.at (eC (.int 1)))) (ph := .no) rfl (s_var 4) s_int trivial)) (g_tup rfl hc (gs_cons (g_name (i := 5) nd rfl (.inl rfl)) (gs_cons (g_name (i := 6) nd rfl (.inl rfl)) gs_nil)) ((len_gsC ((len_gsC (fun _ _ _ _ h => len_gsN h)))))) (z_cons (z_par (i := 7) (j := 8) hc nd rfl rfl (by decide) rfl rfl (s_callK O (ok_plus T) (hr.mono (by decide)) (by rfl) T.g_plus T.F_plus.kp T.b_plus (s_cons (s_callK O (ok_value_in T) (hr.mono (by decide)) (by rfl) T.g_value_in T.F_value_in.kp T.b_value_in (s_cons (s_var 0) (s_cons (s_var 5) s_nil))) (s_cons (s_callK O (ok_value_in T) (hr.mono (by decide)) (by rfl) T.g_value_in T.F_value_in.kp T.b_value_in (s_cons (s_var 0) (s_cons (s_var 6) s_nil))) s_nil))) (s_callK O (ok_plus T) (hr.mono (by decide)) (by rfl) T.g_plus T.F_plus.kp T.b_plus (s_cons (s_var 6) (s_cons (s_tup (s_cons (s_un un_neg o_neg (s_ix ix_2 o_ix (s_var 5) s_int (fun _ _ => rfl))) (s_cons (s_ix ix_2 o_ix (s_var 5) s_int (fun _ _ => rfl)) s_nil))) s_nil))) (by rfl))
      (z_one (z_set (i := 3) nd rfl (.inl rfl) (s_callK O (ok_plus T) (hr.mono (by decide)) (by rfl) T.g_plus T.F_plus.kp T.b_plus (s_cons (s_var 3) (s_cons (s_callK O (ok_share T) (hr.mono (by decide)) (by rfl) T.g_share T.F_share.kp T.b_share (s_cons (s_op op_mul2 o_mul (s_ix ix_2 o_ix (s_var 7) s_int (fun _ _ => rfl)) (s_ix ix_2 o_ix (s_var 8) s_int (fun _ _ => rfl))) (s_cons (s_op op_mul2 o_mul (s_op op_mul2 o_mul s_int (s_ix ix_2 o_ix (s_var 7) s_int (fun _ _ => rfl))) (s_ix ix_2 o_ix (s_var 8) s_int (fun _ _ => rfl))) s_nil))) s_nil)))))))
      (z_one (z_ret (s_var 3)))))
theorem ok_days_of (T : Txt K mg fa xc) : FnOk P w K mg base (L2.CX P w) 1 T.f_days_of T.d_days_of ["one", "other"] (spF ⟨K, fa, xc, tT⟩ 2 D_days_of) :=
  fn_ok (P := P) (w := w) (mg := mg) (base := base) (t := ⟨K, fa, xc, tT⟩) T.F_days_of sc_days_of fun cdv A outer s H E hr => by
    have nd := sc_days_of.nd
    have hc : (cxOf (L2.CX P w) P w K mg base ["one", "other", "low", "high", "days", "day", "table", "minutes"] "days_of" (defScope s_days_of) T.f_days_of cdv A outer s H E).calm = true := rfl
    have hu := hr.units
    have hu65 := Y.room65 hr
    have hdi := Nat.lt_of_le_of_lt (Nat.add_le_add_left (by decide : 1 ≤ 64) _) hr.units
    have tk : Takes (cxOf (L2.CX P w) P w K mg base ["one", "other", "low", "high", "days", "day", "table", "minutes"] "days_of" (defScope s_days_of) T.f_days_of cdv A outer s H E) (fun cls d _ H => E cls d H) := takes_of rfl rfl rfl rfl
    have O : Okc (cxOf (L2.CX P w) P w K mg base ["one", "other", "low", "high", "days", "day", "table", "minutes"] "days_of" (defScope s_days_of) T.f_days_of cdv A outer s H E) ⟨K, fa, xc, tT⟩ (fun _ => E) := okc_def rfl
    exact (z_cons (z_asg (s_tup (s_cons (s_bltB (call_max2 hc) n_max2 (by rfl) T.z_max (by decide +kernel) (s_cons (s_ix ix_2 o_ix (s_ix ix_2 o_ix (s_var 0) s_int (fun _ _ => rfl)) s_int (fun _ _ => rfl)) (s_cons (s_ix ix_2 o_ix (s_ix ix_2 o_ix (s_var 1) s_int (fun _ _ => rfl)) s_int (fun _ _ => rfl)) s_nil))) (s_cons (s_bltB (call_min2 hc) n_min2 (by rfl) T.z_min (by decide +kernel) (s_cons (s_ix ix_2 o_ix (s_ix ix_2 o_ix (s_var 0) (s_un un_neg o_neg s_int) (fun _ _ => rfl)) s_int (fun _ _ => rfl)) (s_cons (s_ix ix_2 o_ix (s_ix ix_2 o_ix (s_var 1) (s_un un_neg o_neg s_int) (fun _ _ => rfl)) s_int (fun _ _ => rfl)) s_nil))) s_nil))) (g_tup rfl hc (gs_cons (g_name (i := 2) nd rfl (.inr rfl)) (gs_cons (g_name (i := 3) nd rfl (.inr rfl)) gs_nil)) ((len_gsC ((len_gsC (fun _ _ _ _ h => len_gsN h)))))))
      (z_cons (z_set (i := 4) nd rfl (.inl rfl) (s_sortSet hc rfl (by rfl) T.z_sorted (by rfl) T.z_set (s_op op_add4 o_add (s_lc2 (own := [("table", 6), ("day", 5), ("minutes", 7)]) (vs1 := [5, 7]) hc nd (i_tup rfl (s_tup (s_cons (s_var 0) (s_cons (s_var 1) s_nil)))) (blkOk_by (N := ["one", "other", "low", "high", "days", "day", "table", "minutes"]) (sc := defScope s_days_of) (own := [("table", 6), ("day", 5), ("minutes", 7)]) (by decide +kernel)) (by decide) (fun _ _ _ _ _ => (gw_name (i := 6) nd rfl (Or.inl rfl) (by decide))) (fun _ _ _ _ _ => ts_nil) (fun _ _ _ _ _ => (i_tup rfl (s_var 6))) (fun _ _ _ _ _ => (gw_tup rfl hc (gsw_cons (gw_name (i := 5) nd rfl (Or.inl rfl) (by decide)) (gsw_cons (gw_name (i := 7) nd rfl (Or.inl rfl) (by decide)) gsw_nil)) ((len_gsC ((len_gsC (fun _ _ _ _ h => len_gsN h))))))) (fun _ _ _ _ _ => ts_nil) (fun _ _ _ _ _ => (s_var 5))) (s_lst (s_cons (s_var 2) (s_cons (s_var 3) s_nil))))))
      (z_one (z_ret (s_lc (own := [("day", 5)]) rfl hc nd (i_lst rfl (s_var 4)) (blkOk_by (N := ["one", "other", "low", "high", "days", "day", "table", "minutes"]) (sc := defScope s_days_of) (own := [("day", 5)]) (by decide +kernel)) (fun _ _ _ _ _ => (gw_name (i := 5) nd rfl (Or.inl rfl) (by decide))) (fun _ _ _ _ _ => (ts_one (s_tchain op_le op_le o_le o_le (s_var 2) (s_var 5) (s_var 3)))) (fun _ _ _ _ _ => (s_var 5)))))))
theorem ok_need_both (T : Txt K mg fa xc) : FnOk P w K mg base (L2.CX P w) 4 T.f_need_both T.d_need_both ["one", "other"] (spF ⟨K, fa, xc, tT⟩ 2 D_need_both) :=
  fn_ok (P := P) (w := w) (mg := mg) (base := base) (t := ⟨K, fa, xc, tT⟩) T.F_need_both sc_need_both fun cdv A outer s H E hr => by
    have nd := sc_need_both.nd
    have hc : (cxOf (L2.CX P w) P w K mg base ["one", "other"] "need_both" (defScope s_need_both) T.f_need_both cdv A outer s H E).calm = true := rfl
    have hu := hr.units
    have hu65 := Y.room65 hr
    have hdi := Nat.lt_of_le_of_lt (Nat.add_le_add_left (by decide : 1 ≤ 64) _) hr.units
    have tk : Takes (cxOf (L2.CX P w) P w K mg base ["one", "other"] "need_both" (defScope s_need_both) T.f_need_both cdv A outer s H E) (fun cls d _ H => E cls d H) := takes_of rfl rfl rfl rfl
    have O : Okc (cxOf (L2.CX P w) P w K mg base ["one", "other"] "need_both" (defScope s_need_both) T.f_need_both cdv A outer s H E) ⟨K, fa, xc, tT⟩ (fun _ => E) := okc_def rfl
    exact (z_cons (z_expr (s_callK O (ok_need_table T) (hr.mono (by decide)) (by rfl) T.g_need_table T.F_need_table.kp T.b_need_table (s_cons (s_var 0) s_nil)))
      (z_cons (z_expr (s_callK O (ok_need_table T) (hr.mono (by decide)) (by rfl) T.g_need_table T.F_need_table.kp T.b_need_table (s_cons (s_var 1) s_nil)))
      (z_one (z_if (s_tcmp op_ge o_ge (s_bltB (call_max2 hc) n_max2 (by rfl) T.z_max (by decide +kernel) (s_cons (s_ix ix_2 o_ix (s_ix ix_2 o_ix (s_var 0) s_int (fun _ _ => rfl)) s_int (fun _ _ => rfl)) (s_cons (s_ix ix_2 o_ix (s_ix ix_2 o_ix (s_var 1) s_int (fun _ _ => rfl)) s_int (fun _ _ => rfl)) s_nil))) (s_bltB (call_min2 hc) n_min2 (by rfl) T.z_min (by decide +kernel) (s_cons (s_ix ix_2 o_ix (s_ix ix_2 o_ix (s_var 0) (s_un un_neg o_neg s_int) (fun _ _ => rfl)) s_int (fun _ _ => rfl)) (s_cons (s_ix ix_2 o_ix (s_ix ix_2 o_ix (s_var 1) (s_un un_neg o_neg s_int) (fun _ _ => rfl)) s_int (fun _ _ => rfl)) s_nil))) (nomark _)) (z_one (z_raise hc tk PySem.F.excBase_ValueError T.x_InvalidTable.ex T.x_InvalidTable.g T.x_InvalidTable.kp (T.x_InvalidTable.r rfl) (by rfl) T.x_InvalidTable.xc)) z_nil))))
theorem ok_sorted_in (T : Txt K mg fa xc) : FnOk P w K mg base (L2.CX P w) 2 T.f_sorted_in T.d_sorted_in ["shares"] (spF ⟨K, fa, xc, tT⟩ 1 D_sorted_in) :=
  fn_ok (P := P) (w := w) (mg := mg) (base := base) (t := ⟨K, fa, xc, tT⟩) T.F_sorted_in sc_sorted_in fun cdv A outer s H E hr => by
    have nd := sc_sorted_in.nd
    have hc : (cxOf (L2.CX P w) P w K mg base ["shares", "found", "one", "place"] "sorted_in" (defScope s_sorted_in) T.f_sorted_in cdv A outer s H E).calm = true := rfl
    have hu := hr.units
    have hu65 := Y.room65 hr
    have hdi := Nat.lt_of_le_of_lt (Nat.add_le_add_left (by decide : 1 ≤ 64) _) hr.units
    have tk : Takes (cxOf (L2.CX P w) P w K mg base ["shares", "found", "one", "place"] "sorted_in" (defScope s_sorted_in) T.f_sorted_in cdv A outer s H E) (fun cls d _ H => E cls d H) := takes_of rfl rfl rfl rfl
    have O : Okc (cxOf (L2.CX P w) P w K mg base ["shares", "found", "one", "place"] "sorted_in" (defScope s_sorted_in) T.f_sorted_in cdv A outer s H E) ⟨K, fa, xc, tT⟩ (fun _ => E) := okc_def rfl
    exact (z_cons (z_set (i := 1) nd rfl (.inl rfl) (s_lst s_nil))
      (z_cons (z_for pass_def hc rfl (i_lst rfl (s_var 0)) (g_name (i := 2) nd rfl (.inl rfl)) (z_cons (z_set (i := 3) nd rfl (.inl rfl) (s_bltB call_len3 n_len (by rfl) T.z_len (by decide +kernel) (s_cons (s_var 1) s_nil)))
      (z_cons (z_while pass_def (s_pw (s_and (s_tcmp op_gt o_gt (s_var 3) s_int (nomark _)) (s_and1 (s_tst (s_callK O (ok_is_less T) (hr.mono (by decide)) (by rfl) T.g_is_less T.F_is_less.kp T.b_is_less (s_cons (s_var 2) (s_cons (s_ix ix_2 o_ix (s_var 1) (s_op op_sub o_sub (s_var 3) s_int) (fun _ _ => rfl)) s_nil))))))) (z_one (z_set (i := 3) nd rfl (.inl rfl) (s_op op_sub o_sub (s_var 3) s_int))))
      (z_one (z_expr (s_me rfl PySem.F.plainAttrs_list PySem.F.slot_list_insert PySem.F.type_list_insert mt_ins ck_L m_ins (s_var 1) (s_cons (s_var 3) (s_cons (s_var 2) s_nil))))))))
      (z_one (z_ret (s_var 1)))))
theorem ok_meetings_in (T : Txt K mg fa xc) : FnOk P w K mg base (L2.CX P w) 5 T.f_meetings_in T.d_meetings_in ["one", "other"] (spF ⟨K, fa, xc, tT⟩ 2 D_meetings_in) :=
  fn_ok (P := P) (w := w) (mg := mg) (base := base) (t := ⟨K, fa, xc, tT⟩) T.F_meetings_in sc_meetings_in fun cdv A outer s H E hr => by
    have nd := sc_meetings_in.nd
    have hc : (cxOf (L2.CX P w) P w K mg base ["one", "other", "days", "found", "first", "last", "here", "there", "less", "more", "part"] "meetings_in" (defScope s_meetings_in) T.f_meetings_in cdv A outer s H E).calm = true := rfl
    have hu := hr.units
    have hu65 := Y.room65 hr
    have hdi := Nat.lt_of_le_of_lt (Nat.add_le_add_left (by decide : 1 ≤ 64) _) hr.units
    have tk : Takes (cxOf (L2.CX P w) P w K mg base ["one", "other", "days", "found", "first", "last", "here", "there", "less", "more", "part"] "meetings_in" (defScope s_meetings_in) T.f_meetings_in cdv A outer s H E) (fun cls d _ H => E cls d H) := takes_of rfl rfl rfl rfl
    have O : Okc (cxOf (L2.CX P w) P w K mg base ["one", "other", "days", "found", "first", "last", "here", "there", "less", "more", "part"] "meetings_in" (defScope s_meetings_in) T.f_meetings_in cdv A outer s H E) ⟨K, fa, xc, tT⟩ (fun _ => E) := okc_def rfl
    exact (z_cons (z_par (i := 2) (j := 3) hc nd rfl rfl (by decide) rfl rfl (s_callK O (ok_days_of T) (hr.mono (by decide)) (by rfl) T.g_days_of T.F_days_of.kp T.b_days_of (s_cons (s_var 0) (s_cons (s_var 1) s_nil))) s_dnewT (by rfl))
      (z_cons (z_for pass_def hc rfl (i_zip rfl (by rfl) T.z_zip (s_var 2) (s_cut (pl := (.at (eC (.int 1)))) (ph := .no) rfl (s_var 2) s_int trivial)) (g_tup rfl hc (gs_cons (g_name (i := 4) nd rfl (.inl rfl)) (gs_cons (g_name (i := 5) nd rfl (.inl rfl)) gs_nil)) ((len_gsC ((len_gsC (fun _ _ _ _ h => len_gsN h)))))) (z_cons (z_par (i := 6) (j := 7) hc nd rfl rfl (by decide) rfl rfl (s_tup (s_cons (s_var 4) (s_cons s_int s_nil))) (s_tup (s_cons (s_var 5) (s_cons s_int s_nil))) (by rfl))
      (z_cons (z_set (i := 8) nd rfl (.inl rfl) (s_callK O (ok_plus T) (hr.mono (by decide)) (by rfl) T.g_plus T.F_plus.kp T.b_plus (s_cons (s_callK O (ok_value_in T) (hr.mono (by decide)) (by rfl) T.g_value_in T.F_value_in.kp T.b_value_in (s_cons (s_var 0) (s_cons (s_var 6) s_nil))) (s_cons (s_callK O (ok_share T) (hr.mono (by decide)) (by rfl) T.g_share T.F_share.kp T.b_share (s_cons (s_un un_neg o_neg (s_ix ix_2 o_ix (s_callK O (ok_value_in T) (hr.mono (by decide)) (by rfl) T.g_value_in T.F_value_in.kp T.b_value_in (s_cons (s_var 1) (s_cons (s_var 6) s_nil))) s_int (fun _ _ => rfl))) (s_cons (s_ix ix_2 o_ix (s_callK O (ok_value_in T) (hr.mono (by decide)) (by rfl) T.g_value_in T.F_value_in.kp T.b_value_in (s_cons (s_var 1) (s_cons (s_var 6) s_nil))) s_int (fun _ _ => rfl)) s_nil))) s_nil))))
      (z_cons (z_set (i := 9) nd rfl (.inl rfl) (s_callK O (ok_plus T) (hr.mono (by decide)) (by rfl) T.g_plus T.F_plus.kp T.b_plus (s_cons (s_callK O (ok_value_in T) (hr.mono (by decide)) (by rfl) T.g_value_in T.F_value_in.kp T.b_value_in (s_cons (s_var 0) (s_cons (s_var 7) s_nil))) (s_cons (s_callK O (ok_share T) (hr.mono (by decide)) (by rfl) T.g_share T.F_share.kp T.b_share (s_cons (s_un un_neg o_neg (s_ix ix_2 o_ix (s_callK O (ok_value_in T) (hr.mono (by decide)) (by rfl) T.g_value_in T.F_value_in.kp T.b_value_in (s_cons (s_var 1) (s_cons (s_var 7) s_nil))) s_int (fun _ _ => rfl))) (s_cons (s_ix ix_2 o_ix (s_callK O (ok_value_in T) (hr.mono (by decide)) (by rfl) T.g_value_in T.F_value_in.kp T.b_value_in (s_cons (s_var 1) (s_cons (s_var 7) s_nil))) s_int (fun _ _ => rfl)) s_nil))) s_nil))))
      (z_cons (z_if (s_tcmp (op_eqD hu) o_eq (s_ix ix_2 o_ix (s_var 8) s_int (fun _ _ => rfl)) s_int (nomark _)) (z_one (z_putD hdi s_bl (s_var 3) (s_var 6))) z_nil)
      (z_cons (z_if (s_tcmp (op_eqD hu) o_eq (s_ix ix_2 o_ix (s_var 9) s_int (fun _ _ => rfl)) s_int (nomark _)) (z_one (z_putD hdi s_bl (s_var 3) (s_var 7))) z_nil)
      (z_one (z_if (s_tcmp op_lt o_lt (s_op op_mul2 o_mul (s_ix ix_2 o_ix (s_var 8) s_int (fun _ _ => rfl)) (s_ix ix_2 o_ix (s_var 9) s_int (fun _ _ => rfl))) s_int (nomark _)) (z_cons (z_set (i := 10) nd rfl (.inl rfl) (s_callK O (ok_share T) (hr.mono (by decide)) (by rfl) T.g_share T.F_share.kp T.b_share (s_cons (s_op op_mul2 o_mul (s_ix ix_2 o_ix (s_var 8) s_int (fun _ _ => rfl)) (s_ix ix_2 o_ix (s_var 9) s_int (fun _ _ => rfl))) (s_cons (s_op op_sub o_sub (s_op op_mul2 o_mul (s_ix ix_2 o_ix (s_var 8) s_int (fun _ _ => rfl)) (s_ix ix_2 o_ix (s_var 9) s_int (fun _ _ => rfl))) (s_op op_mul2 o_mul (s_ix ix_2 o_ix (s_var 9) s_int (fun _ _ => rfl)) (s_ix ix_2 o_ix (s_var 8) s_int (fun _ _ => rfl)))) s_nil))))
      (z_one (z_putD hdi s_bl (s_var 3) (s_callK O (ok_plus T) (hr.mono (by decide)) (by rfl) T.g_plus T.F_plus.kp T.b_plus (s_cons (s_var 6) (s_cons (s_callK O (ok_share T) (hr.mono (by decide)) (by rfl) T.g_share T.F_share.kp T.b_share (s_cons (s_op op_mul2 o_mul (s_ix ix_2 o_ix (s_var 10) s_int (fun _ _ => rfl)) (s_op op_sub o_sub (s_var 5) (s_var 4))) (s_cons (s_ix ix_2 o_ix (s_var 10) s_int (fun _ _ => rfl)) s_nil))) s_nil)))))) z_nil))))))))
      (z_one (z_ret (s_callK O (ok_sorted_in T) (hr.mono (by decide)) (by rfl) T.g_sorted_in T.F_sorted_in.kp T.b_sorted_in (s_cons (s_bltT (call_listDD hc) n_listD (by rfl) T.z_list (by decide +kernel) (s_cons (s_var 3) s_nil)) s_nil))))))
theorem ok_value_at (T : Txt K mg fa xc) : FnOk P w K mg base (L2.CX P w) 5 T.f_value_at T.d_value_at ["table", "day"] (spF ⟨K, fa, xc, tT⟩ 2 D_value_at) :=
  fn_ok (P := P) (w := w) (mg := mg) (base := base) (t := ⟨K, fa, xc, tT⟩) T.F_value_at sc_value_at fun cdv A outer s H E hr => by
    have nd := sc_value_at.nd
    have hc : (cxOf (L2.CX P w) P w K mg base ["table", "day"] "value_at" (defScope s_value_at) T.f_value_at cdv A outer s H E).calm = true := rfl
    have hu := hr.units
    have hu65 := Y.room65 hr
    have hdi := Nat.lt_of_le_of_lt (Nat.add_le_add_left (by decide : 1 ≤ 64) _) hr.units
    have tk : Takes (cxOf (L2.CX P w) P w K mg base ["table", "day"] "value_at" (defScope s_value_at) T.f_value_at cdv A outer s H E) (fun cls d _ H => E cls d H) := takes_of rfl rfl rfl rfl
    have O : Okc (cxOf (L2.CX P w) P w K mg base ["table", "day"] "value_at" (defScope s_value_at) T.f_value_at cdv A outer s H E) ⟨K, fa, xc, tT⟩ (fun _ => E) := okc_def rfl
    exact (z_cons (z_expr (s_callK O (ok_need_table T) (hr.mono (by decide)) (by rfl) T.g_need_table T.F_need_table.kp T.b_need_table (s_cons (s_var 0) s_nil)))
      (z_cons (z_expr (s_callK O (ok_need_day T) (hr.mono (by decide)) (by rfl) T.g_need_day T.F_need_day.kp T.b_need_day (s_cons (s_var 0) (s_cons (s_var 1) s_nil))))
      (z_one (z_ret (s_callK O (ok_value_in T) (hr.mono (by decide)) (by rfl) T.g_value_in T.F_value_in.kp T.b_value_in (s_cons (s_var 0) (s_cons (s_var 1) s_nil)))))))
theorem ok_summed (T : Txt K mg fa xc) : FnOk P w K mg base (L2.CX P w) 6 T.f_summed T.d_summed ["table", "first", "last"] (spF ⟨K, fa, xc, tT⟩ 3 D_summed) :=
  fn_ok (P := P) (w := w) (mg := mg) (base := base) (t := ⟨K, fa, xc, tT⟩) T.F_summed sc_summed fun cdv A outer s H E hr => by
    have nd := sc_summed.nd
    have hc : (cxOf (L2.CX P w) P w K mg base ["table", "first", "last"] "summed" (defScope s_summed) T.f_summed cdv A outer s H E).calm = true := rfl
    have hu := hr.units
    have hu65 := Y.room65 hr
    have hdi := Nat.lt_of_le_of_lt (Nat.add_le_add_left (by decide : 1 ≤ 64) _) hr.units
    have tk : Takes (cxOf (L2.CX P w) P w K mg base ["table", "first", "last"] "summed" (defScope s_summed) T.f_summed cdv A outer s H E) (fun cls d _ H => E cls d H) := takes_of rfl rfl rfl rfl
    have O : Okc (cxOf (L2.CX P w) P w K mg base ["table", "first", "last"] "summed" (defScope s_summed) T.f_summed cdv A outer s H E) ⟨K, fa, xc, tT⟩ (fun _ => E) := okc_def rfl
    exact (z_cons (z_expr (s_callK O (ok_need_table T) (hr.mono (by decide)) (by rfl) T.g_need_table T.F_need_table.kp T.b_need_table (s_cons (s_var 0) s_nil)))
      (z_cons (z_expr (s_callK O (ok_need_span T) (hr.mono (by decide)) (by rfl) T.g_need_span T.F_need_span.kp T.b_need_span (s_cons (s_var 0) (s_cons (s_var 1) (s_cons (s_var 2) s_nil)))))
      (z_one (z_ret (s_callK O (ok_area_in T) (hr.mono (by decide)) (by rfl) T.g_area_in T.F_area_in.kp T.b_area_in (s_cons (s_var 0) (s_cons (s_var 1) (s_cons (s_var 2) s_nil))))))))
theorem ok_mean (T : Txt K mg fa xc) : FnOk P w K mg base (L2.CX P w) 6 T.f_mean T.d_mean ["table", "first", "last"] (spF ⟨K, fa, xc, tT⟩ 3 D_mean) :=
  fn_ok (P := P) (w := w) (mg := mg) (base := base) (t := ⟨K, fa, xc, tT⟩) T.F_mean sc_mean fun cdv A outer s H E hr => by
    have nd := sc_mean.nd
    have hc : (cxOf (L2.CX P w) P w K mg base ["table", "first", "last", "area", "wide"] "mean" (defScope s_mean) T.f_mean cdv A outer s H E).calm = true := rfl
    have hu := hr.units
    have hu65 := Y.room65 hr
    have hdi := Nat.lt_of_le_of_lt (Nat.add_le_add_left (by decide : 1 ≤ 64) _) hr.units
    have tk : Takes (cxOf (L2.CX P w) P w K mg base ["table", "first", "last", "area", "wide"] "mean" (defScope s_mean) T.f_mean cdv A outer s H E) (fun cls d _ H => E cls d H) := takes_of rfl rfl rfl rfl
    have O : Okc (cxOf (L2.CX P w) P w K mg base ["table", "first", "last", "area", "wide"] "mean" (defScope s_mean) T.f_mean cdv A outer s H E) ⟨K, fa, xc, tT⟩ (fun _ => E) := okc_def rfl
    exact (z_cons (z_expr (s_callK O (ok_need_table T) (hr.mono (by decide)) (by rfl) T.g_need_table T.F_need_table.kp T.b_need_table (s_cons (s_var 0) s_nil)))
      (z_cons (z_expr (s_callK O (ok_need_span T) (hr.mono (by decide)) (by rfl) T.g_need_span T.F_need_span.kp T.b_need_span (s_cons (s_var 0) (s_cons (s_var 1) (s_cons (s_var 2) s_nil)))))
      (z_cons (z_if (s_tcmp (op_eqD hu) o_eq (s_var 1) (s_var 2) (nomark _)) (z_one (z_ret (s_callK O (ok_value_in T) (hr.mono (by decide)) (by rfl) T.g_value_in T.F_value_in.kp T.b_value_in (s_cons (s_var 0) (s_cons (s_var 1) s_nil))))) z_nil)
      (z_cons (z_par (i := 3) (j := 4) hc nd rfl rfl (by decide) rfl rfl (s_callK O (ok_area_in T) (hr.mono (by decide)) (by rfl) T.g_area_in T.F_area_in.kp T.b_area_in (s_cons (s_var 0) (s_cons (s_var 1) (s_cons (s_var 2) s_nil)))) (s_callK O (ok_plus T) (hr.mono (by decide)) (by rfl) T.g_plus T.F_plus.kp T.b_plus (s_cons (s_var 2) (s_cons (s_tup (s_cons (s_un un_neg o_neg (s_ix ix_2 o_ix (s_var 1) s_int (fun _ _ => rfl))) (s_cons (s_ix ix_2 o_ix (s_var 1) s_int (fun _ _ => rfl)) s_nil))) s_nil))) (by rfl))
      (z_one (z_ret (s_callK O (ok_share T) (hr.mono (by decide)) (by rfl) T.g_share T.F_share.kp T.b_share (s_cons (s_op op_mul2 o_mul (s_ix ix_2 o_ix (s_var 3) s_int (fun _ _ => rfl)) (s_ix ix_2 o_ix (s_var 4) s_int (fun _ _ => rfl))) (s_cons (s_op op_mul2 o_mul (s_ix ix_2 o_ix (s_var 3) s_int (fun _ _ => rfl)) (s_ix ix_2 o_ix (s_var 4) s_int (fun _ _ => rfl))) s_nil)))))))))
theorem ok_meetings (T : Txt K mg fa xc) : FnOk P w K mg base (L2.CX P w) 6 T.f_meetings T.d_meetings ["one", "other"] (spF ⟨K, fa, xc, tT⟩ 2 D_meetings) :=
  fn_ok (P := P) (w := w) (mg := mg) (base := base) (t := ⟨K, fa, xc, tT⟩) T.F_meetings sc_meetings fun cdv A outer s H E hr => by
    have nd := sc_meetings.nd
    have hc : (cxOf (L2.CX P w) P w K mg base ["one", "other"] "meetings" (defScope s_meetings) T.f_meetings cdv A outer s H E).calm = true := rfl
    have hu := hr.units
    have hu65 := Y.room65 hr
    have hdi := Nat.lt_of_le_of_lt (Nat.add_le_add_left (by decide : 1 ≤ 64) _) hr.units
    have tk : Takes (cxOf (L2.CX P w) P w K mg base ["one", "other"] "meetings" (defScope s_meetings) T.f_meetings cdv A outer s H E) (fun cls d _ H => E cls d H) := takes_of rfl rfl rfl rfl
    have O : Okc (cxOf (L2.CX P w) P w K mg base ["one", "other"] "meetings" (defScope s_meetings) T.f_meetings cdv A outer s H E) ⟨K, fa, xc, tT⟩ (fun _ => E) := okc_def rfl
    exact (z_cons (z_expr (s_callK O (ok_need_both T) (hr.mono (by decide)) (by rfl) T.g_need_both T.F_need_both.kp T.b_need_both (s_cons (s_var 0) (s_cons (s_var 1) s_nil))))
      (z_one (z_ret (s_bltT call_tuple_of n_tuple (by rfl) T.z_tuple (by decide +kernel) (s_cons (s_callK O (ok_meetings_in T) (hr.mono (by decide)) (by rfl) T.g_meetings_in T.F_meetings_in.kp T.b_meetings_in (s_cons (s_var 0) (s_cons (s_var 1) s_nil))) s_nil)))))
theorem ok_longer_share (T : Txt K mg fa xc) : FnOk P w K mg base (L2.CX P w) 6 T.f_longer_share T.d_longer_share ["one", "other"] (spF ⟨K, fa, xc, tT⟩ 2 D_longer_share) :=
  fn_ok (P := P) (w := w) (mg := mg) (base := base) (t := ⟨K, fa, xc, tT⟩) T.F_longer_share sc_longer_share fun cdv A outer s H E hr => by
    have nd := sc_longer_share.nd
    have hc : (cxOf (L2.CX P w) P w K mg base ["one", "other", "days", "found", "times", "here", "there", "middle", "time", "day"] "longer_share" (defScope s_longer_share) T.f_longer_share cdv A outer s H E).calm = true := rfl
    have hu := hr.units
    have hu65 := Y.room65 hr
    have hdi := Nat.lt_of_le_of_lt (Nat.add_le_add_left (by decide : 1 ≤ 64) _) hr.units
    have tk : Takes (cxOf (L2.CX P w) P w K mg base ["one", "other", "days", "found", "times", "here", "there", "middle", "time", "day"] "longer_share" (defScope s_longer_share) T.f_longer_share cdv A outer s H E) (fun cls d _ H => E cls d H) := takes_of rfl rfl rfl rfl
    have O : Okc (cxOf (L2.CX P w) P w K mg base ["one", "other", "days", "found", "times", "here", "there", "middle", "time", "day"] "longer_share" (defScope s_longer_share) T.f_longer_share cdv A outer s H E) ⟨K, fa, xc, tT⟩ (fun _ => E) := okc_def rfl
    exact (z_cons (z_expr (s_callK O (ok_need_both T) (hr.mono (by decide)) (by rfl) T.g_need_both T.F_need_both.kp T.b_need_both (s_cons (s_var 0) (s_cons (s_var 1) s_nil))))
      (z_cons (z_par (i := 2) (j := 3) hc nd rfl rfl (by decide) rfl rfl (s_callK O (ok_days_of T) (hr.mono (by decide)) (by rfl) T.g_days_of T.F_days_of.kp T.b_days_of (s_cons (s_var 0) (s_cons (s_var 1) s_nil))) (s_tup (s_cons s_int (s_cons s_int s_nil))) (by rfl))
      (z_cons (z_set (i := 4) nd rfl (.inl rfl) (s_callK O (ok_sorted_in T) (hr.mono (by decide)) (by rfl) T.g_sorted_in T.F_sorted_in.kp T.b_sorted_in (s_cons (s_bltT (call_listDD hc) n_listD (by rfl) T.z_list (by decide +kernel) (s_cons (s_bltT (call_dictT hc hu65) n_dictT (by rfl) T.z_dict (by decide +kernel) (s_cons (s_lc (own := [("time", 8)]) rfl hc nd (i_lst rfl (s_op op_add4 o_add (s_lc (own := [("day", 9)]) rfl hc nd (i_lst rfl (s_var 2)) (blkOk_by (N := ["one", "other", "days", "found", "times", "here", "there", "middle", "time", "day"]) (sc := defScope s_longer_share) (own := [("day", 9)]) (by decide +kernel)) (fun _ _ _ _ _ => (gw_name (i := 9) nd rfl (Or.inl rfl) (by decide))) (fun _ _ _ _ _ => ts_nil) (fun _ _ _ _ _ => (s_tup (s_cons (s_var 9) (s_cons s_int s_nil))))) (s_callK O (ok_meetings_in T) (hr.mono (by decide)) (by rfl) T.g_meetings_in T.F_meetings_in.kp T.b_meetings_in (s_cons (s_var 0) (s_cons (s_var 1) s_nil))))) (blkOk_by (N := ["one", "other", "days", "found", "times", "here", "there", "middle", "time", "day"]) (sc := defScope s_longer_share) (own := [("time", 8)]) (by decide +kernel)) (fun _ _ _ _ _ => (gw_name (i := 8) nd rfl (Or.inl rfl) (by decide))) (fun _ _ _ _ _ => ts_nil) (fun _ _ _ _ _ => (s_tup (s_cons (s_var 8) (s_cons s_bl s_nil))))) s_nil)) s_nil)) s_nil)))
      (z_cons (z_for pass_def hc rfl (i_zip rfl (by rfl) T.z_zip (s_var 4) (s_cut (pl := (.at (eC (.int 1)))) (ph := .no) rfl (s_var 4) s_int trivial)) (g_tup rfl hc (gs_cons (g_name (i := 5) nd rfl (.inl rfl)) (gs_cons (g_name (i := 6) nd rfl (.inl rfl)) gs_nil)) ((len_gsC ((len_gsC (fun _ _ _ _ h => len_gsN h)))))) (z_cons (z_set (i := 7) nd rfl (.inl rfl) (s_callK O (ok_share T) (hr.mono (by decide)) (by rfl) T.g_share T.F_share.kp T.b_share (s_cons (s_op op_add4 o_add (s_op op_mul2 o_mul (s_ix ix_2 o_ix (s_var 5) s_int (fun _ _ => rfl)) (s_ix ix_2 o_ix (s_var 6) s_int (fun _ _ => rfl))) (s_op op_mul2 o_mul (s_ix ix_2 o_ix (s_var 6) s_int (fun _ _ => rfl)) (s_ix ix_2 o_ix (s_var 5) s_int (fun _ _ => rfl)))) (s_cons (s_op op_mul2 o_mul (s_op op_mul2 o_mul s_int (s_ix ix_2 o_ix (s_var 5) s_int (fun _ _ => rfl))) (s_ix ix_2 o_ix (s_var 6) s_int (fun _ _ => rfl))) s_nil))))
      (z_one (z_if (s_tst (s_callK O (ok_is_less T) (hr.mono (by decide)) (by rfl) T.g_is_less T.F_is_less.kp T.b_is_less (s_cons (s_callK O (ok_value_in T) (hr.mono (by decide)) (by rfl) T.g_value_in T.F_value_in.kp T.b_value_in (s_cons (s_var 1) (s_cons (s_var 7) s_nil))) (s_cons (s_callK O (ok_value_in T) (hr.mono (by decide)) (by rfl) T.g_value_in T.F_value_in.kp T.b_value_in (s_cons (s_var 0) (s_cons (s_var 7) s_nil))) s_nil)))) (z_one (z_set (i := 3) nd rfl (.inl rfl) (s_callK O (ok_plus T) (hr.mono (by decide)) (by rfl) T.g_plus T.F_plus.kp T.b_plus (s_cons (s_var 3) (s_cons (s_callK O (ok_plus T) (hr.mono (by decide)) (by rfl) T.g_plus T.F_plus.kp T.b_plus (s_cons (s_var 6) (s_cons (s_tup (s_cons (s_un un_neg o_neg (s_ix ix_2 o_ix (s_var 5) s_int (fun _ _ => rfl))) (s_cons (s_ix ix_2 o_ix (s_var 5) s_int (fun _ _ => rfl)) s_nil))) s_nil))) s_nil))))) z_nil))))
      (z_one (z_ret (s_callK O (ok_share T) (hr.mono (by decide)) (by rfl) T.g_share T.F_share.kp T.b_share (s_cons (s_ix ix_2 o_ix (s_var 3) s_int (fun _ _ => rfl)) (s_cons (s_op op_mul2 o_mul (s_ix ix_2 o_ix (s_var 3) s_int (fun _ _ => rfl)) (s_op op_sub o_sub (s_ix ix_2 o_ix (s_var 2) (s_un un_neg o_neg s_int) (fun _ _ => rfl)) (s_ix ix_2 o_ix (s_var 2) s_int (fun _ _ => rfl)))) s_nil)))))))))
theorem ok_lowered (T : Txt K mg fa xc) : FnOk P w K mg base (L2.CX P w) 4 T.f_lowered T.d_lowered ["table"] (spF ⟨K, fa, xc, tT⟩ 1 D_lowered) :=
  fn_ok (P := P) (w := w) (mg := mg) (base := base) (t := ⟨K, fa, xc, tT⟩) T.F_lowered sc_lowered fun cdv A outer s H E hr => by
    have nd := sc_lowered.nd
    have hc : (cxOf (L2.CX P w) P w K mg base ["table", "found", "at"] "lowered" (defScope s_lowered) T.f_lowered cdv A outer s H E).calm = true := rfl
    have hu := hr.units
    have hu65 := Y.room65 hr
    have hdi := Nat.lt_of_le_of_lt (Nat.add_le_add_left (by decide : 1 ≤ 64) _) hr.units
    have tk : Takes (cxOf (L2.CX P w) P w K mg base ["table", "found", "at"] "lowered" (defScope s_lowered) T.f_lowered cdv A outer s H E) (fun cls d _ H => E cls d H) := takes_of rfl rfl rfl rfl
    have O : Okc (cxOf (L2.CX P w) P w K mg base ["table", "found", "at"] "lowered" (defScope s_lowered) T.f_lowered cdv A outer s H E) ⟨K, fa, xc, tT⟩ (fun _ => E) := okc_def rfl
    exact (z_cons (z_expr (s_callK O (ok_need_table T) (hr.mono (by decide)) (by rfl) T.g_need_table T.F_need_table.kp T.b_need_table (s_cons (s_var 0) s_nil)))
      (z_cons (z_set (i := 1) nd rfl (.inl rfl) (s_lst (s_cons (s_ix ix_2 o_ix (s_var 0) s_int (fun _ _ => rfl)) s_nil)))
      (z_cons (z_for pass_def hc rfl (i_rng2 (by rfl) T.z_range s_int (s_op op_sub o_sub (s_bltB call_len3 n_len (by rfl) T.z_len (by decide +kernel) (s_cons (s_var 0) s_nil)) s_int)) (g_name (i := 2) nd rfl (.inl rfl)) (z_one (z_if (s_tcmp (op_neD hu) o_ne (s_callK O (ok_on_line T) (hr.mono (by decide)) (by rfl) T.g_on_line T.F_on_line.kp T.b_on_line (s_cons (s_ix ix_2 o_ix (s_var 1) (s_un un_neg o_neg s_int) (fun _ _ => rfl)) (s_cons (s_ix ix_2 o_ix (s_var 0) (s_op op_add4 o_add (s_var 2) s_int) (fun _ _ => rfl)) (s_cons (s_tup (s_cons (s_ix ix_2 o_ix (s_ix ix_2 o_ix (s_var 0) (s_var 2) (fun _ _ => rfl)) s_int (fun _ _ => rfl)) (s_cons s_int s_nil))) s_nil)))) (s_tup (s_cons (s_ix ix_2 o_ix (s_ix ix_2 o_ix (s_var 0) (s_var 2) (fun _ _ => rfl)) s_int (fun _ _ => rfl)) (s_cons s_int s_nil))) (nomark _)) (z_one (z_expr (s_me rfl PySem.F.plainAttrs_list PySem.F.slot_list_append PySem.F.type_list_append mt_append ck_L m_app (s_var 1) (s_cons (s_ix ix_2 o_ix (s_var 0) (s_var 2) (fun _ _ => rfl)) s_nil)))) z_nil)))
      (z_one (z_ret (s_bltT call_tuple_of n_tuple (by rfl) T.z_tuple (by decide +kernel) (s_cons (s_op op_add4 o_add (s_var 1) (s_lst (s_cons (s_ix ix_2 o_ix (s_var 0) (s_un un_neg o_neg s_int) (fun _ _ => rfl)) s_nil))) s_nil)))))))
theorem ok__law_cup (T : Txt K mg fa xc) : FnOk P w K mg base (L2.CX P w) 1 T.f__law_cup T.d__law_cup ["script"] (spF ⟨K, fa, xc, tT⟩ 1 D__law_cup) :=
  fn_ok (P := P) (w := w) (mg := mg) (base := base) (t := ⟨K, fa, xc, tT⟩) T.F__law_cup sc__law_cup fun cdv A outer s H E hr => by
    have nd := sc__law_cup.nd
    have hc : (cxOf (L2.CX P w) P w K mg base ["script", "cell"] "_law_cup" (defScope s__law_cup) T.f__law_cup cdv A outer s H E).calm = true := rfl
    have hu := hr.units
    have hu65 := Y.room65 hr
    have hdi := Nat.lt_of_le_of_lt (Nat.add_le_add_left (by decide : 1 ≤ 64) _) hr.units
    have tk : Takes (cxOf (L2.CX P w) P w K mg base ["script", "cell"] "_law_cup" (defScope s__law_cup) T.f__law_cup cdv A outer s H E) (fun cls d _ H => E cls d H) := takes_of rfl rfl rfl rfl
    have O : Okc (cxOf (L2.CX P w) P w K mg base ["script", "cell"] "_law_cup" (defScope s__law_cup) T.f__law_cup cdv A outer s H E) ⟨K, fa, xc, tT⟩ (fun _ => E) := okc_def rfl
    exact (z_cons (z_set (i := 1) nd rfl (.inl rfl) (s_bltB call_abs n_abs (by rfl) T.z_abs (by decide +kernel) (s_cons (s_ix ix_2 o_ix (s_op op_add4 o_add (s_bltT call_list_of n_list (by rfl) T.z_list (by decide +kernel) (s_cons (s_var 0) s_nil)) (s_lst (s_cons s_int s_nil))) s_int (fun _ _ => rfl)) s_nil)))
      (z_one (z_ret (s_lst (s_cons (s_if (s_tcmp op_ge o_ge (s_var 1) (s_op op_pow o_pow s_int s_int) (nomark _)) (s_op op_divG o_div (s_var 1) s_int) s_int) (s_cons (s_op op_add4 o_add (s_op op_modG o_mod (s_bltT call_int1 n_int (by rfl) T.z_int (by decide +kernel) (s_cons (s_op op_add4 o_add (s_op op_mul2 o_mul (s_var 1) s_int) s_int) s_nil)) s_int) s_int) s_nil))))))
theorem ok__law_roll (T : Txt K mg fa xc) : FnOk P w K mg base (L2.CX P w) 1 T.f__law_roll T.d__law_roll ["cup", "many"] (spF ⟨K, fa, xc, tT⟩ 2 D__law_roll) :=
  fn_ok (P := P) (w := w) (mg := mg) (base := base) (t := ⟨K, fa, xc, tT⟩) T.F__law_roll sc__law_roll fun cdv A outer s H E hr => by
    have nd := sc__law_roll.nd
    have hc : (cxOf (L2.CX P w) P w K mg base ["cup", "many", "found", "deep"] "_law_roll" (defScope s__law_roll) T.f__law_roll cdv A outer s H E).calm = true := rfl
    have hu := hr.units
    have hu65 := Y.room65 hr
    have hdi := Nat.lt_of_le_of_lt (Nat.add_le_add_left (by decide : 1 ≤ 64) _) hr.units
    have tk : Takes (cxOf (L2.CX P w) P w K mg base ["cup", "many", "found", "deep"] "_law_roll" (defScope s__law_roll) T.f__law_roll cdv A outer s H E) (fun cls d _ H => E cls d H) := takes_of rfl rfl rfl rfl
    have O : Okc (cxOf (L2.CX P w) P w K mg base ["cup", "many", "found", "deep"] "_law_roll" (defScope s__law_roll) T.f__law_roll cdv A outer s H E) ⟨K, fa, xc, tT⟩ (fun _ => E) := okc_def rfl
    exact (z_cons (z_if (s_tcmp op_gt o_gt (s_ix ix_2 o_ix (s_var 0) s_int (fun _ _ => rfl)) s_int (nomark _)) (z_cons (z_set (i := 2) nd rfl (.inl rfl) (s_op op_modG o_mod (s_bltT call_int1 n_int (by rfl) T.z_int (by decide +kernel) (s_cons (s_ix ix_2 o_ix (s_var 0) s_int (fun _ _ => rfl)) s_nil)) (s_var 1)))
      (z_cons (z_putL (s_op op_divG o_div (s_ix ix_2 o_ix (s_var 0) s_int (fun _ _ => rfl)) (s_var 1)) (s_var 0) s_int)
      (z_one (z_ret (s_var 2))))) z_nil)
      (z_cons (z_putL (s_op op_modG o_mod (s_bltT call_int1 n_int (by rfl) T.z_int (by decide +kernel) (s_cons (s_op op_add4 o_add (s_op op_mul2 o_mul (s_ix ix_2 o_ix (s_var 0) s_int (fun _ _ => rfl)) s_int) s_int) s_nil)) s_int) (s_var 0) s_int)
      (z_cons (z_set (i := 3) nd rfl (.inl rfl) (s_op op_modG o_mod (s_bltT call_int1 n_int (by rfl) T.z_int (by decide +kernel) (s_cons (s_op op_mul2 o_mul (s_ix ix_2 o_ix (s_var 0) s_int (fun _ _ => rfl)) (s_op op_add4 o_add (s_ix ix_2 o_ix (s_var 0) s_int (fun _ _ => rfl)) s_int)) s_nil)) s_int))
      (z_one (z_ret (s_op op_modG o_mod (s_bltT call_int1 n_int (by rfl) T.z_int (by decide +kernel) (s_cons (s_op op_divG o_div (s_var 3) s_int) s_nil)) (s_var 1)))))))
theorem ok__law_same (T : Txt K mg fa xc) : ∀ n : Nat, FnOk P w K mg base (L2.CX P w) (0 + n) T.f__law_same T.d__law_same ["told", "due"] (spF ⟨K, fa, xc, tT⟩ 2 (D__law_same n))
  | 0 => fn_stk
  | n + 1 => by
    have ih := ok__law_same T n
    show FnOk P w K mg base (L2.CX P w) (0 + n + 1) T.f__law_same T.d__law_same ["told", "due"] (spF ⟨K, fa, xc, tT⟩ 2 (mkFn 3 2 (b__law_same (D__law_same n))))
    exact fn_ok (P := P) (w := w) (mg := mg) (base := base) (t := ⟨K, fa, xc, tT⟩) T.F__law_same sc__law_same fun cdv A outer s H E hr => by
      have nd := sc__law_same.nd
      have hc : (cxOf (L2.CX P w) P w K mg base ["told", "due", "at"] "_law_same" (defScope s__law_same) T.f__law_same cdv A outer s H E).calm = true := rfl
      have hu := hr.units
      have hu65 := Y.room65 hr
      have hdi := Nat.lt_of_le_of_lt (Nat.add_le_add_left (by decide : 1 ≤ 64) _) hr.units
      have tk : Takes (cxOf (L2.CX P w) P w K mg base ["told", "due", "at"] "_law_same" (defScope s__law_same) T.f__law_same cdv A outer s H E) (fun cls d _ H => E cls d H) := takes_of rfl rfl rfl rfl
      have O : Okc (cxOf (L2.CX P w) P w K mg base ["told", "due", "at"] "_law_same" (defScope s__law_same) T.f__law_same cdv A outer s H E) ⟨K, fa, xc, tT⟩ (fun _ => E) := okc_def rfl
      exact (z_cons (z_if (s_pw (s_or (s_tst (s_isI .tuple rfl (by rfl) T.z_isinstance (by decide +kernel) (by rfl) T.z_tuple (by decide +kernel) (s_var 1))) (s_or1 (s_tst (s_isI .list rfl (by rfl) T.z_isinstance (by decide +kernel) (by rfl) T.z_list (by decide +kernel) (s_var 1)))))) (z_cons (z_if (s_pw (s_or (s_tcmp (op_neD hu) o_ne (s_isI .tuple rfl (by rfl) T.z_isinstance (by decide +kernel) (by rfl) T.z_tuple (by decide +kernel) (s_var 0)) (s_isI .tuple rfl (by rfl) T.z_isinstance (by decide +kernel) (by rfl) T.z_tuple (by decide +kernel) (s_var 1)) (nomark _)) (s_or (s_tcmp (op_neD hu) o_ne (s_isI .list rfl (by rfl) T.z_isinstance (by decide +kernel) (by rfl) T.z_list (by decide +kernel) (s_var 0)) (s_isI .list rfl (by rfl) T.z_isinstance (by decide +kernel) (by rfl) T.z_list (by decide +kernel) (s_var 1)) (nomark _)) (s_or1 (s_tcmp (op_neD hu) o_ne (s_bltB call_len3 n_len (by rfl) T.z_len (by decide +kernel) (s_cons (s_var 0) s_nil)) (s_bltB call_len3 n_len (by rfl) T.z_len (by decide +kernel) (s_cons (s_var 1) s_nil)) (nomark _)))))) (z_one (z_ret s_bl)) z_nil)
        (z_one (z_ret (s_cmp (op_eqD hu) o_eq (s_lc (own := [("at", 2)]) rfl hc nd (i_rng1 (by rfl) T.z_range (s_bltB call_len3 n_len (by rfl) T.z_len (by decide +kernel) (s_cons (s_var 1) s_nil))) (blkOk_by (N := ["told", "due", "at"]) (sc := defScope s__law_same) (own := [("at", 2)]) (by decide +kernel)) (fun _ _ _ _ _ => (gw_name (i := 2) nd rfl (Or.inl rfl) (by decide))) (fun _ _ _ _ _ => (ts_one (s_tnot (s_tst (s_callK O.blk ih (hr.mono (by omega)) (by rfl) T.g__law_same T.F__law_same.kp T.b__law_same (s_cons (s_ix ix_2 o_ix (s_var 0) (s_var 2) (fun _ _ => rfl)) (s_cons (s_ix ix_2 o_ix (s_var 1) (s_var 2) (fun _ _ => rfl)) s_nil))))))) (fun _ _ _ _ _ => s_int)) (s_lst s_nil) (nomark _))))) z_nil)
        (z_cons (z_if (s_tisN (s_var 1)) (z_one (z_ret (s_isN (s_var 0)))) z_nil)
        (z_cons (z_if (s_tst (s_isI .bool rfl (by rfl) T.z_isinstance (by decide +kernel) (by rfl) T.z_bool (by decide +kernel) (s_var 1))) (z_one (z_ret (s_if (s_tst (s_var 1)) (s_isB (s_var 0) s_bl) (s_isB (s_var 0) s_bl)))) z_nil)
        (z_cons (z_if (s_tst (s_isI .int rfl (by rfl) T.z_isinstance (by decide +kernel) (by rfl) T.z_int (by decide +kernel) (s_var 1))) (z_one (z_ret (s_vand (s_isI .int rfl (by rfl) T.z_isinstance (by decide +kernel) (by rfl) T.z_int (by decide +kernel) (s_var 0)) (s_vand (s_vnot (s_isI .bool rfl (by rfl) T.z_isinstance (by decide +kernel) (by rfl) T.z_bool (by decide +kernel) (s_var 0))) (s_one (s_cmp (op_eqD hu) o_eq (s_bltT call_int1 n_int (by rfl) T.z_int (by decide +kernel) (s_cons (s_var 0) s_nil)) (s_var 1) (nomark _))))))) z_nil)
        (z_one (z_ret (s_vand (s_isI .str rfl (by rfl) T.z_isinstance (by decide +kernel) (by rfl) T.z_str (by decide +kernel) (s_var 0)) (s_one (s_cmp (op_eqD hu) o_eq (s_bltT call_str2 n_str (by rfl) T.z_str (by decide +kernel) (s_cons (s_var 0) s_nil)) (s_var 1) (nomark _))))))))))
theorem ok__law_share (T : Txt K mg fa xc) : FnOk P w K mg base (L2.CX P w) 1 T.f__law_share T.d__law_share ["above", "below"] (spF ⟨K, fa, xc, tT⟩ 2 D__law_share) :=
  fn_ok (P := P) (w := w) (mg := mg) (base := base) (t := ⟨K, fa, xc, tT⟩) T.F__law_share sc__law_share fun cdv A outer s H E hr => by
    have nd := sc__law_share.nd
    have hc : (cxOf (L2.CX P w) P w K mg base ["above", "below", "one", "other", "sign"] "_law_share" (defScope s__law_share) T.f__law_share cdv A outer s H E).calm = true := rfl
    have hu := hr.units
    have hu65 := Y.room65 hr
    have hdi := Nat.lt_of_le_of_lt (Nat.add_le_add_left (by decide : 1 ≤ 64) _) hr.units
    have tk : Takes (cxOf (L2.CX P w) P w K mg base ["above", "below", "one", "other", "sign"] "_law_share" (defScope s__law_share) T.f__law_share cdv A outer s H E) (fun cls d _ H => E cls d H) := takes_of rfl rfl rfl rfl
    have O : Okc (cxOf (L2.CX P w) P w K mg base ["above", "below", "one", "other", "sign"] "_law_share" (defScope s__law_share) T.f__law_share cdv A outer s H E) ⟨K, fa, xc, tT⟩ (fun _ => E) := okc_def rfl
    exact (z_cons (z_par (i := 2) (j := 3) hc nd rfl rfl (by decide) rfl rfl (s_bltB (call_max2 hc) n_max2 (by rfl) T.z_max (by decide +kernel) (s_cons (s_var 0) (s_cons (s_un un_neg o_neg (s_var 0)) s_nil))) (s_bltB (call_max2 hc) n_max2 (by rfl) T.z_max (by decide +kernel) (s_cons (s_var 1) (s_cons (s_un un_neg o_neg (s_var 1)) s_nil))) (by rfl))
      (z_cons (z_while pass_def (s_tcmp op_gt o_gt (s_var 3) s_int (nomark _)) (z_one (z_par (i := 2) (j := 3) hc nd rfl rfl (by decide) rfl rfl (s_var 3) (s_op op_modG o_mod (s_bltT call_int1 n_int (by rfl) T.z_int (by decide +kernel) (s_cons (s_var 2) s_nil)) (s_var 3)) (by rfl))))
      (z_cons (z_set (i := 4) nd rfl (.inl rfl) (s_if (s_tcmp op_gt o_gt (s_var 1) s_int (nomark _)) s_int (s_un un_neg o_neg s_int)))
      (z_one (z_ret (s_tup (s_cons (s_op op_mul2 o_mul (s_var 4) (s_op op_divG o_div (s_var 0) (s_var 2))) (s_cons (s_op op_mul2 o_mul (s_var 4) (s_op op_divG o_div (s_var 1) (s_var 2))) s_nil))))))))
theorem ok__law_plus (T : Txt K mg fa xc) : FnOk P w K mg base (L2.CX P w) 2 T.f__law_plus T.d__law_plus ["one", "other"] (spF ⟨K, fa, xc, tT⟩ 2 D__law_plus) :=
  fn_ok (P := P) (w := w) (mg := mg) (base := base) (t := ⟨K, fa, xc, tT⟩) T.F__law_plus sc__law_plus fun cdv A outer s H E hr => by
    have nd := sc__law_plus.nd
    have hc : (cxOf (L2.CX P w) P w K mg base ["one", "other"] "_law_plus" (defScope s__law_plus) T.f__law_plus cdv A outer s H E).calm = true := rfl
    have hu := hr.units
    have hu65 := Y.room65 hr
    have hdi := Nat.lt_of_le_of_lt (Nat.add_le_add_left (by decide : 1 ≤ 64) _) hr.units
    have tk : Takes (cxOf (L2.CX P w) P w K mg base ["one", "other"] "_law_plus" (defScope s__law_plus) T.f__law_plus cdv A outer s H E) (fun cls d _ H => E cls d H) := takes_of rfl rfl rfl rfl
    have O : Okc (cxOf (L2.CX P w) P w K mg base ["one", "other"] "_law_plus" (defScope s__law_plus) T.f__law_plus cdv A outer s H E) ⟨K, fa, xc, tT⟩ (fun _ => E) := okc_def rfl
    exact (z_one (z_ret (s_callK O (ok__law_share T) (hr.mono (by decide)) (by rfl) T.g__law_share T.F__law_share.kp T.b__law_share (s_cons (s_op op_add4 o_add (s_op op_mul2 o_mul (s_ix ix_2 o_ix (s_var 0) s_int (fun _ _ => rfl)) (s_ix ix_2 o_ix (s_var 1) s_int (fun _ _ => rfl))) (s_op op_mul2 o_mul (s_ix ix_2 o_ix (s_var 1) s_int (fun _ _ => rfl)) (s_ix ix_2 o_ix (s_var 0) s_int (fun _ _ => rfl)))) (s_cons (s_op op_mul2 o_mul (s_ix ix_2 o_ix (s_var 0) s_int (fun _ _ => rfl)) (s_ix ix_2 o_ix (s_var 1) s_int (fun _ _ => rfl))) s_nil)))))
theorem ok__law_minus (T : Txt K mg fa xc) : FnOk P w K mg base (L2.CX P w) 3 T.f__law_minus T.d__law_minus ["one", "other"] (spF ⟨K, fa, xc, tT⟩ 2 D__law_minus) :=
  fn_ok (P := P) (w := w) (mg := mg) (base := base) (t := ⟨K, fa, xc, tT⟩) T.F__law_minus sc__law_minus fun cdv A outer s H E hr => by
    have nd := sc__law_minus.nd
    have hc : (cxOf (L2.CX P w) P w K mg base ["one", "other"] "_law_minus" (defScope s__law_minus) T.f__law_minus cdv A outer s H E).calm = true := rfl
    have hu := hr.units
    have hu65 := Y.room65 hr
    have hdi := Nat.lt_of_le_of_lt (Nat.add_le_add_left (by decide : 1 ≤ 64) _) hr.units
    have tk : Takes (cxOf (L2.CX P w) P w K mg base ["one", "other"] "_law_minus" (defScope s__law_minus) T.f__law_minus cdv A outer s H E) (fun cls d _ H => E cls d H) := takes_of rfl rfl rfl rfl
    have O : Okc (cxOf (L2.CX P w) P w K mg base ["one", "other"] "_law_minus" (defScope s__law_minus) T.f__law_minus cdv A outer s H E) ⟨K, fa, xc, tT⟩ (fun _ => E) := okc_def rfl
    exact (z_one (z_ret (s_callK O (ok__law_plus T) (hr.mono (by decide)) (by rfl) T.g__law_plus T.F__law_plus.kp T.b__law_plus (s_cons (s_var 0) (s_cons (s_tup (s_cons (s_un un_neg o_neg (s_ix ix_2 o_ix (s_var 1) s_int (fun _ _ => rfl))) (s_cons (s_ix ix_2 o_ix (s_var 1) s_int (fun _ _ => rfl)) s_nil))) s_nil)))))
theorem ok__law_times (T : Txt K mg fa xc) : FnOk P w K mg base (L2.CX P w) 2 T.f__law_times T.d__law_times ["one", "other"] (spF ⟨K, fa, xc, tT⟩ 2 D__law_times) :=
  fn_ok (P := P) (w := w) (mg := mg) (base := base) (t := ⟨K, fa, xc, tT⟩) T.F__law_times sc__law_times fun cdv A outer s H E hr => by
    have nd := sc__law_times.nd
    have hc : (cxOf (L2.CX P w) P w K mg base ["one", "other"] "_law_times" (defScope s__law_times) T.f__law_times cdv A outer s H E).calm = true := rfl
    have hu := hr.units
    have hu65 := Y.room65 hr
    have hdi := Nat.lt_of_le_of_lt (Nat.add_le_add_left (by decide : 1 ≤ 64) _) hr.units
    have tk : Takes (cxOf (L2.CX P w) P w K mg base ["one", "other"] "_law_times" (defScope s__law_times) T.f__law_times cdv A outer s H E) (fun cls d _ H => E cls d H) := takes_of rfl rfl rfl rfl
    have O : Okc (cxOf (L2.CX P w) P w K mg base ["one", "other"] "_law_times" (defScope s__law_times) T.f__law_times cdv A outer s H E) ⟨K, fa, xc, tT⟩ (fun _ => E) := okc_def rfl
    exact (z_one (z_ret (s_callK O (ok__law_share T) (hr.mono (by decide)) (by rfl) T.g__law_share T.F__law_share.kp T.b__law_share (s_cons (s_op op_mul2 o_mul (s_ix ix_2 o_ix (s_var 0) s_int (fun _ _ => rfl)) (s_ix ix_2 o_ix (s_var 1) s_int (fun _ _ => rfl))) (s_cons (s_op op_mul2 o_mul (s_ix ix_2 o_ix (s_var 0) s_int (fun _ _ => rfl)) (s_ix ix_2 o_ix (s_var 1) s_int (fun _ _ => rfl))) s_nil)))))
theorem ok__law_less (T : Txt K mg fa xc) : FnOk P w K mg base (L2.CX P w) 1 T.f__law_less T.d__law_less ["one", "other"] (spF ⟨K, fa, xc, tT⟩ 2 D__law_less) :=
  fn_ok (P := P) (w := w) (mg := mg) (base := base) (t := ⟨K, fa, xc, tT⟩) T.F__law_less sc__law_less fun cdv A outer s H E hr => by
    have nd := sc__law_less.nd
    have hc : (cxOf (L2.CX P w) P w K mg base ["one", "other"] "_law_less" (defScope s__law_less) T.f__law_less cdv A outer s H E).calm = true := rfl
    have hu := hr.units
    have hu65 := Y.room65 hr
    have hdi := Nat.lt_of_le_of_lt (Nat.add_le_add_left (by decide : 1 ≤ 64) _) hr.units
    have tk : Takes (cxOf (L2.CX P w) P w K mg base ["one", "other"] "_law_less" (defScope s__law_less) T.f__law_less cdv A outer s H E) (fun cls d _ H => E cls d H) := takes_of rfl rfl rfl rfl
    have O : Okc (cxOf (L2.CX P w) P w K mg base ["one", "other"] "_law_less" (defScope s__law_less) T.f__law_less cdv A outer s H E) ⟨K, fa, xc, tT⟩ (fun _ => E) := okc_def rfl
    exact (z_one (z_ret (s_cmp op_lt o_lt (s_op op_mul2 o_mul (s_ix ix_2 o_ix (s_var 0) s_int (fun _ _ => rfl)) (s_ix ix_2 o_ix (s_var 1) s_int (fun _ _ => rfl))) (s_op op_mul2 o_mul (s_ix ix_2 o_ix (s_var 1) s_int (fun _ _ => rfl)) (s_ix ix_2 o_ix (s_var 0) s_int (fun _ _ => rfl))) (nomark _))))
theorem ok__law_value (T : Txt K mg fa xc) : FnOk P w K mg base (L2.CX P w) 4 T.f__law_value T.d__law_value ["table", "time"] (spF ⟨K, fa, xc, tT⟩ 2 D__law_value) :=
  fn_ok (P := P) (w := w) (mg := mg) (base := base) (t := ⟨K, fa, xc, tT⟩) T.F__law_value sc__law_value fun cdv A outer s H E hr => by
    have nd := sc__law_value.nd
    have hc : (cxOf (L2.CX P w) P w K mg base ["table", "time", "at", "one", "other", "part"] "_law_value" (defScope s__law_value) T.f__law_value cdv A outer s H E).calm = true := rfl
    have hu := hr.units
    have hu65 := Y.room65 hr
    have hdi := Nat.lt_of_le_of_lt (Nat.add_le_add_left (by decide : 1 ≤ 64) _) hr.units
    have tk : Takes (cxOf (L2.CX P w) P w K mg base ["table", "time", "at", "one", "other", "part"] "_law_value" (defScope s__law_value) T.f__law_value cdv A outer s H E) (fun cls d _ H => E cls d H) := takes_of rfl rfl rfl rfl
    have O : Okc (cxOf (L2.CX P w) P w K mg base ["table", "time", "at", "one", "other", "part"] "_law_value" (defScope s__law_value) T.f__law_value cdv A outer s H E) ⟨K, fa, xc, tT⟩ (fun _ => E) := okc_def rfl
    exact (z_cons (z_set (i := 2) nd rfl (.inl rfl) s_int)
      (z_cons (z_while pass_def (s_pw (s_and (s_tcmp op_lt o_lt (s_op op_add4 o_add (s_var 2) s_int) (s_bltB call_len3 n_len (by rfl) T.z_len (by decide +kernel) (s_cons (s_var 0) s_nil)) (nomark _)) (s_and1 (s_tnot (s_tst (s_callK O (ok__law_less T) (hr.mono (by decide)) (by rfl) T.g__law_less T.F__law_less.kp T.b__law_less (s_cons (s_var 1) (s_cons (s_tup (s_cons (s_ix ix_2 o_ix (s_ix ix_2 o_ix (s_var 0) (s_op op_add4 o_add (s_var 2) s_int) (fun _ _ => rfl)) s_int (fun _ _ => rfl)) (s_cons s_int s_nil))) s_nil)))))))) (z_one (z_set (i := 2) nd rfl (.inl rfl) (s_op op_add4 o_add (s_var 2) s_int))))
      (z_cons (z_par (i := 3) (j := 4) hc nd rfl rfl (by decide) rfl rfl (s_ix ix_2 o_ix (s_var 0) (s_var 2) (fun _ _ => rfl)) (s_ix ix_2 o_ix (s_var 0) (s_op op_add4 o_add (s_var 2) s_int) (fun _ _ => rfl)) (by rfl))
      (z_cons (z_set (i := 5) nd rfl (.inl rfl) (s_callK O (ok__law_minus T) (hr.mono (by decide)) (by rfl) T.g__law_minus T.F__law_minus.kp T.b__law_minus (s_cons (s_var 1) (s_cons (s_tup (s_cons (s_ix ix_2 o_ix (s_var 3) s_int (fun _ _ => rfl)) (s_cons s_int s_nil))) s_nil))))
      (z_one (z_ret (s_callK O (ok__law_plus T) (hr.mono (by decide)) (by rfl) T.g__law_plus T.F__law_plus.kp T.b__law_plus (s_cons (s_tup (s_cons (s_ix ix_2 o_ix (s_var 3) s_int (fun _ _ => rfl)) (s_cons s_int s_nil))) (s_cons (s_callK O (ok__law_times T) (hr.mono (by decide)) (by rfl) T.g__law_times T.F__law_times.kp T.b__law_times (s_cons (s_var 5) (s_cons (s_callK O (ok__law_share T) (hr.mono (by decide)) (by rfl) T.g__law_share T.F__law_share.kp T.b__law_share (s_cons (s_op op_sub o_sub (s_ix ix_2 o_ix (s_var 4) s_int (fun _ _ => rfl)) (s_ix ix_2 o_ix (s_var 3) s_int (fun _ _ => rfl))) (s_cons (s_op op_sub o_sub (s_ix ix_2 o_ix (s_var 4) s_int (fun _ _ => rfl)) (s_ix ix_2 o_ix (s_var 3) s_int (fun _ _ => rfl))) s_nil))) s_nil))) s_nil)))))))))
theorem ok_law (T : Txt K mg fa xc) : FnOk P w K mg base (L2.CX P w) 12 T.f_law T.d_law ["script"] (spF ⟨K, fa, xc, tT⟩ 1 D_law) :=
  fn_ok (P := P) (w := w) (mg := mg) (base := base) (t := ⟨K, fa, xc, tT⟩) T.F_law sc_law fun cdv A outer s H E hr => by
    have nd := sc_law.nd
    have hc : (cxOf (L2.CX P w) P w K mg base ["script", "cup", "high", "wide", "up", "down", "table", "end", "top", "area", "turned", "below", "above", "time", "more", "parts", "grow", "fall", "times", "at", "day", "minutes"] "law" (defScope s_law) T.f_law cdv A outer s H E).calm = true := rfl
    have hu := hr.units
    have hu65 := Y.room65 hr
    have hdi := Nat.lt_of_le_of_lt (Nat.add_le_add_left (by decide : 1 ≤ 64) _) hr.units
    have tk : Takes (cxOf (L2.CX P w) P w K mg base ["script", "cup", "high", "wide", "up", "down", "table", "end", "top", "area", "turned", "below", "above", "time", "more", "parts", "grow", "fall", "times", "at", "day", "minutes"] "law" (defScope s_law) T.f_law cdv A outer s H E) (fun cls d _ H => E cls d H) := takes_of rfl rfl rfl rfl
    have O : Okc (cxOf (L2.CX P w) P w K mg base ["script", "cup", "high", "wide", "up", "down", "table", "end", "top", "area", "turned", "below", "above", "time", "more", "parts", "grow", "fall", "times", "at", "day", "minutes"] "law" (defScope s_law) T.f_law cdv A outer s H E) ⟨K, fa, xc, tT⟩ (fun _ => E) := okc_def rfl
    exact (z_cons (z_set (i := 1) nd rfl (.inl rfl) (s_callK O (ok__law_cup T) (hr.mono (by decide)) (by rfl) T.g__law_cup T.F__law_cup.kp T.b__law_cup (s_cons (s_var 0) s_nil)))
      (z_cons (z_asg (s_tup (s_cons (s_op op_mul2 o_mul s_int (s_op op_add4 o_add s_int (s_callK O (ok__law_roll T) (hr.mono (by decide)) (by rfl) T.g__law_roll T.F__law_roll.kp T.b__law_roll (s_cons (s_var 1) (s_cons s_int s_nil))))) (s_cons (s_op op_add4 o_add s_int (s_callK O (ok__law_roll T) (hr.mono (by decide)) (by rfl) T.g__law_roll T.F__law_roll.kp T.b__law_roll (s_cons (s_var 1) (s_cons s_int s_nil)))) s_nil))) (g_tup rfl hc (gs_cons (g_name (i := 2) nd rfl (.inr rfl)) (gs_cons (g_name (i := 3) nd rfl (.inr rfl)) gs_nil)) ((len_gsC ((len_gsC (fun _ _ _ _ h => len_gsN h)))))))
      (z_cons (z_setLc (i := 4) (own := [("at", 19)]) rfl hc nd rfl rfl (sw_true rfl rfl rfl (by decide +kernel)) (i_rng1 (by rfl) T.z_range s_int) (blkOk_by (N := ["script", "cup", "high", "wide", "up", "down", "table", "end", "top", "area", "turned", "below", "above", "time", "more", "parts", "grow", "fall", "times", "at", "day", "minutes"]) (sc := defScope s_law) (own := [("at", 19)]) (by decide +kernel)) (fun _ _ _ _ _ => (gw_name (i := 19) nd rfl (Or.inl rfl) (by decide))) (fun _ _ _ _ _ => ts_nil) (fun _ _ _ _ _ => (s_tup (s_cons (s_op op_mul2 o_mul (s_var 3) (s_var 19)) (s_cons (s_op op_mul2 o_mul (s_var 2) (s_var 19)) s_nil)))))
      (z_cons (z_setLc (i := 5) (own := [("at", 19)]) rfl hc nd rfl rfl (sw_true rfl rfl rfl (by decide +kernel)) (i_rng1 (by rfl) T.z_range s_int) (blkOk_by (N := ["script", "cup", "high", "wide", "up", "down", "table", "end", "top", "area", "turned", "below", "above", "time", "more", "parts", "grow", "fall", "times", "at", "day", "minutes"]) (sc := defScope s_law) (own := [("at", 19)]) (by decide +kernel)) (fun _ _ _ _ _ => (gw_name (i := 19) nd rfl (Or.inl rfl) (by decide))) (fun _ _ _ _ _ => ts_nil) (fun _ _ _ _ _ => (s_tup (s_cons (s_op op_mul2 o_mul (s_var 3) (s_op op_add4 o_add s_int (s_var 19))) (s_cons (s_op op_mul2 o_mul (s_var 2) (s_op op_sub o_sub s_int (s_var 19))) s_nil)))))
      (z_cons (z_set (i := 6) nd rfl (.inl rfl) (s_bltT call_tuple_of n_tuple (by rfl) T.z_tuple (by decide +kernel) (s_cons (s_op op_add4 o_add (s_var 4) (s_var 5)) s_nil)))
      (z_cons (z_set (i := 7) nd rfl (.inr rfl) (s_op op_mul2 o_mul (s_var 3) s_int))
      (z_cons (z_set (i := 8) nd rfl (.inl rfl) (s_op op_mul2 o_mul (s_var 2) s_int))
      (z_cons (z_set (i := 9) nd rfl (.inl rfl) (s_op op_add4 o_add (s_op op_mul2 o_mul s_int (s_op op_divG o_div (s_op op_mul2 o_mul (s_op op_mul2 o_mul (s_op op_mul2 o_mul (s_var 2) s_int) s_int) (s_var 3)) s_int)) (s_op op_mul2 o_mul (s_var 8) (s_var 3))))
      (z_cons (z_if (s_tnot (s_tst (s_callK O (ok__law_same T 10) (hr.mono (by decide)) (by rfl) T.g__law_same T.F__law_same.kp T.b__law_same (s_cons (s_tup (s_cons (s_callK O (ok_summed T) (hr.mono (by decide)) (by rfl) T.g_summed T.F_summed.kp T.b_summed (s_cons (s_var 6) (s_cons (s_tup (s_cons s_int (s_cons s_int s_nil))) (s_cons (s_tup (s_cons (s_var 7) (s_cons s_int s_nil))) s_nil)))) (s_cons (s_callK O (ok_mean T) (hr.mono (by decide)) (by rfl) T.g_mean T.F_mean.kp T.b_mean (s_cons (s_var 6) (s_cons (s_tup (s_cons s_int (s_cons s_int s_nil))) (s_cons (s_tup (s_cons (s_var 7) (s_cons s_int s_nil))) s_nil)))) s_nil))) (s_cons (s_tup (s_cons (s_tup (s_cons (s_var 9) (s_cons s_int s_nil))) (s_cons (s_callK O (ok__law_share T) (hr.mono (by decide)) (by rfl) T.g__law_share T.F__law_share.kp T.b__law_share (s_cons (s_var 9) (s_cons (s_var 7) s_nil))) s_nil))) s_nil))))) (z_one (z_ret s_bl)) z_nil)
      (z_cons (z_if (s_tnot (s_tst (s_callK O (ok__law_same T 10) (hr.mono (by decide)) (by rfl) T.g__law_same T.F__law_same.kp T.b__law_same (s_cons (s_callK O (ok_lowered T) (hr.mono (by decide)) (by rfl) T.g_lowered T.F_lowered.kp T.b_lowered (s_cons (s_var 6) s_nil)) (s_cons (s_tup (s_cons (s_tup (s_cons s_int (s_cons s_int s_nil))) (s_cons (s_tup (s_cons (s_op op_mul2 o_mul s_int (s_var 3)) (s_cons (s_var 8) s_nil))) (s_cons (s_tup (s_cons (s_op op_mul2 o_mul s_int (s_var 3)) (s_cons (s_var 8) s_nil))) (s_cons (s_tup (s_cons (s_var 7) (s_cons s_int s_nil))) s_nil))))) s_nil))))) (z_one (z_ret s_bl)) z_nil)
      (z_cons (z_set (i := 10) nd rfl (.inl rfl) (s_bltT call_tuple_of n_tuple (by rfl) T.z_tuple (by decide +kernel) (s_cons (s_rev rfl (s_lc (own := [("day", 20), ("minutes", 21)]) rfl hc nd (i_tup rfl (s_var 6)) (blkOk_by (N := ["script", "cup", "high", "wide", "up", "down", "table", "end", "top", "area", "turned", "below", "above", "time", "more", "parts", "grow", "fall", "times", "at", "day", "minutes"]) (sc := defScope s_law) (own := [("day", 20), ("minutes", 21)]) (by decide +kernel)) (fun _ _ _ _ _ => (gw_tup rfl hc (gsw_cons (gw_name (i := 20) nd rfl (Or.inl rfl) (by decide)) (gsw_cons (gw_name (i := 21) nd rfl (Or.inl rfl) (by decide)) gsw_nil)) ((len_gsC ((len_gsC (fun _ _ _ _ h => len_gsN h))))))) (fun _ _ _ _ _ => ts_nil) (fun _ _ _ _ _ => (s_tup (s_cons (s_op op_sub o_sub (s_var 7) (s_var 20)) (s_cons (s_var 21) s_nil)))))) s_nil)))
      (z_cons (z_if (s_tnot (s_tst (s_callK O (ok__law_same T 10) (hr.mono (by decide)) (by rfl) T.g__law_same T.F__law_same.kp T.b__law_same (s_cons (s_tup (s_cons (s_callK O (ok_meetings T) (hr.mono (by decide)) (by rfl) T.g_meetings T.F_meetings.kp T.b_meetings (s_cons (s_var 6) (s_cons (s_var 10) s_nil))) (s_cons (s_callK O (ok_longer_share T) (hr.mono (by decide)) (by rfl) T.g_longer_share T.F_longer_share.kp T.b_longer_share (s_cons (s_var 6) (s_cons (s_var 10) s_nil))) s_nil))) (s_cons (s_tup (s_cons (s_bltT call_tuple_of n_tuple (by rfl) T.z_tuple (by decide +kernel) (s_cons (s_lc (own := [("day", 20), ("minutes", 21)]) rfl hc nd (i_tup rfl (s_var 6)) (blkOk_by (N := ["script", "cup", "high", "wide", "up", "down", "table", "end", "top", "area", "turned", "below", "above", "time", "more", "parts", "grow", "fall", "times", "at", "day", "minutes"]) (sc := defScope s_law) (own := [("day", 20), ("minutes", 21)]) (by decide +kernel)) (fun _ _ _ _ _ => (gw_tup rfl hc (gsw_cons (gw_name (i := 20) nd rfl (Or.inl rfl) (by decide)) (gsw_cons (gw_name (i := 21) nd rfl (Or.inl rfl) (by decide)) gsw_nil)) ((len_gsC ((len_gsC (fun _ _ _ _ h => len_gsN h))))))) (fun _ _ _ _ _ => ts_nil) (fun _ _ _ _ _ => (s_tup (s_cons (s_var 20) (s_cons s_int s_nil))))) s_nil)) (s_cons (s_tup (s_cons s_int (s_cons s_int s_nil))) s_nil))) s_nil))))) (z_one (z_ret s_bl)) z_nil)
      (z_cons (z_set (i := 11) nd rfl (.inl rfl) (s_op op_add4 o_add (s_op op_pow o_pow s_int s_int) (s_callK O (ok__law_roll T) (hr.mono (by decide)) (by rfl) T.g__law_roll T.F__law_roll.kp T.b__law_roll (s_cons (s_var 1) (s_cons (s_op op_pow o_pow s_int s_int) s_nil)))))
      (z_cons (z_set (i := 12) nd rfl (.inl rfl) (s_op op_add4 o_add s_int (s_callK O (ok__law_roll T) (hr.mono (by decide)) (by rfl) T.g__law_roll T.F__law_roll.kp T.b__law_roll (s_cons (s_var 1) (s_cons (s_op op_sub o_sub (s_op op_mul2 o_mul (s_var 11) (s_var 7)) s_int) s_nil)))))
      (z_cons (z_set (i := 13) nd rfl (.inl rfl) (s_callK O (ok__law_share T) (hr.mono (by decide)) (by rfl) T.g__law_share T.F__law_share.kp T.b__law_share (s_cons (s_var 12) (s_cons (s_var 11) s_nil))))
      (z_cons (z_set (i := 14) nd rfl (.inl rfl) (s_bltT call_tuple_of n_tuple (by rfl) T.z_tuple (by decide +kernel) (s_cons (s_lc (own := [("day", 20), ("minutes", 21)]) rfl hc nd (i_tup rfl (s_var 6)) (blkOk_by (N := ["script", "cup", "high", "wide", "up", "down", "table", "end", "top", "area", "turned", "below", "above", "time", "more", "parts", "grow", "fall", "times", "at", "day", "minutes"]) (sc := defScope s_law) (own := [("day", 20), ("minutes", 21)]) (by decide +kernel)) (fun _ _ _ _ _ => (gw_tup rfl hc (gsw_cons (gw_name (i := 20) nd rfl (Or.inl rfl) (by decide)) (gsw_cons (gw_name (i := 21) nd rfl (Or.inl rfl) (by decide)) gsw_nil)) ((len_gsC ((len_gsC (fun _ _ _ _ h => len_gsN h))))))) (fun _ _ _ _ _ => ts_nil) (fun _ _ _ _ _ => (s_tup (s_cons (s_var 20) (s_cons (s_op op_add4 o_add (s_var 21) s_int) s_nil))))) s_nil)))
      (z_cons (z_if (s_tcmp op_le o_le (s_ix ix_2 o_ix (s_var 13) s_int (fun _ _ => rfl)) (s_op op_pow o_pow s_int s_int) (nomark _)) (z_cons (z_if (s_tnot (s_tst (s_callK O (ok__law_same T 10) (hr.mono (by decide)) (by rfl) T.g__law_same T.F__law_same.kp T.b__law_same (s_cons (s_tup (s_cons (s_callK O (ok_value_at T) (hr.mono (by decide)) (by rfl) T.g_value_at T.F_value_at.kp T.b_value_at (s_cons (s_var 6) (s_cons (s_var 13) s_nil))) (s_cons (s_callK O (ok_value_at T) (hr.mono (by decide)) (by rfl) T.g_value_at T.F_value_at.kp T.b_value_at (s_cons (s_var 14) (s_cons (s_var 13) s_nil))) s_nil))) (s_cons (s_tup (s_cons (s_callK O (ok__law_value T) (hr.mono (by decide)) (by rfl) T.g__law_value T.F__law_value.kp T.b__law_value (s_cons (s_var 6) (s_cons (s_var 13) s_nil))) (s_cons (s_callK O (ok__law_plus T) (hr.mono (by decide)) (by rfl) T.g__law_plus T.F__law_plus.kp T.b__law_plus (s_cons (s_callK O (ok__law_value T) (hr.mono (by decide)) (by rfl) T.g__law_value T.F__law_value.kp T.b__law_value (s_cons (s_var 6) (s_cons (s_var 13) s_nil))) (s_cons (s_tup (s_cons s_int (s_cons s_int s_nil))) s_nil))) s_nil))) s_nil))))) (z_one (z_ret s_bl)) z_nil)
      (z_cons (z_set (i := 15) nd rfl (.inl rfl) (s_callK O (ok__law_plus T) (hr.mono (by decide)) (by rfl) T.g__law_plus T.F__law_plus.kp T.b__law_plus (s_cons (s_callK O (ok_summed T) (hr.mono (by decide)) (by rfl) T.g_summed T.F_summed.kp T.b_summed (s_cons (s_var 6) (s_cons (s_tup (s_cons s_int (s_cons s_int s_nil))) (s_cons (s_var 13) s_nil)))) (s_cons (s_callK O (ok_summed T) (hr.mono (by decide)) (by rfl) T.g_summed T.F_summed.kp T.b_summed (s_cons (s_var 6) (s_cons (s_var 13) (s_cons (s_tup (s_cons (s_var 7) (s_cons s_int s_nil))) s_nil)))) s_nil))))
      (z_one (z_if (s_pw (s_or (s_tcmp (op_neD hu) o_ne (s_var 15) (s_tup (s_cons (s_var 9) (s_cons s_int s_nil))) (nomark _)) (s_or (s_tcmp (op_neD hu) o_ne (s_callK O (ok_longer_share T) (hr.mono (by decide)) (by rfl) T.g_longer_share T.F_longer_share.kp T.b_longer_share (s_cons (s_var 14) (s_cons (s_var 6) s_nil))) (s_tup (s_cons s_int (s_cons s_int s_nil))) (nomark _)) (s_or1 (s_tcmp (op_neD hu) o_ne (s_callK O (ok_meetings T) (hr.mono (by decide)) (by rfl) T.g_meetings T.F_meetings.kp T.b_meetings (s_cons (s_var 14) (s_cons (s_var 6) s_nil))) (s_tup s_nil) (nomark _)))))) (z_one (z_ret s_bl)) z_nil)))) z_nil)
      (z_cons (z_set (i := 16) nd rfl (.inl rfl) (s_bltT call_tuple_of n_tuple (by rfl) T.z_tuple (by decide +kernel) (s_cons (s_lc (own := [("day", 20)]) rfl hc nd (i_rngS (by rfl) T.z_range s_int s_int s_int) (blkOk_by (N := ["script", "cup", "high", "wide", "up", "down", "table", "end", "top", "area", "turned", "below", "above", "time", "more", "parts", "grow", "fall", "times", "at", "day", "minutes"]) (sc := defScope s_law) (own := [("day", 20)]) (by decide +kernel)) (fun _ _ _ _ _ => (gw_name (i := 20) nd rfl (Or.inl rfl) (by decide))) (fun _ _ _ _ _ => ts_nil) (fun _ _ _ _ _ => (s_tup (s_cons (s_var 20) (s_cons (s_op op_mul2 o_mul (s_var 20) (s_var 20)) s_nil))))) s_nil)))
      (z_cons (z_set (i := 17) nd rfl (.inl rfl) (s_bltT call_tuple_of n_tuple (by rfl) T.z_tuple (by decide +kernel) (s_cons (s_lc (own := [("day", 20)]) rfl hc nd (i_rngS (by rfl) T.z_range s_int s_int s_int) (blkOk_by (N := ["script", "cup", "high", "wide", "up", "down", "table", "end", "top", "area", "turned", "below", "above", "time", "more", "parts", "grow", "fall", "times", "at", "day", "minutes"]) (sc := defScope s_law) (own := [("day", 20)]) (by decide +kernel)) (fun _ _ _ _ _ => (gw_name (i := 20) nd rfl (Or.inl rfl) (by decide))) (fun _ _ _ _ _ => ts_nil) (fun _ _ _ _ _ => (s_tup (s_cons (s_var 20) (s_cons (s_op op_sub o_sub s_int (s_op op_mul2 o_mul (s_var 20) (s_var 20))) s_nil))))) s_nil)))
      (z_cons (z_set (i := 18) nd rfl (.inl rfl) (s_callK O (ok_meetings T) (hr.mono (by decide)) (by rfl) T.g_meetings T.F_meetings.kp T.b_meetings (s_cons (s_var 16) (s_cons (s_var 17) s_nil))))
      (z_one (z_ret (s_vand (s_cmp (op_eqD hu) o_eq (s_bltB call_len3 n_len (by rfl) T.z_len (by decide +kernel) (s_cons (s_var 18) s_nil)) s_int (nomark _)) (s_vand (s_cmp (op_eqD hu) o_eq (s_callK O (ok_value_at T) (hr.mono (by decide)) (by rfl) T.g_value_at T.F_value_at.kp T.b_value_at (s_cons (s_var 16) (s_cons (s_ix ix_2 o_ix (s_var 18) s_int (fun _ _ => rfl)) s_nil))) (s_tup (s_cons s_int (s_cons s_int s_nil))) (nomark _)) (s_one (s_cmp (op_eqD hu) o_eq (s_callK O (ok_longer_share T) (hr.mono (by decide)) (by rfl) T.g_longer_share T.F_longer_share.kp T.b_longer_share (s_cons (s_var 17) (s_cons (s_var 16) s_nil))) (s_callK O (ok__law_share T) (hr.mono (by decide)) (by rfl) T.g__law_share T.F__law_share.kp T.b__law_share (s_cons (s_ix ix_2 o_ix (s_ix ix_2 o_ix (s_var 18) s_int (fun _ _ => rfl)) s_int (fun _ _ => rfl)) (s_cons (s_op op_mul2 o_mul (s_ix ix_2 o_ix (s_ix ix_2 o_ix (s_var 18) s_int (fun _ _ => rfl)) s_int (fun _ _ => rfl)) s_int) s_nil))) (nomark _)))))))))))))))))))))))))))
end
end K84

open PySem PySem.W PyProof.Rows
set_option maxHeartbeats 0 in
theorem PySem.Challenge.cw_wholeyard_k84_whole_great_tables_holds : PySem.Challenge.rw_wholeyard_k84_whole_great_tables.Holds := by
  w_on; o_law; k_head; (case hw => w_witness2)
  k_fill
  refine Y.walk_y (l := PySem.Challenge.rw_wholeyard_k84_whole_great_tables) (n := 63) (k := 12) (x := "script") (f := K84.D_law) rfl (by decide) rfl ⟨rfl, by decide, by decide⟩ (fun w h Y => PySem.W.kIn_of Y) ?F K84.law_true
  case F =>
    intro w mg fa h KX G LX hmg
    obtain ⟨f0, d0, F0, g0, b0, y0⟩ := Y.mkF (x := "fits_whole") (st := K84.s_fits_whole) (ps := ["value", "low", "high"]) KX G (by k_is) (by k_is) (by k_is) (by k_is) (fun _ _ _ _ _ _ us hl => match us, hl with | [_, _, _], _ => rfl)
    obtain ⟨f1, d1, F1, g1, b1, y1⟩ := Y.mkF (x := "is_tuple_of") (st := K84.s_is_tuple_of) (ps := ["value", "least", "most"]) KX G (by k_is) (by k_is) (by k_is) (by k_is) (fun _ _ _ _ _ _ us hl => match us, hl with | [_, _, _], _ => rfl)
    obtain ⟨f2, d2, F2, g2, b2, y2⟩ := Y.mkF (x := "divisor_in") (st := K84.s_divisor_in) (ps := ["one", "other"]) KX G (by k_is) (by k_is) (by k_is) (by k_is) (fun _ _ _ _ _ _ us hl => match us, hl with | [_, _], _ => rfl)
    obtain ⟨f3, d3, F3, g3, b3, y3⟩ := Y.mkF (x := "fits_table") (st := K84.s_fits_table) (ps := ["value"]) KX G (by k_is) (by k_is) (by k_is) (by k_is) (fun _ _ _ _ _ _ us hl => match us, hl with | [_], _ => rfl)
    obtain ⟨f4, d4, F4, g4, b4, y4⟩ := Y.mkF (x := "need_table") (st := K84.s_need_table) (ps := ["table"]) KX G (by k_is) (by k_is) (by k_is) (by k_is) (fun _ _ _ _ _ _ us hl => match us, hl with | [_], _ => rfl)
    obtain ⟨f5, d5, F5, g5, b5, y5⟩ := Y.mkF (x := "fits_share") (st := K84.s_fits_share) (ps := ["value"]) KX G (by k_is) (by k_is) (by k_is) (by k_is) (fun _ _ _ _ _ _ us hl => match us, hl with | [_], _ => rfl)
    obtain ⟨f6, d6, F6, g6, b6, y6⟩ := Y.mkF (x := "share") (st := K84.s_share) (ps := ["above", "below"]) KX G (by k_is) (by k_is) (by k_is) (by k_is) (fun _ _ _ _ _ _ us hl => match us, hl with | [_, _], _ => rfl)
    obtain ⟨f7, d7, F7, g7, b7, y7⟩ := Y.mkF (x := "plus") (st := K84.s_plus) (ps := ["one", "other"]) KX G (by k_is) (by k_is) (by k_is) (by k_is) (fun _ _ _ _ _ _ us hl => match us, hl with | [_, _], _ => rfl)
    obtain ⟨f8, d8, F8, g8, b8, y8⟩ := Y.mkF (x := "is_less") (st := K84.s_is_less) (ps := ["one", "other"]) KX G (by k_is) (by k_is) (by k_is) (by k_is) (fun _ _ _ _ _ _ us hl => match us, hl with | [_, _], _ => rfl)
    obtain ⟨f9, d9, F9, g9, b9, y9⟩ := Y.mkF (x := "need_day") (st := K84.s_need_day) (ps := ["table", "day"]) KX G (by k_is) (by k_is) (by k_is) (by k_is) (fun _ _ _ _ _ _ us hl => match us, hl with | [_, _], _ => rfl)
    obtain ⟨f10, d10, F10, g10, b10, y10⟩ := Y.mkF (x := "need_span") (st := K84.s_need_span) (ps := ["table", "first", "last"]) KX G (by k_is) (by k_is) (by k_is) (by k_is) (fun _ _ _ _ _ _ us hl => match us, hl with | [_, _, _], _ => rfl)
    obtain ⟨f11, d11, F11, g11, b11, y11⟩ := Y.mkF (x := "on_line") (st := K84.s_on_line) (ps := ["one", "other", "day"]) KX G (by k_is) (by k_is) (by k_is) (by k_is) (fun _ _ _ _ _ _ us hl => match us, hl with | [_, _, _], _ => rfl)
    obtain ⟨f12, d12, F12, g12, b12, y12⟩ := Y.mkF (x := "value_in") (st := K84.s_value_in) (ps := ["table", "day"]) KX G (by k_is) (by k_is) (by k_is) (by k_is) (fun _ _ _ _ _ _ us hl => match us, hl with | [_, _], _ => rfl)
    obtain ⟨f13, d13, F13, g13, b13, y13⟩ := Y.mkF (x := "knots_in") (st := K84.s_knots_in) (ps := ["table", "first", "last"]) KX G (by k_is) (by k_is) (by k_is) (by k_is) (fun _ _ _ _ _ _ us hl => match us, hl with | [_, _, _], _ => rfl)
    obtain ⟨f14, d14, F14, g14, b14, y14⟩ := Y.mkF (x := "area_in") (st := K84.s_area_in) (ps := ["table", "first", "last"]) KX G (by k_is) (by k_is) (by k_is) (by k_is) (fun _ _ _ _ _ _ us hl => match us, hl with | [_, _, _], _ => rfl)
    obtain ⟨f15, d15, F15, g15, b15, y15⟩ := Y.mkF (x := "days_of") (st := K84.s_days_of) (ps := ["one", "other"]) KX G (by k_is) (by k_is) (by k_is) (by k_is) (fun _ _ _ _ _ _ us hl => match us, hl with | [_, _], _ => rfl)
    obtain ⟨f16, d16, F16, g16, b16, y16⟩ := Y.mkF (x := "need_both") (st := K84.s_need_both) (ps := ["one", "other"]) KX G (by k_is) (by k_is) (by k_is) (by k_is) (fun _ _ _ _ _ _ us hl => match us, hl with | [_, _], _ => rfl)
    obtain ⟨f17, d17, F17, g17, b17, y17⟩ := Y.mkF (x := "meetings_in") (st := K84.s_meetings_in) (ps := ["one", "other"]) KX G (by k_is) (by k_is) (by k_is) (by k_is) (fun _ _ _ _ _ _ us hl => match us, hl with | [_, _], _ => rfl)
    obtain ⟨f18, d18, F18, g18, b18, y18⟩ := Y.mkF (x := "sorted_in") (st := K84.s_sorted_in) (ps := ["shares"]) KX G (by k_is) (by k_is) (by k_is) (by k_is) (fun _ _ _ _ _ _ us hl => match us, hl with | [_], _ => rfl)
    obtain ⟨f19, d19, F19, g19, b19, y19⟩ := Y.mkF (x := "value_at") (st := K84.s_value_at) (ps := ["table", "day"]) KX G (by k_is) (by k_is) (by k_is) (by k_is) (fun _ _ _ _ _ _ us hl => match us, hl with | [_, _], _ => rfl)
    obtain ⟨f20, d20, F20, g20, b20, y20⟩ := Y.mkF (x := "summed") (st := K84.s_summed) (ps := ["table", "first", "last"]) KX G (by k_is) (by k_is) (by k_is) (by k_is) (fun _ _ _ _ _ _ us hl => match us, hl with | [_, _, _], _ => rfl)
    obtain ⟨f21, d21, F21, g21, b21, y21⟩ := Y.mkF (x := "mean") (st := K84.s_mean) (ps := ["table", "first", "last"]) KX G (by k_is) (by k_is) (by k_is) (by k_is) (fun _ _ _ _ _ _ us hl => match us, hl with | [_, _, _], _ => rfl)
    obtain ⟨f22, d22, F22, g22, b22, y22⟩ := Y.mkF (x := "meetings") (st := K84.s_meetings) (ps := ["one", "other"]) KX G (by k_is) (by k_is) (by k_is) (by k_is) (fun _ _ _ _ _ _ us hl => match us, hl with | [_, _], _ => rfl)
    obtain ⟨f23, d23, F23, g23, b23, y23⟩ := Y.mkF (x := "longer_share") (st := K84.s_longer_share) (ps := ["one", "other"]) KX G (by k_is) (by k_is) (by k_is) (by k_is) (fun _ _ _ _ _ _ us hl => match us, hl with | [_, _], _ => rfl)
    obtain ⟨f24, d24, F24, g24, b24, y24⟩ := Y.mkF (x := "lowered") (st := K84.s_lowered) (ps := ["table"]) KX G (by k_is) (by k_is) (by k_is) (by k_is) (fun _ _ _ _ _ _ us hl => match us, hl with | [_], _ => rfl)
    obtain ⟨f25, d25, F25, g25, b25, y25⟩ := Y.mkF (x := "_law_cup") (st := K84.s__law_cup) (ps := ["script"]) KX G (by k_is) (by k_is) (by k_is) (by k_is) (fun _ _ _ _ _ _ us hl => match us, hl with | [_], _ => rfl)
    obtain ⟨f26, d26, F26, g26, b26, y26⟩ := Y.mkF (x := "_law_roll") (st := K84.s__law_roll) (ps := ["cup", "many"]) KX G (by k_is) (by k_is) (by k_is) (by k_is) (fun _ _ _ _ _ _ us hl => match us, hl with | [_, _], _ => rfl)
    obtain ⟨f27, d27, F27, g27, b27, y27⟩ := Y.mkF (x := "_law_same") (st := K84.s__law_same) (ps := ["told", "due"]) KX G (by k_is) (by k_is) (by k_is) (by k_is) (fun _ _ _ _ _ _ us hl => match us, hl with | [_, _], _ => rfl)
    obtain ⟨f28, d28, F28, g28, b28, y28⟩ := Y.mkF (x := "_law_share") (st := K84.s__law_share) (ps := ["above", "below"]) KX G (by k_is) (by k_is) (by k_is) (by k_is) (fun _ _ _ _ _ _ us hl => match us, hl with | [_, _], _ => rfl)
    obtain ⟨f29, d29, F29, g29, b29, y29⟩ := Y.mkF (x := "_law_plus") (st := K84.s__law_plus) (ps := ["one", "other"]) KX G (by k_is) (by k_is) (by k_is) (by k_is) (fun _ _ _ _ _ _ us hl => match us, hl with | [_, _], _ => rfl)
    obtain ⟨f30, d30, F30, g30, b30, y30⟩ := Y.mkF (x := "_law_minus") (st := K84.s__law_minus) (ps := ["one", "other"]) KX G (by k_is) (by k_is) (by k_is) (by k_is) (fun _ _ _ _ _ _ us hl => match us, hl with | [_, _], _ => rfl)
    obtain ⟨f31, d31, F31, g31, b31, y31⟩ := Y.mkF (x := "_law_times") (st := K84.s__law_times) (ps := ["one", "other"]) KX G (by k_is) (by k_is) (by k_is) (by k_is) (fun _ _ _ _ _ _ us hl => match us, hl with | [_, _], _ => rfl)
    obtain ⟨f32, d32, F32, g32, b32, y32⟩ := Y.mkF (x := "_law_less") (st := K84.s__law_less) (ps := ["one", "other"]) KX G (by k_is) (by k_is) (by k_is) (by k_is) (fun _ _ _ _ _ _ us hl => match us, hl with | [_, _], _ => rfl)
    obtain ⟨f33, d33, F33, g33, b33, y33⟩ := Y.mkF (x := "_law_value") (st := K84.s__law_value) (ps := ["table", "time"]) KX G (by k_is) (by k_is) (by k_is) (by k_is) (fun _ _ _ _ _ _ us hl => match us, hl with | [_, _], _ => rfl)
    obtain ⟨f34, d34, F34, g34, b34, y34⟩ := Y.mkF (x := "law") (st := K84.s_law) (ps := ["script"]) KX G (by k_is) (by k_is) (by k_is) (by k_is) (fun _ _ _ _ _ _ us hl => match us, hl with | [_], _ => rfl)
    have e := hmg.symm.trans g34
    obtain rfl : f34 = fa := by injection e with e; injection e with e; exact e.symm
    obtain ⟨C0, xa0, xb0, xd0, xe0, xf0⟩ := Y.mkX (x := "InvalidNumber") KX G (by k_is) (by k_exc) (by k_is) (by k_is) (by k_is)
    obtain ⟨C1, xa1, xb1, xd1, xe1, xf1⟩ := Y.mkX (x := "InvalidTable") KX G (by k_is) (by k_exc) (by k_is) (by k_is) (by k_is)
    exact ⟨d34, fun s u => y34 s [u] rfl, ⟨_, fun _ => none, fun c => ([(1, (C0, [])), (7, (C1, []))] : List (Nat × (Addr × List Str))).lookup c, []⟩, rfl, rfl, fun base _ _ => K84.ok_law ⟨f0, d0, F0, g0, b0, f1, d1, F1, g1, b1, f2, d2, F2, g2, b2, f3, d3, F3, g3, b3, f4, d4, F4, g4, b4, f5, d5, F5, g5, b5, f6, d6, F6, g6, b6, f7, d7, F7, g7, b7, f8, d8, F8, g8, b8, f9, d9, F9, g9, b9, f10, d10, F10, g10, b10, f11, d11, F11, g11, b11, f12, d12, F12, g12, b12, f13, d13, F13, g13, b13, f14, d14, F14, g14, b14, f15, d15, F15, g15, b15, f16, d16, F16, g16, b16, f17, d17, F17, g17, b17, f18, d18, F18, g18, b18, f19, d19, F19, g19, b19, f20, d20, F20, g20, b20, f21, d21, F21, g21, b21, f22, d22, F22, g22, b22, f23, d23, F23, g23, b23, f24, d24, F24, g24, b24, f25, d25, F25, g25, b25, f26, d26, F26, g26, b26, f27, d27, F27, g27, b27, f28, d28, F28, g28, b28, f29, d29, F29, g29, b29, f30, d30, F30, g30, b30, f31, d31, F31, g31, b31, f32, d32, F32, g32, b32, f33, d33, F33, g33, b33, f34, d34, F34, g34, b34, Y.mkC KX G (by k_is), Y.mkC KX G (by k_is), Y.loose_int LX (by decide +kernel), Y.mkC KX G (by k_is), PySem.W.mg_none_of KX G (by k_is), PySem.W.mg_none_of KX G (by k_is), PySem.W.mg_none_of KX G (by k_is), PySem.W.mg_none_of KX G (by k_is), PySem.W.mg_none_of KX G (by k_is), PySem.W.mg_none_of KX G (by k_is), PySem.W.mg_none_of KX G (by k_is), PySem.W.mg_none_of KX G (by k_is), PySem.W.mg_none_of KX G (by k_is), PySem.W.mg_none_of KX G (by k_is), PySem.W.mg_none_of KX G (by k_is), PySem.W.mg_none_of KX G (by k_is), PySem.W.mg_none_of KX G (by k_is), PySem.W.mg_none_of KX G (by k_is), PySem.W.mg_none_of KX G (by k_is), PySem.W.mg_none_of KX G (by k_is), ⟨C0, xa0, xb0, xd0, xe0, xf0, rfl⟩, ⟨C1, xa1, xb1, xd1, xe1, xf1, rfl⟩⟩⟩

