import PyProof.Rows.All
import Wide.All
import OpenK.AllK
import Wide.FinOn
import HandS.ForMost
import HandS.ForExc
import HandS.IsInst
import HandS.Style
import HandS.TupAny
import HandS.Wide
import HandS.Conv
import PyProof.EqLayable
import HandS.Lambda
import HandS.Iter
import HandS.Dict
import HandS.SortInts
import HandS.Zip
import HandS.Deep
import HandS.More
import HandS.SetFor
import HandS.Strs
import KE.KDictPairs
import HandS.CallLocal
import HandS.EndTab
import HandS.ExcIs
import HandS.ListItems
import HandS.SortRule
import HandS.Sort
import KE.KDictCopyH
import KE.KDictList
import PySem.Challenge.RW_wholeyard_k94_whole_fewest_figures_and_e
set_option Elab.async false
set_option linter.all false
set_option maxRecDepth 100000
set_option maxHeartbeats 4000000
/-! Y0: a small plain semantics of the part of Python that the laws use: values without addresses, a store of lists and dicts, expressions and statements as functions. -/
namespace Y
open PySem (Str PyData)

/-- a value: tuples by their items, lists and dicts by their place in the store -/
inductive D where
  | undef | non | bl (b : Bool) | int (i : Int) | str (x : Str) | tup (xs : List D) | ref (n : Nat) | fn (i : Nat) | frl (xs : List D)

/-- an object of the store -/
inductive O where
  | lst (xs : List D)
  | dct (tk : Bool) (kvs : List (D × D))
  | set (xs : List D)

abbrev S := List O
abbrev Env := List D

inductive Rs (α : Type) where
  | ok (a : α) (s : S)
  | exc (c : Nat) (fs : List D) (s : S)
  | stk

abbrev M (α : Type) := Env → S → Rs α
abbrev E := M D
abbrev T := M Bool
abbrev A := M (List D)
abbrev Fn := List D → S → Rs D

def Rs.bind {α β : Type} (x : Rs α) (f : α → S → Rs β) : Rs β :=
  match x with
  | .ok a s => f a s
  | .exc c fs s => .exc c fs s
  | .stk => .stk
theorem Rs.bind_ok {α β : Type} (a : α) (s : S) (f : α → S → Rs β) : (Rs.ok a s).bind f = f a s := rfl
theorem Rs.bind_exc {α β : Type} (c fs) (s : S) (f : α → S → Rs β) : (Rs.exc c fs s : Rs α).bind f = .exc c fs s := rfl
theorem Rs.bind_stk {α β : Type} (f : α → S → Rs β) : (Rs.stk : Rs α).bind f = .stk := rfl

mutual
def D.pure : D → Bool
  | .undef => false
  | .ref _ => false
  | .tup xs => D.pureL xs
  | .frl xs => D.pureL xs
  | .non => true
  | .bl _ => true
  | .int _ => true
  | .str _ => true
  | .fn _ => true
def D.pureL : List D → Bool
  | [] => true
  | x :: xs => x.pure && D.pureL xs
end
def D.pureKV : List (D × D) → Bool
  | [] => true
  | p :: ps => p.1.pure && p.2.pure && D.pureKV ps
def O.pure : O → Bool
  | .lst xs => D.pureL xs
  | .dct _ kvs => D.pureKV kvs
  | .set xs => D.pureL xs

/-! ### expressions -/
def eC (d : D) : E := fun _ s => .ok d s
def eV (i : Nat) : E := fun r s => match r[i]? with
  | some .undef => .stk
  | none => .stk
  | some d => .ok d s
abbrev P1 := D → S → Rs D
abbrev P2 := D → D → S → Rs D
abbrev PN := List D → S → Rs D
def e1 (p : P1) (a : E) : E := fun r s => (a r s).bind fun x s1 => p x s1
def e2 (p : P2) (a b : E) : E := fun r s => (a r s).bind fun x s1 => (b r s1).bind fun y s2 => p x y s2
def aN : A := fun _ s => .ok [] s
def aC (a : E) (t : A) : A := fun r s => (a r s).bind fun x s1 => (t r s1).bind fun xs s2 => .ok (x :: xs) s2
def eN (p : PN) (a : A) : E := fun r s => (a r s).bind fun xs s1 => p xs s1

/-- a value as a test: only a bool -/
def tst (a : E) : T := fun r s => (a r s).bind fun x s1 => match x with
  | .bl b => .ok b s1
  | _ => .stk
def tAnd (a b : T) : T := fun r s => (a r s).bind fun c s1 => if c = true then b r s1 else .ok false s1
def tOr (a b : T) : T := fun r s => (a r s).bind fun c s1 => if c = true then .ok true s1 else b r s1
def tNot (a : T) : T := fun r s => (a r s).bind fun c s1 => .ok (!c) s1
def eAnd (a b : E) : E := fun r s => (a r s).bind fun x s1 => match x with
  | .bl true => b r s1
  | .bl false => .ok (.bl false) s1
  | _ => .stk
def eOr (a b : E) : E := fun r s => (a r s).bind fun x s1 => match x with
  | .bl true => .ok (.bl true) s1
  | .bl false => b r s1
  | _ => .stk
def eNot (a : E) : E := fun r s => (a r s).bind fun x s1 => match x with
  | .bl c => .ok (.bl (!c)) s1
  | _ => .stk
def eIf (t : T) (a b : E) : E := fun r s => (t r s).bind fun c s1 => if c = true then a r s1 else b r s1
def eTup (a : A) : E := fun r s => (a r s).bind fun xs s1 => if xs.length ≤ 1000000 then .ok (.tup xs) s1 else .stk
def eLst (a : A) : E := fun r s => (a r s).bind fun xs s1 => if xs.length ≤ 1000000 then .ok (.ref s1.length) (s1 ++ [.lst xs]) else .stk
/-- a < b < c -/
def eCh (p q : P2) (a b c : E) : E := fun r s => (a r s).bind fun x s1 => (b r s1).bind fun y s2 => (p x y s2).bind fun z s3 => match z with
  | .bl true => (c r s3).bind fun w s4 => q y w s4
  | .bl false => .ok (.bl false) s3
  | _ => .stk

/-! ### what the operators do -/
def mulOk (i j : Int) : Bool := decide (i.natAbs < 18446744073709551616) || decide (j.natAbs < 18446744073709551616) || decide (i.natAbs.log2 + j.natAbs.log2 < 1000000)
def pdiv (i j : Int) : Int := if 0 < j then i / j else i.fdiv j
def pmod (i j : Int) : Int := if 0 < j then i % j else i.fmod j
/-- the items of a list that is read -/
def seqL (d : D) (s : S) : Option (List D) := match d with
  | .ref n => match s[n]? with
    | some (.lst xs) => some xs
    | _ => none
  | .frl xs => some xs
  | _ => none
def seqX (d : D) (s : S) : Option (List D) := match d with
  | .tup xs => some xs
  | d => seqL d s

def LINE : Nat := 1000000
def newL (xs : List D) (s : S) : Rs D := if xs.length ≤ LINE then .ok (.ref s.length) (s ++ [.lst xs]) else .stk

def oAdd : P2 := fun x y s => match x, y with
  | .int i, .int j => .ok (.int (i + j)) s
  | .str a, .str b => if a.length + b.length ≤ LINE then .ok (.str (a ++ b)) s else .stk
  | .tup xs, .tup ys => if xs.length + ys.length ≤ LINE then .ok (.tup (xs ++ ys)) s else .stk
  | .ref a, .ref b => match s[a]?, s[b]? with
    | some (.lst xs), some (.lst ys) => if xs.length + ys.length ≤ LINE then .ok (.ref s.length) (s ++ [.lst (xs ++ ys)]) else .stk
    | _, _ => .stk
  | _, _ => .stk
def oSub : P2 := fun x y s => match x, y with
  | .int i, .int j => .ok (.int (i - j)) s
  | _, _ => .stk
def oMul : P2 := fun x y s => match x, y with
  | .int i, .int j => if mulOk i j = true then .ok (.int (i * j)) s else .stk
  | .ref a, .int k => match s[a]? with
    | some (.lst xs) => if k.natAbs < 1000000000 ∧ xs.length * k.toNat ≤ LINE then .ok (.ref s.length) (s ++ [.lst (List.replicate k.toNat xs).flatten]) else .stk
    | _ => .stk
  | _, _ => .stk
def oDiv : P2 := fun x y s => match x, y with
  | .int i, .int j => if j ≠ 0 ∧ j.natAbs.log2 < 9000 then .ok (.int (pdiv i j)) s else .stk
  | _, _ => .stk
def oMod : P2 := fun x y s => match x, y with
  | .int i, .int j => if j ≠ 0 then .ok (.int (pmod i j)) s else .stk
  | _, _ => .stk
def oPow : P2 := fun x y s => match x, y with
  | .int i, .int j => if 0 ≤ j ∧ j ≤ 1000000 ∧ i.natAbs < 18446744073709551616 then .ok (.int (i ^ j.toNat)) s else .stk
  | _, _ => .stk
def oNeg : P1 := fun x s => match x with
  | .int i => .ok (.int (-i)) s
  | _ => .stk
def oLt : P2 := fun x y s => match x, y with
  | .int i, .int j => .ok (.bl (decide (i < j))) s
  | _, _ => .stk
def oLe : P2 := fun x y s => match x, y with
  | .int i, .int j => .ok (.bl (decide (i ≤ j))) s
  | _, _ => .stk
def oGt : P2 := fun x y s => match x, y with
  | .int i, .int j => .ok (.bl (decide (j < i))) s
  | _, _ => .stk
def oGe : P2 := fun x y s => match x, y with
  | .int i, .int j => .ok (.bl (decide (j ≤ i))) s
  | _, _ => .stk
def mapO {α β : Type} (f : α → Option β) : List α → Option (List β)
  | [] => some []
  | x :: xs => match f x, mapO f xs with
    | some y, some ys => some (y :: ys)
    | _, _ => none
/-- as the model's data (a list: what it holds), to a depth -/
def D.py (s : S) : Nat → D → Option PyData
  | 0 => fun d => match d with
    | .non => some .none
    | .bl b => some (.bool b)
    | .int i => some (.int i)
    | .str x => some (.str x)
    | _ => none
  | k + 1 => fun d => match d with
    | .non => some .none
    | .bl b => some (.bool b)
    | .int i => some (.int i)
    | .str x => some (.str x)
    | .tup xs => (mapO (D.py s k) xs).map .tuple
    | .frl xs => (mapO (D.py s k) xs).map .list
    | .ref n => match s[n]? with
      | some (.lst xs) => (mapO (D.py s k) xs).map .list
      | _ => none
    | _ => none
def eqD (x y : D) (s : S) : Option Bool := match D.py s 20 x, D.py s 20 y with
  | some p, some q => if PySem.SeqAt.shaped p = true ∧ PySem.SeqAt.shaped q = true then some (PyData.eqv p q) else none
  | _, _ => none
def oEq : P2 := fun x y s => match eqD x y s with
  | some b => .ok (.bl b) s
  | none => .stk
def oNe : P2 := fun x y s => match eqD x y s with
  | some b => .ok (.bl (!b)) s
  | none => .stk
def oIsN : P1 := fun x s => match x with
  | .undef => .stk
  | .non => .ok (.bl true) s
  | _ => .ok (.bl false) s
def oNotN : P1 := fun x s => match x with
  | .undef => .stk
  | .non => .ok (.bl false) s
  | _ => .ok (.bl true) s
/-- is, is not of two boolsOf -/
def oIsB : P2 := fun x y s => match x, y with
  | .bl a, .bl b => .ok (.bl (decide (a = b))) s
  | _, _ => .stk
/-- a place of a sequence -/
def atD (xs : List D) (i : Int) : Option D := if 0 ≤ i then (if i < xs.length then xs[i.toNat]? else none) else if -(xs.length : Int) ≤ i then xs[(i + xs.length).toNat]? else none
def oIx : P2 := fun x y s => match y with
  | .int i => match seqX x s with
    | some xs => match atD xs i with
      | some d => .ok d s
      | none => .stk
    | none => .stk
  | _ => .stk
/-- where a slice's part lies -/
def cutIx (n d : Nat) : Option Int → Nat
  | none => d
  | some i => if i < 0 then (i + n).toNat else min i.toNat n
def cutD {α : Type} (xs : List α) (lo hi : Option Int) : List α := (xs.drop (cutIx xs.length 0 lo)).take (cutIx xs.length xs.length hi - cutIx xs.length 0 lo)
inductive Part where
  | no
  | at (e : E)
def Part.run (p : Part) (r : Env) (s : S) : Rs (Option Int) := match p with
  | .no => .ok none s
  | .at e => (e r s).bind fun x s1 => match x with
    | .int i => .ok (some i) s1
    | _ => .stk
def eCut (a : E) (lo hi : Part) : E := fun r s => (a r s).bind fun x s1 => (lo.run r s1).bind fun l s2 => (hi.run r s2).bind fun h s3 => match x with
  | .tup xs => .ok (.tup (cutD xs l h)) s3
  | x => match seqL x s3 with
    | some xs => .ok (.ref s3.length) (s3 ++ [.lst (cutD xs l h)])
    | none => .stk
/-- xs[::-1] -/
def oRev : P1 := fun x s => match x with
  | .tup xs => .ok (.tup xs.reverse) s
  | x => match seqL x s with
    | some xs => .ok (.ref s.length) (s ++ [.lst xs.reverse])
    | none => .stk

/-! ### built-in functions -/
def bLen : PN := fun ds s => match ds with
  | [.str x] => if x.length ≤ LINE then .ok (.int x.length) s else .stk
  | [.ref n] => match s[n]? with
    | some (.lst xs) => .ok (.int xs.length) s
    | _ => .stk
  | [x] => match seqX x s with
    | some xs => .ok (.int xs.length) s
    | none => .stk
  | _ => .stk
def bInt : PN := fun ds s => match ds with
  | [.int i] => .ok (.int i) s
  | [.bl b] => .ok (.int (if b then 1 else 0)) s
  | _ => .stk
def bStr : PN := fun ds s => match ds with
  | [.int i] => if i.natAbs.log2 < 1920 then .ok (.str (Str.ofString (toString i))) s else .stk
  | [.str x] => .ok (.str x) s
  | _ => .stk
def bAbs : PN := fun ds s => match ds with
  | [.int i] => .ok (.int (if i < 0 then -i else i)) s
  | _ => .stk
def bMax2 : PN := fun ds s => match ds with
  | [.int i, .int j] => .ok (.int (if j > i then j else i)) s
  | _ => .stk
def bMin2 : PN := fun ds s => match ds with
  | [.int i, .int j] => .ok (.int (if j < i then j else i)) s
  | _ => .stk
def bList : PN := fun ds s => match ds with
  | [x] => match seqX x s with
    | some xs => .ok (.ref s.length) (s ++ [.lst xs])
    | none => .stk
  | _ => .stk
def bTuple : PN := fun ds s => match ds with
  | [x] => match seqX x s with
    | some xs => .ok (.tup xs) s
    | none => .stk
  | _ => .stk
def intsOf : List D → Option (List Int)
  | [] => some []
  | .int i :: r => match intsOf r with
    | some is => some (i :: is)
    | none => none
  | _ :: _ => none
def boolsOf : List D → Option (List Bool)
  | [] => some []
  | .bl b :: r => match boolsOf r with
    | some bs => some (b :: bs)
    | none => none
  | _ :: _ => none
def bSum : PN := fun ds s => match ds with
  | [x] => match seqL x s with
    | some xs => match intsOf xs with
      | some is => .ok (.int is.sum) s
      | none => .stk
    | none => .stk
  | _ => .stk
def bAll : PN := fun ds s => match ds with
  | [x] => match seqL x s with
    | some xs => match boolsOf xs with
      | some bs => .ok (.bl (bs.all id)) s
      | none => .stk
    | none => .stk
  | _ => .stk
def bAny : PN := fun ds s => match ds with
  | [x] => match seqL x s with
    | some xs => match boolsOf xs with
      | some bs => .ok (.bl (bs.any id)) s
      | none => .stk
    | none => .stk
  | _ => .stk
/-- isinstance(x, T) -/
inductive Ty where
  | int | bool | str | tuple | list | dict
  deriving DecidableEq
def isTy (t : Ty) (x : D) (s : S) : Option Bool := match x with
  | .undef => none
  | .fn _ => none
  | .non => some false
  | .bl _ => some (t == .bool || t == .int)
  | .int _ => some (t == .int)
  | .str _ => some (t == .str)
  | .tup _ => some (t == .tuple)
  | .frl _ => some (t == .list)
  | .ref n => match s[n]? with
    | some (.lst _) => some (t == .list)
    | some (.dct _ _) => some (t == .dict)
    | _ => none
def oIsI (t : Ty) : P1 := fun x s => match isTy t x s with
  | some b => .ok (.bl b) s
  | none => .stk

/-! ### statements -/
inductive F where
  | nx (r : Env) (s : S)
  | rt (d : D) (s : S)
  | bk (r : Env) (s : S)
  | ct (r : Env) (s : S)
  | exc (c : Nat) (fs : List D) (r : Env) (s : S)
  | stk
abbrev Sm := Env → S → F
def Rs.then {α : Type} (x : Rs α) (r : Env) (f : α → S → F) : F := match x with
  | .ok a s => f a s
  | .exc c fs s => .exc c fs r s
  | .stk => .stk
theorem Rs.then_ok {α : Type} (a : α) (s : S) (r) (f : α → S → F) : (Rs.ok a s).then r f = f a s := rfl
theorem Rs.then_exc {α : Type} (c fs) (s : S) (r) (f : α → S → F) : (Rs.exc c fs s : Rs α).then r f = .exc c fs r s := rfl
theorem Rs.then_stk {α : Type} (r) (f : α → S → F) : (Rs.stk : Rs α).then r f = .stk := rfl
def F.andThen (x : F) (f : Env → S → F) : F := match x with
  | .nx r s => f r s
  | x => x
def zNil : Sm := fun r s => .nx r s
def zCons (a b : Sm) : Sm := fun r s => (a r s).andThen b
/-- targets -/
abbrev Tg := D → Env → S → Option (Env × S)
def gV (i : Nat) : Tg := fun d r s => if i < r.length then some (r.set i d, s) else none
def gsN : List D → Env → S → Option (Env × S) := fun ds r s => if ds.isEmpty then some (r, s) else none
def gsC (g : Tg) (t : List D → Env → S → Option (Env × S)) : List D → Env → S → Option (Env × S) := fun ds r s => match ds with
  | [] => none
  | d :: ds => match g d r s with
    | some (r1, s1) => t ds r1 s1
    | none => none
def gT (t : List D → Env → S → Option (Env × S)) : Tg := fun d r s => match d with
  | .tup xs => t xs r s
  | _ => none
/-- xs[i] = d of a list, d[k] = v of a dict: by the store -/
def ixN (n : Nat) (i : Int) : Option Nat := if 0 ≤ i then (if i < n then some i.toNat else none) else if -(n : Int) ≤ i then some (i + n).toNat else none
def putL (o i v : D) (s : S) : Option S := match o, i with
  | .ref n, .int k => match s[n]? with
    | some (.lst xs) => match ixN xs.length k with
      | some j => some (s.set n (.lst (xs.set j v)))
      | none => none
    | _ => none
  | _, _ => none
def zSet (g : Tg) (e : E) : Sm := fun r s => (e r s).then r fun d s1 => match g d r s1 with
  | some (r2, s2) => .nx r2 s2
  | none => .stk
/-- a, b = x, y : two plain names -/
def zPar (i j : Nat) (a b : E) : Sm := fun r s => (a r s).then r fun x s1 => (b r s1).then r fun y s2 => if i < r.length ∧ j < r.length then .nx ((r.set i x).set j y) s2 else .stk
/-- xs[i] = e -/
def zPutL (o i e : E) : Sm := fun r s => (e r s).then r fun v s1 => (o r s1).then r fun x s2 => (i r s2).then r fun k s3 => match putL x k v s3 with
  | some s4 => .nx r s4
  | none => .stk
/-- x += e -/
def zAug (i : Nat) (p : P2) (e : E) : Sm := fun r s => match r[i]? with
  | none => .stk
  | some .undef => .stk
  | some x => (e r s).then r fun y s1 => (p x y s1).then r fun z s2 => .nx (r.set i z) s2
def zEx (e : E) : Sm := fun r s => (e r s).then r fun _ s1 => .nx r s1
def zRet (e : E) : Sm := fun r s => (e r s).then r fun d s1 => .rt d s1
def zRetN : Sm := fun _ s => .rt .non s
def zIf (t : T) (a b : Sm) : Sm := fun r s => (t r s).then r fun c s1 => if c = true then a r s1 else b r s1
def zPass : Sm := fun r s => .nx r s
def zBrk : Sm := fun r s => .bk r s
def zCnt : Sm := fun r s => .ct r s
def zRaise (c : Nat) : Sm := fun r s => .exc c [] r s
/-- X(e) raised, X having one field -/
def zRaise1 (c : Nat) (e : E) : Sm := fun r s => (e r s).then r fun d s1 => .exc c [d] r s1

/-- one turn is done: go on, or leave -/
def F.turn (x : F) (f : Env → S → F) : F := match x with
  | .nx r s => f r s
  | .ct r s => f r s
  | .bk r s => .nx r s
  | x => x
def whileM (c : T) (b : Sm) : Nat → Sm
  | 0 => fun _ _ => .stk
  | n + 1 => fun r s => (c r s).then r fun k s1 => if k = true then (b r s1).turn (whileM c b n) else .nx r s1
def FUEL : Nat := 2 ^ 10000
def zWhile (c : T) (b : Sm) : Sm := whileM c b FUEL

/-- what a loop walks: the items ahead of it, and what must stay so -/
inductive Wk where
  | items (xs : List D)
  | list (n : Nat)
  | dyn (f : S → Option (List D))
abbrev IW := Env → S → Rs Wk
def forM (g : Tg) (b : Sm) : List D → Sm
  | [] => fun r s => .nx r s
  | x :: xs => fun r s => match g x r s with
    | some (r1, s1) => (b r1 s1).turn (forM g b xs)
    | none => .stk
/-- over a list in the store, by its places -/
def forR (g : Tg) (b : Sm) (n : Nat) : Nat → Nat → Sm
  | 0, _ => fun _ _ => .stk
  | k + 1, i => fun r s => match s[n]? with
    | some (.lst xs) => match xs[i]? with
      | some x => match g x r s with
        | some (r1, s1) => (b r1 s1).turn (forR g b n k (i + 1))
        | none => .stk
      | none => .nx r s
    | _ => .stk
/-- over what is read anew at each turn -/
def forF (g : Tg) (b : Sm) (f : S → Option (List D)) : Nat → Nat → Sm
  | 0, _ => fun _ _ => .stk
  | k + 1, i => fun r s => match f s with
    | some xs => match xs[i]? with
      | some x => match g x r s with
        | some (r1, s1) => (b r1 s1).turn (forF g b f k (i + 1))
        | none => .stk
      | none => .nx r s
    | none => .stk
def zFor (it : IW) (g : Tg) (b : Sm) : Sm := fun r s => (it r s).then r fun j s1 => match j with
  | .items xs => forM g b xs r s1
  | .list n => forR g b n FUEL 0 r s1
  | .dyn f => forF g b f FUEL 0 r s1
def range2 (i j : Int) : List D := (List.range (j - i).toNat).map fun (k : Nat) => .int (i + k)
def iRng1 (a : E) : IW := fun r s => (a r s).bind fun x s1 => match x with
  | .int j => if j.natAbs < 4611686018427387904 then .ok (.items (range2 0 j)) s1 else .stk
  | _ => .stk
def iRng2 (a b : E) : IW := fun r s => (a r s).bind fun x s1 => (b r s1).bind fun y s2 => match x, y with
  | .int i, .int j => if i.natAbs < 4611686018427387904 ∧ j.natAbs < 4611686018427387904 then .ok (.items (range2 i j)) s2 else .stk
  | _, _ => .stk
/-- a tuple's walk, or a list's -/
def iTup (a : E) : IW := fun r s => (a r s).bind fun x s1 => match x with
  | .tup xs => .ok (.items xs) s1
  | _ => .stk
def iLst (a : E) : IW := fun r s => (a r s).bind fun x s1 => match x with
  | .frl xs => .ok (.items xs) s1
  | .ref n => match s1[n]? with
    | some (.lst _) => .ok (.list n) s1
    | _ => .stk
  | _ => .stk

/-! ### comprehensions: the new list stands at n -/
def appendAt (n : Nat) (d : D) (s : S) : Option S := match s[n]? with
  | some (.lst xs) => if xs.length < LINE then some (s.set n (.lst (xs ++ [d]))) else none
  | _ => none
def compM (g : Tg) (t : T) (e : E) (n : Nat) : List D → Env → S → Rs D
  | [], _, s => .ok (.ref n) s
  | x :: xs, r, s => match g x r s with
    | none => .stk
    | some (r1, s1) => match t r1 s1 with
      | .ok false s2 => compM g t e n xs r s2
      | .ok true s2 => match e r1 s2 with
        | .ok d s3 => match appendAt n d s3 with
          | some s4 => compM g t e n xs r s4
          | none => .stk
        | _ => .stk
      | _ => .stk
def compR (g : Tg) (t : T) (e : E) (n m : Nat) : Nat → Nat → Env → S → Rs D
  | 0, _, _, _ => .stk
  | k + 1, i, r, s => match s[m]? with
    | some (.lst xs) => match xs[i]? with
      | none => .ok (.ref n) s
      | some x => match g x r s with
        | none => .stk
        | some (r1, s1) => match t r1 s1 with
          | .ok false s2 => compR g t e n m k (i + 1) r s2
          | .ok true s2 => match e r1 s2 with
            | .ok d s3 => match appendAt n d s3 with
              | some s4 => compR g t e n m k (i + 1) r s4
              | none => .stk
            | _ => .stk
          | _ => .stk
    | _ => .stk
def compF (g : Tg) (t : T) (e : E) (n : Nat) (f : S → Option (List D)) : Nat → Nat → Env → S → Rs D
  | 0, _, _, _ => .stk
  | k + 1, i, r, s => match f s with
    | some xs => match xs[i]? with
      | none => .ok (.ref n) s
      | some x => match g x r s with
        | none => .stk
        | some (r1, s1) => match t r1 s1 with
          | .ok false s2 => compF g t e n f k (i + 1) r s2
          | .ok true s2 => match e r1 s2 with
            | .ok d s3 => match appendAt n d s3 with
              | some s4 => compF g t e n f k (i + 1) r s4
              | none => .stk
            | _ => .stk
          | _ => .stk
    | none => .stk
/-- the block's own slots are forgotten -/
def wipeD (r : Env) : List Nat → Env
  | [] => r
  | v :: vs => (wipeD r vs).set v .undef
def eLc (it : IW) (g : Tg) (t : T) (e : E) (own : List Nat) : E := fun r s => (it r s).bind fun j s1 => match j with
  | .items xs => compM g t e s1.length xs (wipeD r own) (s1 ++ [.lst []])
  | .list m => compR g t e s1.length m FUEL 0 (wipeD r own) (s1 ++ [.lst []])
  | .dyn f => compF g t e s1.length f FUEL 0 (wipeD r own) (s1 ++ [.lst []])
def tYes : T := fun _ s => .ok true s

/-! ### defs and calls -/
def mkFn (n k : Nat) (body : Sm) : Fn := fun ds s => if ds.length = k then match body (ds ++ List.replicate (n - k) .undef) s with
  | .nx _ s1 => .ok .non s1
  | .rt d s1 => .ok d s1
  | .exc c fs _ s1 => .exc c fs s1
  | _ => .stk else .stk

def refsOf : List D → List Nat
  | [] => []
  | .ref n :: r => n :: refsOf r
  | _ :: r => refsOf r
/-- the refs by their places among the refs -/
def renum : Nat → List D → List D
  | _, [] => []
  | k, .ref _ :: r => .ref k :: renum (k + 1) r
  | k, d :: r => d :: renum k r
def argOk : D → Bool
  | .ref _ => true
  | d => d.pure
def getAll (s : S) : List Nat → Option S
  | [] => some []
  | n :: ns => match s[n]?, getAll s ns with
    | some o, some os => if o.pure = true then some (o :: os) else none
    | _, _ => none
def putAll : List Nat → S → S → S
  | n :: ns, o :: os, s => putAll ns os (s.set n o)
  | _, _, s => s
def nodupN : List Nat → Bool
  | [] => true
  | n :: ns => !ns.contains n && nodupN ns
/-- a call by what the arguments are and hold: of what the def made only what it hands back stays -/
def callK (f : Fn) (ds : List D) (s : S) : Rs D :=
  if nodupN (refsOf ds) = true ∧ ds.all argOk = true then
    match getAll s (refsOf ds) with
    | none => .stk
    | some os => match f (renum 0 ds) os with
      | .stk => .stk
      | .exc c fs s1 => if D.pureL fs = true ∧ (s1.take os.length).all O.pure = true then .exc c fs (putAll (refsOf ds) s1 s) else .stk
      | .ok d s1 => if (s1.take os.length).all O.pure = true then
          match d with
          | .ref j => match (refsOf ds)[j]? with
            | some n => .ok (.ref n) (putAll (refsOf ds) s1 s)
            | none => match s1[j]? with
              | some o => if o.pure = true then .ok (.ref s.length) (putAll (refsOf ds) s1 s ++ [o]) else .stk
              | none => .stk
          | d => if d.pure = true then .ok d (putAll (refsOf ds) s1 s) else .stk
        else .stk
  else .stk
end Y

/-! Y1: that the model's program does what the plain semantics says. -/
namespace Y
open PySem L2

/-- what is fixed: the written part, the defs by number, the classes of errors with their fields -/
structure Tb where
  K : PySem.W.Frag
  fa : Nat → Option Addr
  xc : Nat → Option (Addr × List Str)
  T : List (Addr × Str)

def FrL (K : PySem.W.Frag) (H : Hp) (a : Addr) (vs : List V) : Prop :=
  (∃ o, H a = some (.frz o (.lst vs))) ∨ ∃ (o : Obj) (its : Array Value) (n : Nat), K.lookup a = some o ∧ o.cls = .type "list" ∧ o.dict = none ∧ o.data = .seq its n ∧ its.size ≤ sizeLine ∧ Vals vs its.toList
theorem FrL.sq {K : PySem.W.Frag} {H : Hp} {a : Addr} {vs : List V} (h : FrL K H a vs) : SqL K H a vs := by
  rcases h with ⟨o, h⟩ | h
  · exact .inl (.inr ⟨o, h⟩)
  · exact .inr h

theorem _root_.LamX.Tabs.put {T : List (Addr × Str)} {H : Hp} {p : Addr} {u : HO} (x : LamX.Tabs T H) (h1 : ∀ ps, H p ≠ some (.tbl ps)) (h2 : ∀ f, H p ≠ some (.ext f)) : LamX.Tabs T (L2.upd H p u) := fun q hq => by
  obtain ⟨ps, a, b, c⟩ := x q hq
  refine ⟨ps, ?_, b, fun pos cv hc => ?_⟩
  · rw [upd_ne]
    · exact a
    · rintro rfl; exact h1 ps a
  · obtain ⟨c', e1, e2⟩ := c pos cv hc
    refine ⟨c', e1, ?_⟩
    rw [upd_ne]
    · exact e2
    · rintro rfl; exact h2 _ e2
mutual
def Rep (t : Tb) (am : List Addr) (H : Hp) : D → V → Prop
  | .undef, _ => False
  | .non, v => v = .non
  | .bl b, v => v = .bl b
  | .int i, v => v = .int i
  | .str x, v => v = .str x
  | .tup ds, v => ∃ a vs, v = .ref a ∧ H a = some (.tup vs) ∧ Reps t am H ds vs
  | .frl ds, v => ∃ a vs, v = .ref a ∧ FrL t.K H a vs ∧ Reps t am H ds vs
  | .ref n, v => ∃ a, v = .ref a ∧ am[n]? = some a
  | .fn i, v => ∃ a, v = .ref a ∧ t.fa i = some a
def Reps (t : Tb) (am : List Addr) (H : Hp) : List D → List V → Prop
  | [], vs => vs = []
  | d :: ds, vs => ∃ v r, vs = v :: r ∧ Rep t am H d v ∧ Reps t am H ds r
end

def keyD : D → Option Key
  | .int i => some (.inl i)
  | .str x => some (.inr x)
  | _ => none
def keysD : List D → Option (List Key)
  | [] => some []
  | d :: ds => match keyD d, keysD ds with
    | some k, some ks => some (k :: ks)
    | _, _ => none
def keyT : D → Option (List Key)
  | .tup ds => keysD ds
  | _ => none
def RKV {κ : Type} (f : D → Option κ) (t : Tb) (am : List Addr) (H : Hp) : List (D × D) → List (κ × V) → Prop
  | [], ks => ks = []
  | p :: ps, ks => ∃ k v r, ks = (k, v) :: r ∧ f p.1 = some k ∧ Rep t am H p.2 v ∧ RKV f t am H ps r
/-- an object of the store as it stands in the heap -/
def OM (t : Tb) (am : List Addr) (H : Hp) : O → Addr → Prop
  | .lst ds, a => ∃ vs, H a = some (.lst vs) ∧ Reps t am H ds vs
  | .dct false kvs, a => ∃ ks, H a = some (.dK ks) ∧ RKV keyD t am H kvs ks
  | .dct true kvs, a => ∃ ks, H a = some (.dT ks) ∧ RKV keyT t am H kvs ks
  | .set xs, a => ∃ (S : Int → Bool) (is : List Int), xs = is.map D.int ∧ H a = some (.set S is.length) ∧ is.Nodup ∧ ∀ i, S i = true ↔ i ∈ is
structure Ms (t : Tb) (am : List Addr) (s : S) (H : Hp) : Prop where
  nd : am.Nodup
  len : am.length = s.length
  ob : ∀ (n : Nat) (o : O), s[n]? = some o → ∃ a, am[n]? = some a ∧ OM t am H o a
  tb : LamX.Tabs t.T H

/-- what is never written -/
def Imm : HO → Prop
  | .tup _ => True
  | .frz _ _ => True
  | _ => False
structure Post (am : List Addr) (H : Hp) (am' : List Addr) (H' : Hp) : Prop where
  pre : ∃ l, am' = am ++ l ∧ ∀ a ∈ l, ∀ o, H a = some o → ∃ ps, o = .tbl ps
  imm : ∀ a o, H a = some o → Imm o → H' a = some o
  keep : ∀ a o, H a = some o → a ∉ am → (∀ ps, o ≠ .tbl ps) → H' a = some o
  dom : ∀ a o, H a = some o → (∀ ps, o ≠ .tbl ps) → ∃ o', H' a = some o' ∧ ∀ ps, o' ≠ .tbl ps
theorem Post.refl {am : List Addr} {H : Hp} : Post am H am H := ⟨⟨[], by simp, by simp⟩, fun _ _ h _ => h, fun _ _ h _ _ => h, fun _ o h z => ⟨o, h, z⟩⟩
theorem Post.trans {am am1 am2 : List Addr} {H H1 H2 : Hp} (p : Post am H am1 H1) (q : Post am1 H1 am2 H2) : Post am H am2 H2 := by
  obtain ⟨l, e, f⟩ := p.pre
  obtain ⟨m, e2, f2⟩ := q.pre
  have fr : ∀ a o, H a = some o → a ∉ am → (∀ ps, o ≠ .tbl ps) → a ∉ am1 := fun a o h n ht hm => by
    rw [e] at hm
    rcases List.mem_append.mp hm with z | z
    · exact n z
    · obtain ⟨ps, y⟩ := f a z o h
      exact ht ps y
  refine ⟨⟨l ++ m, by rw [e2, e, List.append_assoc], fun a ha o ho => ?_⟩, fun a o h i => q.imm a o (p.imm a o h i) i, fun a o h n z => q.keep a o (p.keep a o h n z) (fr a o h n z) z, fun a o h z => ?_⟩
  · rcases List.mem_append.mp ha with z | z
    · exact f a z o ho
    · by_cases ht : ∃ ps, o = .tbl ps
      · exact ht
      · obtain ⟨o', z1, z2⟩ := p.dom a o ho fun ps e => ht ⟨ps, e⟩
        obtain ⟨ps, y⟩ := f2 a z o' z1
        exact absurd y (z2 ps)
  · obtain ⟨o1, h1, z1⟩ := p.dom a o h z
    exact q.dom a o1 h1 z1
theorem Post.at {am am' : List Addr} {H H' : Hp} (p : Post am H am' H') {n : Nat} {a : Addr} (h : am[n]? = some a) : am'[n]? = some a := by
  obtain ⟨l, e, _⟩ := p.pre
  rw [e, List.getElem?_append_left (List.getElem?_eq_some_iff.mp h).1]
  exact h
theorem Post.sqT {am am' : List Addr} {H H' : Hp} (p : Post am H am' H') {K : PySem.W.Frag} {a : Addr} {vs : List V} (h : SqT K H a vs) : SqT K H' a vs := by
  rcases h with (h | ⟨o, h⟩) | h
  · exact .inl (.inl (p.imm _ _ h trivial))
  · exact .inl (.inr ⟨o, p.imm _ _ h trivial⟩)
  · exact .inr h
theorem Post.frL {am am' : List Addr} {H H' : Hp} (p : Post am H am' H') {K : PySem.W.Frag} {a : Addr} {vs : List V} (h : FrL K H a vs) : FrL K H' a vs := by
  rcases h with ⟨o, h⟩ | h
  · exact .inl ⟨o, p.imm _ _ h trivial⟩
  · exact .inr h
/-- what a value leans on is there still -/
structure Lift (am : List Addr) (H : Hp) (am' : List Addr) (H' : Hp) : Prop where
  «at» : ∀ (n : Nat) (a : Addr), am[n]? = some a → am'[n]? = some a
  imm : ∀ a o, H a = some o → Imm o → H' a = some o
theorem Post.lift {am am' : List Addr} {H H' : Hp} (p : Post am H am' H') : Lift am H am' H' := ⟨fun _ _ => p.at, p.imm⟩
theorem Lift.sqT {am am' : List Addr} {H H' : Hp} (p : Lift am H am' H') {K : PySem.W.Frag} {a : Addr} {vs : List V} (h : SqT K H a vs) : SqT K H' a vs := by
  rcases h with (h | ⟨o, h⟩) | h
  · exact .inl (.inl (p.imm _ _ h trivial))
  · exact .inl (.inr ⟨o, p.imm _ _ h trivial⟩)
  · exact .inr h
theorem Lift.frL {am am' : List Addr} {H H' : Hp} (p : Lift am H am' H') {K : PySem.W.Frag} {a : Addr} {vs : List V} (h : FrL K H a vs) : FrL K H' a vs := by
  rcases h with ⟨o, h⟩ | h
  · exact .inl ⟨o, p.imm _ _ h trivial⟩
  · exact .inr h
mutual
theorem Rep.lift {t : Tb} {am am' : List Addr} {H H' : Hp} (p : Lift am H am' H') : ∀ (d : D) (v : V), Rep t am H d v → Rep t am' H' d v
  | .undef, _, h => h
  | .non, _, h => h
  | .bl _, _, h => h
  | .int _, _, h => h
  | .str _, _, h => h
  | .tup ds, v, h => by
    obtain ⟨a, vs, e, h1, h2⟩ := h
    exact ⟨a, vs, e, p.imm _ _ h1 trivial, Reps.lift p ds vs h2⟩
  | .frl ds, v, h => by
    obtain ⟨a, vs, e, h1, h2⟩ := h
    exact ⟨a, vs, e, p.frL h1, Reps.lift p ds vs h2⟩
  | .ref n, v, h => by
    obtain ⟨a, e, h1⟩ := h
    exact ⟨a, e, p.at _ _ h1⟩
  | .fn i, v, h => h
theorem Reps.lift {t : Tb} {am am' : List Addr} {H H' : Hp} (p : Lift am H am' H') : ∀ (ds : List D) (vs : List V), Reps t am H ds vs → Reps t am' H' ds vs
  | [], _, h => h
  | d :: ds, vs, h => by
    obtain ⟨v, r, e, h1, h2⟩ := h
    exact ⟨v, r, e, Rep.lift p d v h1, Reps.lift p ds r h2⟩
end
theorem Rep.mono {t : Tb} {am am' : List Addr} {H H' : Hp} (p : Post am H am' H') (d : D) (v : V) (h : Rep t am H d v) : Rep t am' H' d v := Rep.lift p.lift d v h
theorem Reps.mono {t : Tb} {am am' : List Addr} {H H' : Hp} (p : Post am H am' H') (ds : List D) (vs : List V) (h : Reps t am H ds vs) : Reps t am' H' ds vs := Reps.lift p.lift ds vs h
/-! a value without places of the store -/
mutual
theorem Rep.pure {t : Tb} {am am' : List Addr} {H H' : Hp} (imm : ∀ a o, H a = some o → Imm o → H' a = some o) : ∀ (d : D) (v : V), d.pure = true → Rep t am H d v → Rep t am' H' d v
  | .undef, _, _, h => h
  | .non, _, _, h => h
  | .bl _, _, _, h => h
  | .int _, _, _, h => h
  | .str _, _, _, h => h
  | .tup ds, v, q, h => by
    obtain ⟨a, vs, e, h1, h2⟩ := h
    exact ⟨a, vs, e, imm _ _ h1 trivial, Reps.pure imm ds vs q h2⟩
  | .frl ds, v, q, h => by
    obtain ⟨a, vs, e, h1, h2⟩ := h
    exact ⟨a, vs, e, Lift.frL (am := []) (am' := []) ⟨fun _ _ h => h, imm⟩ h1, Reps.pure imm ds vs q h2⟩
  | .ref n, v, q, h => absurd q (by unfold D.pure; exact Bool.false_ne_true)
  | .fn i, v, _, h => h
theorem Reps.pure {t : Tb} {am am' : List Addr} {H H' : Hp} (imm : ∀ a o, H a = some o → Imm o → H' a = some o) : ∀ (ds : List D) (vs : List V), D.pureL ds = true → Reps t am H ds vs → Reps t am' H' ds vs
  | [], _, _, h => h
  | d :: ds, vs, q, h => by
    obtain ⟨v, r, e, h1, h2⟩ := h
    unfold D.pureL at q
    rw [Bool.and_eq_true] at q
    exact ⟨v, r, e, Rep.pure imm d v q.1 h1, Reps.pure imm ds r q.2 h2⟩
end
section
variable {t : Tb} {am am' : List Addr} {H H' : Hp}
theorem Reps.length : ∀ {ds : List D} {vs : List V}, Reps t am H ds vs → ds.length = vs.length
  | [], vs, h => by
    have e : vs = [] := h
    rw [e]; rfl
  | d :: ds, vs, h => by
    obtain ⟨v, r, e, _, h2⟩ := h
    rw [e, List.length_cons, List.length_cons, Reps.length h2]
theorem Reps.get : ∀ {ds : List D} {vs : List V} {i : Nat} {d : D}, Reps t am H ds vs → ds[i]? = some d → ∃ v, vs[i]? = some v ∧ Rep t am H d v
  | [], _, _, _, _, h => by simp at h
  | d :: ds, vs, 0, d', h, e => by
    obtain ⟨v, r, e1, h1, h2⟩ := h
    have : d = d' := by simpa using e
    subst this
    exact ⟨v, by rw [e1]; rfl, h1⟩
  | d :: ds, vs, i + 1, d', h, e => by
    obtain ⟨v, r, e1, h1, h2⟩ := h
    obtain ⟨v', e2, r2⟩ := Reps.get (i := i) h2 (by simpa using e)
    exact ⟨v', by rw [e1]; simpa using e2, r2⟩
theorem Reps.append : ∀ {ds es : List D} {vs ws : List V}, Reps t am H ds vs → Reps t am H es ws → Reps t am H (ds ++ es) (vs ++ ws)
  | [], _, _, _, h, h' => by rw [show _ = [] from h]; exact h'
  | d :: ds, es, vs, ws, h, h' => by
    obtain ⟨v, r, e, h1, h2⟩ := h
    rw [e]
    exact ⟨v, r ++ ws, rfl, h1, Reps.append h2 h'⟩
theorem Reps.one {d : D} {v : V} (h : Rep t am H d v) : Reps t am H [d] [v] := ⟨v, [], rfl, h, rfl⟩
theorem Reps.take : ∀ {ds : List D} {vs : List V} (n : Nat), Reps t am H ds vs → Reps t am H (ds.take n) (vs.take n)
  | _, _, 0, _ => by simp [Reps]
  | [], vs, n + 1, h => by rw [show vs = [] from h]; simp [Reps]
  | d :: ds, vs, n + 1, h => by
    obtain ⟨v, r, e, h1, h2⟩ := h
    rw [e]
    exact ⟨v, r.take n, rfl, h1, Reps.take n h2⟩
theorem Reps.drop : ∀ {ds : List D} {vs : List V} (n : Nat), Reps t am H ds vs → Reps t am H (ds.drop n) (vs.drop n)
  | _, _, 0, h => h
  | [], vs, n + 1, h => by rw [show vs = [] from h]; simp [Reps]
  | d :: ds, vs, n + 1, h => by
    obtain ⟨v, r, e, h1, h2⟩ := h
    rw [e]
    exact Reps.drop n h2
theorem Reps.set {d : D} {v : V} (h' : Rep t am H d v) : ∀ {ds : List D} {vs : List V} (n : Nat), Reps t am H ds vs → Reps t am H (ds.set n d) (vs.set n v)
  | [], vs, n, h => by rw [show vs = [] from h]; simp [Reps]
  | _ :: ds, vs, 0, h => by
    obtain ⟨v', r, e, h1, h2⟩ := h
    rw [e]
    exact ⟨v, r, rfl, h', h2⟩
  | _ :: ds, vs, n + 1, h => by
    obtain ⟨v', r, e, h1, h2⟩ := h
    rw [e]
    exact ⟨v', r.set n v, rfl, h1, Reps.set h' n h2⟩
theorem Reps.reverse : ∀ {ds : List D} {vs : List V}, Reps t am H ds vs → Reps t am H ds.reverse vs.reverse
  | [], _, h => by rw [show _ = [] from h]; simp [Reps]
  | d :: ds, vs, h => by
    obtain ⟨v, r, e, h1, h2⟩ := h
    rw [e, List.reverse_cons, List.reverse_cons]
    exact Reps.append (Reps.reverse h2) (.one h1)
theorem Reps.nil_iff {ds : List D} {vs : List V} (h : Reps t am H ds vs) : ds = [] ↔ vs = [] := by
  have := h.length
  constructor
  · rintro rfl; exact h
  · rintro rfl; exact List.eq_nil_of_length_eq_zero (by simpa using this)
theorem RKV.lift {κ : Type} {f : D → Option κ} (p : Lift am H am' H') : ∀ {kvs : List (D × D)} {ks : List (κ × V)}, RKV f t am H kvs ks → RKV f t am' H' kvs ks
  | [], _, h => h
  | _ :: _, _, ⟨k, v, r, e, h1, h2, h3⟩ => ⟨k, v, r, e, h1, Rep.lift p _ _ h2, RKV.lift p h3⟩
theorem RKV.pure {κ : Type} {f : D → Option κ} (imm : ∀ a o, H a = some o → Imm o → H' a = some o) : ∀ {kvs : List (D × D)} {ks : List (κ × V)}, D.pureKV kvs = true → RKV f t am H kvs ks → RKV f t am' H' kvs ks
  | [], _, _, h => h
  | _ :: _, _, q, ⟨k, v, r, e, h1, h2, h3⟩ => by
    unfold D.pureKV at q
    simp only [Bool.and_eq_true] at q
    exact ⟨k, v, r, e, h1, Rep.pure imm _ _ q.1.2 h2, RKV.pure imm q.2 h3⟩
/-- an object that was not written -/
theorem OM.lift (p : Lift am H am' H') {o : O} {a : Addr} (h : OM t am H o a) (e : H' a = H a) : OM t am' H' o a := by
  cases o with
  | lst ds =>
    obtain ⟨vs, h1, h2⟩ := h
    exact ⟨vs, by rw [e]; exact h1, Reps.lift p _ _ h2⟩
  | dct tk kvs =>
    cases tk with
    | false =>
      obtain ⟨ks, h1, h2⟩ := h
      exact ⟨ks, by rw [e]; exact h1, h2.lift p⟩
    | true =>
      obtain ⟨ks, h1, h2⟩ := h
      exact ⟨ks, by rw [e]; exact h1, h2.lift p⟩
  | set xs =>
    obtain ⟨S, is, h1, h2, h3⟩ := h
    exact ⟨S, is, h1, by rw [e]; exact h2, h3⟩
theorem OM.mono (p : Post am H am' H') {o : O} {a : Addr} (h : OM t am H o a) (e : H' a = H a) : OM t am' H' o a := h.lift p.lift e
theorem OM.pure {o : O} {a : Addr} (q : o.pure = true) (h : OM t am H o a) : OM t am' H o a := by
  have imm : ∀ a o, H a = some o → Imm o → H a = some o := fun _ _ h _ => h
  cases o with
  | lst ds =>
    obtain ⟨vs, h1, h2⟩ := h
    exact ⟨vs, h1, Reps.pure imm _ _ q h2⟩
  | dct tk kvs =>
    cases tk with
    | false =>
      obtain ⟨ks, h1, h2⟩ := h
      exact ⟨ks, h1, h2.pure imm q⟩
    | true =>
      obtain ⟨ks, h1, h2⟩ := h
      exact ⟨ks, h1, h2.pure imm q⟩
  | set xs => exact h
/-- .. is tracked, no tuple, no table -/
theorem OM.obj {o : O} {a : Addr} (h : OM t am H o a) : ∃ u, H a = some u ∧ ¬ Imm u ∧ ∀ ps, u ≠ .tbl ps := by
  cases o with
  | lst ds => obtain ⟨vs, h1, h2⟩ := h; exact ⟨_, h1, fun z => z, fun ps z => by cases z⟩
  | dct tk kvs => cases tk with
    | false => obtain ⟨vs, h1, h2⟩ := h; exact ⟨_, h1, fun z => z, fun ps z => by cases z⟩
    | true => obtain ⟨vs, h1, h2⟩ := h; exact ⟨_, h1, fun z => z, fun ps z => by cases z⟩
  | set xs => obtain ⟨S, is, h1, h2, h3⟩ := h; exact ⟨_, h2, fun z => z, fun ps z => by cases z⟩
/-- .. and no code object -/
theorem OM.noext {o : O} {a : Addr} (h : OM t am H o a) : ∀ f, H a ≠ some (.ext f) := by
  intro f z
  cases o with
  | lst ds => obtain ⟨vs, h1, h2⟩ := h; rw [h1] at z; cases z
  | dct tk kvs => cases tk with
    | false => obtain ⟨vs, h1, h2⟩ := h; rw [h1] at z; cases z
    | true => obtain ⟨vs, h1, h2⟩ := h; rw [h1] at z; cases z
  | set xs => obtain ⟨S, is, h1, h2, h3⟩ := h; rw [h2] at z; cases z
variable {s : S}
theorem Ms.mem (m : Ms t am s H) {a : Addr} (h : a ∈ am) : ∃ u, H a = some u ∧ ¬ Imm u ∧ ∀ ps, u ≠ .tbl ps := by
  obtain ⟨n, hn⟩ := List.getElem?_of_mem h
  have hl : n < s.length := by rw [← m.len]; exact (List.getElem?_eq_some_iff.mp hn).1
  obtain ⟨a', h1, h2⟩ := m.ob n s[n] (List.getElem?_eq_getElem hl)
  rw [hn] at h1; cases h1
  exact h2.obj
theorem Ms.noext (m : Ms t am s H) {a : Addr} (h : a ∈ am) : ∀ f, H a ≠ some (.ext f) := by
  obtain ⟨n, hn⟩ := List.getElem?_of_mem h
  have hl : n < s.length := by rw [← m.len]; exact (List.getElem?_eq_some_iff.mp hn).1
  obtain ⟨a', h1, h2⟩ := m.ob n s[n] (List.getElem?_eq_getElem hl)
  rw [hn] at h1; cases h1
  exact h2.noext
theorem Ms.out (m : Ms t am s H) {p : Addr} (h : H p = none) : p ∉ am := fun z => by
  obtain ⟨u, e, _⟩ := m.mem z
  rw [h] at e; cases e
/-- a new object outside the store -/
theorem Post.upd {p : Addr} {o : HO} (hn : H p = none) : Post am H am (L2.upd H p o) :=
  ⟨⟨[], by simp, by simp⟩, fun a u h _ => by rw [upd_ne (ne_of_none h hn)]; exact h, fun a u h _ _ => by rw [upd_ne (ne_of_none h hn)]; exact h, fun a u h z => ⟨u, by rw [upd_ne (ne_of_none h hn)]; exact h, z⟩⟩
theorem Ms.upd {p : Addr} {o : HO} (m : Ms t am s H) (hn : H p = none) : Ms t am s (L2.upd H p o) :=
  ⟨m.nd, m.len, fun n ob h => by
    obtain ⟨a, h1, h2⟩ := m.ob n ob h
    refine ⟨a, h1, h2.mono (.upd hn) (upd_ne ?_)⟩
    rintro rfl
    exact m.out hn (List.mem_of_getElem? h1), m.tb.ext fun b o h => by rw [upd_ne (ne_of_none h hn)]; exact h⟩
/-- a new object of the store -/
theorem Post.new {p : Addr} {o : HO} (hn : H p = none) : Post am H (am ++ [p]) (L2.upd H p o) :=
  ⟨⟨[p], rfl, by intro a h o ho; rw [List.mem_singleton] at h; rw [h, hn] at ho; cases ho⟩, fun a u h _ => by rw [upd_ne (ne_of_none h hn)]; exact h, fun a u h _ _ => by rw [upd_ne (ne_of_none h hn)]; exact h, fun a u h z => ⟨u, by rw [upd_ne (ne_of_none h hn)]; exact h, z⟩⟩
theorem Ms.new {p : Addr} {u : HO} {o : O} (m : Ms t am s H) (hn : H p = none) (ho : OM t (am ++ [p]) (L2.upd H p u) o p) : Ms t (am ++ [p]) (s ++ [o]) (L2.upd H p u) := by
  have np := m.out hn
  refine ⟨?_, by simp [m.len], fun n ob h => ?_, m.tb.ext fun b o h => by rw [upd_ne (ne_of_none h hn)]; exact h⟩
  · rw [List.nodup_append]
    exact ⟨m.nd, by simp, fun a ha b hb => by rw [List.mem_singleton] at hb; rintro rfl; exact np (hb ▸ ha)⟩
  · by_cases hl : n < s.length
    · rw [List.getElem?_append_left hl] at h
      obtain ⟨a, h1, h2⟩ := m.ob n ob h
      refine ⟨a, by rw [List.getElem?_append_left (by rw [m.len]; exact hl)]; exact h1, h2.mono (.new hn) (upd_ne ?_)⟩
      rintro rfl
      exact np (List.mem_of_getElem? h1)
    · rw [List.getElem?_append_right (by omega)] at h
      have e : n - s.length = 0 := by
        have := (List.getElem?_eq_some_iff.mp h).1
        simp at this; omega
      rw [e] at h
      have : o = ob := by simpa using h
      subst this
      refine ⟨p, ?_, ho⟩
      rw [List.getElem?_append_right (by rw [m.len]; omega), m.len, e]; rfl
/-- an object of the store is written -/
theorem Post.put {p : Addr} {o u : HO} (hm : p ∈ am) (h : H p = some u) (hu : ¬ Imm u) (ht : ∀ ps, o ≠ .tbl ps := by intro ps z; cases z) : Post am H am (L2.upd H p o) :=
  ⟨⟨[], by simp, by simp⟩, fun a z h' hi => by rw [upd_ne (by rintro rfl; rw [h] at h'; cases h'; exact hu hi)]; exact h', fun a z h' hn _ => by rw [upd_ne (by rintro rfl; exact hn hm)]; exact h',
    fun a z h' hz => by
      by_cases e : a = p
      · subst e; exact ⟨o, upd_same, ht⟩
      · exact ⟨z, by rw [upd_ne e]; exact h', hz⟩⟩
theorem Ms.put {n : Nat} {p : Addr} {u : HO} {o : O} (m : Ms t am s H) (hp : am[n]? = some p) (ho : OM t am (L2.upd H p u) o p) : Post am H am (L2.upd H p u) ∧ Ms t am (s.set n o) (L2.upd H p u) := by
  have hm := List.mem_of_getElem? hp
  obtain ⟨u0, h0, i0, t0⟩ := m.mem hm
  have P : Post am H am (L2.upd H p u) := .put hm h0 i0 (by
    obtain ⟨u', e', _, t'⟩ := ho.obj
    rw [upd_same] at e'; cases e'
    exact t')
  refine ⟨P, m.nd, by rw [List.length_set]; exact m.len, fun k ob h => ?_, m.tb.put (fun ps z => by rw [h0] at z; cases z; exact t0 _ rfl) (m.noext hm)⟩
  by_cases e : n = k
  · subst e
    have hl : n < s.length := by rw [← m.len]; exact (List.getElem?_eq_some_iff.mp hp).1
    rw [List.getElem?_set_self hl] at h
    cases h
    exact ⟨p, hp, ho⟩
  · rw [List.getElem?_set_ne e] at h
    obtain ⟨a, h1, h2⟩ := m.ob k ob h
    refine ⟨a, h1, h2.mono P (upd_ne ?_)⟩
    rintro rfl
    exact e ((List.getElem_inj m.nd).mp ((List.getElem?_eq_some_iff.mp hp).2.trans (List.getElem?_eq_some_iff.mp h1).2.symm))
end
end Y

/-! Y2: the judgements, and the rules for expressions. -/
namespace Y
open PySem L2

/-- how an error lies in the heap -/
def XRep (t : Tb) (c : Nat) (fs : List D) (am : List Addr) (H : Hp) (cls : Value) (dd : Option Addr) : Prop :=
  ∃ C names, t.xc c = some (C, names) ∧ cls = .ref C ∧ ((names = [] ∧ fs = [] ∧ dd = none) ∨ (∃ d vs, names ≠ [] ∧ dd = some d ∧ H d = some (.xd (names.zip vs)) ∧ names.length = vs.length ∧ Reps t am H fs vs))
abbrev XW := St → XK
/-- what is wanted of a result -/
def RQ {α β : Type} (t : Tb) (am : List Addr) (H : Hp) (x : Rs α) (rep : List Addr → Hp → α → β → Prop) (Ex : XK) (Q : β → Hp → Prop) : Prop := match x with
  | .ok a s' => ∀ am' H' b, Post am H am' H' → Ms t am' s' H' → rep am' H' a b → Q b H'
  | .exc c fs s' => ∀ am' H' cls dd, Post am H am' H' → Ms t am' s' H' → XRep t c fs am' H' cls dd → Ex cls dd H'
  | .stk => False
abbrev repB : List Addr → Hp → Bool → Bool → Prop := fun _ _ a b => a = b
section
variable {α β α' β' : Type} {t : Tb} {am am1 : List Addr} {H H1 : Hp} {s : S} {Ex : XK}
theorem RQ.re {x : Rs α} {rep : List Addr → Hp → α → β → Prop} {Q : β → Hp → Prop} (h : RQ t am H x rep Ex Q) (p : Post am H am1 H1) : RQ t am1 H1 x rep Ex Q := by
  cases x with
  | ok a s' => exact fun am' H' b q m r => h am' H' b (p.trans q) m r
  | exc c fs s' => exact fun am' H' cls dd q m r => h am' H' cls dd (p.trans q) m r
  | stk => exact h
theorem RQ.seq {x : Rs α} {f : α → S → Rs α'} {rep1 : List Addr → Hp → α → β → Prop} {rep2 : List Addr → Hp → α' → β' → Prop} {Q : β' → Hp → Prop} {K : β → Hp → Prop} (h : RQ t am H (x.bind f) rep2 Ex Q)
    (hk : ∀ a s1 am1 H1 b, Post am H am1 H1 → Ms t am1 s1 H1 → rep1 am1 H1 a b → RQ t am1 H1 (f a s1) rep2 Ex Q → K b H1) : RQ t am H x rep1 Ex K := by
  cases x with
  | ok a s' => exact fun am' H' b q m r => hk a s' am' H' b q m r (RQ.re (Rs.bind_ok a s' f ▸ h) q)
  | exc c fs s' => exact h
  | stk => exact h
theorem RQ.ok {a : α} {rep : List Addr → Hp → α → β → Prop} {Q : β → Hp → Prop} {b : β} (h : RQ t am H (.ok a s) rep Ex Q) (p : Post am H am1 H1) (m : Ms t am1 s H1) (r : rep am1 H1 a b) : Q b H1 := h am1 H1 b p m r
theorem RQ.ok0 {a : α} {rep : List Addr → Hp → α → β → Prop} {Q : β → Hp → Prop} {b : β} (h : RQ t am H (.ok a s) rep Ex Q) (m : Ms t am s H) (r : rep am H a b) : Q b H := h am H b .refl m r
end

/-- the slots -/
structure EnvR (t : Tb) (am : List Addr) (H : Hp) (r : Env) (σ : St) : Prop where
  len : r.length = σ.length
  get : ∀ (i : Nat) (d : D), r[i]? = some d → d ≠ .undef → ∃ v, σ[i]? = some (some v) ∧ Rep t am H d v
section
variable {t : Tb} {am am' : List Addr} {H H' : Hp} {r : Env} {σ : St}
theorem EnvR.mono (e : EnvR t am H r σ) (p : Post am H am' H') : EnvR t am' H' r σ := ⟨e.len, fun i d h n => let ⟨v, h1, h2⟩ := e.get i d h n; ⟨v, h1, h2.mono p⟩⟩
theorem EnvR.set {d : D} {v : V} (e : EnvR t am H r σ) (i : Nat) (h : Rep t am H d v) : EnvR t am H (r.set i d) (σ.set i (some v)) := by
  refine ⟨by simp [e.len], fun j d' h1 n => ?_⟩
  by_cases hj : i = j
  · subst hj
    have hl : i < r.length := by have := (List.getElem?_eq_some_iff.mp h1).1; simpa using this
    rw [List.getElem?_set_self hl] at h1
    cases h1
    exact ⟨v, List.getElem?_set_self (by rw [← e.len]; exact hl), h⟩
  · rw [List.getElem?_set_ne hj] at h1
    obtain ⟨v', h2, h3⟩ := e.get j d' h1 n
    exact ⟨v', by rw [List.getElem?_set_ne hj]; exact h2, h3⟩
theorem EnvR.wipe (e : EnvR t am H r σ) : ∀ vs : List Nat, EnvR t am H (wipeD r vs) (L2.wipe σ vs)
  | [] => e
  | v :: vs => by
    have ih := EnvR.wipe e vs
    unfold wipeD L2.wipe
    refine ⟨by simp [ih.len], fun j d' h1 n => ?_⟩
    by_cases hj : v = j
    · subst hj
      have hl : v < (wipeD r vs).length := by have := (List.getElem?_eq_some_iff.mp h1).1; simpa using this
      rw [List.getElem?_set_self hl] at h1
      cases h1
      exact absurd rfl n
    · rw [List.getElem?_set_ne hj] at h1
      obtain ⟨v', h2, h3⟩ := ih.get j d' h1 n
      exact ⟨v', by rw [List.getElem?_set_ne hj]; exact h2, h3⟩
end

def tyE (t : Tb) (W : XW) (m : E) : TE := fun σ H Q => ∃ am r s, EnvR t am H r σ ∧ Ms t am s H ∧ RQ t am H (m r s) (Rep t) (W σ) Q
def tyT (t : Tb) (W : XW) (m : T) : TT := fun σ H Q => ∃ am r s, EnvR t am H r σ ∧ Ms t am s H ∧ RQ t am H (m r s) repB (W σ) Q
def tyA (t : Tb) (W : XW) (m : A) : TA := fun σ H Q => ∃ am r s, EnvR t am H r σ ∧ Ms t am s H ∧ RQ t am H (m r s) (Reps t) (W σ) Q
def SE (X : Cx) (t : Tb) (W : XW) (e : Expr) (m : E) : Prop := PE X e (tyE t W m)
def ST (X : Cx) (t : Tb) (W : XW) (e : Expr) (m : T) : Prop := PT X e (tyT t W m)
def SW (X : Cx) (t : Tb) (W : XW) (e : Expr) (m : T) : Prop := PW X e (tyT t W m)
def SA (X : Cx) (t : Tb) (W : XW) (es : List Expr) (m : A) : Prop := PA X es (tyA t W m)

section
variable {X : Cx} {t : Tb} {W : XW} {e a b c : Expr} {es rest : List Expr} {pos : Pos} {ma mb mc : E} {m : E} {mt mu : T} {ms : A}
theorem _root_.L2.PE.imp {u u' : TE} (h : PE X e u) (f : ∀ σ H Q, u' σ H Q → u σ H Q) : PE X e u' := ⟨fun pins s σ H Q I q => h.run pins s σ H Q I (f σ H Q q)⟩
theorem _root_.L2.PT.imp {u u' : TT} (h : PT X e u) (f : ∀ σ H Q, u' σ H Q → u σ H Q) : PT X e u' := ⟨fun pins s σ H Q I q => h.run pins s σ H Q I (f σ H Q q)⟩
theorem _root_.L2.PW.imp {u u' : TT} (h : PW X e u) (f : ∀ σ H Q, u' σ H Q → u σ H Q) : PW X e u' := ⟨fun wh pins s σ H Q I q => h.run wh pins s σ H Q I (f σ H Q q)⟩
theorem _root_.L2.PA.imp {u u' : TA} (h : PA X es u) (f : ∀ σ H Q, u' σ H Q → u σ H Q) : PA X es u' := ⟨fun pos pins s σ H Q I q => h.run pos pins s σ H Q I (f σ H Q q)⟩

/-- a part's reading, from the whole's result -/
theorem tyE.of {σ : St} {H : Hp} {am : List Addr} {r : Env} {s : S} {α β : Type} {f : D → S → Rs α} {rep : List Addr → Hp → α → β → Prop} {Q : β → Hp → Prop} {K : V → Hp → Prop} (en : EnvR t am H r σ) (mm : Ms t am s H)
    (h : RQ t am H ((m r s).bind f) rep (W σ) Q)
    (hk : ∀ d s1 am1 H1 v, EnvR t am1 H1 r σ → Ms t am1 s1 H1 → Post am H am1 H1 → Rep t am1 H1 d v → RQ t am1 H1 (f d s1) rep (W σ) Q → K v H1) : tyE t W m σ H K :=
  ⟨am, r, s, en, mm, h.seq fun d s1 am1 H1 v p m1 rp h1 => hk d s1 am1 H1 v (en.mono p) m1 p rp h1⟩
theorem tyT.of {σ : St} {H : Hp} {am : List Addr} {r : Env} {s : S} {α β : Type} {f : Bool → S → Rs α} {rep : List Addr → Hp → α → β → Prop} {Q : β → Hp → Prop} {K : Bool → Hp → Prop} (en : EnvR t am H r σ) (mm : Ms t am s H)
    (h : RQ t am H ((mt r s).bind f) rep (W σ) Q)
    (hk : ∀ d s1 am1 H1, EnvR t am1 H1 r σ → Ms t am1 s1 H1 → Post am H am1 H1 → RQ t am1 H1 (f d s1) rep (W σ) Q → K d H1) : tyT t W mt σ H K :=
  ⟨am, r, s, en, mm, h.seq fun d s1 am1 H1 v p m1 rp h1 => by cases rp; exact hk d s1 am1 H1 (en.mono p) m1 p h1⟩
theorem tyA.of {σ : St} {H : Hp} {am : List Addr} {r : Env} {s : S} {α β : Type} {f : List D → S → Rs α} {rep : List Addr → Hp → α → β → Prop} {Q : β → Hp → Prop} {K : List V → Hp → Prop} (en : EnvR t am H r σ) (mm : Ms t am s H)
    (h : RQ t am H ((ms r s).bind f) rep (W σ) Q)
    (hk : ∀ d s1 am1 H1 v, EnvR t am1 H1 r σ → Ms t am1 s1 H1 → Post am H am1 H1 → Reps t am1 H1 d v → RQ t am1 H1 (f d s1) rep (W σ) Q → K v H1) : tyA t W ms σ H K :=
  ⟨am, r, s, en, mm, h.seq fun d s1 am1 H1 v p m1 rp h1 => hk d s1 am1 H1 v (en.mono p) m1 p rp h1⟩

/-! ### constants, names -/
theorem s_int {i j} : SE X t W (.Constant (.int i) j pos) (eC (.int i)) := pe_int.imp fun σ H Q ⟨am, r, s, en, mm, h⟩ => h.ok0 mm rfl
theorem s_bl {i j} : SE X t W (.Constant (.bool i) j pos) (eC (.bl i)) := pe_bl.imp fun σ H Q ⟨am, r, s, en, mm, h⟩ => h.ok0 mm rfl
theorem s_non {j} : SE X t W (.Constant .none j pos) (eC .non) := pe_non.imp fun σ H Q ⟨am, r, s, en, mm, h⟩ => h.ok0 mm rfl
theorem s_str {i j} : SE X t W (.Constant (.str i) j pos) (eC (.str i)) := pe_str.imp fun σ H Q ⟨am, r, s, en, mm, h⟩ => h.ok0 mm rfl
theorem s_var (i : Nat) {x : Str} (hN : X.N[i]? = some x := by rfl) (hv : Vis X.env.scope x := by first | exact Or.inl rfl | exact Or.inr (Or.inl rfl) | exact Or.inr (Or.inr rfl)) (hd : (x == ("__debug__" : Str)) = false := by decide)
    (hcd : (x == ("__classdict__" : Str)) = false := by decide) : SE X t W (.Name x pos) (eV i) := (pe_var hN hv hd hcd).imp fun σ H Q ⟨am, r, s, en, mm, h⟩ => by
  unfold eV at h
  cases e : r[i]? with
  | none => rw [e] at h; exact h.elim
  | some d =>
    rw [e] at h
    by_cases hu : d = .undef
    · subst hu; exact h.elim
    · obtain ⟨v, h1, h2⟩ := en.get i d e hu
      have h' : RQ t am H (.ok d s) (Rep t) (W σ) Q := by cases d <;> first | exact h | exact absurd rfl hu
      exact ⟨v, h1, h'.ok0 mm h2⟩
/-- a module's constant int, by the facts of the top -/
theorem s_glob {i : Int} {x : Str} (hg : Gl X x) (hm' : ∃ k, X.mg x = some (.int i k)) (hd : (x == ("__debug__" : Str)) = false := by decide) : SE X t W (.Name x pos) (eC (.int i)) :=
  let ⟨k, hm⟩ := hm'
  (pe_glob hg hm (v := .int i) ⟨k, rfl⟩ hd).imp fun σ H Q ⟨am, r, s, en, mm, h⟩ => h.ok0 mm rfl
theorem s_fn {i : Nat} {f : Addr} {x : Str} (hg : Gl X x) (hm : X.mg x = some (.ref f)) (hf : t.fa i = some f) (hd : (x == ("__debug__" : Str)) = false := by decide) : SE X t W (.Name x pos) (eC (.fn i)) :=
  (pe_glob hg hm (v := .ref f) rfl hd).imp fun σ H Q ⟨am, r, s, en, mm, h⟩ => h.ok0 mm ⟨f, rfl, hf⟩

/-! ### operators by values -/
/-- o does what the rule r asks -/
def Op2 (t : Tb) (r : R2) (o : P2) : Prop := ∀ (am : List Addr) (s : S) (H : Hp) (d1 d2 : D) (v1 v2 : V) (Ex : XK) (Q : VK), Ms t am s H → Rep t am H d1 v1 → Rep t am H d2 v2 → RQ t am H (o d1 d2 s) (Rep t) Ex Q → r v1 v2 H Q
def Op1 (t : Tb) (r : V → Hp → VK → Prop) (o : P1) : Prop := ∀ (am : List Addr) (s : S) (H : Hp) (d : D) (v : V) (Ex : XK) (Q : VK), Ms t am s H → Rep t am H d v → RQ t am H (o d s) (Rep t) Ex Q → r v H Q
theorem s_op {op : Operator} {r : R2} {o : P2} (ho : OpR X (binaryOp op) r) (h2 : Op2 t r o) (ha : SE X t W a ma) (hb : SE X t W b mb) : SE X t W (.BinOp a op b pos) (e2 o ma mb) :=
  (pe_op ho ha hb).imp fun σ H Q ⟨am, r, s, en, mm, h⟩ => tyE.of en mm h fun d1 s1 am1 H1 v1 en1 m1 p1 r1 h1 => tyE.of en1 m1 h1 fun d2 s2 am2 H2 v2 en2 m2 p2 r2 h2' => h2 am2 s2 H2 d1 d2 v1 v2 _ Q m2 (r1.mono p2) r2 h2'
theorem s_cmp {op : CmpOp} {r : R2} {o : P2} (ho : OpR X (compareOp op) r) (h2 : Op2 t r o) (ha : SE X t W a ma) (hb : SE X t W b mb) (hm : behindInMarks op b = false) : SE X t W (.Compare a [op] [b] pos) (e2 o ma mb) :=
  (pe_cmpR ho ha hb hm).imp fun σ H Q ⟨am, r, s, en, mm, h⟩ => tyE.of en mm h fun d1 s1 am1 H1 v1 en1 m1 p1 r1 h1 => tyE.of en1 m1 h1 fun d2 s2 am2 H2 v2 en2 m2 p2 r2 h2' => h2 am2 s2 H2 d1 d2 v1 v2 _ Q m2 (r1.mono p2) r2 h2'
theorem s_ix {r : R2} {o : P2} (ho : IxR X r) (h2 : Op2 t r o) (ha : SE X t W a ma) (hb : SE X t W b mb) (hs : PlainIx b) : SE X t W (.Subscript a b pos) (e2 o ma mb) :=
  (pe_ix ho ha hb hs).imp fun σ H Q ⟨am, r, s, en, mm, h⟩ => tyE.of en mm h fun d1 s1 am1 H1 v1 en1 m1 p1 r1 h1 => tyE.of en1 m1 h1 fun d2 s2 am2 H2 v2 en2 m2 p2 r2 h2' => h2 am2 s2 H2 d1 d2 v1 v2 _ Q m2 (r1.mono p2) r2 h2'
theorem s_un {op : UnaryOp} {r : V → Hp → VK → Prop} {o : P1} (ho : UnR X (unaryOp op) r) (h2 : Op1 t r o) (ha : SE X t W a ma) : SE X t W (.UnaryOp op a pos) (e1 o ma) :=
  (pe_un ho ha).imp fun σ H Q ⟨am, r, s, en, mm, h⟩ => tyE.of en mm h fun d1 s1 am1 H1 v1 en1 m1 p1 r1 h1 => h2 am1 s1 H1 d1 v1 _ Q m1 r1 h1
/-- f(..) of a built-in -/
def OpN (t : Tb) (r : List V → Hp → VK → Prop) (o : PN) : Prop := ∀ (am : List Addr) (s : S) (H : Hp) (ds : List D) (vs : List V) (Ex : XK) (Q : VK), Ms t am s H → Reps t am H ds vs → RQ t am H (o ds s) (Rep t) Ex Q → r vs H Q
theorem s_nil : SA X t W [] aN := pa_nil.imp fun σ H Q ⟨am, r, s, en, mm, h⟩ => h.ok0 mm rfl
theorem s_cons (ha : SE X t W e m) (hr : SA X t W es ms) (hs : starEach (e :: es) X.env = (false, eval e X.env) :: starEach es X.env := by rfl) : SA X t W (e :: es) (aC m ms) :=
  (pa_cons ha hr hs).imp fun σ H Q ⟨am, r, s, en, mm, h⟩ => tyE.of en mm h fun d1 s1 am1 H1 v1 en1 m1 p1 r1 h1 => tyA.of en1 m1 h1 fun ds s2 am2 H2 vs en2 m2 p2 r2 h2' => h2'.ok0 m2 ⟨v1, vs, rfl, r1.mono p2, r2⟩
theorem s_bltB {id : String} {r : List V → Hp → VK → Prop} {o : PN} {x : Str} {p : Pos} (hc : CallR X (.builtin id) r) (h2 : OpN t r o) (hg : Gl X x) (hm : X.mg x = none) (hv : bootBuiltins x = some (.builtin id)) (ha : SA X t W (e :: es) ms)
    (hn : x ≠ "__name__" := by decide) (hdb : (x == ("__debug__" : Str)) = false := by decide) (he : starEach (e :: es) X.env = (false, eval e X.env) :: starEach es X.env := by rfl) (hpl : (backTo pos (starEach es X.env)).any (·.1) = false := by rfl) :
    SE X t W (.Call (.Name x p) (e :: es) [] pos) (eN o ms) :=
  (pe_callB hc hg hm hv ha hn hdb he hpl).imp fun σ H Q ⟨am, r, s, en, mm, h⟩ => tyA.of en mm h fun ds s1 am1 H1 vs en1 m1 p1 r1 h1 => h2 am1 s1 H1 ds vs _ Q m1 r1 h1
theorem s_bltT {id : String} {r : List V → Hp → VK → Prop} {o : PN} {x : Str} {p : Pos} (hc : CallR X (.type id) r) (h2 : OpN t r o) (hg : Gl X x) (hm : X.mg x = none) (hv : bootBuiltins x = some (.type id)) (ha : SA X t W (e :: es) ms)
    (hn : x ≠ "__name__" := by decide) (hdb : (x == ("__debug__" : Str)) = false := by decide) (he : starEach (e :: es) X.env = (false, eval e X.env) :: starEach es X.env := by rfl) (hpl : (backTo pos (starEach es X.env)).any (·.1) = false := by rfl) :
    SE X t W (.Call (.Name x p) (e :: es) [] pos) (eN o ms) :=
  (pe_callTy hc hg hm hv ha hn hdb he hpl).imp fun σ H Q ⟨am, r, s, en, mm, h⟩ => tyA.of en mm h fun ds s1 am1 H1 vs en1 m1 p1 r1 h1 => h2 am1 s1 H1 ds vs _ Q m1 r1 h1

/-! ### tests -/
theorem s_tst (h : SE X t W e m) (he : ∀ whole, isTrue e X.env whole = (do let v ← whole; standAt e.pos; holding [v] (truthy v)) := by intro _; rfl) : ST X t W e (tst m) :=
  (pt_val h he).imp fun σ H Q ⟨am, r, s, en, mm, h⟩ => tyE.of en mm h fun d s1 am1 H1 v en1 m1 p1 r1 h1 => by
    cases d with
    | bl b => exact ⟨b, r1, h1.ok0 m1 rfl⟩
    | _ => exact h1.elim
/-- a comparison as a test -/
theorem s_tcmp {op : CmpOp} {r : R2} {o : P2} (ho : OpR X (compareOp op) r) (h2 : Op2 t r o) (ha : SE X t W a ma) (hb : SE X t W b mb) (hm : behindInMarks op b = false) : ST X t W (.Compare a [op] [b] pos) (tst (e2 o ma mb)) :=
  (pt_cmpR ho ha hb hm).imp fun σ H Q ⟨am, r, s, en, mm, h⟩ => by
    have h : RQ t am H ((ma r s).bind fun x s1 => (mb r s1).bind fun y s2 => (o x y s2).bind fun z s3 => match z with
      | .bl b => .ok b s3
      | _ => .stk) repB (W σ) Q := by
      have e : tst (e2 o ma mb) r s = ((ma r s).bind fun x s1 => (mb r s1).bind fun y s2 => (o x y s2).bind fun z s3 => match z with
        | .bl b => .ok b s3
        | _ => .stk) := by
        unfold tst e2
        cases ma r s with
        | ok x s1 =>
          simp only [Rs.bind_ok]
          cases mb r s1 <;> rfl
        | exc => rfl
        | stk => rfl
      rw [← e]; exact h
    refine tyE.of en mm h fun d1 s1 am1 H1 v1 en1 m1 p1 r1 h1 => tyE.of en1 m1 h1 fun d2 s2 am2 H2 v2 en2 m2 p2 r2 h2' => ?_
    refine h2 am2 s2 H2 d1 d2 v1 v2 (W σ) _ m2 (r1.mono p2) r2 (h2'.seq fun z s3 am3 H3 v3 p3 m3 r3 h3 => ?_)
    cases z with
    | bl b => exact ⟨b, r3, h3.ok0 m3 rfl⟩
    | _ => exact h3.elim
theorem s_pw (h : SW X t W e mt) : ST X t W e mt := PW.pt h
theorem s_and1 (ha : ST X t W a mt) : SW X t W (.BoolOp .And [a] pos) mt := pw_and1 ha
theorem s_or1 (ha : ST X t W a mt) : SW X t W (.BoolOp .Or [a] pos) mt := pw_or1 ha
theorem s_and (ha : ST X t W a mt) (hb : SW X t W (.BoolOp .And (b :: rest) pos) mu) : SW X t W (.BoolOp .And (a :: b :: rest) pos) (tAnd mt mu) :=
  (pw_and ha hb).imp fun σ H Q ⟨am, r, s, en, mm, h⟩ => tyT.of en mm h fun c s1 am1 H1 en1 m1 p1 h1 => by
    cases c with
    | true => exact ⟨am1, r, s1, en1, m1, h1⟩
    | false => exact h1.ok0 m1 rfl
theorem s_or (ha : ST X t W a mt) (hb : SW X t W (.BoolOp .Or (b :: rest) pos) mu) : SW X t W (.BoolOp .Or (a :: b :: rest) pos) (tOr mt mu) :=
  (pw_or ha hb).imp fun σ H Q ⟨am, r, s, en, mm, h⟩ => tyT.of en mm h fun c s1 am1 H1 en1 m1 p1 h1 => by
    cases c with
    | false => exact ⟨am1, r, s1, en1, m1, h1⟩
    | true => exact h1.ok0 m1 rfl
theorem s_tnot (ha : ST X t W a mt) : ST X t W (.UnaryOp .Not a pos) (tNot mt) :=
  (pt_not ha).imp fun σ H Q ⟨am, r, s, en, mm, h⟩ => tyT.of en mm h fun c s1 am1 H1 en1 m1 p1 h1 => h1.ok0 m1 rfl
theorem s_one {op} (h : SE X t W a m) : SE X t W (.BoolOp op [a] pos) m := pe_one h
theorem s_vand (ha : SE X t W a ma) (hb : SE X t W (.BoolOp .And (b :: rest) pos) mb) : SE X t W (.BoolOp .And (a :: b :: rest) pos) (eAnd ma mb) :=
  (pe_and ha hb).imp fun σ H Q ⟨am, r, s, en, mm, h⟩ => tyE.of en mm h fun d s1 am1 H1 v en1 m1 p1 r1 h1 => by
    cases d with
    | bl c =>
      refine ⟨c, r1, ?_⟩
      cases c with
      | true => exact ⟨am1, r, s1, en1, m1, h1⟩
      | false => exact h1.ok0 m1 rfl
    | _ => exact h1.elim
theorem s_vor (ha : SE X t W a ma) (hb : SE X t W (.BoolOp .Or (b :: rest) pos) mb) : SE X t W (.BoolOp .Or (a :: b :: rest) pos) (eOr ma mb) :=
  (pe_or ha hb).imp fun σ H Q ⟨am, r, s, en, mm, h⟩ => tyE.of en mm h fun d s1 am1 H1 v en1 m1 p1 r1 h1 => by
    cases d with
    | bl c =>
      refine ⟨c, r1, ?_⟩
      cases c with
      | false => exact ⟨am1, r, s1, en1, m1, h1⟩
      | true => exact h1.ok0 m1 rfl
    | _ => exact h1.elim
theorem s_vnot (ha : SE X t W a ma) : SE X t W (.UnaryOp .Not a pos) (eNot ma) :=
  (pe_not ha).imp fun σ H Q ⟨am, r, s, en, mm, h⟩ => tyE.of en mm h fun d s1 am1 H1 v en1 m1 p1 r1 h1 => by
    cases d with
    | bl c => exact ⟨c, r1, h1.ok0 m1 rfl⟩
    | _ => exact h1.elim
theorem s_if (hc : ST X t W c mt) (ha : SE X t W a ma) (hb : SE X t W b mb) : SE X t W (.IfExp c a b pos) (eIf mt ma mb) :=
  (pe_ifExp hc ha hb).imp fun σ H Q ⟨am, r, s, en, mm, h⟩ => tyT.of en mm h fun c s1 am1 H1 en1 m1 p1 h1 => by
    cases c with
    | true => exact ⟨am1, r, s1, en1, m1, h1⟩
    | false => exact ⟨am1, r, s1, en1, m1, h1⟩
theorem line_le {n : Nat} (h : n ≤ 1000000) : n ≤ sizeLine := Nat.le_trans h (by decide)
theorem s_tup {x1} (h : SA X t W es ms) : SE X t W (.Tuple es x1 pos) (eTup ms) :=
  (pe_tup h).imp fun σ H Q ⟨am, r, s, en, mm, h⟩ => tyA.of en mm h fun ds s1 am1 H1 vs en1 m1 p1 r1 h1 => by
    by_cases hl : ds.length ≤ 1000000
    · simp only [hl, if_true] at h1
      refine ⟨by rw [← r1.length]; exact line_le hl, fun p hp => ?_⟩
      exact h1.ok (.upd hp) (m1.upd hp) ⟨p, vs, rfl, upd_same, r1.mono (.upd hp)⟩
    · simp only [hl, if_false] at h1
      exact h1.elim
theorem s_lst (h : SA X t W es ms) : SE X t W (.List es pos) (eLst ms) :=
  (pe_lst h).imp fun σ H Q ⟨am, r, s, en, mm, h⟩ => tyA.of en mm h fun ds s1 am1 H1 vs en1 m1 p1 r1 h1 => by
    by_cases hl : ds.length ≤ 1000000
    · simp only [hl, if_true] at h1
      refine ⟨by rw [← r1.length]; exact line_le hl, fun p hp => ?_⟩
      refine h1.ok (.new hp) (m1.new hp ⟨vs, upd_same, r1.mono (.new hp)⟩) ⟨p, rfl, ?_⟩
      rw [← m1.len]
      simp
    · simp only [hl, if_false] at h1
      exact h1.elim
/-- a < b < c -/
theorem s_chain {op op' : CmpOp} {r r' : R2} {o o' : P2} (ho : OpR X (compareOp op) r) (ho' : OpR X (compareOp op') r') (h2 : Op2 t r o) (h2' : Op2 t r' o') (ha : SE X t W a ma) (hb : SE X t W b mb) (hc : SE X t W c mc)
    (hm : lastMarks [op, op'] [b, c] = false := by with_unfolding_all rfl) : SE X t W (.Compare a [op, op'] [b, c] pos) (eCh o o' ma mb mc) :=
  (pe_chain ho ho' ha hb hc hm).imp fun σ H Q ⟨am, r, s, en, mm, h⟩ => tyE.of en mm h fun d1 s1 am1 H1 v1 en1 m1 p1 r1 h1 => tyE.of en1 m1 h1 fun d2 s2 am2 H2 v2 en2 m2 p2 r2 h3 => by
    refine h2 am2 s2 H2 d1 d2 v1 v2 (W σ) _ m2 (r1.mono p2) r2 (h3.seq fun z s3 am3 H3 v3 p3 m3 r3 h4 => ?_)
    cases z with
    | bl k =>
      refine ⟨k, r3, ?_⟩
      cases k with
      | true => exact tyE.of (en2.mono p3) m3 h4 fun d4 s4 am4 H4 v4 en4 m4 p4 r4 h5 => h2' am4 s4 H4 d2 d4 v2 v4 _ Q m4 ((r2.mono p3).mono p4) r4 h5
      | false => exact h4.ok0 m3 rfl
    | _ => exact h4.elim
theorem s_tchain {op op' : CmpOp} {r r' : R2} {o o' : P2} (ho : OpR X (compareOp op) r) (ho' : OpR X (compareOp op') r') (h2 : Op2 t r o) (h2' : Op2 t r' o') (ha : SE X t W a ma) (hb : SE X t W b mb) (hc : SE X t W c mc)
    (hm : lastMarks [op, op'] [b, c] = false := by with_unfolding_all rfl) : ST X t W (.Compare a [op, op'] [b, c] pos) (tst (eCh o o' ma mb mc)) :=
  (pt_chain ho ho' ha hb hc hm).imp fun σ H Q ⟨am, r, s, en, mm, h⟩ => by
    have h : RQ t am H ((ma r s).bind fun x s1 => (mb r s1).bind fun y s2 => (o x y s2).bind fun z s3 => match z with
      | .bl true => (mc r s3).bind fun w s4 => (o' y w s4).bind fun z s5 => match z with
        | .bl b => .ok b s5
        | _ => .stk
      | .bl false => .ok false s3
      | _ => .stk) repB (W σ) Q := by
      have e : tst (eCh o o' ma mb mc) r s = ((ma r s).bind fun x s1 => (mb r s1).bind fun y s2 => (o x y s2).bind fun z s3 => match z with
        | .bl true => (mc r s3).bind fun w s4 => (o' y w s4).bind fun z s5 => match z with
          | .bl b => .ok b s5
          | _ => .stk
        | .bl false => .ok false s3
        | _ => .stk) := by
        unfold tst eCh
        cases ma r s with
        | ok x s1 =>
          simp only [Rs.bind_ok]
          cases mb r s1 with
          | ok y s2 =>
            simp only [Rs.bind_ok]
            cases o x y s2 with
            | ok z s3 =>
              simp only [Rs.bind_ok]
              cases z with
              | bl k =>
                cases k with
                | true =>
                  dsimp only
                  cases mc r s3 <;> rfl
                | false => rfl
              | _ => rfl
            | exc => rfl
            | stk => rfl
          | exc => rfl
          | stk => rfl
        | exc => rfl
        | stk => rfl
      rw [← e]; exact h
    refine tyE.of en mm h fun d1 s1 am1 H1 v1 en1 m1 p1 r1 h1 => tyE.of en1 m1 h1 fun d2 s2 am2 H2 v2 en2 m2 p2 r2 h3 => ?_
    refine h2 am2 s2 H2 d1 d2 v1 v2 (W σ) _ m2 (r1.mono p2) r2 (h3.seq fun z s3 am3 H3 v3 p3 m3 r3 h4 => ?_)
    cases z with
    | bl k =>
      refine ⟨k, r3, ?_⟩
      cases k with
      | true =>
        refine tyE.of (en2.mono p3) m3 h4 fun d4 s4 am4 H4 v4 en4 m4 p4 r4 h5 => h2' am4 s4 H4 d2 d4 v2 v4 (W σ) _ m4 ((r2.mono p3).mono p4) r4 (h5.seq fun z s5 am5 H5 v5 p5 m5 r5 h6 => ?_)
        cases z with
        | bl b => exact ⟨b, r5, h6.ok0 m5 rfl⟩
        | _ => exact h6.elim
      | false => exact ⟨false, rfl, h4.ok0 m3 rfl⟩
    | _ => exact h4.elim
end
end Y

/-! Y3: the operators and built-in functions do what the plain ones say. -/
namespace Y
open PySem L2
section
variable {X : Cx} {t : Tb}
theorem Op2.or {r r' : R2} {o o' : P2} (c : D → D → S → Bool) (h : Op2 t r o) (h' : Op2 t r' o') : Op2 t (fun x y H Q => r x y H Q ∨ r' x y H Q) (fun x y s => if c x y s = true then o x y s else o' x y s) :=
  fun am s H d1 d2 v1 v2 Ex Q m r1 r2 q => by
    by_cases e : c d1 d2 s = true
    · simp only [e, if_true] at q
      exact .inl (h am s H d1 d2 v1 v2 Ex Q m r1 r2 q)
    · simp only [e, if_false] at q
      exact .inr (h' am s H d1 d2 v1 v2 Ex Q m r1 r2 q)
theorem Rep.intE {am : List Addr} {H : Hp} {i : Int} {v : V} (h : Rep t am H (.int i) v) : v = .int i := h
theorem Rep.blE {am : List Addr} {H : Hp} {i : Bool} {v : V} (h : Rep t am H (.bl i) v) : v = .bl i := h
theorem Rep.strE {am : List Addr} {H : Hp} {i : Str} {v : V} (h : Rep t am H (.str i) v) : v = .str i := h
theorem Rep.tupE {am : List Addr} {H : Hp} {ds : List D} {v : V} (h : Rep t am H (.tup ds) v) : ∃ a vs, v = .ref a ∧ SqT t.K H a vs ∧ Reps t am H ds vs := let ⟨a, vs, e, h1, h2⟩ := h; ⟨a, vs, e, .of h1, h2⟩
theorem Rep.tupH {am : List Addr} {H : Hp} {ds : List D} {v : V} (h : Rep t am H (.tup ds) v) : ∃ a vs, v = .ref a ∧ H a = some (.tup vs) ∧ Reps t am H ds vs := h
theorem Rep.frlE {am : List Addr} {H : Hp} {ds : List D} {v : V} (h : Rep t am H (.frl ds) v) : ∃ a vs, v = .ref a ∧ FrL t.K H a vs ∧ Reps t am H ds vs := h
theorem Rep.refE {am : List Addr} {H : Hp} {n : Nat} {v : V} (h : Rep t am H (.ref n) v) : ∃ a, v = .ref a ∧ am[n]? = some a := h
/-- what stands at a place of the store -/
theorem Ms.at {am : List Addr} {s : S} {H : Hp} (m : Ms t am s H) {n : Nat} {a : Addr} {o : O} (e : s[n]? = some o) (h : am[n]? = some a) : OM t am H o a := by
  obtain ⟨a', h1, h2⟩ := m.ob n o e
  rw [h] at h1; cases h1
  exact h2
theorem Ms.lst {am : List Addr} {s : S} {H : Hp} (m : Ms t am s H) {n : Nat} {a : Addr} {ds : List D} (e : s[n]? = some (.lst ds)) (h : am[n]? = some a) : ∃ vs, H a = some (.lst vs) ∧ Reps t am H ds vs := m.at e h
/-- a new list -/
theorem new_list {am : List Addr} {s : S} {H : Hp} {Ex : XK} {Q : VK} {ds : List D} {vs : List V} (m : Ms t am s H) (h : RQ t am H (.ok (.ref s.length) (s ++ [.lst ds])) (Rep t) Ex Q) (r : Reps t am H ds vs) : ∀ p, H p = none → Q (.ref p) (L2.upd H p (.lst vs)) := fun p hp =>
  h.ok (.new hp) (m.new hp ⟨vs, upd_same, r.mono (.new hp)⟩) ⟨p, rfl, by rw [← m.len]; simp⟩
theorem new_tup {am : List Addr} {s : S} {H : Hp} {Ex : XK} {Q : VK} {ds : List D} {vs : List V} (m : Ms t am s H) (h : RQ t am H (.ok (.tup ds) s) (Rep t) Ex Q) (r : Reps t am H ds vs) : ∀ p, H p = none → Q (.ref p) (L2.upd H p (.tup vs)) := fun p hp =>
  h.ok (.upd hp) (m.upd hp) ⟨p, vs, rfl, upd_same, r.mono (.upd hp)⟩

/-! ### + -/
def rAdd4 (K : PySem.W.Frag) : R2 := fun x y H Q => rI0 (fun i j => .int (i + j)) x y H Q ∨ (∃ i j, x = .str i ∧ y = .str j ∧ i.length + j.length ≤ sizeLine ∧ Q (.str (i ++ j)) H) ∨ rCatA K x y H Q ∨ rCat x y H Q
theorem op_add4 : OpR X (binaryOp .Add) (rAdd4 X.K) := op_add.or (op_add_str.or (op_catA.or op_cat))
theorem o_add : Op2 t (rAdd4 t.K) oAdd := fun am s H d1 d2 v1 v2 Ex Q m r1 r2 q => by
  unfold oAdd at q
  split at q
  · cases r1.intE; cases r2.intE
    exact .inl ⟨_, _, rfl, rfl, q.ok0 m rfl⟩
  · cases r1.strE; cases r2.strE
    rename_i a b
    by_cases hl : a.length + b.length ≤ LINE
    · rw [if_pos hl] at q
      exact .inr (.inl ⟨_, _, rfl, rfl, line_le hl, q.ok0 m rfl⟩)
    · rw [if_neg hl] at q; exact q.elim
  · rename_i xs ys
    obtain ⟨a, vs, rfl, h1, h2⟩ := r1.tupH
    obtain ⟨b, ws, rfl, h3, h4⟩ := r2.tupH
    by_cases hl : xs.length + ys.length ≤ LINE
    · rw [if_pos hl] at q
      refine .inr (.inr (.inl ⟨a, b, vs, ws, rfl, rfl, .of h1, .of h3, by rw [← h2.length, ← h4.length]; exact line_le hl, fun e => ?_, fun _ e => ?_, fun _ _ => new_tup m q (h2.append h4)⟩))
      · rw [h2.nil_iff.mpr e, List.nil_append] at q
        exact q.ok0 m ⟨b, ws, rfl, h3, h4⟩
      · rw [h4.nil_iff.mpr e, List.append_nil] at q
        exact q.ok0 m ⟨a, vs, rfl, h1, h2⟩
    · rw [if_neg hl] at q; exact q.elim
  · obtain ⟨a, rfl, ha⟩ := r1.refE
    obtain ⟨b, rfl, hb⟩ := r2.refE
    split at q
    · rename_i xs ys e1 e2
      obtain ⟨vs, h1, h2⟩ := m.lst e1 ha
      obtain ⟨ws, h3, h4⟩ := m.lst e2 hb
      by_cases hl : xs.length + ys.length ≤ LINE
      · rw [if_pos hl] at q
        exact .inr (.inr (.inr ⟨a, b, vs, ws, rfl, rfl, h1, h3, by rw [← h2.length, ← h4.length]; exact line_le hl, new_list m q (h2.append h4)⟩))
      · rw [if_neg hl] at q; exact q.elim
    · exact q.elim
  · exact q.elim
theorem o_sub : Op2 t (rI0 fun i j => .int (i - j)) oSub := fun am s H d1 d2 v1 v2 Ex Q m r1 r2 q => by
  unfold oSub at q
  split at q
  · cases r1.intE; cases r2.intE
    exact ⟨_, _, rfl, rfl, q.ok0 m rfl⟩
  · exact q.elim

/-! ### *, //, %, ** -/
theorem natAbs_lt {i : Int} (h : i.natAbs < 18446744073709551616) : -(2 ^ 64) < i ∧ i < 2 ^ 64 := by omega
def rMul2 : R2 := fun x y H Q => (rI CMul fun i j => .int (i * j)) x y H Q ∨ (rI CMulW fun i j => .int (i * j)) x y H Q ∨ rRep x y H Q
theorem op_mul2 : OpR X (binaryOp .Mult) rMul2 := op_mul.or (op_mulW.or op_rep)
theorem Reps.rep {am : List Addr} {H : Hp} {ds : List D} {vs : List V} (h : Reps t am H ds vs) : ∀ k : Nat, Reps t am H (List.replicate k ds).flatten (List.replicate k vs).flatten
  | 0 => by simp [Reps]
  | k + 1 => by
    rw [List.replicate_succ, List.replicate_succ, List.flatten_cons, List.flatten_cons]
    exact h.append (Reps.rep h k)
theorem o_mul : Op2 t rMul2 oMul := fun am s H d1 d2 v1 v2 Ex Q m r1 r2 q => by
  unfold oMul at q
  split at q
  · rename_i i j
    cases r1.intE; cases r2.intE
    by_cases hm : mulOk i j = true
    · rw [if_pos hm] at q
      unfold mulOk at hm
      simp only [Bool.or_eq_true, decide_eq_true_eq] at hm
      rcases hm with (h | h) | h
      · exact .inl ⟨_, _, rfl, rfl, .inl (natAbs_lt h), q.ok0 m rfl⟩
      · exact .inl ⟨_, _, rfl, rfl, .inr (natAbs_lt h), q.ok0 m rfl⟩
      · exact .inr (.inl ⟨_, _, rfl, rfl, h, q.ok0 m rfl⟩)
    · rw [if_neg hm] at q; exact q.elim
  · rename_i a k
    obtain ⟨a, rfl, ha⟩ := r1.refE
    cases r2.intE
    split at q
    · rename_i xs e1
      obtain ⟨vs, h1, h2⟩ := m.lst e1 ha
      by_cases hl : k.natAbs < 1000000000 ∧ xs.length * k.toNat ≤ LINE
      · rw [if_pos hl] at q
        exact .inr (.inr ⟨a, k, vs, rfl, rfl, h1, by omega, by omega, by rw [← h2.length]; exact line_le hl.2, new_list m q (h2.rep _)⟩)
      · rw [if_neg hl] at q; exact q.elim
    · exact q.elim
  · exact q.elim
def CDivG (i j : Int) : Prop := j ≠ 0 ∧ j.natAbs.log2 < 9000
theorem op_divG : OpR X (binaryOp .FloorDiv) (rI CDivG fun i j => .int (pdiv i j)) := opI fun i j _ _ _ _ _ hc q => by
  refine PyProof.Rows.floordiv_int hc.1 ?_ (.inl (PyProof.noPylong_of_log2 hc.2))
  unfold pdiv at q
  by_cases h : 0 < j
  · rw [if_pos h] at q
    rw [Int.fdiv_eq_ediv_of_nonneg i (by omega)]; exact q
  · rw [if_neg h] at q; exact q
theorem op_modG : OpR X (binaryOp .Mod) (rI (fun _ j => j ≠ 0) fun i j => .int (pmod i j)) := opI fun i j _ _ _ _ _ hc q => by
  refine PyProof.Rows.mod_int' hc ?_
  unfold pmod at q
  by_cases h : 0 < j
  · rw [if_pos h] at q
    rw [Int.fmod_eq_emod_of_nonneg i (by omega)]; exact q
  · rw [if_neg h] at q; exact q
theorem o_div : Op2 t (rI CDivG fun i j => .int (pdiv i j)) oDiv := fun am s H d1 d2 v1 v2 Ex Q m r1 r2 q => by
  unfold oDiv at q
  split at q
  · rename_i i j
    cases r1.intE; cases r2.intE
    by_cases hm : j ≠ 0 ∧ j.natAbs.log2 < 9000
    · rw [if_pos hm] at q
      exact ⟨_, _, rfl, rfl, hm, q.ok0 m rfl⟩
    · rw [if_neg hm] at q; exact q.elim
  · exact q.elim
theorem o_mod : Op2 t (rI (fun _ j => j ≠ 0) fun i j => .int (pmod i j)) oMod := fun am s H d1 d2 v1 v2 Ex Q m r1 r2 q => by
  unfold oMod at q
  split at q
  · rename_i i j
    cases r1.intE; cases r2.intE
    by_cases hm : j ≠ 0
    · rw [if_pos hm] at q
      exact ⟨_, _, rfl, rfl, hm, q.ok0 m rfl⟩
    · rw [if_neg hm] at q; exact q.elim
  · exact q.elim
theorem o_pow : Op2 t (rI CPow fun i j => .int (i ^ j.toNat)) oPow := fun am s H d1 d2 v1 v2 Ex Q m r1 r2 q => by
  unfold oPow at q
  split at q
  · rename_i i j
    cases r1.intE; cases r2.intE
    by_cases hm : 0 ≤ j ∧ j ≤ 1000000 ∧ i.natAbs < 18446744073709551616
    · rw [if_pos hm] at q
      exact ⟨_, _, rfl, rfl, ⟨hm.1, hm.2.1, hm.2.2⟩, q.ok0 m rfl⟩
    · rw [if_neg hm] at q; exact q.elim
  · exact q.elim
theorem o_neg : Op1 t (rU fun i => .int (-i)) oNeg := fun am s H d v Ex Q m r q => by
  unfold oNeg at q
  split at q
  · cases r.intE
    exact ⟨_, rfl, q.ok0 m rfl⟩
  · exact q.elim

/-! ### comparisons -/
theorem o_lt : Op2 t (rI0 fun i j => .bl (decide (i < j))) oLt := fun am s H d1 d2 v1 v2 Ex Q m r1 r2 q => by
  unfold oLt at q
  split at q
  · cases r1.intE; cases r2.intE
    exact ⟨_, _, rfl, rfl, q.ok0 m rfl⟩
  · exact q.elim
theorem o_le : Op2 t (rI0 fun i j => .bl (decide (i ≤ j))) oLe := fun am s H d1 d2 v1 v2 Ex Q m r1 r2 q => by
  unfold oLe at q
  split at q
  · cases r1.intE; cases r2.intE
    exact ⟨_, _, rfl, rfl, q.ok0 m rfl⟩
  · exact q.elim
theorem o_gt : Op2 t (rI0 fun i j => .bl (decide (j < i))) oGt := fun am s H d1 d2 v1 v2 Ex Q m r1 r2 q => by
  unfold oGt at q
  split at q
  · cases r1.intE; cases r2.intE
    exact ⟨_, _, rfl, rfl, q.ok0 m rfl⟩
  · exact q.elim
theorem o_ge : Op2 t (rI0 fun i j => .bl (decide (j ≤ i))) oGe := fun am s H d1 d2 v1 v2 Ex Q m r1 r2 q => by
  unfold oGe at q
  split at q
  · cases r1.intE; cases r2.intE
    exact ⟨_, _, rfl, rfl, q.ok0 m rfl⟩
  · exact q.elim
theorem mapO_dp {am : List Addr} {s : S} {H : Hp} {f : D → Option PyData} (hf : ∀ d p v, f d = some p → Rep t am H d v → Dp t.K H v p) : ∀ (ds : List D) (ps : List PyData) (vs : List V), mapO f ds = some ps → Reps t am H ds vs → DpAll t.K H vs ps
  | [], ps, vs, h, r => by
    have e : vs = [] := r
    subst e
    cases h
    exact .nil
  | d :: ds, ps, vs, h, r => by
    obtain ⟨v, w, e, r1, r2⟩ := r
    subst e
    unfold mapO at h
    split at h
    · rename_i p qs e1 e2
      cases h
      exact .cons (hf _ _ _ e1 r1) (mapO_dp (s := s) hf ds qs w e2 r2)
    · cases h
theorem py_dp {am : List Addr} {s : S} {H : Hp} (m : Ms t am s H) : ∀ (k : Nat) (d : D) (p : PyData) (v : V), D.py s k d = some p → Rep t am H d v → Dp t.K H v p
  | 0, d, p, v, h, r => by
    unfold D.py at h
    cases d <;> first | (cases h; cases r; constructor) | (cases h)
  | k + 1, d, p, v, h, r => by
    unfold D.py at h
    cases d with
    | undef => cases h
    | fn i => cases h
    | non => cases h; cases r; constructor
    | bl b => cases h; cases r; constructor
    | int i => cases h; cases r; constructor
    | str x => cases h; cases r; constructor
    | tup xs =>
      obtain ⟨a, vs, rfl, h1, h2⟩ := r.tupE
      simp only [Option.map_eq_some_iff] at h
      obtain ⟨ps, e, rfl⟩ := h
      exact .tup h1 (mapO_dp (s := s) (fun d p v => py_dp m k d p v) xs ps vs e h2)
    | frl xs =>
      obtain ⟨a, vs, rfl, h1, h2⟩ := r.frlE
      simp only [Option.map_eq_some_iff] at h
      obtain ⟨ps, e, rfl⟩ := h
      exact .lst h1.sq (mapO_dp (s := s) (fun d p v => py_dp m k d p v) xs ps vs e h2)
    | ref n =>
      obtain ⟨a, rfl, ha⟩ := r.refE
      simp only at h
      split at h
      · rename_i xs e1
        obtain ⟨vs, h1, h2⟩ := m.lst e1 ha
        simp only [Option.map_eq_some_iff] at h
        obtain ⟨ps, e, rfl⟩ := h
        exact .lst (.of h1) (mapO_dp (s := s) (fun d p v => py_dp m k d p v) xs ps vs e h2)
      · cases h
theorem eqD_dp {am : List Addr} {s : S} {H : Hp} (m : Ms t am s H) {d1 d2 : D} {v1 v2 : V} {b : Bool} (h : eqD d1 d2 s = some b) (r1 : Rep t am H d1 v1) (r2 : Rep t am H d2 v2) :
    ∃ d e, Dp t.K H v1 d ∧ Dp t.K H v2 e ∧ SeqAt.shaped d = true ∧ SeqAt.shaped e = true ∧ PyData.eqv d e = b := by
  unfold eqD at h
  split at h
  · rename_i p q e1 e2
    split at h
    · rename_i hs
      cases h
      exact ⟨p, q, py_dp m _ _ _ _ e1 r1, py_dp m _ _ _ _ e2 r2, hs.1, hs.2, rfl⟩
    · cases h
  · cases h
theorem o_eq : Op2 t (rEqD t.K) oEq := fun am s H d1 d2 v1 v2 Ex Q m r1 r2 q => by
  unfold oEq at q
  split at q
  · rename_i b e
    obtain ⟨d, e', h1, h2, h3, h4, rfl⟩ := eqD_dp m e r1 r2
    exact ⟨d, e', h1, h2, h3, h4, q.ok0 m rfl⟩
  · exact q.elim
theorem o_ne : Op2 t (rNeD t.K) oNe := fun am s H d1 d2 v1 v2 Ex Q m r1 r2 q => by
  unfold oNe at q
  split at q
  · rename_i b e
    obtain ⟨d, e', h1, h2, h3, h4, rfl⟩ := eqD_dp m e r1 r2
    exact ⟨d, e', h1, h2, h3, h4, q.ok0 m rfl⟩
  · exact q.elim
theorem o_isB : Op2 t rIsB oIsB := fun am s H d1 d2 v1 v2 Ex Q m r1 r2 q => by
  unfold oIsB at q
  split at q
  · cases r1.blE; cases r2.blE
    exact ⟨_, _, rfl, rfl, q.ok0 m rfl⟩
  · exact q.elim
/-- is None -/
theorem rep_non {am : List Addr} {H : Hp} {d : D} {v : V} (r : Rep t am H d v) : decide (v = V.non) = (match d with | .non => true | _ => false) := by
  cases d with
  | undef => exact r.elim
  | non => cases (show v = V.non from r); rfl
  | bl b => cases r.blE; rfl
  | int b => cases r.intE; rfl
  | str b => cases r.strE; rfl
  | tup ds => obtain ⟨a, vs, rfl, _⟩ := r.tupE; rfl
  | frl ds => obtain ⟨a, vs, rfl, _⟩ := r.frlE; rfl
  | ref n => obtain ⟨a, rfl, _⟩ := r.refE; rfl
  | fn n => obtain ⟨a, rfl, _⟩ := r; rfl
end
section
variable {X : Cx} {t : Tb} {W : XW} {a b : Expr} {ma mb : E} {pos : Pos}
theorem s_isN {j pos'} (ha : SE X t W a ma) : SE X t W (.Compare a [.Is] [.Constant .none j pos'] pos) (e1 oIsN ma) :=
  (pe_cmpR op_isN ha pe_non (nomark _)).imp fun σ H Q ⟨am, r, s, en, mm, h⟩ => tyE.of en mm h fun d1 s1 am1 H1 v1 en1 m1 p1 r1 h1 => by
    refine ⟨rfl, ?_⟩
    rw [rep_non r1]
    cases d1 <;> first | exact h1.elim | exact h1.ok0 m1 rfl
theorem s_notN {j pos'} (ha : SE X t W a ma) : SE X t W (.Compare a [.IsNot] [.Constant .none j pos'] pos) (e1 oNotN ma) :=
  (pe_cmpR op_notN ha pe_non (nomark _)).imp fun σ H Q ⟨am, r, s, en, mm, h⟩ => tyE.of en mm h fun d1 s1 am1 H1 v1 en1 m1 p1 r1 h1 => by
    refine ⟨rfl, ?_⟩
    rw [rep_non r1]
    cases d1 <;> first | exact h1.elim | exact h1.ok0 m1 rfl
theorem s_isB {e : Expr} {m : E} (ha : SE X t W a ma) (hb : SE X t W e m) : SE X t W (.Compare a [.Is] [e] pos) (e2 oIsB ma m) := s_cmp op_isBl o_isB ha hb (nomark _)
end

/-! ### places -/
section
variable {X : Cx} {t : Tb}
theorem seqX_of {am : List Addr} {s : S} {H : Hp} (m : Ms t am s H) {d : D} {v : V} {xs : List D} (r : Rep t am H d v) (h : seqX d s = some xs) : ∃ a vs, v = .ref a ∧ Reps t am H xs vs ∧ (SqL t.K H a vs ∨ SqT t.K H a vs) := by
  unfold seqX at h
  split at h
  · cases h
    obtain ⟨a, vs, e, h1, h2⟩ := r.tupE
    exact ⟨a, vs, e, h2, .inr h1⟩
  · unfold seqL at h
    split at h
    · split at h
      · cases h
        rename_i e1
        obtain ⟨a, e, ha⟩ := r.refE
        obtain ⟨vs, h1, h2⟩ := m.lst e1 ha
        exact ⟨a, vs, e, h2, .inl (.of h1)⟩
      · cases h
    · cases h
      obtain ⟨a, vs, e, h1, h2⟩ := r.frlE
      exact ⟨a, vs, e, h2, .inl h1.sq⟩
    · cases h
theorem seqL_of {am : List Addr} {s : S} {H : Hp} (m : Ms t am s H) {d : D} {v : V} {xs : List D} (r : Rep t am H d v) (h : seqL d s = some xs) : ∃ a vs, v = .ref a ∧ Reps t am H xs vs ∧ SqL t.K H a vs := by
  unfold seqL at h
  split at h
  · split at h
    · cases h
      rename_i e1
      obtain ⟨a, e, ha⟩ := r.refE
      obtain ⟨vs, h1, h2⟩ := m.lst e1 ha
      exact ⟨a, vs, e, h2, .of h1⟩
    · cases h
  · cases h
    obtain ⟨a, vs, e, h1, h2⟩ := r.frlE
    exact ⟨a, vs, e, h2, h1.sq⟩
  · cases h
theorem atD_at {am : List Addr} {H : Hp} {xs : List D} {vs : List V} {i : Int} {d : D} (r : Reps t am H xs vs) (h : atD xs i = some d) : ∃ v, atI vs i = some v ∧ Rep t am H d v := by
  unfold atD at h
  have hl := r.length
  unfold atI L2.ixN
  by_cases h0 : 0 ≤ i
  · rw [if_pos h0] at h ⊢
    by_cases h1 : i < xs.length
    · rw [if_pos h1] at h
      rw [if_pos (by rw [← hl]; exact h1)]
      exact r.get h
    · rw [if_neg h1] at h; cases h
  · rw [if_neg h0] at h ⊢
    by_cases h1 : -(xs.length : Int) ≤ i
    · rw [if_pos h1] at h
      rw [if_pos (by rw [← hl]; exact h1), ← hl]
      exact r.get h
    · rw [if_neg h1] at h; cases h
def rIx2 (K : PySem.W.Frag) : R2 := fun x y H Q => rIxL K x y H Q ∨ rIxT K x y H Q
theorem ix_2 : IxR X (rIx2 X.K) := ix_list.or ix_tup
theorem o_ix : Op2 t (rIx2 t.K) oIx := fun am s H d1 d2 v1 v2 Ex Q m r1 r2 q => by
  unfold oIx at q
  split at q
  · cases r2.intE
    split at q
    · rename_i xs e
      split at q
      · rename_i d e2
        obtain ⟨a, vs, rfl, rv, h | h⟩ := seqX_of m r1 e
        · obtain ⟨v, h1, h2⟩ := atD_at rv e2
          exact .inl ⟨a, vs, _, v, rfl, rfl, h, h1, q.ok0 m h2⟩
        · obtain ⟨v, h1, h2⟩ := atD_at rv e2
          exact .inr ⟨a, vs, _, v, rfl, rfl, h, h1, q.ok0 m h2⟩
      · exact q.elim
    · exact q.elim
  · exact q.elim
theorem cutIx_eq (n d : Nat) (o : Option Int) : cutIx n d o = HT.sIx n d o := by cases o <;> rfl
theorem Reps.cut {am : List Addr} {H : Hp} {xs : List D} {vs : List V} (r : Reps t am H xs vs) (lo hi : Option Int) : Reps t am H (cutD xs lo hi) (cutV vs lo hi) := by
  unfold cutD cutV
  rw [cutIx_eq, cutIx_eq, r.length]
  exact (r.drop _).take _
end
section
variable {X : Cx} {t : Tb} {W : XW} {e : Expr} {m : E} {pos p2 : Pos}
def SPt (X : Cx) (t : Tb) (W : XW) (e : Option Expr) (p : Part) : Prop := match e, p with
  | none, .no => True
  | some e, .at m => SE X t W e m
  | _, _ => False
def tyO (t : Tb) (W : XW) (p : Part) : TO := fun σ H Q => ∃ am r s, EnvR t am H r σ ∧ Ms t am s H ∧ RQ t am H (p.run r s) (fun _ _ a b => a = b) (W σ) Q
theorem po_of {lo : Option Expr} {p : Part} (h : SPt X t W lo p) : PO X lo (tyO t W p) := by
  cases lo with
  | none =>
    cases p with
    | no => exact ⟨fun pins s σ H Q I ⟨am, r, s', en, mm, q⟩ => po_none.run pins s σ H Q I (q.ok0 mm rfl)⟩
    | «at» m => exact h.elim
  | some e =>
    cases p with
    | no => exact h.elim
    | «at» m =>
      refine ⟨fun pins s σ H Q I ⟨am, r, s', en, mm, q⟩ => (po_some (X := X) (e := e) (te := tyE t W m) h).run pins s σ H Q I ?_⟩
      refine tyE.of en mm q fun d s1 am1 H1 v en1 m1 p1 r1 h1 => ?_
      cases d with
      | int i => exact ⟨i, r1, h1.ok0 m1 rfl⟩
      | _ => exact h1.elim
theorem tyO.of {p : Part} {σ : L2.St} {H : Hp} {am : List Addr} {r : Env} {s : S} {α β : Type} {f : Option Int → S → Rs α} {rep : List Addr → Hp → α → β → Prop} {Q : β → Hp → Prop} {K : Option Int → Hp → Prop} (en : EnvR t am H r σ) (mm : Ms t am s H)
    (h : RQ t am H ((p.run r s).bind f) rep (W σ) Q)
    (hk : ∀ d s1 am1 H1, EnvR t am1 H1 r σ → Ms t am1 s1 H1 → Post am H am1 H1 → RQ t am1 H1 (f d s1) rep (W σ) Q → K d H1) : tyO t W p σ H K :=
  ⟨am, r, s, en, mm, h.seq fun d s1 am1 H1 v p m1 rp h1 => by cases rp; exact hk d s1 am1 H1 (en.mono p) m1 p h1⟩
def rSl2 (K : PySem.W.Frag) : V → Option Int → Option Int → Hp → VK → Prop := fun x lo hi H Q => rSlA K x lo hi H Q ∨ rSlL K x lo hi H Q
theorem sl_2 : SlR X (rSl2 X.K) := sl_tupA.or sl_list
theorem s_cut {lo hi : Option Expr} {pl ph : Part} (hK : X.K = t.K) (he : SE X t W e m) (hl : SPt X t W lo pl) (hh : SPt X t W hi ph) : SE X t W (.Subscript e (.Slice lo hi none p2) pos) (eCut m pl ph) :=
  (pe_slice sl_2 he (po_of hl) (po_of hh)).imp fun σ H Q ⟨am, r, s, en, mm, h⟩ => tyE.of en mm h fun d1 s1 am1 H1 v1 en1 m1 p1 r1 h1 => tyO.of en1 m1 h1 fun l s2 am2 H2 en2 m2 p2 h2 => tyO.of en2 m2 h2 fun u s3 am3 H3 en3 m3 p3 h3 => by
    have r3 := (r1.mono p2).mono p3
    unfold rSl2
    rw [hK]
    split at h3
    · rename_i xs
      obtain ⟨a, vs, rfl, h4, h5⟩ := r3.tupH
      refine .inl ⟨a, vs, rfl, .of h4, fun hw => ?_, fun hw => new_tup m3 h3 (h5.cut l u)⟩
      have e : cutD xs l u = xs := by
        unfold cutD
        rw [cutIx_eq, cutIx_eq, h5.length, hw.1, hw.2, List.drop_zero, Nat.sub_zero, ← h5.length, List.take_length]
      rw [e] at h3
      exact h3.ok0 m3 ⟨a, vs, rfl, h4, h5⟩
    · split at h3
      · rename_i xs e
        obtain ⟨a, vs, rfl, rv, hs⟩ := seqL_of m3 r3 e
        exact .inr ⟨a, vs, rfl, hs, new_list m3 h3 (rv.cut l u)⟩
      · exact h3.elim
end
end Y

/-! Y4: statements, loops, comprehensions. -/
namespace Y
open PySem L2

/-- what is wanted of a statement's end -/
def FQ (t : Tb) (am : List Addr) (H : Hp) (x : F) (W : XW) (Dn : Ends) : Prop := match x with
  | .nx r s => ∀ am' H' σ', Post am H am' H' → Ms t am' s H' → EnvR t am' H' r σ' → Dn.nx σ' H'
  | .rt d s => ∀ am' H' v, Post am H am' H' → Ms t am' s H' → Rep t am' H' d v → Dn.rt v H'
  | .bk r s => ∀ am' H' σ', Post am H am' H' → Ms t am' s H' → EnvR t am' H' r σ' → Dn.bk σ' H'
  | .ct r s => ∀ am' H' σ', Post am H am' H' → Ms t am' s H' → EnvR t am' H' r σ' → Dn.ct σ' H'
  | .exc c fs r s => ∀ am' H' σ' cls dd, Post am H am' H' → Ms t am' s H' → EnvR t am' H' r σ' → XRep t c fs am' H' cls dd → W σ' cls dd H'
  | .stk => False
def tyS (t : Tb) (W : XW) (m : Sm) : TS := fun Dn σ H => ∃ am r s, EnvR t am H r σ ∧ Ms t am s H ∧ FQ t am H (m r s) W Dn
def SS (X : Cx) (t : Tb) (W : XW) (st : Stmt) (m : Sm) : Prop := PS X st (tyS t W m)
def SSs (X : Cx) (t : Tb) (W : XW) (st : List Stmt) (m : Sm) : Prop := PSs X st (tyS t W m)

section
variable {t : Tb} {am am1 : List Addr} {H H1 : Hp} {s : S} {W : XW} {Dn : Ends} {σ : L2.St} {r : Env}
theorem FQ.re {x : F} (h : FQ t am H x W Dn) (p : Post am H am1 H1) : FQ t am1 H1 x W Dn := by
  cases x with
  | nx r s => exact fun am' H' σ' q m e => h am' H' σ' (p.trans q) m e
  | rt d s => exact fun am' H' v q m e => h am' H' v (p.trans q) m e
  | bk r s => exact fun am' H' σ' q m e => h am' H' σ' (p.trans q) m e
  | ct r s => exact fun am' H' σ' q m e => h am' H' σ' (p.trans q) m e
  | exc c fs r s => exact fun am' H' σ' cls dd q m e z => h am' H' σ' cls dd (p.trans q) m e z
  | stk => exact h
theorem FQ.imp {x : F} {Dm : Ends} (h : FQ t am H x W Dn) (h1 : ∀ r s, x = .nx r s → ∀ am' H' σ', Post am H am' H' → Ms t am' s H' → EnvR t am' H' r σ' → Dn.nx σ' H' → Dm.nx σ' H') (h2 : ∀ d s, x = .rt d s → ∀ v H', Dn.rt v H' → Dm.rt v H')
    (h3 : ∀ r s, x = .bk r s → ∀ am' H' σ', Post am H am' H' → Ms t am' s H' → EnvR t am' H' r σ' → Dn.bk σ' H' → Dm.bk σ' H') (h4 : ∀ r s, x = .ct r s → ∀ am' H' σ', Post am H am' H' → Ms t am' s H' → EnvR t am' H' r σ' → Dn.ct σ' H' → Dm.ct σ' H') : FQ t am H x W Dm := by
  cases x with
  | nx r s => exact fun am' H' σ' q m e => h1 r s rfl am' H' σ' q m e (h am' H' σ' q m e)
  | rt d s => exact fun am' H' v q m e => h2 d s rfl v H' (h am' H' v q m e)
  | bk r s => exact fun am' H' σ' q m e => h3 r s rfl am' H' σ' q m e (h am' H' σ' q m e)
  | ct r s => exact fun am' H' σ' q m e => h4 r s rfl am' H' σ' q m e (h am' H' σ' q m e)
  | exc c fs r s => exact h
  | stk => exact h
/-- an expression ahead of a statement's rest -/
theorem FQ.seq {α β : Type} {x : Rs α} {f : α → S → F} {rep : List Addr → Hp → α → β → Prop} {K : β → Hp → Prop} (en : EnvR t am H r σ) (h : FQ t am H (x.then r f) W Dn)
    (hk : ∀ a s1 am1 H1 b, Post am H am1 H1 → EnvR t am1 H1 r σ → Ms t am1 s1 H1 → rep am1 H1 a b → FQ t am1 H1 (f a s1) W Dn → K b H1) : RQ t am H x rep (W σ) K := by
  cases x with
  | ok a s' => exact fun am' H' b q m z => hk a s' am' H' b q (en.mono q) m z (FQ.re (Rs.then_ok a s' r f ▸ h) q)
  | exc c fs s' => exact fun am' H' cls dd q m z => h am' H' σ cls dd q m (en.mono q) z
  | stk => exact h
theorem FQ.nx0 (h : FQ t am H (.nx r s) W Dn) (m : Ms t am s H) (e : EnvR t am H r σ) : Dn.nx σ H := h am H σ .refl m e
end
section
variable {X : Cx} {t : Tb} {W : XW} {st : Stmt} {rest body body2 : List Stmt} {e : Expr} {m : E} {a b : Sm} {pos : Pos} {mt : T}
theorem _root_.L2.PS.imp {u u' : TS} (h : PS X st u) (f : ∀ D σ H, u' D σ H → u D σ H) : PS X st u' := ⟨fun pins s σ H D I q => h.run pins s σ H D I (f D σ H q)⟩
theorem _root_.L2.PSs.imp {u u' : TS} (h : PSs X rest u) (f : ∀ D σ H, u' D σ H → u D σ H) : PSs X rest u' := ⟨fun pins s σ H D I q => h.run pins s σ H D I (f D σ H q)⟩
theorem z_nil : SSs X t W [] zNil := pss_nil.imp fun D σ H ⟨am, r, s, en, mm, h⟩ => h.nx0 mm en
theorem z_cons (h1 : SS X t W st a) (h2 : SSs X t W rest b) : SSs X t W (st :: rest) (zCons a b) :=
  (pss_cons h1 h2).imp fun D σ H ⟨am, r, s, en, mm, h⟩ => by
    refine ⟨am, r, s, en, mm, ?_⟩
    have h : FQ t am H ((a r s).andThen b) W D := h
    cases hx : a r s with
    | nx r1 s1 => rw [hx] at h; exact fun am' H' σ' q m z => ⟨am', r1, s1, z, m, FQ.re h q⟩
    | rt d s1 => rw [hx] at h; exact h
    | bk r1 s1 => rw [hx] at h; exact h
    | ct r1 s1 => rw [hx] at h; exact h
    | exc c fs r1 s1 => rw [hx] at h; exact h
    | stk => rw [hx] at h; exact h
theorem z_one (h1 : SS X t W st a) : SSs X t W [st] a := pss_one h1
theorem z_pass : SS X t W (.Pass pos) zPass := ps_pass.imp fun D σ H ⟨am, r, s, en, mm, h⟩ => h.nx0 mm en
theorem z_brk : SS X t W (.Break pos) zBrk := ps_break.imp fun D σ H ⟨am, r, s, en, mm, h⟩ => h am H σ .refl mm en
theorem z_cnt : SS X t W (.Continue pos) zCnt := ps_continue.imp fun D σ H ⟨am, r, s, en, mm, h⟩ => h am H σ .refl mm en
theorem z_expr (he : SE X t W e m) (hs : swapsWith e none pos.line X.env = pure false := by rfl) : SS X t W (.Expr e pos) (zEx m) :=
  (ps_expr he hs).imp fun D σ H ⟨am, r, s, en, mm, h⟩ => ⟨am, r, s, en, mm, FQ.seq en h fun d s1 am1 H1 v p1 en1 m1 r1 h1 => h1.nx0 m1 en1⟩
theorem z_ret (he : SE X t W e m) : SS X t W (.Return (some e) pos) (zRet m) :=
  (ps_ret he).imp fun D σ H ⟨am, r, s, en, mm, h⟩ => ⟨am, r, s, en, mm, FQ.seq en h fun d s1 am1 H1 v p1 en1 m1 r1 h1 => h1 am1 H1 v .refl m1 r1⟩
theorem z_retN : SS X t W (.Return none pos) zRetN := ps_retN.imp fun D σ H ⟨am, r, s, en, mm, h⟩ => h am H .non .refl mm rfl
theorem z_if {c : Expr} (hc : ST X t W c mt) (ha : SSs X t W body a) (hb : SSs X t W body2 b) : SS X t W (.If c body body2 pos) (zIf mt a b) :=
  (ps_if hc ha hb).imp fun D σ H ⟨am, r, s, en, mm, h⟩ => ⟨am, r, s, en, mm, FQ.seq en h fun c s1 am1 H1 v p1 en1 m1 r1 h1 => by
    cases r1
    cases c with
    | true => exact ⟨am1, r, s1, en1, m1, h1⟩
    | false => exact ⟨am1, r, s1, en1, m1, h1⟩⟩

/-! ### targets -/
def tyG (t : Tb) (g : Tg) : TG := fun v σ H Q => ∃ am r s d, EnvR t am H r σ ∧ Ms t am s H ∧ Rep t am H d v ∧ ∃ r2 s2, g d r s = some (r2, s2) ∧ ∀ am' H' σ', Post am H am' H' → Ms t am' s2 H' → EnvR t am' H' r2 σ' → Q σ' H'
def tyGs (t : Tb) (g : List D → Env → S → Option (Env × S)) : TGs := fun vs σ H Q => ∃ am r s ds, EnvR t am H r σ ∧ Ms t am s H ∧ Reps t am H ds vs ∧ ∃ r2 s2, g ds r s = some (r2, s2) ∧ ∀ am' H' σ', Post am H am' H' → Ms t am' s2 H' → EnvR t am' H' r2 σ' → Q σ' H'
def SG (X : Cx) (t : Tb) (e : Expr) (g : Tg) : Prop := PG X e (tyG t g)
def SGs (X : Cx) (t : Tb) (es : List Expr) (g : List D → Env → S → Option (Env × S)) : Prop := PGs X es (tyGs t g)
theorem _root_.L2.PG.imp {u u' : TG} (h : PG X e u) (f : ∀ v σ H Q, u' v σ H Q → u v σ H Q) : PG X e u' := ⟨fun pins s σ H v u Q I r q => h.run pins s σ H v u Q I r (f v σ H Q q)⟩
theorem _root_.L2.PGs.imp {es : List Expr} {u u' : TGs} (h : PGs X es u) (f : ∀ v σ H Q, u' v σ H Q → u v σ H Q) : PGs X es u' := ⟨fun pins s σ H v u Q I r q => h.run pins s σ H v u Q I r (f v σ H Q q)⟩
theorem g_name {i : Nat} {x : Str} (hN : X.N.Nodup) (hi : X.N[i]? = some x) (hx : Loc X.env.scope x) (hf : X.fn x = true ∨ X.env.scope.names.lookup x = some .local := by first | exact .inl rfl | exact .inr rfl | assumption) : SG X t (.Name x pos) (gV i) :=
  (pg_name hN hi hx hf).imp fun v σ H Q ⟨am, r, s, d, en, mm, rp, r2, s2, e, q⟩ => by
    unfold gV at e
    split at e
    · cases e
      exact q am H _ .refl mm (en.set i rp)
    · cases e
theorem gs_nil : SGs X t [] gsN := pgs_nil.imp fun v σ H Q ⟨am, r, s, ds, en, mm, rp, r2, s2, e, q⟩ => by
  unfold gsN at e
  split at e
  · rename_i hd
    cases e
    have : ds = [] := by simpa using hd
    subst this
    exact ⟨rp, q am H σ .refl mm en⟩
  · cases e
theorem gs_cons {es : List Expr} {g : Tg} {u : List D → Env → S → Option (Env × S)} (h1 : SG X t e g) (h2 : SGs X t es u) (hs : (assignEach (e :: es) X.env).map (·.2) = assign e X.env :: (assignEach es X.env).map (·.2) := by rfl) : SGs X t (e :: es) (gsC g u) :=
  (pgs_cons h1 h2 hs).imp fun v σ H Q ⟨am, r, s, ds, en, mm, rp, r2, s2, e, q⟩ => by
    cases ds with
    | nil => cases e
    | cons d ds =>
      obtain ⟨v1, vr, rfl, ra, rb⟩ := rp
      unfold gsC at e
      simp only at e
      split at e
      · rename_i r1 s1 e1
        refine ⟨v1, vr, rfl, am, r, s, d, en, mm, ra, r1, s1, e1, fun am' H' σ' p m z => ?_⟩
        exact ⟨am', r1, s1, ds, z, m, rb.mono p, r2, s2, e, fun am2 H2 σ2 p2 => q am2 H2 σ2 (p.trans p2)⟩
      · cases e
theorem g_tup {es : List Expr} {k : Nat} {u : List D → Env → S → Option (Env × S)} (hK : X.K = t.K) (hc : X.calm = true) (h : SGs X t es u)
    (hlen : ∀ ds r s x, u ds r s = some x → ds.length = (assignEach es X.env).length) (hst : (assignEach es X.env).findIdx? (·.1) = none := by rfl) : SG X t (.Tuple es k pos) (gT u) :=
  (pg_tup (n := (assignEach es X.env).length) hc h rfl hst).imp fun v σ H Q ⟨am, r, s, d, en, mm, rp, r2, s2, e, q⟩ => by
    cases d with
    | tup ds =>
      obtain ⟨a, vs, rfl, h1, h2⟩ := rp.tupE
      have e : u ds r s = some (r2, s2) := e
      exact ⟨a, vs, rfl, by rw [hK]; exact h1, by rw [← h2.length]; exact hlen _ _ _ _ e, am, r, s, ds, en, mm, h2, r2, s2, e, q⟩
    | _ => cases e
theorem len_gsN {ds : List D} {r : Env} {s : S} {x : Env × S} (h : gsN ds r s = some x) : ds.length = 0 := by
  unfold gsN at h
  split at h
  · rename_i hd
    have : ds = [] := by simpa using hd
    rw [this]; rfl
  · cases h
theorem len_gsC {g : Tg} {u : List D → Env → S → Option (Env × S)} {n : Nat} (hu : ∀ ds r s x, u ds r s = some x → ds.length = n) : ∀ (ds : List D) (r : Env) (s : S) (x : Env × S), gsC g u ds r s = some x → ds.length = n + 1 := fun ds r s x h => by
  cases ds with
  | nil => cases h
  | cons d ds =>
    unfold gsC at h
    simp only at h
    split at h
    · rw [List.length_cons, hu _ _ _ _ h]
    · cases h

/-! ### assignments -/
theorem z_asg {tg : Expr} {g : Tg} (he : SE X t W e m) (hg : SG X t tg g) (hs : swapsWithSole [tg] e pos.line X.env = pure false := by rfl) (hw : swappedStores [tg] e X.env = pure none := by rfl)
    (h1 : (assignEach [tg] X.env).map (·.2) = [assign tg X.env] := by rfl) : SS X t W (.Assign [tg] e pos) (zSet g m) :=
  (ps_asg he hg hs hw h1).imp fun D σ H ⟨am, r, s, en, mm, h⟩ => ⟨am, r, s, en, mm, FQ.seq en h fun d s1 am1 H1 v p1 en1 m1 r1 h1 => by
    split at h1
    · rename_i r2 s2 e2
      exact ⟨am1, r, s1, d, en1, m1, r1, r2, s2, e2, fun am' H' σ' p m z => h1 am' H' σ' p m z⟩
    · exact h1.elim⟩
theorem z_set {i : Nat} {x : Str} {pos' : Pos} (hN : X.N.Nodup) (hi : X.N[i]? = some x) (hx : Loc X.env.scope x) (he : SE X t W e m) (hs : swapsWith e (some (.Name x pos')) pos.line X.env = pure false := by rfl)
    (hf : X.fn x = true ∨ X.env.scope.names.lookup x = some .local := by first | exact .inl rfl | exact .inr rfl | assumption) : SS X t W (.Assign [.Name x pos'] e pos) (zSet (gV i) m) :=
  (ps_set hN hi hx he hs hf).imp fun D σ H ⟨am, r, s, en, mm, h⟩ => ⟨am, r, s, en, mm, FQ.seq en h fun d s1 am1 H1 v p1 en1 m1 r1 h1 => by
    unfold gV at h1
    by_cases hl : i < r.length
    · simp only [hl, if_true] at h1
      exact h1.nx0 m1 (en1.set i r1)
    · simp only [hl, if_false] at h1
      exact h1.elim⟩
theorem z_par {i j : Nat} {x y : Str} {ea eb : Expr} {ma mb : E} {px py pt : Pos} {kt k2 pt2} (hc : X.calm = true) (hN : X.N.Nodup) (hi : X.N[i]? = some x) (hj : X.N[j]? = some y) (hij : i ≠ j)
    (hx : X.env.scope.names.lookup x = some .local) (hy : X.env.scope.names.lookup y = some .local) (ha : SE X t W ea ma) (hb : SE X t W eb mb)
    (hw : swappedStores [.Tuple [.Name x px, .Name y py] kt pt] (.Tuple [ea, eb] k2 pt2) X.env = pure (some [x, y]))
    (h1 : starEach [ea, eb] X.env = (false, eval ea X.env) :: starEach [eb] X.env := by rfl) (h2 : starEach [eb] X.env = (false, eval eb X.env) :: starEach [] X.env := by rfl)
    (hs : swapsWithSole [.Tuple [.Name x px, .Name y py] kt pt] (.Tuple [ea, eb] k2 pt2) pos.line X.env = pure false := by rfl) :
    SS X t W (.Assign [.Tuple [.Name x px, .Name y py] kt pt] (.Tuple [ea, eb] k2 pt2) pos) (zPar i j ma mb) :=
  (ps_par hc hN hi hj hij hx hy (pa_cons ha (pa_cons hb pa_nil h2) h1) hw hs).imp fun D σ H ⟨am, r, s, en, mm, h⟩ => by
    refine ⟨am, r, s, en, mm, FQ.seq en h fun d1 s1 am1 H1 v1 p1 en1 m1 r1 h1 => ?_⟩
    refine ⟨am1, r, s1, en1, m1, FQ.seq en1 h1 fun d2 s2 am2 H2 v2 p2 en2 m2 r2 h2 => ?_⟩
    refine ⟨v1, v2, rfl, ?_⟩
    split at h2
    · exact h2.nx0 m2 ((en2.set i (r1.mono p2)).set j r2)
    · exact h2.elim
theorem z_aug {i : Nat} {x : Str} {op : Operator} {rr : R2} {o : P2} {pos' : Pos} (hN : X.N.Nodup) (hi : X.N[i]? = some x) (hx : Loc X.env.scope x) (he : SE X t W e m) (ho : OpR X (inplaceOp op) rr) (h2 : Op2 t rr o)
    (hf : X.fn x = true ∨ X.env.scope.names.lookup x = some .local := by first | exact .inl rfl | exact .inr rfl | assumption) : SS X t W (.AugAssign (.Name x pos') op e pos) (zAug i o m) :=
  (ps_aug hN hi hx he (ti := fun a b H Q => rr a b H Q) (fun pins s σ H x y v u Q I r1 r2 q => ho pins s σ H x y v u Q I r1 r2 q) hf).imp fun D σ H ⟨am, r, s, en, mm, h⟩ => by
    unfold zAug at h
    cases hd : r[i]? with
    | none => rw [hd] at h; exact h.elim
    | some d =>
      rw [hd] at h
      by_cases hu : d = .undef
      · subst hu; exact h.elim
      · obtain ⟨v, h1, hr⟩ := en.get i d hd hu
        have h' : FQ t am H ((m r s).then r fun y s1 => (o d y s1).then r fun z s2 => .nx (r.set i z) s2) W D := by cases d <;> first | exact h | exact absurd rfl hu
        refine ⟨v, h1, am, r, s, en, mm, FQ.seq en h' fun d1 s1 am1 H1 v1 p1 en1 m1 r1 h1 => ?_⟩
        exact h2 am1 s1 H1 d d1 v v1 (W σ) _ m1 (hr.mono p1) r1 (FQ.seq en1 h1 fun z s2 am2 H2 v2 p2 en2 m2 r2 h2 => h2.nx0 m2 (en2.set i r2))
theorem z_putL {o i : Expr} {mo mi : E} {tp : Pos} (he : SE X t W e m) (ho : SE X t W o mo) (hi : SE X t W i mi) (hs : swapsWithSole [.Subscript o i tp] e pos.line X.env = pure false := by rfl) (hw : swappedStores [.Subscript o i tp] e X.env = pure none := by rfl)
    (h1 : (assignEach [.Subscript o i tp] X.env).map (·.2) = [assign (.Subscript o i tp) X.env] := by rfl)
    (ha : ∀ v, assign (.Subscript o i tp) X.env v = (do
      let ov ← holding [v] (eval o X.env)
      let iv ← holding [v, ov] (eval i X.env)
      standAt tp
      holding [v, ov, iv] (setItem ov iv v)
      release [v, ov, iv] []) := by intro _; rfl) : SS X t W (.Assign [.Subscript o i tp] e pos) (zPutL mo mi m) :=
  (ps_asg he (pg_sub ho hi set_list ha) hs hw h1).imp fun D σ H ⟨am, r, s, en, mm, h⟩ => by
    refine ⟨am, r, s, en, mm, FQ.seq en h fun d1 s1 am1 H1 v1 p1 en1 m1 r1 h1 => ?_⟩
    refine ⟨am1, r, s1, en1, m1, FQ.seq en1 h1 fun d2 s2 am2 H2 v2 p2 en2 m2 r2 h2 => ?_⟩
    refine ⟨am2, r, s2, en2, m2, FQ.seq en2 h2 fun d3 s3 am3 H3 v3 p3 en3 m3 r3 h3 => ?_⟩
    split at h3
    · rename_i s4 e4
      unfold putL at e4
      split at e4
      · cases r3.intE
        obtain ⟨a, rfl, ha⟩ := (r2.mono p3).refE
        split at e4
        · rename_i xs e1
          obtain ⟨vs, h4, h5⟩ := m3.lst e1 ha
          split at e4
          · rename_i j e2
            cases e4
            rename_i n k _ _
            have e2 : L2.ixN vs.length k = some j := by rw [← h5.length]; exact e2
            refine ⟨a, vs, k, j, rfl, rfl, h4, e2, ?_⟩
            have rv := (r1.mono p2).mono p3
            have P : Post am3 H3 am3 (L2.upd H3 a (.lst (vs.set j v1))) := .put (List.mem_of_getElem? ha) h4 (fun z => z)
            obtain ⟨_, m4⟩ := m3.put (u := .lst (vs.set j v1)) (o := .lst (xs.set j d1)) ha ⟨_, upd_same, (h5.set rv j).mono P⟩
            exact h3 am3 _ σ P m4 (en3.mono P)
          · cases e4
        · cases e4
      · cases e4
    · exact h3.elim

/-! ### while -/
theorem z_while {c : Expr} (hp : PassesOwn (model X.prog X.w) X.A X.env X.xe) (hc : ST X t W c mt) (hb : SSs X t W body a) : SS X t W (.While c body [] pos) (zWhile mt a) :=
  (ps_while hp hc hb).imp fun D σ H ⟨am, r, s, en, mm, h⟩ => by
    refine ⟨fun n σ1 H1 => ∃ am1 r1 s1, EnvR t am1 H1 r1 σ1 ∧ Ms t am1 s1 H1 ∧ FQ t am1 H1 (whileM mt a n r1 s1) W D, ⟨FUEL, am, r, s, en, mm, h⟩, ?_⟩
    rintro n σ1 H1 ⟨am1, r1, s1, en1, m1, h1⟩
    cases n with
    | zero => exact h1.elim
    | succ n =>
      refine ⟨am1, r1, s1, en1, m1, FQ.seq en1 h1 fun k s2 am2 H2 v p2 en2 m2 e2 h2 => ?_⟩
      cases e2
      cases k with
      | false => exact h2.nx0 m2 en2
      | true =>
        have h2 : FQ t am2 H2 ((a r1 s2).turn (whileM mt a n)) W D := h2
        refine ⟨fun σ' H' => ∃ am3 r3 s3, EnvR t am3 H' r3 σ' ∧ Ms t am3 s3 H' ∧ FQ t am3 H' (whileM mt a n r3 s3) W D, fun σ' H' z => ⟨n, Nat.lt_succ_self n, z⟩, am2, r1, s2, en2, m2, ?_⟩
        cases hx : a r1 s2 with
        | nx r3 s3 => rw [hx] at h2; exact fun am' H' σ' q m z => ⟨am', r3, s3, z, m, FQ.re h2 q⟩
        | ct r3 s3 => rw [hx] at h2; exact fun am' H' σ' q m z => ⟨am', r3, s3, z, m, FQ.re h2 q⟩
        | bk r3 s3 => rw [hx] at h2; exact h2
        | rt d s3 => rw [hx] at h2; exact h2
        | exc c fs r3 s3 => rw [hx] at h2; exact h2
        | stk => rw [hx] at h2; exact h2
end

/-! ### what a loop walks -/
/-- turn by turn: the items xs come, as long as G stands -/
structure ItOk (t : Tb) (J : L2.It) (G : List Addr → Hp → Prop) (xs : List D) : Prop where
  item : ∀ (i : Nat) (d : D) (am : List Addr) (H : Hp), G am H → xs[i]? = some d → J.go i H ∧ ∀ x H', J.yld i H x H' → Post am H am H' ∧ (∀ s, Ms t am s H → Ms t am s H') ∧ Rep t am H' d x
  stop : ∀ (i : Nat) (am : List Addr) (H : Hp), G am H → xs[i]? = none → J.stop i H
  keep : ∀ am H am' H', G am H → Post am H am' H' → G am' H'
/-- .. read anew from the store -/
structure DynOk (t : Tb) (J : L2.It) (Gd : List Addr → Prop) (f : S → Option (List D)) : Prop where
  item : ∀ (i : Nat) (d : D) (xs : List D) (am : List Addr) (s : S) (H : Hp), Gd am → Ms t am s H → f s = some xs → xs[i]? = some d → J.go i H ∧ ∀ x H', J.yld i H x H' → Post am H am H' ∧ Ms t am s H' ∧ Rep t am H' d x
  stop : ∀ (i : Nat) (xs : List D) (am : List Addr) (s : S) (H : Hp), Gd am → Ms t am s H → f s = some xs → xs[i]? = none → J.stop i H
  keep : ∀ am H am' H', Gd am → Post am H am' H' → Gd am'
/-- the walked thing has come -/
def IQ (t : Tb) (am : List Addr) (H : Hp) (x : Rs Wk) (Ex : XK) (R : L2.It → Hp → Prop) : Prop := match x with
  | .ok (.items xs) s' => ∀ am' H' J G, Post am H am' H' → Ms t am' s' H' → ItOk t J G xs → G am' H' → R J H'
  | .ok (.list n) s' => ∀ am' H' a, Post am H am' H' → Ms t am' s' H' → am'[n]? = some a → R (L2.Itl t.K a) H'
  | .ok (.dyn f) s' => ∀ am' H' J Gd, Post am H am' H' → Ms t am' s' H' → DynOk t J Gd f → Gd am' → R J H'
  | .exc c fs s' => ∀ am' H' cls dd, Post am H am' H' → Ms t am' s' H' → XRep t c fs am' H' cls dd → Ex cls dd H'
  | .stk => False
def tyI (t : Tb) (W : XW) (m : IW) : TI := fun σ H R => ∃ am r s, EnvR t am H r σ ∧ Ms t am s H ∧ IQ t am H (m r s) (W σ) R
def SI (X : Cx) (t : Tb) (W : XW) (tg iter : Expr) (m : IW) : Prop := PI X tg iter (tyI t W m)
section
variable {X : Cx} {t : Tb} {W : XW} {tg iter a b : Expr} {m ma mb : E} {pos p : Pos}
theorem _root_.L2.PI.imp {u u' : TI} (h : PI X tg iter u) (f : ∀ σ H R, u' σ H R → u σ H R) : PI X tg iter u' := ⟨fun pins s σ H R I q => h.run pins s σ H R I (f σ H R q)⟩
theorem IQ.re {am am1 : List Addr} {H H1 : Hp} {x : Rs Wk} {Ex : XK} {R : L2.It → Hp → Prop} (h : IQ t am H x Ex R) (p : Post am H am1 H1) : IQ t am1 H1 x Ex R := by
  cases x with
  | ok j s' =>
    cases j with
    | items xs => exact fun am' H' J G q => h am' H' J G (p.trans q)
    | list n => exact fun am' H' a q => h am' H' a (p.trans q)
    | dyn f => exact fun am' H' J Gd q => h am' H' J Gd (p.trans q)
  | exc c fs s' => exact fun am' H' cls dd q => h am' H' cls dd (p.trans q)
  | stk => exact h
theorem tyE.ofI {σ : L2.St} {H : Hp} {am : List Addr} {r : Env} {s : S} {f : D → S → Rs Wk} {R : L2.It → Hp → Prop} {K : V → Hp → Prop} (en : EnvR t am H r σ) (mm : Ms t am s H)
    (h : IQ t am H ((m r s).bind f) (W σ) R)
    (hk : ∀ d s1 am1 H1 v, EnvR t am1 H1 r σ → Ms t am1 s1 H1 → Post am H am1 H1 → Rep t am1 H1 d v → IQ t am1 H1 (f d s1) (W σ) R → K v H1) : tyE t W m σ H K := by
  refine ⟨am, r, s, en, mm, ?_⟩
  cases hx : m r s with
  | ok d s1 => rw [hx] at h; exact fun am' H' b q m z => hk d s1 am' H' b (en.mono q) m q z (IQ.re h q)
  | exc c fs s' => rw [hx] at h; exact h
  | stk => rw [hx] at h; exact h
theorem itok_range (lo : Int) (n : Nat) : ItOk t (Itr lo n) (fun _ _ => True) ((List.range n).map fun (k : Nat) => D.int (lo + k)) where
  item := fun i d am H _ e => by
    rw [List.getElem?_map] at e
    cases h : (List.range n)[i]? with
    | none => rw [h] at e; cases e
    | some k =>
      rw [h] at e
      have hk := List.getElem?_eq_some_iff.mp h
      obtain ⟨hl, hv⟩ := hk
      rw [List.getElem_range] at hv
      subst hv
      cases e
      refine ⟨by have h2 := hl; rw [List.length_range] at h2; exact h2, fun x H' y => ?_⟩
      obtain ⟨rfl, rfl⟩ := y
      exact ⟨.refl, fun _ z => z, rfl⟩
  stop := fun i am H _ e => by
    rw [List.getElem?_eq_none_iff, List.length_map, List.length_range] at e
    exact e
  keep := fun _ _ _ _ _ _ => trivial
theorem i_rng1 (hg : Gl X "range") (hm : X.mg "range" = none) (ha : SE X t W a ma) (hs : starEach [a] X.env = [(false, eval a X.env)] := by rfl) : SI X t W tg (.Call (.Name "range" p) [a] [] pos) (iRng1 ma) :=
  (pi_range1 hg hm (s_cons ha s_nil (by rw [hs]; rfl)) hs).imp fun σ H R ⟨am, r, s, en, mm, h⟩ => by
    refine ⟨am, r, s, en, mm, ?_⟩
    have h : IQ t am H ((ma r s).bind _) (W σ) R := h
    unfold aC aN
    cases hx : ma r s with
    | ok d s1 =>
      rw [hx] at h
      intro am' H' b q m z
      obtain ⟨v, w, rfl, z1, z2⟩ := z
      cases (show w = [] from z2)
      have h := IQ.re h q
      cases d with
      | int j =>
        simp only [Rs.bind_ok] at h
        cases z1.intE
        split at h
        · rename_i hj
          refine ⟨j, rfl, by omega, by omega, ?_⟩
          have := h am' H' (Itr 0 j.toNat) (fun _ _ => True) .refl m (by
            have := itok_range (t := t) 0 j.toNat
            unfold range2
            rw [Int.sub_zero]; exact this) trivial
          exact this
        · exact h.elim
      | _ => exact h.elim
    | exc c fs s' => rw [hx] at h; exact h
    | stk => rw [hx] at h; exact h
theorem i_rng2 (hg : Gl X "range") (hm : X.mg "range" = none) (ha : SE X t W a ma) (hb : SE X t W b mb) (hs : starEach [a, b] X.env = [(false, eval a X.env), (false, eval b X.env)] := by rfl) (hs2 : starEach [b] X.env = [(false, eval b X.env)] := by rfl) :
    SI X t W tg (.Call (.Name "range" p) [a, b] [] pos) (iRng2 ma mb) :=
  (pi_range2 hg hm (s_cons ha (s_cons hb s_nil (by rw [hs2]; rfl)) (by rw [hs, hs2])) hs hs2).imp fun σ H R ⟨am, r, s, en, mm, h⟩ => by
    refine ⟨am, r, s, en, mm, ?_⟩
    have h : IQ t am H ((ma r s).bind _) (W σ) R := h
    simp only [aC, aN]
    cases hx : ma r s with
    | ok d s1 =>
      rw [hx] at h
      simp only [Rs.bind_ok] at h ⊢
      cases hy : mb r s1 with
      | ok d2 s2 =>
        rw [hy] at h
        intro am' H' b q m z
        obtain ⟨v, w, rfl, z1, z2⟩ := z
        obtain ⟨v2, w2, rfl, z3, z4⟩ := z2
        cases (show w2 = [] from z4)
        have h := IQ.re h q
        cases d with
        | int i =>
          cases d2 with
          | int j =>
            simp only [Rs.bind_ok] at h
            cases z1.intE
            cases z3.intE
            split at h
            · rename_i hj
              exact ⟨i, j, rfl, by omega, h am' H' (Itr i (j - i).toNat) (fun _ _ => True) .refl m (itok_range (t := t) i (j - i).toNat) trivial⟩
            · exact h.elim
          | _ => exact h.elim
        | _ => exact h.elim
      | exc c fs s' => rw [hy] at h; exact h
      | stk => rw [hy] at h; exact h
    | exc c fs s' => rw [hx] at h; exact h
    | stk => rw [hx] at h; exact h
/-- over a tuple -/
theorem itok_tup {a : Addr} {vs : List V} {xs : List D} : ItOk t (Itt t.K a) (fun am H => ∃ vs, SqT t.K H a vs ∧ Reps t am H xs vs) xs where
  item := fun i d am H ⟨vs, h1, h2⟩ e => by
    obtain ⟨v, e1, r1⟩ := h2.get e
    refine ⟨⟨vs, v, h1, e1⟩, fun x H' y => ?_⟩
    obtain ⟨rfl, y⟩ := y
    have := y vs h1
    rw [e1] at this; cases this
    exact ⟨.refl, fun _ z => z, r1⟩
  stop := fun i am H ⟨vs, h1, h2⟩ e => ⟨vs, h1, by rw [← h2.length]; exact List.getElem?_eq_none_iff.mp e⟩
  keep := fun am H am' H' ⟨vs, h1, h2⟩ p => ⟨vs, p.sqT h1, h2.mono p⟩
theorem itok_frl {a : Addr} {vs : List V} {xs : List D} : ItOk t (Itl t.K a) (fun am H => ∃ vs, FrL t.K H a vs ∧ Reps t am H xs vs) xs where
  item := fun i d am H ⟨vs, h1, h2⟩ e => by
    obtain ⟨v, e1, r1⟩ := h2.get e
    refine ⟨⟨vs, v, h1.sq, e1⟩, fun x H' y => ?_⟩
    obtain ⟨rfl, y⟩ := y
    have := y vs h1.sq
    rw [e1] at this; cases this
    exact ⟨.refl, fun _ z => z, r1⟩
  stop := fun i am H ⟨vs, h1, h2⟩ e => ⟨vs, h1.sq, by rw [← h2.length]; exact List.getElem?_eq_none_iff.mp e⟩
  keep := fun am H am' H' ⟨vs, h1, h2⟩ p => ⟨vs, p.frL h1, h2.mono p⟩
theorem i_tup (hK : X.K = t.K) (ha : SE X t W a m) : SI X t W tg a (iTup m) :=
  (pi_tup ha).imp fun σ H R ⟨am, r, s, en, mm, h⟩ => tyE.ofI en mm h fun d s1 am1 H1 v en1 m1 p1 r1 h1 => by
    cases d with
    | tup xs =>
      obtain ⟨a, vs, rfl, h2, h3⟩ := r1.tupE
      rw [hK]
      exact ⟨a, rfl, ⟨vs, h2⟩, h1 am1 H1 _ _ .refl m1 (itok_tup (vs := vs)) ⟨vs, h2, h3⟩⟩
    | _ => exact h1.elim
theorem i_lst (hK : X.K = t.K) (ha : SE X t W a m) : SI X t W tg a (iLst m) :=
  (pi_list ha).imp fun σ H R ⟨am, r, s, en, mm, h⟩ => tyE.ofI en mm h fun d s1 am1 H1 v en1 m1 p1 r1 h1 => by
    cases d with
    | frl xs =>
      obtain ⟨a, vs, rfl, h2, h3⟩ := r1.frlE
      rw [hK]
      exact ⟨a, rfl, ⟨vs, h2.sq⟩, h1 am1 H1 _ _ .refl m1 (itok_frl (vs := vs)) ⟨vs, h2, h3⟩⟩
    | ref n =>
      obtain ⟨a, rfl, ha⟩ := r1.refE
      simp only at h1
      split at h1
      · rename_i xs e
        obtain ⟨vs, h2, h3⟩ := m1.lst e ha
        rw [hK]
        exact ⟨a, rfl, ⟨vs, .of h2⟩, h1 am1 H1 a .refl m1 ha⟩
      · exact h1.elim
    | _ => exact h1.elim
end

section
variable {X : Cx} {t : Tb} {W : XW} {tg iter : Expr} {body : List Stmt} {mi : IW} {g : Tg} {b : Sm} {pos : Pos}
theorem z_for (hp : PassesOwn (model X.prog X.w) X.A X.env X.xe) (hc : X.calm = true) (hK : X.K = t.K) (hi : SI X t W tg iter mi) (hg : SG X t tg g) (hb : SSs X t W body b)
    (hs : ∀ x, foldedSetIterable iter X.env x = pure x := by intro _; rfl) : SS X t W (.For tg iter body [] pos) (zFor mi g b) :=
  (ps_for hp hc hi hg hb hs).imp fun Dn σ H ⟨am, r, s, en, mm, h⟩ => by
    refine ⟨am, r, s, en, mm, ?_⟩
    -- one turn: the item is stored, the body runs, N is reached
    have turn : ∀ {am1 : List Addr} {r1 : Env} {s1 : S} {H1 : Hp} {d : Y.D} {x : V} {σ1 : L2.St} {k : Sm} {N : L2.St → Hp → Prop}, EnvR t am1 H1 r1 σ1 → Ms t am1 s1 H1 → Rep t am1 H1 d x →
        FQ t am1 H1 (match g d r1 s1 with | some (r2, s2) => (b r2 s2).turn k | none => .stk) W Dn →
        (∀ am2 r2 s2 σ2 H2, Post am1 H1 am2 H2 → EnvR t am2 H2 r2 σ2 → Ms t am2 s2 H2 → FQ t am2 H2 (k r2 s2) W Dn → N σ2 H2) →
        tyG t g x σ1 H1 (fun σ2 H2 => tyS t W b { Dn with nx := N, ct := N, bk := Dn.nx } σ2 H2) := by
      intro am1 r1 s1 H1 d x σ1 k N en1 m1 rp h1 hN
      split at h1
      · rename_i r2 s2 e2
        refine ⟨am1, r1, s1, d, en1, m1, rp, r2, s2, e2, fun am' H' σ' p m z => ⟨am', r2, s2, z, m, ?_⟩⟩
        have h1 := FQ.re h1 p
        cases hx : b r2 s2 with
        | nx r3 s3 => rw [hx] at h1; exact fun am3 H3 σ3 q m3 z3 => hN am3 r3 s3 σ3 H3 (p.trans q) z3 m3 (FQ.re h1 q)
        | ct r3 s3 => rw [hx] at h1; exact fun am3 H3 σ3 q m3 z3 => hN am3 r3 s3 σ3 H3 (p.trans q) z3 m3 (FQ.re h1 q)
        | bk r3 s3 => rw [hx] at h1; exact h1
        | rt d s3 => rw [hx] at h1; exact h1
        | exc c fs r3 s3 => rw [hx] at h1; exact h1
        | stk => rw [hx] at h1; exact h1
      · exact h1.elim
    have h : FQ t am H ((mi r s).then r fun j s1 => match j with
      | .items xs => forM g b xs r s1
      | .list n => forR g b n FUEL 0 r s1
      | .dyn f => forF g b f FUEL 0 r s1) W Dn := h
    cases hx : mi r s with
    | exc c fs s' => rw [hx] at h; exact fun am' H' cls dd q m z => h am' H' σ cls dd q m (en.mono q) z
    | stk => rw [hx] at h; exact h
    | ok j s0 =>
      rw [hx] at h
      cases j with
      | items xs =>
        have h : FQ t am H (forM g b xs r s0) W Dn := h
        intro am' H' J G p m ok hG
        refine ⟨fun i n σ1 H1 => ∃ am1 r1 s1, n = (xs.drop i).length ∧ EnvR t am1 H1 r1 σ1 ∧ Ms t am1 s1 H1 ∧ G am1 H1 ∧ FQ t am1 H1 (forM g b (xs.drop i) r1 s1) W Dn, ⟨xs.length, am', r, s0, by simp, en.mono p, m, hG, by rw [List.drop_zero]; exact FQ.re h p⟩, ?_⟩
        rintro i n σ1 H1 ⟨am1, r1, s1, rfl, en1, m1, g1, h1⟩
        cases hd : xs[i]? with
        | none =>
          have e : xs.drop i = [] := List.drop_eq_nil_of_le (List.getElem?_eq_none_iff.mp hd)
          rw [e] at h1
          exact .inl ⟨ok.stop i am1 H1 g1 hd, FQ.nx0 h1 m1 en1⟩
        | some d =>
          have hl := (List.getElem?_eq_some_iff.mp hd)
          have e : xs.drop i = d :: xs.drop (i + 1) := by
            rw [List.drop_eq_getElem_cons hl.1, hl.2]
          rw [e] at h1
          obtain ⟨go, yl⟩ := ok.item i d am1 H1 g1 hd
          refine .inr ⟨go, fun σ2 H2 => ∃ am2 r2 s2, EnvR t am2 H2 r2 σ2 ∧ Ms t am2 s2 H2 ∧ G am2 H2 ∧ FQ t am2 H2 (forM g b (xs.drop (i + 1)) r2 s2) W Dn, fun σ2 H2 ⟨am2, r2, s2, z1, z2, z3, z4⟩ => ⟨_, by rw [e]; simp, am2, r2, s2, rfl, z1, z2, z3, z4⟩, fun x H2 y => ?_⟩
          obtain ⟨p2, m2, rp⟩ := yl x H2 y
          have g2 := ok.keep _ _ _ _ g1 p2
          exact turn (en1.mono p2) (m2 s1 m1) rp (FQ.re h1 p2) fun am3 r3 s3 σ3 H3 p3 z1 z2 z3 => ⟨am3, r3, s3, z1, z2, ok.keep _ _ _ _ g2 p3, z3⟩
      | list l =>
        have h : FQ t am H (forR g b l FUEL 0 r s0) W Dn := h
        intro am' H' a p m ha
        refine ⟨fun i n σ1 H1 => ∃ am1 r1 s1, EnvR t am1 H1 r1 σ1 ∧ Ms t am1 s1 H1 ∧ am1[l]? = some a ∧ FQ t am1 H1 (forR g b l n i r1 s1) W Dn, ⟨FUEL, am', r, s0, en.mono p, m, ha, FQ.re h p⟩, ?_⟩
        rintro i n σ1 H1 ⟨am1, r1, s1, en1, m1, a1, h1⟩
        cases n with
        | zero => exact h1.elim
        | succ n =>
          unfold forR at h1
          split at h1
          · rename_i xs e1
            obtain ⟨vs, hv, rv⟩ := m1.lst e1 a1
            cases hd : xs[i]? with
            | none =>
              rw [hd] at h1
              exact .inl ⟨⟨vs, .of hv, by rw [← rv.length]; exact List.getElem?_eq_none_iff.mp hd⟩, FQ.nx0 h1 m1 en1⟩
            | some d =>
              rw [hd] at h1
              obtain ⟨v, ev, rp⟩ := rv.get hd
              refine .inr ⟨⟨vs, v, .of hv, ev⟩, fun σ2 H2 => ∃ am2 r2 s2, EnvR t am2 H2 r2 σ2 ∧ Ms t am2 s2 H2 ∧ am2[l]? = some a ∧ FQ t am2 H2 (forR g b l n (i + 1) r2 s2) W Dn, fun σ2 H2 z => ⟨n, Nat.lt_succ_self n, z⟩, fun x H2 y => ?_⟩
              obtain ⟨rfl, y⟩ := y
              have := y vs (.of hv)
              rw [ev] at this; cases this
              exact turn en1 m1 rp h1 fun am3 r3 s3 σ3 H3 p3 z1 z2 z3 => ⟨am3, r3, s3, z1, z2, p3.at a1, z3⟩
          · exact h1.elim
      | dyn f =>
        have h : FQ t am H (forF g b f FUEL 0 r s0) W Dn := h
        intro am' H' J Gd p m ok hG
        refine ⟨fun i n σ1 H1 => ∃ am1 r1 s1, EnvR t am1 H1 r1 σ1 ∧ Ms t am1 s1 H1 ∧ Gd am1 ∧ FQ t am1 H1 (forF g b f n i r1 s1) W Dn, ⟨FUEL, am', r, s0, en.mono p, m, hG, FQ.re h p⟩, ?_⟩
        rintro i n σ1 H1 ⟨am1, r1, s1, en1, m1, g1, h1⟩
        cases n with
        | zero => exact h1.elim
        | succ n =>
          unfold forF at h1
          split at h1
          · rename_i xs e1
            cases hd : xs[i]? with
            | none =>
              rw [hd] at h1
              exact .inl ⟨ok.stop i xs am1 s1 H1 g1 m1 e1 hd, FQ.nx0 h1 m1 en1⟩
            | some d =>
              rw [hd] at h1
              obtain ⟨go, yl⟩ := ok.item i d xs am1 s1 H1 g1 m1 e1 hd
              refine .inr ⟨go, fun σ2 H2 => ∃ am2 r2 s2, EnvR t am2 H2 r2 σ2 ∧ Ms t am2 s2 H2 ∧ Gd am2 ∧ FQ t am2 H2 (forF g b f n (i + 1) r2 s2) W Dn, fun σ2 H2 z => ⟨n, Nat.lt_succ_self n, z⟩, fun x H2 y => ?_⟩
              obtain ⟨p2, m2, rp⟩ := yl x H2 y
              exact turn (en1.mono p2) m2 rp (FQ.re h1 p2) fun am3 r3 s3 σ3 H3 p3 z1 z2 z3 => ⟨am3, r3, s3, z1, z2, ok.keep _ _ _ _ g1 (p2.trans p3), z3⟩
          · exact h1.elim
end
end Y

/-! Y5: comprehensions, defs and their calls, errors raised. -/
namespace Y
open PySem L2

/-! ### comprehensions -/
/-- a target that stores in the block's own slots alone -/
def tyGw (t : Tb) (g : Tg) (vs : List Nat) : TG := fun v σ H Q => ∃ am r s d, EnvR t am H r σ ∧ Ms t am s H ∧ Rep t am H d v ∧ ∃ r2 s2, g d r s = some (r2, s2) ∧ ∀ am' H' σ', Post am H am' H' → Ms t am' s2 H' → EnvR t am' H' r2 σ' → wipe σ' vs = wipe σ vs → Q σ' H'
def tyGsw (t : Tb) (g : List D → Env → S → Option (Env × S)) (vs : List Nat) : TGs := fun us σ H Q => ∃ am r s ds, EnvR t am H r σ ∧ Ms t am s H ∧ Reps t am H ds us ∧ ∃ r2 s2, g ds r s = some (r2, s2) ∧ ∀ am' H' σ', Post am H am' H' → Ms t am' s2 H' → EnvR t am' H' r2 σ' → wipe σ' vs = wipe σ vs → Q σ' H'
def SGw (X : Cx) (t : Tb) (e : Expr) (g : Tg) (vs : List Nat) : Prop := PG X e (tyGw t g vs)
def SGsw (X : Cx) (t : Tb) (es : List Expr) (g : List D → Env → S → Option (Env × S)) (vs : List Nat) : Prop := PGs X es (tyGsw t g vs)
theorem wipe_set {i : Nat} {x : Option V} : ∀ {vs : List Nat} (σ : L2.St), i ∈ vs → wipe (σ.set i x) vs = wipe σ vs := by
  intro vs
  induction vs with
  | nil => intro σ h; cases h
  | cons v vs ih =>
    intro σ h
    unfold wipe
    by_cases hi : i ∈ vs
    · rw [ih σ hi]
    · have e : i = v := by rcases List.mem_cons.mp h with h | h; exact h; exact absurd h hi
      subst e
      refine List.ext_getElem? fun k => ?_
      by_cases hk : i = k
      · subst hk
        by_cases hl : i < σ.length
        · rw [List.getElem?_set_self (by rw [wipe_length, List.length_set]; exact hl), List.getElem?_set_self (by rw [wipe_length]; exact hl)]
        · rw [List.getElem?_eq_none (by rw [List.length_set, wipe_length, List.length_set]; omega), List.getElem?_eq_none (by rw [List.length_set, wipe_length]; omega)]
      · rw [List.getElem?_set_ne hk, List.getElem?_set_ne hk]
        have : ∀ (vs : List Nat) (σ σ' : L2.St), (∀ j, j ≠ i → σ[j]? = σ'[j]?) → σ.length = σ'.length → ∀ j, j ≠ i → (wipe σ vs)[j]? = (wipe σ' vs)[j]? := by
          intro vs
          induction vs with
          | nil => intro σ σ' h _; exact h
          | cons v vs ih =>
            intro σ σ' h hl j hj
            unfold wipe
            by_cases hv : v = j
            · subst hv
              by_cases hlt : v < σ.length
              · rw [List.getElem?_set_self (by rw [wipe_length]; exact hlt), List.getElem?_set_self (by rw [wipe_length]; omega)]
              · rw [List.getElem?_eq_none (by rw [List.length_set, wipe_length]; omega), List.getElem?_eq_none (by rw [List.length_set, wipe_length]; omega)]
            · rw [List.getElem?_set_ne hv, List.getElem?_set_ne hv]
              exact ih σ σ' h hl j hj
        exact this vs _ _ (fun j hj => List.getElem?_set_ne (Ne.symm hj)) (by simp) k (Ne.symm hk)
section
variable {X : Cx} {t : Tb} {e : Expr} {pos : Pos} {vs : List Nat}
theorem gw_name {i : Nat} {x : Str} (hN : X.N.Nodup) (hi : X.N[i]? = some x) (hx : Loc X.env.scope x) (hv : i ∈ vs) (hf : X.fn x = true ∨ X.env.scope.names.lookup x = some .local := by first | exact .inl rfl | exact .inr rfl | assumption) : SGw X t (.Name x pos) (gV i) vs :=
  (pg_name hN hi hx hf).imp fun v σ H Q ⟨am, r, s, d, en, mm, rp, r2, s2, e, q⟩ => by
    unfold gV at e
    split at e
    · cases e
      exact q am H _ .refl mm (en.set i rp) (wipe_set σ hv)
    · cases e
theorem gsw_nil : SGsw X t [] gsN vs := pgs_nil.imp fun v σ H Q ⟨am, r, s, ds, en, mm, rp, r2, s2, e, q⟩ => by
  unfold gsN at e
  split at e
  · rename_i hd
    cases e
    have : ds = [] := by simpa using hd
    subst this
    exact ⟨rp, q am H σ .refl mm en rfl⟩
  · cases e
theorem gsw_cons {es : List Expr} {g : Tg} {u : List D → Env → S → Option (Env × S)} (h1 : SGw X t e g vs) (h2 : SGsw X t es u vs) (hs : (assignEach (e :: es) X.env).map (·.2) = assign e X.env :: (assignEach es X.env).map (·.2) := by rfl) : SGsw X t (e :: es) (gsC g u) vs :=
  (pgs_cons h1 h2 hs).imp fun v σ H Q ⟨am, r, s, ds, en, mm, rp, r2, s2, e, q⟩ => by
    cases ds with
    | nil => cases e
    | cons d ds =>
      obtain ⟨v1, vr, rfl, ra, rb⟩ := rp
      unfold gsC at e
      simp only at e
      split at e
      · rename_i r1 s1 e1
        refine ⟨v1, vr, rfl, am, r, s, d, en, mm, ra, r1, s1, e1, fun am' H' σ' p m z w => ?_⟩
        exact ⟨am', r1, s1, ds, z, m, rb.mono p, r2, s2, e, fun am2 H2 σ2 p2 m2 z2 w2 => q am2 H2 σ2 (p.trans p2) m2 z2 (w2.trans w)⟩
      · cases e
theorem gw_tup {es : List Expr} {k : Nat} {u : List D → Env → S → Option (Env × S)} (hK : X.K = t.K) (hc : X.calm = true) (h : SGsw X t es u vs)
    (hlen : ∀ ds r s x, u ds r s = some x → ds.length = (assignEach es X.env).length) (hst : (assignEach es X.env).findIdx? (·.1) = none := by rfl) : SGw X t (.Tuple es k pos) (gT u) vs :=
  (pg_tup (n := (assignEach es X.env).length) hc h rfl hst).imp fun v σ H Q ⟨am, r, s, d, en, mm, rp, r2, s2, e, q⟩ => by
    cases d with
    | tup ds =>
      obtain ⟨a, vs, rfl, h1, h2⟩ := rp.tupE
      have e : u ds r s = some (r2, s2) := e
      exact ⟨a, vs, rfl, by rw [hK]; exact h1, by rw [← h2.length]; exact hlen _ _ _ _ e, am, r, s, ds, en, mm, h2, r2, s2, e, q⟩
    | _ => cases e
end
abbrev W0 : XW := fun _ _ _ _ => False
theorem RQ.stk {α β : Type} {t : Tb} {am : List Addr} {H : Hp} {rep : List Addr → Hp → α → β → Prop} {Ex : XK} {Q : β → Hp → Prop} (h : RQ t am H (.stk : Rs α) rep Ex Q) {p : Prop} : p := False.elim h
def SPts (X : Cx) (t : Tb) (W : XW) (ifs : List Expr) (m : T) : Prop := PTs X ifs (tyT t W m)
theorem _root_.L2.PTs.imp {X : Cx} {ifs : List Expr} {u u' : TT} (h : PTs X ifs u) (f : ∀ σ H Q, u' σ H Q → u σ H Q) : PTs X ifs u' := ⟨fun pins s σ H Q I q => h.run pins s σ H Q I (f σ H Q q)⟩
theorem ts_nil {X : Cx} {t : Tb} {W : XW} : SPts X t W [] tYes := pts_nil.imp fun σ H Q ⟨am, r, s, en, mm, h⟩ => h.ok0 mm rfl
theorem ts_one {X : Cx} {t : Tb} {W : XW} {c : Expr} {m : T} (h : ST X t W c m) : SPts X t W [c] m := pts_one h
section
variable {X : Cx} {t : Tb} {W : XW} {elt tg iter : Expr} {ifs : List Expr} {scope : Scope} {own : List (Str × Nat)} {pos : Pos} {mi : IW} {g : Tg} {mt : T} {m : E}
/-- one turn of a block -/
theorem lc_turn {am : List Addr} {r : Env} {s : S} {H : Hp} {d : D} {x : V} {σ : L2.St} {vs : List Nat} {n : Nat} {Dx : Addr} {k : Env → S → Rs D} {Nx : Hp → Prop} {Ex : XK} {Q : VK} (en : EnvR t am H r σ) (mm : Ms t am s H) (rp : Rep t am H d x) (hD : am[n]? = some Dx)
    (h : RQ t am H (match g d r s with
      | none => .stk
      | some (r1, s1) => match mt r1 s1 with
        | .ok false s2 => k r s2
        | .ok true s2 => match m r1 s2 with
          | .ok d s3 => match appendAt n d s3 with
            | some s4 => k r s4
            | none => .stk
          | _ => .stk
        | _ => .stk) (Rep t) Ex Q)
    (hN : ∀ am2 s2 H2, Post am H am2 H2 → Ms t am2 s2 H2 → RQ t am2 H2 (k r s2) (Rep t) Ex Q → Nx H2) :
    tyGw t g vs x σ H fun σ2 H2 => wipe σ2 vs = wipe σ vs ∧ tyT t W0 mt σ2 H2 fun b H3 => if b = true then tyE t W0 m σ2 H3 fun y H4 => ∃ acc, H4 Dx = some (.lst acc) ∧ acc.length < sizeLine ∧ Nx (L2.upd H4 Dx (.lst (acc ++ [y]))) else Nx H3 := by
  split at h
  · exact h.elim
  · rename_i r1 s1 e1
    refine ⟨am, r, s, d, en, mm, rp, r1, s1, e1, fun am1 H1 σ1 p1 m1 en1 w => ⟨w, am1, r1, s1, en1, m1, ?_⟩⟩
    have h := RQ.re h p1
    cases hx : mt r1 s1 with
    | exc c fs s2 => rw [hx] at h; exact h.elim
    | stk => rw [hx] at h; exact h.elim
    | ok b s2 =>
      rw [hx] at h
      intro am2 H2 b' p2 m2 eb
      cases eb
      cases b with
      | false =>
        rw [if_neg Bool.false_ne_true]
        exact hN am2 s2 H2 (p1.trans p2) m2 (RQ.re h p2)
      | true =>
        rw [if_pos rfl]
        refine ⟨am2, r1, s2, en1.mono p2, m2, ?_⟩
        have h := RQ.re h p2
        simp only at h
        cases hy : m r1 s2 with
        | exc c fs s3 => rw [hy] at h; exact h.elim
        | stk => rw [hy] at h; exact h.elim
        | ok d3 s3 =>
          rw [hy] at h
          intro am3 H3 y p3 m3 ry
          have h := RQ.re h p3
          simp only at h
          have hD3 : am3[n]? = some Dx := p3.at (p2.at (p1.at hD))
          unfold appendAt at h
          split at h
          · rename_i s4 e4
            split at e4
            · rename_i xs ex
              split at e4
              · rename_i hl
                cases e4
                obtain ⟨acc, ha, ra⟩ := m3.lst ex hD3
                refine ⟨acc, ha, by rw [← ra.length]; exact Nat.lt_of_lt_of_le hl (by decide), ?_⟩
                have P : Post am3 H3 am3 (L2.upd H3 Dx (.lst (acc ++ [y]))) := .put (List.mem_of_getElem? hD3) ha (fun z => z)
                obtain ⟨_, m4⟩ := m3.put (u := .lst (acc ++ [y])) (o := .lst (xs ++ [d3])) hD3 ⟨_, upd_same, (ra.append (.one ry)).mono P⟩
                exact hN am3 _ _ (((p1.trans p2).trans p3).trans P) m4 (RQ.re h P)
              · cases e4
            · cases e4
          · exact h.elim
theorem wipe_id : ∀ (vs : List Nat) (σ : L2.St), (∀ i ∈ vs, ∀ x, σ[i]? = some x → x = none) → wipe σ vs = σ := by
  intro vs
  induction vs with
  | nil => intro σ _; rfl
  | cons v vs ih =>
    intro σ hh
    unfold wipe
    rw [ih σ fun i hi => hh i (List.mem_cons_of_mem _ hi)]
    refine List.ext_getElem? fun k => ?_
    by_cases hk : v = k
    · subst hk
      cases hv : σ[v]? with
      | none => rw [List.getElem?_eq_none]; rw [List.length_set]; exact List.getElem?_eq_none_iff.mp hv
      | some x =>
        rw [List.getElem?_set_self (List.getElem?_eq_some_iff.mp hv).1, hh v List.mem_cons_self x hv]
    · rw [List.getElem?_set_ne hk]
theorem wipe_wipe (σ : L2.St) (vs : List Nat) : wipe (wipe σ vs) vs = wipe σ vs := wipe_id vs _ fun i hi x hx => by
  cases x with
  | none => rfl
  | some x => exact absurd hi (wipe_some hx).2
theorem lc_ty (hK : X.K = t.K) {vs : List Nat} {σ : L2.St} {H : Hp} {Q : VK} (h : tyE t W (eLc mi g mt m vs) σ H Q) : tLc (tyI t W mi) (tyGw t g vs) (tyT t W0 mt) (tyE t W0 m) vs σ H Q := by
  obtain ⟨am, r, s, en, mm, h⟩ := h
  refine ⟨am, r, s, en, mm, ?_⟩
  have h : RQ t am H ((mi r s).bind _) (Rep t) (W σ) Q := h
  cases hx : mi r s with
  | exc c fs s' => rw [hx] at h; exact h
  | stk => rw [hx] at h; exact h
  | ok j s0 =>
    rw [hx] at h
    cases j with
    | items xs =>
      have h : RQ t am H (compM g mt m s0.length xs (wipeD r vs) (s0 ++ [.lst []])) (Rep t) (W σ) Q := h
      intro am' H' J G p m' ok hG Dx hDx
      have pn : Post am' H' (am' ++ [Dx]) (L2.upd H' Dx (.lst [])) := .new hDx
      have mn : Ms t (am' ++ [Dx]) (s0 ++ [.lst []]) (L2.upd H' Dx (.lst [])) := m'.new hDx ⟨[], upd_same, rfl⟩
      have hn : (am' ++ [Dx])[s0.length]? = some Dx := by rw [← m'.len]; simp
      refine ⟨fun i n H1 => ∃ am1 s1, n = (xs.drop i).length ∧ am1[s0.length]? = some Dx ∧ EnvR t am1 H1 (wipeD r vs) (wipe σ vs) ∧ Ms t am1 s1 H1 ∧ G am1 H1 ∧ RQ t am1 H1 (compM g mt m s0.length (xs.drop i) (wipeD r vs) s1) (Rep t) (W σ) Q,
        ⟨xs.length, am' ++ [Dx], s0 ++ [.lst []], by simp, hn, ((en.mono p).mono pn).wipe vs, mn, ok.keep _ _ _ _ hG pn, by rw [List.drop_zero]; exact RQ.re (RQ.re h p) pn⟩, ?_⟩
      rintro i n H1 ⟨am1, s1, rfl, hd1, en1, m1, g1, h1⟩
      cases hd : xs[i]? with
      | none =>
        have e : xs.drop i = [] := List.drop_eq_nil_of_le (List.getElem?_eq_none_iff.mp hd)
        rw [e] at h1
        exact .inl ⟨ok.stop i am1 H1 g1 hd, RQ.ok0 h1 m1 ⟨Dx, rfl, hd1⟩⟩
      | some d =>
        have hl := (List.getElem?_eq_some_iff.mp hd)
        have e : xs.drop i = d :: xs.drop (i + 1) := by rw [List.drop_eq_getElem_cons hl.1, hl.2]
        rw [e] at h1
        obtain ⟨go, yl⟩ := ok.item i d am1 H1 g1 hd
        refine .inr ⟨go, fun H2 => ∃ am2 s2, am2[s0.length]? = some Dx ∧ EnvR t am2 H2 (wipeD r vs) (wipe σ vs) ∧ Ms t am2 s2 H2 ∧ G am2 H2 ∧ RQ t am2 H2 (compM g mt m s0.length (xs.drop (i + 1)) (wipeD r vs) s2) (Rep t) (W σ) Q, fun H2 ⟨am2, s2, z0, z1, z2, z3, z4⟩ => ⟨_, by rw [e]; simp, am2, s2, rfl, z0, z1, z2, z3, z4⟩, fun x H2 y => ?_⟩
        obtain ⟨p2, m2, rp⟩ := yl x H2 y
        have g2 := ok.keep _ _ _ _ g1 p2
        have en2 := en1.mono p2
        have t1 := lc_turn (vs := vs) (k := fun r s => compM g mt m s0.length (xs.drop (i + 1)) r s) (Nx := fun H2 => ∃ am2 s2, am2[s0.length]? = some Dx ∧ EnvR t am2 H2 (wipeD r vs) (wipe σ vs) ∧ Ms t am2 s2 H2 ∧ G am2 H2 ∧ RQ t am2 H2 (compM g mt m s0.length (xs.drop (i + 1)) (wipeD r vs) s2) (Rep t) (W σ) Q) en2 (m2 s1 m1) rp (p2.at hd1) (RQ.re h1 p2)
          fun am3 s3 H3 p3 z2 z3 => ⟨am3, s3, p3.at (p2.at hd1), en2.mono p3, z2, ok.keep _ _ _ _ g2 p3, z3⟩
        rw [show wipe (wipe σ vs) vs = wipe σ vs from ?_] at t1
        · exact t1
        · have ww : ∀ (vs : List Nat) (σ : L2.St), (∀ i ∈ vs, ∀ x, σ[i]? = some x → x = none) → wipe σ vs = σ := by
            intro vs
            induction vs with
            | nil => intro σ _; rfl
            | cons v vs ih =>
              intro σ hh
              unfold wipe
              rw [ih σ fun i hi => hh i (List.mem_cons_of_mem _ hi)]
              refine List.ext_getElem? fun k => ?_
              by_cases hk : v = k
              · subst hk
                cases hv : σ[v]? with
                | none => rw [List.getElem?_eq_none]; rw [List.length_set]; exact List.getElem?_eq_none_iff.mp hv
                | some x =>
                  rw [List.getElem?_set_self (List.getElem?_eq_some_iff.mp hv).1, hh v List.mem_cons_self x hv]
              · rw [List.getElem?_set_ne hk]
          refine ww vs _ fun i hi x hx => ?_
          cases x with
          | none => rfl
          | some x => exact absurd hi (wipe_some hx).2
    | list l =>
      have h : RQ t am H (compR g mt m s0.length l FUEL 0 (wipeD r vs) (s0 ++ [.lst []])) (Rep t) (W σ) Q := h
      intro am' H' a p m' ha Dx hDx
      have pn : Post am' H' (am' ++ [Dx]) (L2.upd H' Dx (.lst [])) := .new hDx
      have mn : Ms t (am' ++ [Dx]) (s0 ++ [.lst []]) (L2.upd H' Dx (.lst [])) := m'.new hDx ⟨[], upd_same, rfl⟩
      have hn : (am' ++ [Dx])[s0.length]? = some Dx := by rw [← m'.len]; simp
      refine ⟨fun i n H1 => ∃ am1 s1, am1[l]? = some a ∧ am1[s0.length]? = some Dx ∧ EnvR t am1 H1 (wipeD r vs) (wipe σ vs) ∧ Ms t am1 s1 H1 ∧ RQ t am1 H1 (compR g mt m s0.length l n i (wipeD r vs) s1) (Rep t) (W σ) Q,
        ⟨FUEL, am' ++ [Dx], s0 ++ [.lst []], pn.at ha, hn, ((en.mono p).mono pn).wipe vs, mn, RQ.re (RQ.re h p) pn⟩, ?_⟩
      rintro i n H1 ⟨am1, s1, a1, hd1, en1, m1, h1⟩
      cases n with
      | zero => exact h1.elim
      | succ n =>
        unfold compR at h1
        split at h1
        · rename_i xs e1
          obtain ⟨us, hv, rv⟩ := m1.lst e1 a1
          cases hd : xs[i]? with
          | none =>
            rw [hd] at h1
            exact .inl ⟨⟨us, .of hv, by rw [← rv.length]; exact List.getElem?_eq_none_iff.mp hd⟩, RQ.ok0 h1 m1 ⟨Dx, rfl, hd1⟩⟩
          | some d =>
            rw [hd] at h1
            obtain ⟨v, ev, rp⟩ := rv.get hd
            refine .inr ⟨⟨us, v, .of hv, ev⟩, fun H2 => ∃ am2 s2, am2[l]? = some a ∧ am2[s0.length]? = some Dx ∧ EnvR t am2 H2 (wipeD r vs) (wipe σ vs) ∧ Ms t am2 s2 H2 ∧ RQ t am2 H2 (compR g mt m s0.length l n (i + 1) (wipeD r vs) s2) (Rep t) (W σ) Q, fun H2 z => ⟨n, Nat.lt_succ_self n, z⟩, fun x H2 y => ?_⟩
            obtain ⟨rfl, y⟩ := y
            have := y us (.of hv)
            rw [ev] at this; cases this
            have t1 := lc_turn (vs := vs) (k := fun r s => compR g mt m s0.length l n (i + 1) r s) (Nx := fun H2 => ∃ am2 s2, am2[l]? = some a ∧ am2[s0.length]? = some Dx ∧ EnvR t am2 H2 (wipeD r vs) (wipe σ vs) ∧ Ms t am2 s2 H2 ∧ RQ t am2 H2 (compR g mt m s0.length l n (i + 1) (wipeD r vs) s2) (Rep t) (W σ) Q) en1 m1 rp hd1 h1
              fun am3 s3 H3 p3 z2 z3 => ⟨am3, s3, p3.at a1, p3.at hd1, en1.mono p3, z2, z3⟩
            rw [show wipe (wipe σ vs) vs = wipe σ vs from ?_] at t1
            · exact t1
            · have ww : ∀ (vs : List Nat) (σ : L2.St), (∀ i ∈ vs, ∀ x, σ[i]? = some x → x = none) → wipe σ vs = σ := by
                intro vs
                induction vs with
                | nil => intro σ _; rfl
                | cons v vs ih =>
                  intro σ hh
                  unfold wipe
                  rw [ih σ fun i hi => hh i (List.mem_cons_of_mem _ hi)]
                  refine List.ext_getElem? fun k => ?_
                  by_cases hk : v = k
                  · subst hk
                    cases hv : σ[v]? with
                    | none => rw [List.getElem?_eq_none]; rw [List.length_set]; exact List.getElem?_eq_none_iff.mp hv
                    | some x =>
                      rw [List.getElem?_set_self (List.getElem?_eq_some_iff.mp hv).1, hh v List.mem_cons_self x hv]
                  · rw [List.getElem?_set_ne hk]
              refine ww vs _ fun i hi x hx => ?_
              cases x with
              | none => rfl
              | some x => exact absurd hi (wipe_some hx).2
        · exact h1.elim
    | dyn f =>
      have h : RQ t am H (compF g mt m s0.length f FUEL 0 (wipeD r vs) (s0 ++ [.lst []])) (Rep t) (W σ) Q := h
      intro am' H' J Gd p m' ok hG Dx hDx
      have pn : Post am' H' (am' ++ [Dx]) (L2.upd H' Dx (.lst [])) := .new hDx
      have mn : Ms t (am' ++ [Dx]) (s0 ++ [.lst []]) (L2.upd H' Dx (.lst [])) := m'.new hDx ⟨[], upd_same, rfl⟩
      have hn : (am' ++ [Dx])[s0.length]? = some Dx := by rw [← m'.len]; simp
      refine ⟨fun i n H1 => ∃ am1 s1, Gd am1 ∧ am1[s0.length]? = some Dx ∧ EnvR t am1 H1 (wipeD r vs) (wipe σ vs) ∧ Ms t am1 s1 H1 ∧ RQ t am1 H1 (compF g mt m s0.length f n i (wipeD r vs) s1) (Rep t) (W σ) Q,
        ⟨FUEL, am' ++ [Dx], s0 ++ [.lst []], ok.keep _ _ _ _ hG pn, hn, ((en.mono p).mono pn).wipe vs, mn, RQ.re (RQ.re h p) pn⟩, ?_⟩
      rintro i n H1 ⟨am1, s1, g1, hd1, en1, m1, h1⟩
      cases n with
      | zero => exact h1.elim
      | succ n =>
        unfold compF at h1
        split at h1
        · rename_i xs e1
          cases hd : xs[i]? with
          | none =>
            rw [hd] at h1
            exact .inl ⟨ok.stop i xs am1 s1 H1 g1 m1 e1 hd, RQ.ok0 h1 m1 ⟨Dx, rfl, hd1⟩⟩
          | some d =>
            rw [hd] at h1
            obtain ⟨go, yl⟩ := ok.item i d xs am1 s1 H1 g1 m1 e1 hd
            refine .inr ⟨go, fun H2 => ∃ am2 s2, Gd am2 ∧ am2[s0.length]? = some Dx ∧ EnvR t am2 H2 (wipeD r vs) (wipe σ vs) ∧ Ms t am2 s2 H2 ∧ RQ t am2 H2 (compF g mt m s0.length f n (i + 1) (wipeD r vs) s2) (Rep t) (W σ) Q, fun H2 z => ⟨n, Nat.lt_succ_self n, z⟩, fun x H2 y => ?_⟩
            obtain ⟨p2, m2, rp⟩ := yl x H2 y
            have t1 := lc_turn (vs := vs) (k := fun r s => compF g mt m s0.length f n (i + 1) r s) (Nx := fun H2 => ∃ am2 s2, Gd am2 ∧ am2[s0.length]? = some Dx ∧ EnvR t am2 H2 (wipeD r vs) (wipe σ vs) ∧ Ms t am2 s2 H2 ∧ RQ t am2 H2 (compF g mt m s0.length f n (i + 1) (wipeD r vs) s2) (Rep t) (W σ) Q) (en1.mono p2) m2 rp (p2.at hd1) (RQ.re h1 p2)
              fun am3 s3 H3 p3 z2 z3 => ⟨am3, s3, ok.keep _ _ _ _ g1 (p2.trans p3), p3.at (p2.at hd1), (en1.mono p2).mono p3, z2, z3⟩
            rw [wipe_wipe] at t1
            exact t1
        · exact h1.elim
theorem s_lc (hK : X.K = t.K) (hc : X.calm = true) (hN : X.N.Nodup) (hi : SI X t W tg iter mi) (ok : BlkOk X.N X.env.scope scope own)
    (hg : ∀ (s : Shared) (H : Hp) (C : Addr) (cl : List (Str × Addr)) (fp : List Addr), SGw (X.blk s H scope (compEnvC scope cl C X.env) fp) t tg g (own.map (·.2)))
    (ht : ∀ (s : Shared) (H : Hp) (C : Addr) (cl : List (Str × Addr)) (fp : List Addr), SPts (X.blk s H scope (compEnvC scope cl C X.env) fp) t W0 ifs mt)
    (he : ∀ (s : Shared) (H : Hp) (C : Addr) (cl : List (Str × Addr)) (fp : List Addr), SE (X.blk s H scope (compEnvC scope cl C X.env) fp) t W0 elt m) (hs : ∀ x, foldedSetIterable iter X.env x = pure x := by intro _; rfl) :
    SE X t W (.ListComp elt [⟨tg, iter, ifs, 0⟩] scope pos) (eLc mi g mt m (own.map (·.2))) := (pe_lc hc hN hi ok hg ht he hs).imp fun σ H Q h => lc_ty hK h
theorem z_setLc {i : Nat} {y : Str} {py spos : Pos} (hK : X.K = t.K) (hc : X.calm = true) (hN : X.N.Nodup) (hy : X.N[i]? = some y) (hyl : X.env.scope.names.lookup y = some .local)
    (hsw : swapsWith (.ListComp elt [⟨tg, iter, ifs, 0⟩] scope pos) (some (.Name y py)) spos.line X.env = pure true) (hi : SI X t W tg iter mi) (ok : BlkOk X.N X.env.scope scope own)
    (hg : ∀ (s : Shared) (H : Hp) (C : Addr) (cl : List (Str × Addr)) (fp : List Addr), SGw (X.blk s H scope (compEnvC scope cl C X.env) fp) t tg g (own.map (·.2)))
    (ht : ∀ (s : Shared) (H : Hp) (C : Addr) (cl : List (Str × Addr)) (fp : List Addr), SPts (X.blk s H scope (compEnvC scope cl C X.env) fp) t W0 ifs mt)
    (he : ∀ (s : Shared) (H : Hp) (C : Addr) (cl : List (Str × Addr)) (fp : List Addr), SE (X.blk s H scope (compEnvC scope cl C X.env) fp) t W0 elt m) (hs : ∀ x, foldedSetIterable iter X.env x = pure x := by intro _; rfl) :
    SS X t W (.Assign [.Name y py] (.ListComp elt [⟨tg, iter, ifs, 0⟩] scope pos) spos) (zSet (gV i) (eLc mi g mt m (own.map (·.2)))) :=
  (ps_setLc hc hN hy hyl hsw hi ok hg ht he hs).imp fun D σ H ⟨am, r, s, en, mm, h⟩ => lc_ty hK ⟨am, r, s, en, mm, FQ.seq en h fun d s1 am1 H1 v p1 en1 m1 r1 h1 => by
    unfold gV at h1
    by_cases hl : i < r.length
    · simp only [hl, if_true] at h1
      exact h1.nx0 m1 (en1.set i r1)
    · simp only [hl, if_false] at h1
      exact h1.elim⟩
end
end Y

/-! Y6: defs and their calls, errors raised. -/
namespace Y
open PySem L2

/-! ### what a def promises: its plain function -/
def spF (t : Tb) (k : Nat) (f : Fn) : Sp := fun vs H Q E => ∃ am ds s, ds.length = k ∧ Ms t am s H ∧ Reps t am H ds vs ∧ RQ t am H (f ds s) (Rep t) E Q
/-- a body's context -/
structure Okc (X : Cx) (t : Tb) (W : XW) : Prop where
  hK : X.K = t.K
  hx : ∀ σ, PassesAt (L2.CX X.prog X.w) X σ (W σ)
section
variable {P : Program} {w : World} {K : PySem.W.Frag} {mg : Str → Option Value} {base : Heap}
theorem okc_def {N : List Str} {qual : Str} {scope : Scope} {f : Addr} {cd : Value} {A : Around} {outer : List PySem.Env} {s : Shared} {H : Hp} {E : XK} {t : Tb} (hK : K = t.K) : Okc (cxOf (L2.CX P w) P w K mg base N qual scope f cd A outer s H E) t (fun _ => E) :=
  ⟨hK, fun σ => passAt (W := fun cls d _ H => E cls d H) (takes_of rfl rfl rfl rfl) σ⟩
theorem pass_def {N : List Str} {qual : Str} {scope : Scope} {f : Addr} {cd : Value} {A : Around} {outer : List PySem.Env} {s : Shared} {H : Hp} {E : XK} :
    PassesOwn (model (cxOf (L2.CX P w) P w K mg base N qual scope f cd A outer s H E).prog (cxOf (L2.CX P w) P w K mg base N qual scope f cd A outer s H E).w) (cxOf (L2.CX P w) P w K mg base N qual scope f cd A outer s H E).A (cxOf (L2.CX P w) P w K mg base N qual scope f cd A outer s H E).env (cxOf (L2.CX P w) P w K mg base N qual scope f cd A outer s H E).xe := passes_of rfl
theorem Okc.blk {X : Cx} {t : Tb} {W : XW} (h : Okc X t W) {s : Shared} {H : Hp} {scope : Scope} {env : PySem.Env} {fp : List Addr} : Okc (X.blk s H scope env fp) t W0 :=
  ⟨h.hK, fun σ => fun _ _ _ _ _ _ c => by
    obtain ⟨_, _, _, _, _, _, _, _, _, _, _, _, z⟩ := c
    exact z.elim⟩
theorem reps_start {t : Tb} {am : List Addr} {H : Hp} : ∀ {ds : List D} {vs : List V}, Reps t am H ds vs → ∀ n, EnvR t am H (ds ++ List.replicate n .undef) (vs.map some ++ List.replicate n none) := fun {ds vs} h n => by
  refine ⟨by simp [h.length], fun i d e hu => ?_⟩
  by_cases hl : i < ds.length
  · rw [List.getElem?_append_left hl] at e
    obtain ⟨v, h1, h2⟩ := h.get e
    refine ⟨v, ?_, h2⟩
    rw [List.getElem?_append_left (by rw [List.length_map, ← h.length]; exact hl), List.getElem?_map, h1]
    rfl
  · rw [List.getElem?_append_right (by omega), List.getElem?_replicate] at e
    split at e
    · cases e; exact absurd rfl hu
    · cases e
theorem fn_ok {x qual : Str} {st : Stmt} {f : Addr} {fd : FuncData} {N ps : List Str} {k : Nat} {t : Tb} {m : Sm} (F : Fun K x qual st f fd) (S : FnScope N ps (defScope st))
    (hbody : ∀ (cdv : Value) (A : Around) (outer : List PySem.Env) (s : Shared) (H : Hp) (E : XK), Room k (A.deeper (PyProof.Rows.envOfC qual (defScope st) s.heap.objs.size f cdv)) →
      SSs (cxOf (L2.CX P w) P w K mg base N qual (defScope st) f cdv A outer s H E) t (fun _ => E) (defBody st) m) :
    FnOk P w K mg base (L2.CX P w) (k + 1) f fd ps (spF t ps.length (mkFn N.length ps.length m)) := by
  refine F.okX S (fun vs H Q E h => ?_) (fun cdv A outer s H vs Q E hr h => ?_)
  · obtain ⟨am, ds, s, hl, _, r, _⟩ := h
    rw [← r.length, hl]
  · refine ⟨_, hbody cdv A outer s H E hr, ?_⟩
    obtain ⟨am, ds, s0, hl, mm, r, h⟩ := h
    have hN : ps.length ≤ N.length := by
      have := congrArg List.length S.pre
      rw [List.length_take] at this
      omega
    have en : EnvR t am H (ds ++ List.replicate (N.length - ps.length) .undef) (L2.start N vs) := by
      unfold L2.start
      rw [← r.length, hl]
      exact reps_start r _
    refine ⟨am, _, s0, en, mm, ?_⟩
    unfold mkFn at h
    rw [if_pos hl] at h
    cases hx : m (ds ++ List.replicate (N.length - ps.length) .undef) s0 with
    | nx r1 s1 => rw [hx] at h; exact fun am' H' σ' p m _ => h am' H' .non p m rfl
    | rt d s1 => rw [hx] at h; exact h
    | bk r1 s1 => rw [hx] at h; exact h.elim
    | ct r1 s1 => rw [hx] at h; exact h.elim
    | exc c fs r1 s1 => rw [hx] at h; exact fun am' H' σ' cls dd p m _ z => h am' H' cls dd p m z
    | stk => rw [hx] at h; exact h.elim
end

/-! ### a call by what the arguments hold -/
theorem pureL_all : ∀ {xs : List D}, D.pureL xs = true → ∀ x ∈ xs, x.pure = true
  | [], _, _, h => by cases h
  | y :: xs, h, x, hx => by
    unfold D.pureL at h
    rw [Bool.and_eq_true] at h
    rcases List.mem_cons.mp hx with e | e
    · rw [e]; exact h.1
    · exact pureL_all h.2 x e
theorem nodupN_iff : ∀ {ns : List Nat}, nodupN ns = true → ns.Nodup
  | [], _ => List.nodup_nil
  | n :: ns, h => by
    unfold nodupN at h
    simp only [Bool.and_eq_true, Bool.not_eq_true', List.contains_eq_mem, decide_eq_false_iff_not] at h
    exact List.nodup_cons.mpr ⟨h.1, nodupN_iff h.2⟩
theorem getAll_len : ∀ {ns : List Nat} {s os : S}, getAll s ns = some os → os.length = ns.length
  | [], s, os, h => by cases h; rfl
  | n :: ns, s, os, h => by
    unfold getAll at h
    split at h
    · rename_i o os' e1 e2
      split at h
      · cases h
        rw [List.length_cons, List.length_cons, getAll_len e2]
      · cases h
    · cases h
theorem getAll_get : ∀ {ns : List Nat} {s os : S} {j n : Nat}, getAll s ns = some os → ns[j]? = some n → ∃ o, s[n]? = some o ∧ os[j]? = some o ∧ o.pure = true
  | [], s, os, j, n, h, e => by simp at e
  | m :: ns, s, os, j, n, h, e => by
    unfold getAll at h
    split at h
    · rename_i o os' e1 e2
      split at h
      · rename_i hp
        cases h
        cases j with
        | zero =>
          have : m = n := by simpa using e
          subst this
          exact ⟨o, e1, rfl, hp⟩
        | succ j =>
          obtain ⟨o', h1, h2, h3⟩ := getAll_get (j := j) e2 (by simpa using e)
          exact ⟨o', h1, by simpa using h2, h3⟩
      · cases h
    · cases h
theorem putAll_len : ∀ (ns : List Nat) (os s : S), (putAll ns os s).length = s.length
  | [], _, _ => by unfold putAll; rfl
  | n :: ns, [], _ => by unfold putAll; rfl
  | n :: ns, o :: os, s => by
    unfold putAll
    rw [putAll_len ns os, List.length_set]
theorem putAll_out : ∀ (ns : List Nat) (os s : S) (k : Nat), k ∉ ns → (putAll ns os s)[k]? = s[k]?
  | [], _, _, _, _ => by unfold putAll; rfl
  | n :: ns, [], _, _, _ => by unfold putAll; rfl
  | n :: ns, o :: os, s, k, h => by
    unfold putAll
    rw [List.mem_cons, not_or] at h
    rw [putAll_out ns os _ k h.2, List.getElem?_set_ne (Ne.symm h.1)]
theorem putAll_in : ∀ (ns : List Nat) (os s : S) (j n : Nat) (o : O), ns.Nodup → ns[j]? = some n → os[j]? = some o → n < s.length → (putAll ns os s)[n]? = some o
  | [], _, _, _, _, _, _, e, _, _ => by simp at e
  | n :: ns, [], _, _, _, _, _, _, e, _ => by simp at e
  | m :: ns, o' :: os, s, j, n, o, nd, e1, e2, hl => by
    unfold putAll
    have nd' := List.nodup_cons.mp nd
    cases j with
    | zero =>
      have a : m = n := by simpa using e1
      have b : o' = o := by simpa using e2
      subst a b
      rw [putAll_out ns os _ m nd'.1, List.getElem?_set_self hl]
    | succ j => exact putAll_in ns os _ j n o nd'.2 (by simpa using e1) (by simpa using e2) (by rw [List.length_set]; exact hl)
theorem renum_reps {t : Tb} {am am2 : List Addr} {H : Hp} : ∀ (ds : List D) (vs : List V) (k : Nat), Reps t am H ds vs → ds.all argOk = true → (∀ (j n : Nat), (refsOf ds)[j]? = some n → am2[k + j]? = am[n]?) → Reps t am2 H (renum k ds) vs
  | [], _, _, h, _, _ => h
  | d :: ds, vs, k, h, ok, hm => by
    obtain ⟨v, r, rfl, h1, h2⟩ := h
    rw [List.all_cons, Bool.and_eq_true] at ok
    cases d with
    | ref n =>
      refine ⟨v, r, rfl, ?_, renum_reps ds r (k + 1) h2 ok.2 fun j n' e => ?_⟩
      · obtain ⟨a, e, ha⟩ := h1.refE
        refine ⟨a, e, ?_⟩
        have := hm 0 n rfl
        rw [Nat.add_zero] at this
        rw [this]; exact ha
      · have := hm (j + 1) n' (by unfold refsOf; simpa using e)
        rw [← this]; congr 1; omega
    | _ => exact ⟨v, r, rfl, Rep.pure (fun _ _ h _ => h) _ _ ok.1 h1, renum_reps ds r k h2 ok.2 hm⟩
theorem renum_len : ∀ (ds : List D) (k : Nat), (renum k ds).length = ds.length
  | [], _ => rfl
  | d :: ds, k => by cases d <;> (unfold renum; rw [List.length_cons, List.length_cons, renum_len])
theorem refs_in {t : Tb} {am : List Addr} {H : Hp} : ∀ {ds : List D} {vs : List V} {j n : Nat}, Reps t am H ds vs → (refsOf ds)[j]? = some n → n < am.length
  | [], _, _, _, _, e => by simp [refsOf] at e
  | d :: ds, vs, j, n, h, e => by
    obtain ⟨v, r, rfl, h1, h2⟩ := h
    cases d with
    | ref k =>
      cases j with
      | zero =>
        have : k = n := by simpa [refsOf] using e
        subst this
        obtain ⟨a, _, ha⟩ := h1.refE
        exact (List.getElem?_eq_some_iff.mp ha).1
      | succ j => exact refs_in h2 (by simpa [refsOf] using e)
    | _ => exact refs_in h2 (by simpa [refsOf] using e)
/-- the store behind a call: the arguments' objects as the def left them -/
theorem put_ms {t : Tb} {am am2 l : List Addr} {H H' : Hp} {s s' : S} {ns : List Nat} (nd : ns.Nodup) (m : Ms t am s H) (hl : ∀ n ∈ ns, n < am.length) (h2 : am2.length = ns.length) (hm : ∀ (j n : Nat), ns[j]? = some n → am2[j]? = am[n]?)
    (p : Post am2 H (am2 ++ l) H') (m' : Ms t (am2 ++ l) s' H') (hp : (s'.take ns.length).all O.pure = true) : Post am H am H' ∧ Ms t am (putAll ns s' s) H' := by
  have sub : ∀ a, a ∈ am2 → a ∈ am := fun a ha => by
    obtain ⟨j, hj⟩ := List.getElem?_of_mem ha
    have hjl := (List.getElem?_eq_some_iff.mp hj).1
    obtain ⟨n, hn⟩ : ∃ n, ns[j]? = some n := ⟨ns[j]'(by omega), List.getElem?_eq_getElem (by omega)⟩
    exact List.mem_of_getElem? ((hm j n hn).symm.trans hj)
  have P : Post am H am H' := ⟨⟨[], by simp, by simp⟩, p.imm, fun a o h n => p.keep a o h fun z => n (sub a z), p.dom⟩
  refine ⟨P, m.nd, by rw [putAll_len]; exact m.len, fun k o e => ?_, m'.tb⟩
  by_cases hk : k ∈ ns
  · obtain ⟨j, hj⟩ := List.getElem?_of_mem hk
    have hjl := (List.getElem?_eq_some_iff.mp hj).1
    have hks : k < s.length := by rw [← m.len]; exact hl k hk
    have hjs : j < s'.length := by rw [← m'.len, List.length_append]; omega
    have e' := putAll_in ns s' s j k s'[j] nd hj (List.getElem?_eq_getElem hjs) hks
    rw [e] at e'; cases e'
    obtain ⟨a, h3, h4⟩ := m'.ob j s'[j] (List.getElem?_eq_getElem hjs)
    rw [List.getElem?_append_left (by omega)] at h3
    have pu : s'[j].pure = true := List.all_eq_true.mp hp _ (by
      have : (s'.take ns.length)[j]? = some s'[j] := by rw [List.getElem?_take_of_lt hjl]; exact List.getElem?_eq_getElem hjs
      exact List.mem_of_getElem? this)
    exact ⟨a, (hm j k hj).symm.trans h3, h4.pure pu⟩
  · rw [putAll_out ns s' s k hk] at e
    obtain ⟨a, h3, h4⟩ := m.ob k o e
    refine ⟨a, h3, ?_⟩
    have na : a ∉ am2 := fun ha => by
      obtain ⟨j, hj⟩ := List.getElem?_of_mem ha
      have hjl := (List.getElem?_eq_some_iff.mp hj).1
      obtain ⟨n, hn⟩ : ∃ n, ns[j]? = some n := ⟨ns[j]'(by omega), List.getElem?_eq_getElem (by omega)⟩
      have h5 := (hm j n hn).symm.trans hj
      have : k = n := (List.getElem_inj m.nd).mp ((List.getElem?_eq_some_iff.mp h3).2.trans (List.getElem?_eq_some_iff.mp h5).2.symm)
      exact hk (this ▸ List.mem_of_getElem? hn)
    obtain ⟨u, hu, _, ht⟩ := m.mem (List.mem_of_getElem? h3)
    exact h4.mono P ((p.keep a u hu na ht).trans hu.symm)
theorem callK_sp {t : Tb} {am : List Addr} {H : Hp} {f : Fn} {ds : List D} {vs : List V} {s : S} {E : XK} {Q : VK} {k : Nat} (hl : ds.length = k) (m : Ms t am s H) (r : Reps t am H ds vs) (h : RQ t am H (callK f ds s) (Rep t) E Q) : spF t k f vs H Q E := by
  unfold callK at h
  by_cases hc : nodupN (refsOf ds) = true ∧ ds.all argOk = true
  · rw [if_pos hc] at h
    have nd := nodupN_iff hc.1
    split at h
    · exact h.elim
    · rename_i os eo
      have hin : ∀ n ∈ refsOf ds, n < am.length := fun n hn => by
        obtain ⟨j, hj⟩ := List.getElem?_of_mem hn
        exact refs_in r hj
      have h2 : ((refsOf ds).map fun n => am.getD n 0).length = (refsOf ds).length := List.length_map ..
      have hm : ∀ (j n : Nat), (refsOf ds)[j]? = some n → ((refsOf ds).map fun n => am.getD n 0)[j]? = am[n]? := fun j n e => by
        rw [List.getElem?_map, e, Option.map_some, List.getD_eq_getElem?_getD]
        have hn := hin n (List.mem_of_getElem? e)
        rw [List.getElem?_eq_getElem hn]; rfl
      generalize ((refsOf ds).map fun n => am.getD n 0) = am2 at h2 hm
      have sub : ∀ a, a ∈ am2 → ∃ j n, (refsOf ds)[j]? = some n ∧ am2[j]? = some a ∧ am[n]? = some a := fun a ha => by
        obtain ⟨j, hj⟩ := List.getElem?_of_mem ha
        have hjl := (List.getElem?_eq_some_iff.mp hj).1
        obtain ⟨n, hn⟩ : ∃ n, (refsOf ds)[j]? = some n := ⟨(refsOf ds)[j]'(by omega), List.getElem?_eq_getElem (by omega)⟩
        exact ⟨j, n, hn, hj, (hm j n hn).symm.trans hj⟩
      have ms : Ms t am2 os H := by
        refine ⟨?_, by rw [h2, getAll_len eo], fun j o e => ?_, m.tb⟩
        · refine List.pairwise_iff_getElem.mpr fun i j hi0 hj hij e0 => ?_
          have e : am2[i]? = am2[j]? := by rw [List.getElem?_eq_getElem hi0, List.getElem?_eq_getElem hj, e0]
          obtain ⟨n1, e1⟩ : ∃ n, (refsOf ds)[i]? = some n := ⟨(refsOf ds)[i]'(by omega), List.getElem?_eq_getElem (by omega)⟩
          obtain ⟨n2, e2⟩ : ∃ n, (refsOf ds)[j]? = some n := ⟨(refsOf ds)[j]'(by omega), List.getElem?_eq_getElem (by omega)⟩
          rw [hm i n1 e1, hm j n2 e2] at e
          have l1 := hin n1 (List.mem_of_getElem? e1)
          have l2 := hin n2 (List.mem_of_getElem? e2)
          rw [List.getElem?_eq_getElem l1, List.getElem?_eq_getElem l2] at e
          have en : n1 = n2 := (List.getElem_inj m.nd).mp (Option.some.inj e)
          subst en
          have := (List.getElem_inj nd).mp ((List.getElem?_eq_some_iff.mp e1).2.trans (List.getElem?_eq_some_iff.mp e2).2.symm)
          omega
        · have hj : j < os.length := (List.getElem?_eq_some_iff.mp e).1
          rw [getAll_len eo] at hj
          obtain ⟨o', h3, h4, h5⟩ := getAll_get (j := j) eo (List.getElem?_eq_getElem hj)
          rw [e] at h4; cases h4
          obtain ⟨a, h6, h7⟩ := m.ob _ _ h3
          exact ⟨a, (hm j _ (List.getElem?_eq_getElem hj)).trans h6, h7.pure h5⟩
      refine ⟨am2, renum 0 ds, os, by rw [renum_len, hl], ms, renum_reps ds vs 0 r hc.2 (fun j n e => by rw [Nat.zero_add]; exact hm j n e), ?_⟩
      cases hx : f (renum 0 ds) os with
      | stk => rw [hx] at h; exact h.elim
      | exc c fs s1 =>
        rw [hx] at h
        simp only at h
        split at h
        · rename_i hp
          intro am' H' cls dd p m' z
          obtain ⟨l, rfl, hfr⟩ := p.pre
          obtain ⟨P, M⟩ := put_ms nd m hin h2 hm p m' (by rw [← getAll_len eo]; exact hp.2)
          refine h am H' cls dd P M ?_
          obtain ⟨C, names, z1, z2, z3⟩ := z
          refine ⟨C, names, z1, z2, ?_⟩
          rcases z3 with z3 | ⟨d, us, z4, z5, z6, z7, z8⟩
          · exact .inl z3
          · exact .inr ⟨d, us, z4, z5, z6, z7, Reps.pure (fun _ _ h _ => h) _ _ hp.1 z8⟩
        · exact h.elim
      | ok d s1 =>
        rw [hx] at h
        simp only at h
        split at h
        · rename_i hp
          rw [getAll_len eo] at hp
          intro am' H' v p m' rv
          obtain ⟨l, rfl, hfr⟩ := p.pre
          obtain ⟨P, M⟩ := put_ms nd m hin h2 hm p m' hp
          split at h
          · rename_i j
            obtain ⟨a, rfl, ha⟩ := rv.refE
            split at h
            · rename_i n en
              have hj := (List.getElem?_eq_some_iff.mp en).1
              rw [List.getElem?_append_left (by omega)] at ha
              exact h am H' _ P M ⟨a, rfl, (hm j n en).symm.trans ha⟩
            · rename_i en
              split at h
              · rename_i o eo2
                split at h
                · rename_i hpu
                  have hj := List.getElem?_eq_none_iff.mp en
                  have hal : a ∈ l := by
                    rw [List.getElem?_append_right (by omega)] at ha
                    exact List.mem_of_getElem? ha
                  have hf := hfr a hal
                  have om := (m'.at eo2 ha).pure (am' := am ++ [a]) hpu
                  have na : a ∉ am := fun ham => by
                    obtain ⟨u, hu, _, ht⟩ := m.mem ham
                    obtain ⟨ps, y⟩ := hf u hu
                    exact ht ps y
                  have P2 : Post am H (am ++ [a]) H' := ⟨⟨[a], rfl, by intro b hb; rw [List.mem_singleton] at hb; rw [hb]; exact hf⟩, P.imm, P.keep, P.dom⟩
                  refine h (am ++ [a]) H' (.ref a) P2 ⟨?_, ?_, fun n ob e => ?_, m'.tb⟩ ⟨a, rfl, ?_⟩
                  · rw [List.nodup_append]
                    exact ⟨m.nd, by simp, fun b hb c hc => by rw [List.mem_singleton] at hc; rintro rfl; exact na (hc ▸ hb)⟩
                  · rw [List.length_append, List.length_append, M.len]; rfl
                  · by_cases hlt : n < (putAll (refsOf ds) s1 s).length
                    · rw [List.getElem?_append_left hlt] at e
                      obtain ⟨b, h3, h4⟩ := M.ob n ob e
                      have hb : n < am.length := (List.getElem?_eq_some_iff.mp h3).1
                      exact ⟨b, by rw [List.getElem?_append_left hb]; exact h3, h4.lift ⟨fun i c hi => by rw [List.getElem?_append_left (List.getElem?_eq_some_iff.mp hi).1]; exact hi, fun _ _ h _ => h⟩ rfl⟩
                    · rw [List.getElem?_append_right (by omega)] at e
                      have e0 : n - (putAll (refsOf ds) s1 s).length = 0 := by
                        have := (List.getElem?_eq_some_iff.mp e).1
                        rw [List.length_singleton] at this; omega
                      rw [e0] at e
                      have : o = ob := by simpa using e
                      subst this
                      refine ⟨a, ?_, om⟩
                      rw [List.getElem?_append_right (by rw [M.len]; omega), M.len, e0]; rfl
                  · rw [← m.len]; simp
                · exact h.elim
              · exact h.elim
          · split at h
            · rename_i hpu
              exact h am H' v P M (Rep.pure (fun _ _ h _ => h) _ _ hpu rv)
            · exact h.elim
        · exact h.elim
  · rw [if_neg hc] at h; exact h.elim
section
variable {X : Cx} {t : Tb} {W : XW} {k l : Nat} {f : Addr} {fd : FuncData} {ps : List Str} {x : Str} {p pos : Pos} {e : Expr} {es : List Expr} {g : Fn} {ms : A}
/-- a call in the caller's own store -/
def nArgs (k : Nat) (g : Fn) : PN := fun ds s => if ds.length = k then g ds s else .stk
def eCall (k : Nat) (g : Fn) (a : A) : E := eN (nArgs k g) a
def eCallK (k : Nat) (g : Fn) (a : A) : E := eN (nArgs k (callK g)) a
theorem s_call (O : Okc X t W) (F : FnOk X.prog X.w X.K X.mg X.base (L2.CX X.prog X.w) l f fd ps (spF t k g)) (hr : Room l X.A) (hg : Gl X x) (hm : X.mg x = some (.ref f)) (hk : PySem.W.keepIn X.K (.ref f) = true) (hb : Binds X.K fd ps [])
    (ha : SA X t W (e :: es) ms) (hdb : (x == ("__debug__" : Str)) = false := by decide) (he : starEach (e :: es) X.env = (false, eval e X.env) :: starEach es X.env := by rfl) (hpl : (backTo pos (starEach es X.env)).any (·.1) = false := by rfl) :
    SE X t W (.Call (.Name x p) (e :: es) [] pos) (eCall k g ms) :=
  (pe_callS F hr hg hm hk hb O.hx ha hdb he hpl).imp fun σ H Q ⟨am, r, s, en, mm, h⟩ => tyA.of en mm h fun ds s1 am1 H1 vs en1 m1 p1 r1 h1 => by
    unfold nArgs at h1
    split at h1
    · rename_i hl
      exact ⟨am1, ds, s1, hl, m1, r1, h1⟩
    · exact h1.elim
theorem s_callK (O : Okc X t W) (F : FnOk X.prog X.w X.K X.mg X.base (L2.CX X.prog X.w) l f fd ps (spF t k g)) (hr : Room l X.A) (hg : Gl X x) (hm : X.mg x = some (.ref f)) (hk : PySem.W.keepIn X.K (.ref f) = true) (hb : Binds X.K fd ps [])
    (ha : SA X t W (e :: es) ms) (hdb : (x == ("__debug__" : Str)) = false := by decide) (he : starEach (e :: es) X.env = (false, eval e X.env) :: starEach es X.env := by rfl) (hpl : (backTo pos (starEach es X.env)).any (·.1) = false := by rfl) :
    SE X t W (.Call (.Name x p) (e :: es) [] pos) (eCallK k g ms) :=
  (pe_callS F hr hg hm hk hb O.hx ha hdb he hpl).imp fun σ H Q ⟨am, r, s, en, mm, h⟩ => tyA.of en mm h fun ds s1 am1 H1 vs en1 m1 p1 r1 h1 => by
    unfold nArgs at h1
    split at h1
    · rename_i hl
      exact callK_sp hl m1 r1 h1
    · exact h1.elim
end

/-! ### raise -/
section
variable {X : Cx} {t : Tb} {E : XK} {C : Addr} {x m : Str} {c j : Nat} {p p2 pos pos' : Pos} {bmB : List Value} {B newId initId : String}
theorem z_raise (hc : X.calm = true) (tk : Takes X (fun cls d _ H => E cls d H)) (FB : ExcBaseFacts B newId initId bmB) (q : PySem.W.excIn X.K C bmB newId = true) (gC : X.mg x = some (.ref C)) (kC : PySem.W.keepIn X.K (.ref C) = true)
    (r : Raises X (.ref C)) (hg : Gl X x) (hx : t.xc c = some (C, [])) (hdb : (x == ("__debug__" : Str)) = false := by decide) :
    SS X t (fun _ => E) (.Raise (some (.Call (.Name x p) [.Constant (.str m) j p2] [] pos)) none pos') (zRaise c) :=
  (ps_raise hc tk (pmk_own FB q gC kC r hg hdb)).imp fun D σ H ⟨am, r, s, en, mm, h⟩ => h am H σ (.ref C) none .refl mm en ⟨C, [], hx, rfl, .inl ⟨rfl, rfl, rfl⟩⟩
end
end Y

/-! Y7: built-in functions and methods. -/
namespace Y
open PySem L2
section
variable {X : Cx} {t : Tb}
theorem reps1 {am : List Addr} {H : Hp} {d : D} {vs : List V} (h : Reps t am H [d] vs) : ∃ v, vs = [v] ∧ Rep t am H d v := by
  obtain ⟨v, r, rfl, h1, h2⟩ := h
  cases (show r = [] from h2)
  exact ⟨v, rfl, h1⟩
theorem reps2 {am : List Addr} {H : Hp} {d e : D} {vs : List V} (h : Reps t am H [d, e] vs) : ∃ v w, vs = [v, w] ∧ Rep t am H d v ∧ Rep t am H e w := by
  obtain ⟨v, r, rfl, h1, h2⟩ := h
  obtain ⟨w, rfl, h3⟩ := reps1 h2
  exact ⟨v, w, rfl, h1, h3⟩
theorem n_abs : OpN t (fun xs H Q => ∃ i, xs = [.int i] ∧ Q (.int (if i < 0 then -i else i)) H) bAbs := fun am s H ds vs Ex Q m r q => by
  unfold bAbs at q
  split at q
  · obtain ⟨v, rfl, h⟩ := reps1 r
    cases h.intE
    exact ⟨_, rfl, q.ok0 m rfl⟩
  · exact q.elim
theorem n_max2 : OpN t (fun xs H Q => ∃ i j, xs = [.int i, .int j] ∧ Q (.int (if j > i then j else i)) H) bMax2 := fun am s H ds vs Ex Q m r q => by
  unfold bMax2 at q
  split at q
  · obtain ⟨v, w, rfl, h, h'⟩ := reps2 r
    cases h.intE; cases h'.intE
    exact ⟨_, _, rfl, q.ok0 m rfl⟩
  · exact q.elim
theorem n_min2 : OpN t (fun xs H Q => ∃ i j, xs = [.int i, .int j] ∧ Q (.int (if j < i then j else i)) H) bMin2 := fun am s H ds vs Ex Q m r q => by
  unfold bMin2 at q
  split at q
  · obtain ⟨v, w, rfl, h, h'⟩ := reps2 r
    cases h.intE; cases h'.intE
    exact ⟨_, _, rfl, q.ok0 m rfl⟩
  · exact q.elim
theorem n_int : OpN t (fun xs H Q => (∃ i, xs = [.int i] ∧ Q (.int i) H) ∨ ∃ k, xs = [.bl k] ∧ Q (.int (if k then 1 else 0)) H) bInt := fun am s H ds vs Ex Q m r q => by
  unfold bInt at q
  split at q
  · obtain ⟨v, rfl, h⟩ := reps1 r
    cases h.intE
    exact .inl ⟨_, rfl, q.ok0 m rfl⟩
  · obtain ⟨v, rfl, h⟩ := reps1 r
    cases h.blE
    exact .inr ⟨_, rfl, q.ok0 m rfl⟩
  · exact q.elim
theorem call_str_str : CallR X (.type "str") (fun xs H Q => ∃ x, xs = [.str x] ∧ Q (.str x) H) := by
  intro pins s σ H xs us Q I r h
  obtain ⟨x, rfl, q⟩ := h
  obtain ⟨u, rfl, tk, rfl⟩ := vals1 r
  exact PySem.P.str_of_str ⟨.str x, H, I, ⟨tk, rfl⟩, q⟩
def rStr2 : List V → Hp → VK → Prop := fun xs H Q => (∃ i, xs = [.int i] ∧ i.natAbs.log2 < 1920 ∧ Q (.str (toString i)) H) ∨ ∃ x, xs = [.str x] ∧ Q (.str x) H
theorem call_str2 : CallR X (.type "str") rStr2 := call_str_int.or call_str_str
theorem n_str : OpN t rStr2 bStr := fun am s H ds vs Ex Q m r q => by
  unfold bStr at q
  split at q
  · obtain ⟨v, rfl, h⟩ := reps1 r
    cases h.intE
    split at q
    · rename_i hl
      exact .inl ⟨_, rfl, hl, q.ok0 m rfl⟩
    · exact q.elim
  · obtain ⟨v, rfl, h⟩ := reps1 r
    cases h.strE
    exact .inr ⟨_, rfl, q.ok0 m rfl⟩
  · exact q.elim
/-! ### sequences -/
def rList2 (K : PySem.W.Frag) : List V → Hp → VK → Prop := fun xs H Q => ∃ p ys, xs = [.ref p] ∧ (SqL K H p ys ∨ SqT K H p ys) ∧ ∀ l, H l = none → Q (.ref l) (L2.upd H l (.lst ys))
theorem n_list : OpN t (rList2 t.K) bList := fun am s H ds vs Ex Q m r q => by
  unfold bList at q
  split at q
  · obtain ⟨v, rfl, h⟩ := reps1 r
    split at q
    · rename_i xs e
      obtain ⟨a, us, rfl, rv, hs⟩ := seqX_of m h e
      exact ⟨a, us, rfl, hs, new_list m q rv⟩
    · exact q.elim
  · exact q.elim
def rTup2 (K : PySem.W.Frag) : List V → Hp → VK → Prop := fun xs H Q => ∃ p ys, xs = [.ref p] ∧ ((SqL K H p ys ∧ ∀ l, H l = none → Q (.ref l) (L2.upd H l (.tup ys))) ∨ (SqT K H p ys ∧ Q (.ref p) H))
theorem n_tuple : OpN t (rTup2 t.K) bTuple := fun am s H ds vs Ex Q m r q => by
  unfold bTuple at q
  split at q
  · rename_i d
    obtain ⟨v, rfl, h⟩ := reps1 r
    cases d with
    | tup zs =>
      obtain ⟨a, us, rfl, hs, rv⟩ := h.tupH
      exact ⟨a, us, rfl, .inr ⟨.of hs, q.ok0 m ⟨a, us, rfl, hs, rv⟩⟩⟩
    | _ =>
      split at q
      · rename_i xs e
        obtain ⟨a, us, rfl, rv, hs⟩ := seqL_of m h e
        exact ⟨a, us, rfl, .inl ⟨hs, new_tup m q rv⟩⟩
      · exact q.elim
  · exact q.elim
/-- len -/
def rLen3 (K : PySem.W.Frag) : List V → Hp → VK → Prop := fun xs H Q => (∃ z, xs = [.str z] ∧ z.length ≤ sizeLine ∧ Q (.int z.length) H) ∨ (∃ p ys, xs = [.ref p] ∧ (SqL K H p ys ∨ SqT K H p ys) ∧ Q (.int ys.length) H)
theorem call_len3 : CallR X (.builtin "len") (rLen3 X.K) := call_len_str.or call_len_seq
theorem n_len : OpN t (rLen3 t.K) bLen := fun am s H ds vs Ex Q m r q => by
  unfold bLen at q
  split at q
  · obtain ⟨v, rfl, h⟩ := reps1 r
    cases h.strE
    split at q
    · rename_i hl
      exact .inl ⟨_, rfl, line_le hl, q.ok0 m rfl⟩
    · exact q.elim
  · obtain ⟨v, rfl, h⟩ := reps1 r
    split at q
    · rename_i xs e
      obtain ⟨a, rfl, ha⟩ := h.refE
      obtain ⟨us, h1, h2⟩ := m.lst e ha
      exact .inr ⟨a, us, rfl, .inl (.of h1), by rw [← h2.length]; exact q.ok0 m rfl⟩
    · exact q.elim
  · obtain ⟨v, rfl, h⟩ := reps1 r
    split at q
    · rename_i xs e
      obtain ⟨a, us, rfl, rv, hs⟩ := seqX_of m h e
      exact .inr ⟨a, us, rfl, hs, by rw [← rv.length]; exact q.ok0 m rfl⟩
    · exact q.elim
  · exact q.elim
theorem ints_map : ∀ {xs : List D} {is : List Int}, intsOf xs = some is → xs = is.map D.int
  | [], is, h => by cases h; rfl
  | x :: xs, is, h => by
    unfold intsOf at h
    cases x with
    | int i =>
      simp only at h
      split at h
      · rename_i js e2
        cases h
        rw [List.map_cons, ints_map e2]
      · cases h
    | _ => cases h
theorem bools_map : ∀ {xs : List D} {is : List Bool}, boolsOf xs = some is → xs = is.map D.bl
  | [], is, h => by cases h; rfl
  | x :: xs, is, h => by
    unfold boolsOf at h
    cases x with
    | bl i =>
      simp only at h
      split at h
      · rename_i js e2
        cases h
        rw [List.map_cons, bools_map e2]
      · cases h
    | _ => cases h
theorem reps_ints {am : List Addr} {H : Hp} : ∀ {is : List Int} {vs : List V}, Reps t am H (is.map D.int) vs → vs = is.map V.int
  | [], _, h => h
  | i :: is, vs, h => by
    obtain ⟨v, r, rfl, h1, h2⟩ := h
    rw [h1.intE, reps_ints h2]; rfl
theorem reps_bools {am : List Addr} {H : Hp} : ∀ {is : List Bool} {vs : List V}, Reps t am H (is.map D.bl) vs → vs = is.map V.bl
  | [], _, h => h
  | i :: is, vs, h => by
    obtain ⟨v, r, rfl, h1, h2⟩ := h
    rw [h1.blE, reps_bools h2]; rfl
theorem n_sum : OpN t (rSum t.K) bSum := fun am s H ds vs Ex Q m r q => by
  unfold bSum at q
  split at q
  · obtain ⟨v, rfl, h⟩ := reps1 r
    split at q
    · rename_i xs e
      split at q
      · rename_i is ei
        obtain ⟨a, us, rfl, rv, hs⟩ := seqL_of m h e
        rw [ints_map ei] at rv
        exact ⟨a, is, rfl, by rw [← reps_ints rv]; exact hs, q.ok0 m rfl⟩
      · exact q.elim
    · exact q.elim
  · exact q.elim
theorem n_all : OpN t (rAll t.K) bAll := fun am s H ds vs Ex Q m r q => by
  unfold bAll at q
  split at q
  · obtain ⟨v, rfl, h⟩ := reps1 r
    split at q
    · rename_i xs e
      split at q
      · rename_i is ei
        obtain ⟨a, us, rfl, rv, hs⟩ := seqL_of m h e
        rw [bools_map ei] at rv
        exact ⟨a, is, rfl, by rw [← reps_bools rv]; exact hs, q.ok0 m rfl⟩
      · exact q.elim
    · exact q.elim
  · exact q.elim
theorem n_any : OpN t (rAny t.K) bAny := fun am s H ds vs Ex Q m r q => by
  unfold bAny at q
  split at q
  · obtain ⟨v, rfl, h⟩ := reps1 r
    split at q
    · rename_i xs e
      split at q
      · rename_i is ei
        obtain ⟨a, us, rfl, rv, hs⟩ := seqL_of m h e
        rw [bools_map ei] at rv
        exact ⟨a, is, rfl, by rw [← reps_bools rv]; exact hs, q.ok0 m rfl⟩
      · exact q.elim
    · exact q.elim
  · exact q.elim

/-! ### isinstance -/
def Ty.nm : Ty → String
  | .int => "int"
  | .bool => "bool"
  | .str => "str"
  | .tuple => "tuple"
  | .list => "list"
  | .dict => "dict"
theorem ty_kit (ty : Ty) {am : List Addr} {s : S} {H : Hp} {d : D} {v : V} {b : Bool} (m : Ms t am s H) (r : Rep t am H d v) (h : isTy ty d s = some b) : ∃ tn : String, TyX t.K H v (.type tn) ∧ kitB tn ty.nm = some b := by
  cases d with
  | undef => cases h
  | fn i => cases h
  | non =>
    cases (show v = V.non from r); cases h
    exact ⟨"NoneType", .base .non, by cases ty <;> decide +kernel⟩
  | bl i =>
    cases r.blE; cases h
    exact ⟨"bool", .base (.bl _), by cases ty <;> decide +kernel⟩
  | int i =>
    cases r.intE; cases h
    exact ⟨"int", .base (.int _), by cases ty <;> decide +kernel⟩
  | str i =>
    cases r.strE; cases h
    exact ⟨"str", .base (.str _), by cases ty <;> decide +kernel⟩
  | tup xs =>
    obtain ⟨a, vs, rfl, h1, _⟩ := r.tupE
    cases h
    refine ⟨"tuple", ?_, by cases ty <;> decide +kernel⟩
    rcases h1 with (h1 | ⟨o, h1⟩) | ⟨o, its, n, h1, h2, _⟩
    · exact .base (.tup h1)
    · exact .fTuple h1
    · exact .kTuple h1 h2
  | frl xs =>
    obtain ⟨a, vs, rfl, h1, _⟩ := r.frlE
    cases h
    refine ⟨"list", ?_, by cases ty <;> decide +kernel⟩
    rcases h1 with ⟨o, h1⟩ | ⟨o, its, n, h1, h2, _⟩
    · exact .base (.frz h1)
    · exact .kList h1 h2
  | ref n =>
    obtain ⟨a, rfl, ha⟩ := r.refE
    unfold isTy at h
    simp only at h
    split at h
    · rename_i xs e
      cases h
      obtain ⟨vs, h1, _⟩ := m.lst e ha
      exact ⟨"list", .base (.lst h1), by cases ty <;> decide +kernel⟩
    · rename_i tk kvs e
      cases h
      refine ⟨"dict", ?_, by cases ty <;> decide +kernel⟩
      have om := m.at e ha
      cases tk with
      | false =>
        obtain ⟨ks, h1, _⟩ := om
        exact .base (.dK h1)
      | true =>
        obtain ⟨ks, h1, _⟩ := om
        exact .base (.dT h1)
    · cases h
end
section
variable {X : Cx} {t : Tb} {W : XW} {a : Expr} {ma : E} {p p2 pos : Pos} {tn : Str}
theorem s_isI (ty : Ty) (hK : X.K = t.K) (hg : Gl X "isinstance") (hm : X.mg "isinstance" = none) (hv : bootBuiltins "isinstance" = some (.builtin "isinstance")) (hg2 : Gl X tn) (hm2 : X.mg tn = none) (hv2 : bootBuiltins tn = some (.type ty.nm)) (ha : SE X t W a ma)
    (hn2 : tn ≠ "__name__" := by decide) (hd2 : (tn == ("__debug__" : Str)) = false := by decide)
    (h1 : starEach [a, .Name tn p2] X.env = (false, eval a X.env) :: starEach [.Name tn p2] X.env := by rfl) (h2 : starEach [.Name tn p2] X.env = (false, eval (.Name tn p2) X.env) :: starEach [] X.env := by rfl) (hpl : (backTo pos (starEach [.Name tn p2] X.env)).any (·.1) = false := by rfl) :
    SE X t W (.Call (.Name "isinstance" p) [a, .Name tn p2] [] pos) (e1 (oIsI ty) ma) :=
  (pe_callB call_isi hg hm hv (pa_cons ha (pa_cons (pe_bltn (v := .ty ty.nm) hg2 hm2 hv2 rfl hn2 hd2) pa_nil h2) h1) (by decide) (by decide) h1 hpl).imp fun σ H Q ⟨am, r, s, en, mm, h⟩ => tyE.of en mm h fun d1 s1 am1 H1 v1 en1 m1 p1 r1 h1 => by
    unfold oIsI at h1
    split at h1
    · rename_i b e
      obtain ⟨tn', k1, k2⟩ := ty_kit ty m1 r1 e
      exact ⟨v1, .ty ty.nm, _, _, b, rfl, .ty _, by rw [hK]; exact k1, kit_ty k2, h1.ok0 m1 rfl⟩
    · exact h1.elim
end

/-! ### methods -/
abbrev PM := D → List D → S → Rs D
def eMe (ck : D → S → Bool) (p : PM) (a : E) (as : A) : E := fun r s => (a r s).bind fun x s1 => if ck x s1 = true then (as r s1).bind fun xs s2 => p x xs s2 else .stk
def eMe0 (ck : D → S → Bool) (p : PM) (a : E) : E := fun r s => (a r s).bind fun x s1 => if ck x s1 = true then p x [] s1 else .stk
def isL (d : D) (s : S) : Bool := (seqL d s).isSome
def isDc (d : D) (s : S) : Bool := match d with
  | .ref n => match s[n]? with
    | some (.dct _ _) => true
    | _ => false
  | _ => false
def isS (d : D) (_ : S) : Bool := match d with
  | .str _ => true
  | _ => false
def CkT (t : Tb) (T : String) (ck : D → S → Bool) : Prop := ∀ (am : List Addr) (s : S) (H : Hp) (d : D) (v : V), Ms t am s H → Rep t am H d v → ck d s = true → tyV t.K T v H
def OpM (t : Tb) (r : V → List V → Hp → VK → Prop) (p : PM) : Prop := ∀ (am : List Addr) (s : S) (H : Hp) (d : D) (v : V) (ds : List D) (vs : List V) (Ex : XK) (Q : VK), Ms t am s H → Rep t am H d v → Reps t am H ds vs → RQ t am H (p d ds s) (Rep t) Ex Q → r v vs H Q
section
variable {X : Cx} {t : Tb} {W : XW} {o e : Expr} {es : List Expr} {name : Str} {apos cpos : Pos} {Tn id : String} {r : V → List V → Hp → VK → Prop} {ck : D → S → Bool} {p : PM} {mo : E} {ms : A}
theorem ck_L : CkT t "list" isL := fun am s H d v m r h => by
  unfold isL at h
  obtain ⟨xs, e⟩ := Option.isSome_iff_exists.mp h
  obtain ⟨a, vs, rfl, _, h2⟩ := seqL_of m r e
  exact .inl ⟨rfl, vs, h2⟩
theorem ck_D : CkT t "dict" isDc := fun am s H d v m r h => by
  unfold isDc at h
  split at h
  · obtain ⟨a, rfl, ha⟩ := r.refE
    split at h
    · rename_i tk kvs e
      have om := m.at e ha
      refine .inr (.inr (.inl ⟨rfl, ?_⟩))
      cases tk with
      | false => obtain ⟨ks, h1, _⟩ := om; exact .inl ⟨ks, h1⟩
      | true => obtain ⟨ks, h1, _⟩ := om; exact .inr ⟨ks, h1⟩
    · cases h
  · cases h
theorem ck_S : CkT t "str" isS := fun am s H d v m r h => by
  unfold isS at h
  split at h
  · cases r.strE; rfl
  · cases h
theorem s_me (hK : X.K = t.K) (pa : PlainAttrs Tn) (slot : Slot Tn name id) (hty : typeOf (.builtin id) = pure (.type "method_descriptor")) (hm : MtR X id r) (hc : CkT t Tn ck) (h2 : OpM t r p) (ho : SE X t W o mo) (ha : SA X t W (e :: es) ms)
    (hbase : attributeBase o name X.env (eval o X.env) = eval o X.env := by rfl)
    (hfew : ((backTo cpos (starEach (e :: es) X.env)).all (fun x => !x.1) && (backToKw cpos (keywordEach [] X.env)).all (fun x => x.1.isSome)
      && decide ((e :: es).length + ([] : List Keyword).length + (if ([] : List Keyword).isEmpty then 0 else 1) < 30)) = true := by rfl)
    (hline : (apos.endLine == cpos.line) = true := by rfl) (hs : starEach (e :: es) X.env = (false, eval e X.env) :: starEach es X.env := by rfl) (hplain : (backTo cpos (starEach es X.env)).any (·.1) = false := by rfl) :
    SE X t W (.Call (.Attribute o name apos) (e :: es) [] cpos) (eMe ck p mo ms) :=
  (pe_bm pa slot hty hm ho ha hbase hfew hline hs hplain).imp fun σ H Q ⟨am, r, s, en, mm, h⟩ => tyE.of en mm h fun d s1 am1 H1 v en1 m1 p1 r1 h1 => by
    split at h1
    · rename_i hck
      refine ⟨by rw [hK]; exact hc am1 s1 H1 d v m1 r1 hck, tyA.of en1 m1 h1 fun ds s2 am2 H2 vs en2 m2 p2 r2 h3 => h2 am2 s2 H2 d v ds vs _ Q m2 (r1.mono p2) r2 h3⟩
    · exact h1.elim
theorem s_me0 (hK : X.K = t.K) (pa : PlainAttrs Tn) (slot : Slot Tn name id) (hty : typeOf (.builtin id) = pure (.type "method_descriptor")) (hm : MtR X id r) (hc : CkT t Tn ck) (h2 : OpM t r p) (ho : SE X t W o mo)
    (hbase : attributeBase o name X.env (eval o X.env) = eval o X.env := by rfl) (hline : (apos.endLine == cpos.line) = true := by rfl) :
    SE X t W (.Call (.Attribute o name apos) [] [] cpos) (eMe0 ck p mo) :=
  (pe_bm0 pa slot hty hm ho hbase hline).imp fun σ H Q ⟨am, r, s, en, mm, h⟩ => tyE.of en mm h fun d s1 am1 H1 v en1 m1 p1 r1 h1 => by
    split at h1
    · rename_i hck
      exact ⟨by rw [hK]; exact hc am1 s1 H1 d v m1 r1 hck, h2 am1 s1 H1 d v [] [] _ Q m1 r1 rfl h1⟩
    · exact h1.elim
end
/-- xs.append(d) -/
def mApp : PM := fun x ds s => match x, ds with
  | .ref n, [d] => match appendAt n d s with
    | some s1 => .ok .non s1
    | none => .stk
  | _, _ => .stk
/-- xs.pop(i), xs.pop() -/
def mPop : PM := fun x ds s => match x, ds with
  | .ref n, [.int i] => match s[n]? with
    | some (.lst xs) => if i.natAbs < 4611686018427387904 then match ixN xs.length i with
      | some k => match xs[k]? with
        | some y => .ok y (s.set n (.lst (xs.eraseIdx k)))
        | none => .stk
      | none => .stk else .stk
    | _ => .stk
  | .ref n, [] => match s[n]? with
    | some (.lst xs) => match xs[xs.length - 1]? with
      | some y => .ok y (s.set n (.lst xs.dropLast))
      | none => .stk
    | _ => .stk
  | _, _ => .stk
section
variable {X : Cx} {t : Tb}
theorem put_list {am : List Addr} {s : S} {H : Hp} {n : Nat} {a : Addr} {xs ys : List D} {vs ws : List V} {d : D} {v : V} {Ex : XK} {Q : VK} (m : Ms t am s H) (ha : am[n]? = some a) (hv : H a = some (.lst vs)) (rw' : Reps t am H ys ws) (rd : Rep t am H d v)
    (q : RQ t am H (.ok d (s.set n (.lst ys))) (Rep t) Ex Q) : Q v (L2.upd H a (.lst ws)) := by
  have P : Post am H am (L2.upd H a (.lst ws)) := .put (List.mem_of_getElem? ha) hv (fun z => z)
  obtain ⟨_, m4⟩ := m.put (u := .lst ws) (o := .lst ys) ha ⟨_, upd_same, rw'.mono P⟩
  exact q.ok P m4 (rd.mono P)
theorem m_app : OpM t rAppend mApp := fun am s H d v ds vs Ex Q m r1 r2 q => by
  unfold mApp at q
  split at q
  · rename_i n d
    obtain ⟨a, rfl, ha⟩ := r1.refE
    obtain ⟨w, rfl, h⟩ := reps1 r2
    split at q
    · rename_i s1 e1
      unfold appendAt at e1
      split at e1
      · rename_i xs ex
        split at e1
        · rename_i hl
          cases e1
          obtain ⟨us, h1, h2⟩ := m.lst ex ha
          exact ⟨a, us, w, rfl, rfl, h1, by rw [← h2.length]; exact Nat.lt_of_lt_of_le hl (by decide), put_list (xs := xs) (d := .non) (v := .non) m ha h1 (h2.append (.one h)) (show V.non = V.non from rfl) q⟩
        · cases e1
      · cases e1
    · exact q.elim
  · exact q.elim
theorem Reps.erase {am : List Addr} {H : Hp} : ∀ {ds : List D} {vs : List V} (n : Nat), Reps t am H ds vs → Reps t am H (ds.eraseIdx n) (vs.eraseIdx n)
  | [], vs, n, h => by
    have e : vs = [] := h
    subst e
    simp [Reps]
  | d :: ds, vs, 0, h => by
    obtain ⟨v, r, rfl, h1, h2⟩ := h
    exact h2
  | d :: ds, vs, n + 1, h => by
    obtain ⟨v, r, rfl, h1, h2⟩ := h
    exact ⟨v, r.eraseIdx n, rfl, h1, Reps.erase n h2⟩
theorem Reps.dropLast {am : List Addr} {H : Hp} {ds : List D} {vs : List V} (h : Reps t am H ds vs) : Reps t am H ds.dropLast vs.dropLast := by
  rw [List.dropLast_eq_take, List.dropLast_eq_take, h.length]
  exact h.take _
def rPop2 : V → List V → Hp → VK → Prop := fun x vs H Q => rPop x vs H Q ∨ rPopAt x vs H Q
theorem mt_pop2 : MtR X "list.pop" rPop2 := MtR.or (show MtR X "list.pop" rPop from mt_pop) mt_popAt
theorem m_pop : OpM t rPop2 mPop := fun am s H d v ds vs Ex Q m r1 r2 q => by
  unfold mPop at q
  split at q
  · rename_i n i
    obtain ⟨a, rfl, ha⟩ := r1.refE
    obtain ⟨w, rfl, h⟩ := reps1 r2
    cases h.intE
    split at q
    · rename_i xs ex
      obtain ⟨us, h1, h2⟩ := m.lst ex ha
      split at q
      · rename_i hi
        split at q
        · rename_i k ek
          split at q
          · rename_i y ey
            obtain ⟨w, ew, rw'⟩ := h2.get ey
            have ek : L2.ixN us.length i = some k := by rw [← h2.length]; exact ek
            exact .inr ⟨a, us, i, k, w, rfl, rfl, h1, by omega, by omega, (ixN_seq ek).1, ew, put_list (xs := xs) m ha h1 (h2.erase k) rw' q⟩
          · exact q.elim
        · exact q.elim
      · exact q.elim
    · exact q.elim
  · rename_i n
    obtain ⟨a, rfl, ha⟩ := r1.refE
    cases (show vs = [] from r2)
    split at q
    · rename_i xs ex
      obtain ⟨us, h1, h2⟩ := m.lst ex ha
      split at q
      · rename_i y ey
        obtain ⟨w, ew, rw'⟩ := h2.get ey
        exact .inl ⟨a, us, w, rfl, rfl, h1, by rw [← h2.length]; exact ew, put_list (xs := xs) m ha h1 h2.dropLast rw' q⟩
      · exact q.elim
    · exact q.elim
  · exact q.elim
end
end Y

/-! Y8: further statements and small rules. -/
namespace Y
open PySem L2
def zStk : Sm := fun _ _ => .stk
def zPar3 (i j l : Nat) (a b c : E) : Sm := fun r s => (a r s).then r fun x s1 => (b r s1).then r fun y s2 => (c r s2).then r fun z s3 => if i < r.length ∧ j < r.length ∧ l < r.length then .nx (((r.set i x).set j y).set l z) s3 else .stk
def oNotB : P2 := fun x y s => match x, y with
  | .bl a, .bl b => .ok (.bl (!decide (a = b))) s
  | _, _ => .stk
section
variable {X : Cx} {t : Tb} {W : XW} {st : Stmt} {a e : Expr} {ma m : E} {pos : Pos}
theorem z_stk : SS X t W st zStk := ps_never.imp fun D σ H ⟨am, r, s, en, mm, h⟩ => h
theorem fn_stk {P : Program} {w : World} {K : PySem.W.Frag} {mg : Str → Option Value} {base : Heap} {CX : CXT} {k n : Nat} {f : Addr} {fd : FuncData} {ps : List Str} : FnOk P w K mg base CX k f fd ps (spF t n (fun _ _ => .stk)) :=
  ⟨fun vs H Q E ⟨_, _, _, _, _, _, h⟩ => h.elim, fun A outer s H args us vs Q E _ _ _ _ ⟨_, _, _, _, _, _, h⟩ => h.elim⟩
theorem s_tisN {j pos'} (ha : SE X t W a ma) : ST X t W (.Compare a [.Is] [.Constant .none j pos'] pos) (tst (e1 oIsN ma)) :=
  (pt_cmpR op_isN ha pe_non (nomark _)).imp fun σ H Q ⟨am, r, s, en, mm, h⟩ => by
    have h : RQ t am H ((ma r s).bind fun x s1 => (oIsN x s1).bind fun z s3 => match z with
      | .bl b => .ok b s3
      | _ => .stk) repB (W σ) Q := by
      have e : tst (e1 oIsN ma) r s = ((ma r s).bind fun x s1 => (oIsN x s1).bind fun z s3 => match z with
        | .bl b => .ok b s3
        | _ => .stk) := by
        unfold tst e1
        cases ma r s <;> rfl
      rw [← e]; exact h
    refine tyE.of en mm h fun d1 s1 am1 H1 v1 en1 m1 p1 r1 h1 => ⟨rfl, _, rfl, ?_⟩
    rw [rep_non r1]
    cases d1 <;> first | exact h1.elim | exact h1.ok0 m1 rfl
theorem s_tnotN {j pos'} (ha : SE X t W a ma) : ST X t W (.Compare a [.IsNot] [.Constant .none j pos'] pos) (tst (e1 oNotN ma)) :=
  (pt_cmpR op_notN ha pe_non (nomark _)).imp fun σ H Q ⟨am, r, s, en, mm, h⟩ => by
    have h : RQ t am H ((ma r s).bind fun x s1 => (oNotN x s1).bind fun z s3 => match z with
      | .bl b => .ok b s3
      | _ => .stk) repB (W σ) Q := by
      have e : tst (e1 oNotN ma) r s = ((ma r s).bind fun x s1 => (oNotN x s1).bind fun z s3 => match z with
        | .bl b => .ok b s3
        | _ => .stk) := by
        unfold tst e1
        cases ma r s <;> rfl
      rw [← e]; exact h
    refine tyE.of en mm h fun d1 s1 am1 H1 v1 en1 m1 p1 r1 h1 => ⟨rfl, _, rfl, ?_⟩
    rw [rep_non r1]
    cases d1 <;> first | exact h1.elim | exact h1.ok0 m1 rfl
theorem o_notB : Op2 t rNotB oNotB := fun am s H d1 d2 v1 v2 Ex Q m r1 r2 q => by
  unfold oNotB at q
  split at q
  · cases r1.blE; cases r2.blE
    exact ⟨_, _, rfl, rfl, q.ok0 m rfl⟩
  · exact q.elim
theorem z_par3 {i j l : Nat} {x y z : Str} {a b c : Expr} {ma mb mc : E} {px py pz pt : Pos} {kt k2 pt2} (hc : X.calm = true) (hN : X.N.Nodup) (hi : X.N[i]? = some x) (hj : X.N[j]? = some y) (hl : X.N[l]? = some z) (hij : i ≠ j) (hil : i ≠ l) (hjl : j ≠ l)
    (hx : X.env.scope.names.lookup x = some .local) (hy : X.env.scope.names.lookup y = some .local) (hz : X.env.scope.names.lookup z = some .local) (ha : SE X t W a ma) (hb : SE X t W b mb) (hd : SE X t W c mc)
    (hw : swappedStores [.Tuple [.Name x px, .Name y py, .Name z pz] kt pt] (.Tuple [a, b, c] k2 pt2) X.env = pure (some [x, y, z]))
    (h1 : starEach [a, b, c] X.env = (false, eval a X.env) :: starEach [b, c] X.env := by rfl) (h2 : starEach [b, c] X.env = (false, eval b X.env) :: starEach [c] X.env := by rfl) (h3 : starEach [c] X.env = (false, eval c X.env) :: starEach [] X.env := by rfl)
    (hs : swapsWithSole [.Tuple [.Name x px, .Name y py, .Name z pz] kt pt] (.Tuple [a, b, c] k2 pt2) pos.line X.env = pure false := by rfl) :
    SS X t W (.Assign [.Tuple [.Name x px, .Name y py, .Name z pz] kt pt] (.Tuple [a, b, c] k2 pt2) pos) (zPar3 i j l ma mb mc) :=
  (ps_par3 hc hN hi hj hl hij hil hjl hx hy hz (pa_cons ha (pa_cons hb (pa_cons hd pa_nil h3) h2) h1) hw hs).imp fun D σ H ⟨am, r, s, en, mm, h⟩ => by
    refine ⟨am, r, s, en, mm, FQ.seq en h fun d1 s1 am1 H1 v1 p1 en1 m1 r1 h1 => ?_⟩
    refine ⟨am1, r, s1, en1, m1, FQ.seq en1 h1 fun d2 s2 am2 H2 v2 p2 en2 m2 r2 h2 => ?_⟩
    refine ⟨am2, r, s2, en2, m2, FQ.seq en2 h2 fun d3 s3 am3 H3 v3 p3 en3 m3 r3 h3 => ?_⟩
    refine ⟨v1, v2, v3, rfl, ?_⟩
    split at h3
    · exact h3.nx0 m3 (((en3.set i ((r1.mono p2).mono p3)).set j (r2.mono p3)).set l r3)
    · exact h3.elim
end
end Y

/-! Y9: the end of a law's row. -/
namespace Y
open PySem L2
theorem loose_int {lv : List (Str × PySem.W.WData)} {mg : Str → Option Value} {h : Heap} (x : PySem.W.LooseAre lv mg h) {n : Str} {i : Int} (hm : (n, PySem.W.WData.int i) ∈ lv) : ∃ k, mg n = some (.int i k) := by
  obtain ⟨v, e, r⟩ := x.val _ hm
  cases r
  exact ⟨_, e⟩
theorem frl_of {K : PySem.W.Frag} {H : Hp} {a : Addr} {vs : List V} (hO : Only H) (h : SqL K H a vs) : FrL K H a vs := by
  rcases h with (h | ⟨o, h⟩) | h
  · rcases hO a with z | ⟨o, xs, z⟩ <;> rw [h] at z <;> cases z
  · exact .inl ⟨o, h⟩
  · exact .inr h
theorem reps_of_ints {t : Tb} {am : List Addr} {H : Hp} : ∀ ns : List Int, Reps t am H (ns.map D.int) (ns.map V.int)
  | [] => rfl
  | n :: ns => ⟨.int n, ns.map V.int, rfl, rfl, reps_of_ints ns⟩
theorem law_sp {t : Tb} {f : Fn} {H : Hp} {a : Addr} {ns : List Int} (hT : t.T = []) (hO : Only H) (hS : SqL t.K H a (ns.map V.int)) (hf : ∃ s', f [.frl (ns.map D.int)] [] = .ok (.bl true) s') : spF t 1 f [.ref a] H (fun v _ => v = .bl true) fun _ _ _ => False := by
  obtain ⟨s', e⟩ := hf
  refine ⟨[], [.frl (ns.map D.int)], [], rfl, ⟨List.nodup_nil, rfl, fun n o h => by simp at h, by rw [hT]; exact fun p hp => absurd hp (by simp)⟩, ⟨.ref a, [], rfl, ⟨a, ns.map V.int, rfl, frl_of hO hS, reps_of_ints ns⟩, rfl⟩, ?_⟩
  rw [e]
  intro am' H' v p m r
  exact r
theorem walk_y {l : PySem.W.OpenLaw} {n k : Nat} {q : Program} {loose : List Str} {lv : List (Str × PySem.W.WData)} {YP : World → Heap → Prop} {d : DefRec} {K : Params → PySem.W.Frag} {x : Str} {f : Fn}
    (hn : l.most = some n) (hn2 : n ≤ sizeLine) (hdf : d.params.defaults = []) (hr : Room k callerA)
    (hY : ∀ (w : World) (h : Heap), YP w h → (K w.params).In h)
    (F : ∀ (w : World) (mg : Str → Option Value) (fa : Addr) (h : Heap), (K w.params).In h → h.Ns mainGlobals mg → PySem.W.LooseAre lv mg h → mg d.name = some (.ref fa) →
      ∃ fd : FuncData, (∀ (s : Shared) (u : Value), BindsTo s fd ⟨[u], []⟩ [(x, u)]) ∧
        ∃ t : Tb, t.K = K w.params ∧ t.T = [] ∧ ∀ base : Heap, (K w.params).In base → base.Ns mainGlobals mg → FnOk l.prog w (K w.params) mg base (L2.CX l.prog w) k fa fd [x] (spF t 1 f))
    (hf : ∀ ns : List Int, ns.length ≤ n → ∃ s', f [.frl (ns.map D.int)] [] = .ok (.bl true) s') :
    PySem.W.WalkO q loose (PySem.W.XL q lv) YP l.row.toRowW d [] (fun f vs => PySem.call f vs) := by
  refine Att.attach_call hn hdf fun w s₀ s₁ mg mb fa o pm cd doc a vs ns G Y ho hd hcd hmg hobj hints hlen hg => ?_
  have KX := hY w _ Y
  obtain ⟨fd, hb, t, ht, hT, hF⟩ := F w mg fa _ KX G.T.g G.X.2 hmg
  refine law_call KX G.T.g G.T.b G.T.builtins G.T.nolimit hg hobj hints (Nat.le_trans hlen hn2) hr hF hb (fun H hO hS => law_sp hT hO (by rw [ht]; exact hS) (hf ns hlen)) fun H e s' h => ?_
  obtain ⟨_, _, _, _, _, _, _, _, _, _, _, _, z⟩ := h
  exact z
theorem mkF {K : PySem.W.Frag} {h : Heap} {mg : Str → Option Value} {x : Str} {st : Stmt} {ps : List Str} {f : Addr} {oc : Value} {od an : Option Addr} {osl : Array (Option Value)} {kV doc pm cdv ct : Value} (KX : K.In h) (G : h.Ns mainGlobals mg)
    (a : PySem.W.nsIn K mainGlobals x = some (some (.ref f)))
    (l : K.lookup f = some ⟨oc, od, .func (PySem.W.fnOf x x (defArgs st) (defBody st) (defScope st) .none kV doc pm an cdv ct), osl⟩) (c : PySem.W.codeIn K cdv x = true) (k : PySem.W.keepIn K (.ref f) = true)
    (hb : ∀ (kV doc pm : Value) (an : Option Addr) (cdv ct : Value) (us : List Value), us.length = ps.length → bindArgs (PySem.W.fnOf x x (defArgs st) (defBody st) (defScope st) .none kV doc pm an cdv ct) ⟨us, []⟩ = pure (ps.zip us)) :
    ∃ f fd, Fun K x x st f fd ∧ mg x = some (.ref f) ∧ Binds K fd ps [] ∧ ∀ (s : Shared) (us : List Value), us.length = ps.length → BindsTo s fd ⟨us, []⟩ (ps.zip us) :=
  ⟨f, _, fun_mk l c k, PySem.W.mg_of KX G a, .all (hb kV doc pm an cdv ct), fun s us hl => .of_eq (hb kV doc pm an cdv ct us hl)⟩
theorem mkC {K : PySem.W.Frag} {h : Heap} {mg : Str → Option Value} {x : Str} {i : Int} {k : Tok} (KX : K.In h) (G : h.Ns mainGlobals mg) (a : PySem.W.nsIn K mainGlobals x = some (some (.int i k))) : ∃ k, mg x = some (.int i k) := ⟨k, PySem.W.mg_of KX G a⟩
/-- an error class of the text, without own __init__ -/
structure XTxt (K : PySem.W.Frag) (mg : Str → Option Value) (xc : Nat → Option (Addr × List Str)) (x : Str) (c : Nat) where
  C : Addr
  ex : PySem.W.excIn K C [.type "ValueError", .type "Exception", .type "BaseException", .type "object"] "ValueError.__new__" = true
  g : mg x = some (.ref C)
  kp : PySem.W.keepIn K (.ref C) = true
  sub : PySem.W.subIn K (.ref C) (.type "BaseException") = some true
  ty : PySem.W.typeIn K (.ref C) = some (.type "type")
  xc : xc c = some (C, [])
theorem XTxt.r {X : Cx} {K : PySem.W.Frag} {mg : Str → Option Value} {xc : Nat → Option (Addr × List Str)} {x : Str} {c : Nat} (T : XTxt K mg xc x c) (hK : X.K = K) : Raises X (.ref T.C) := by
  subst hK
  exact raises_own T.sub T.ty
theorem mkX {K : PySem.W.Frag} {h : Heap} {mg : Str → Option Value} {x : Str} {C : Addr} (KX : K.In h) (G : h.Ns mainGlobals mg) (a : PySem.W.nsIn K mainGlobals x = some (some (.ref C)))
    (ex : PySem.W.excIn K C [.type "ValueError", .type "Exception", .type "BaseException", .type "object"] "ValueError.__new__" = true) (kp : PySem.W.keepIn K (.ref C) = true) (sub : PySem.W.subIn K (.ref C) (.type "BaseException") = some true) (ty : PySem.W.typeIn K (.ref C) = some (.type "type")) :
    ∃ C, PySem.W.excIn K C [.type "ValueError", .type "Exception", .type "BaseException", .type "object"] "ValueError.__new__" = true ∧ mg x = some (.ref C) ∧ PySem.W.keepIn K (.ref C) = true ∧ PySem.W.subIn K (.ref C) (.type "BaseException") = some true ∧ PySem.W.typeIn K (.ref C) = some (.type "type") :=
  ⟨C, ex, PySem.W.mg_of KX G a, kp, sub, ty⟩
end Y

/-! Y10: xs[::-1], of lists and of tuples. -/
namespace Y
open PySem PySem.Spec PyProof.Rows HT
section
variable {prog : Program} {w : World} {A : Around} {E : Value → Shared → Prop} {s : Shared}
theorem applied_rev {sl : Addr} {vl vu vs : Value} {n : Nat} {Q : Int × Int × Nat → Shared → Prop} (hs : s.heap.IsSliceOf sl vl vu vs) (pl : IsPart vl none) (pu : IsPart vu none) (ps : IsPart vs (some (-1)))
    (h : Q ((n : Int) - 1, -1, n) s) : wpAny (model prog w) A (Builtin.Slice.sliceApplied (.ref sl) (pure (n : Int))) Q E s := by
  obtain ⟨os, hos, hcs, hds⟩ := id hs
  unfold Builtin.Slice.sliceApplied Builtin.Slice.sliceFields
  refine wpAny_bind (wpAny_bind (wpAny_field hos hds (x := vl) rfl (wpAny_bind (wpAny_field hos hds (x := vu) rfl (wpAny_bind (wpAny_field hos hds (x := vs) rfl (wpAny_pure ?_)))))))
  refine wpAny_bind (slicePart_ ps ?_)
  show wpAny _ _ (if ((-1 : Int) == 0) = true then _ else _) _ _ s
  rw [if_neg (by decide)]
  refine wpAny_bind (slicePart_ pl (wpAny_bind (slicePart_ pu (wpAny_bind (wpAny_pure ?_)))))
  show wpAny _ _ (match Builtin.Slice.sliceAdjust none none (-1) (n : Int) with | (lo, hi) => pure (lo, (-1 : Int), Builtin.Slice.slicePlaces lo hi (-1))) _ _ s
  have e1 : Builtin.Slice.sliceAdjust none none (-1) (n : Int) = ((n : Int) - 1, -1) := rfl
  rw [e1]
  show wpAny _ _ (pure ((n : Int) - 1, (-1 : Int), Builtin.Slice.slicePlaces ((n : Int) - 1) (-1) (-1))) _ _ s
  have e2 : Builtin.Slice.slicePlaces ((n : Int) - 1) (-1) (-1) = n := by
    unfold Builtin.Slice.slicePlaces
    simp
    omega
  rw [e2]
  exact wpAny_pure h
theorem fm_congr {f g : Nat → Option Value} : ∀ {l : List Nat}, (∀ x ∈ l, f x = g x) → l.filterMap f = l.filterMap g
  | [], _ => rfl
  | x :: l, h => by
    rw [List.filterMap_cons, List.filterMap_cons, h x List.mem_cons_self, fm_congr fun y hy => h y (List.mem_cons_of_mem _ hy)]
theorem pick_rev (xs : Array Value) : ((List.range xs.size).filterMap fun (m : Nat) => xs[((xs.size : Int) - 1 + (m : Int) * -1).toNat]?).toArray = xs.toList.reverse.toArray := by
  have e : ((List.range xs.size).filterMap fun (m : Nat) => xs[((xs.size : Int) - 1 + (m : Int) * -1).toNat]?) = ((List.range xs.size).map fun k => xs.size - 1 - k).filterMap (xs[·]?) := by
    rw [List.filterMap_map]
    refine fm_congr fun m hm => ?_
    have := List.mem_range.mp hm
    show _ = xs[xs.size - 1 - m]?
    congr 1
    omega
  rw [e, PySem.W.krv_range, List.filterMap_reverse, PySem.W.krv_all]
theorem getItem_tuple_rev {t sl : Addr} {items : Array Value} {vl vu vs : Value} {Q : Value → Shared → Prop} (ht : IsTup s.heap t items) (hs : s.heap.IsSliceOf sl vl vu vs) (pl : IsPart vl none) (pu : IsPart vu none) (ps : IsPart vs (some (-1)))
    (h : Q (.ref s.heap.objs.size) { s with heap := s.heap.push { cls := .type "tuple", data := .seq (items.toList.reverse).toArray } })
    (hsz : items.size ≤ sizeLine) : wpAny (model prog w) A (getItem (.ref t) (.ref sl)) Q E s := by
  have htake : sizeOk (.seq (items.toList.reverse).toArray) := by
    show (items.toList.reverse).toArray.size ≤ sizeLine
    rw [List.size_toArray, List.length_reverse, Array.length_toList]
    exact hsz
  obtain ⟨os, hos, hcs, hds⟩ := id hs
  have hTs : s.TypeIs (.ref sl) "slice" := ⟨os, hos, hcs⟩
  unfold getItem
  try with_reducible refine wpAny_holding ?_
  first | refine wpAny_bind (wpAny_pure ?_) | skip
  refine wpAny_bind (wpAny_sequenceKey ht.typeIs (by decide) ?_)
  refine wpAny_bind (wpAny_callSpecial?_slot (name := Str.ofString "__getitem__") ht.typeIs PyProof.Rows.slot_tuple_getitem
    (wpAny_call_entry PyProof.Rows.slot_tuple_getitem ht.typeIs entry_tuple_getitem ?_ (args_tuple_getitem _ _)))
  show wpAny _ _ (Builtin.Tuple.tupleItemsOf (.ref t) >>= _) _ _ s
  refine wpAny_bind (tupleItemsOf_ ht ?_)
  refine wpAny_bind (wpAny_typeOf hTs ?_)
  rw [if_pos (by decide)]
  refine wpAny_bind (applied_rev hs pl pu ps ?_)
  have hno : ¬ (((((items.size : Int) - 1)) == 0 && (-1 : Int) == 1 && items.size == items.size) = true) := by
    intro q
    rw [Bool.and_eq_true, Bool.and_eq_true] at q
    exact absurd q.1.2 (by decide)
  show wpAny _ _ (if ((((items.size : Int) - 1)) == 0 && (-1 : Int) == 1 && items.size == items.size) = true then _ else _) _ _ s
  rw [if_neg hno, pick_rev]
  first
    | exact wpAny_bind (m := Builtin.Tuple.tupleExact _) (wpAny_newObj_type (wpAny_pure ⟨_, rfl, wpAny_pure h⟩) htake)
    | exact wpAny_bind (m := Builtin.Tuple.tupleExact _) (wpAny_newObj_type (wpAny_bind (wpAny_pure (wpAny_pure ⟨_, rfl, wpAny_pure h⟩))) htake)
    | exact wpAny_bind (wpAny_bind (m := Builtin.Tuple.tupleExact _) (wpAny_newObj_type (wpAny_pure (wpAny_pure ⟨_, rfl, wpAny_pure h⟩)) htake))
    | exact wpAny_bind (wpAny_bind (m := Builtin.Tuple.tupleExact _) (wpAny_newObj_type (wpAny_pure ⟨_, rfl, wpAny_pure h⟩) htake))
end
end Y
namespace Y
open PySem PySem.Spec PyProof.Rows HT L2
section
variable {X : Cx} {t : Tb} {W : XW}
def tRevA (K : PySem.W.Frag) (te : TE) : TE := fun σ H Q => te σ H fun x H1 => ∃ a xs, x = .ref a ∧ ((SqL K H1 a xs ∧ ∀ p, H1 p = none → Q (.ref p) (upd H1 p (.lst xs.reverse))) ∨ (SqT K H1 a xs ∧ ∀ p, H1 p = none → Q (.ref p) (upd H1 p (.tup xs.reverse))))
theorem pe_revA {e : Expr} {te : TE} {k : Nat} {p1 p2 p3 pos : Pos} (he : PE X e te) : PE X (.Subscript e (.Slice none none (some (.UnaryOp .USub (.Constant (.int 1) k p1) p2)) p3) pos) (tRevA X.K te) := by
  refine ⟨fun pins s σ H Q I h => ?_⟩
  refine Subscript_ (thn (he.run pins s σ H _ I h) fun v s1 ⟨x, H1, I1, r1, q1⟩ => ?_)
  obtain ⟨a, xs, ex, q⟩ := q1
  subst ex
  cases r1
  have hst : PO X (some (.UnaryOp .USub (.Constant (.int 1) k p1) p2)) (tPart (tUn (rU fun i => .int (-i)) (tC (.int 1)))) := po_some (pe_un un_neg pe_int)
  refine wpAny_Slice (thn (po_none.run pins s1 σ H1 (fun o H2 => o = none ∧ H2 = H1) I1 ⟨rfl, rfl⟩) fun vl s2 ⟨l, H2, I2, pl, el, e2⟩ => ?_)
  subst el e2
  refine thn (po_none.run pins s2 σ H2 (fun o H3 => o = none ∧ H3 = H2) I2 ⟨rfl, rfl⟩) fun vu s3 ⟨u, H3, I3, pu, eu, e3⟩ => ?_
  subst eu e3
  refine thn (hst.run pins s3 σ H3 (fun o H4 => o = some (-1) ∧ H4 = H3) I3 ⟨1, rfl, -1, rfl, rfl, rfl⟩) fun vs s4 ⟨o, H4, I4, ps, eo, e4⟩ => ?_
  subst eo e4
  have I5 : Inv X pins σ H4 { s4 with heap := s4.heap.push { cls := .type "slice", data := .fields #[vl, vu, vs] } } := I4.kept (t' := s4.toks) fun b ob q => Heap.get?_push_of_some _ q
  rcases q with ⟨hx, q⟩ | ⟨hx, q⟩
  · obtain ⟨its, r, ht, hz⟩ := I5.list hx
    have hlen := r.length
    show wpAny (model X.prog X.w) X.A (subscriptTail e (.Slice none none (some (.UnaryOp .USub (.Constant (.int 1) k p1) p2)) p3) (.ref a) (.ref s4.heap.objs.size)) (EP X pins σ Q) X.xe { s4 with heap := s4.heap.push { cls := .type "slice", data := .fields #[vl, vu, vs] } }
    refine tail_any (ops := [.ref a, .ref s4.heap.objs.size]) ht.isList.typeIs (PySem.slot_list_getitem.lookup) ?_ (by with_unfolding_all rfl)
    refine wpAny_getItem_list_slice ht.isList (Heap.IsSliceOf.new _ vl vu vs) pl pu ps (by decide) ?_ (by rw [List.size_toArray]; omega)
    rw [PySem.W.krv_pick]
    refine ⟨.ref _, _, I5.laid (t' := s4.toks) (o := .lst xs.reverse) (fun b ob q => Heap.get?_push_of_some _ q) (Nat.le_refl _) ?_, rfl, q _ (I5.hok.fresh (Nat.le_refl _))⟩
    exact ⟨by rw [List.length_reverse]; exact hz, _, 0, r.reverse, Heap.get?_push_size _ rfl⟩
  · obtain ⟨its, r, ht, hz⟩ := I5.tuple hx
    have hlen := r.length
    show wpAny (model X.prog X.w) X.A (subscriptTail e (.Slice none none (some (.UnaryOp .USub (.Constant (.int 1) k p1) p2)) p3) (.ref a) (.ref s4.heap.objs.size)) (EP X pins σ Q) X.xe { s4 with heap := s4.heap.push { cls := .type "slice", data := .fields #[vl, vu, vs] } }
    refine tail_any (ops := [.ref a, .ref s4.heap.objs.size]) ht.typeIs (PyProof.Rows.slot_tuple_getitem.lookup) ?_ (by with_unfolding_all rfl)
    refine getItem_tuple_rev ht (Heap.IsSliceOf.new _ vl vu vs) pl pu ps ?_ (by rw [List.size_toArray]; omega)
    refine ⟨.ref _, _, I5.laid (t' := s4.toks) (o := .tup xs.reverse) (fun b ob q => Heap.get?_push_of_some _ q) (Nat.le_refl _) ?_, rfl, q _ (I5.hok.fresh (Nat.le_refl _))⟩
    exact ⟨by rw [List.length_reverse]; exact hz, _, r.reverse, IsTup.new _ _⟩
theorem s_rev {e : Expr} {m : E} {k : Nat} {p1 p2 p3 pos : Pos} (hK : X.K = t.K) (he : SE X t W e m) : SE X t W (.Subscript e (.Slice none none (some (.UnaryOp .USub (.Constant (.int 1) k p1) p2)) p3) pos) (e1 oRev m) :=
  (pe_revA he).imp fun σ H Q ⟨am, r, s, en, mm, h⟩ => tyE.of en mm h fun d1 s1 am1 H1 v1 en1 m1 p1 r1 h1 => by
    rw [hK]
    unfold oRev at h1
    split at h1
    · rename_i xs
      obtain ⟨a, vs, rfl, h4, h5⟩ := r1.tupE
      exact ⟨a, vs, rfl, .inr ⟨h4, new_tup m1 h1 h5.reverse⟩⟩
    · split at h1
      · rename_i xs e
        obtain ⟨a, vs, rfl, rv, hs⟩ := seqL_of m1 r1 e
        exact ⟨a, vs, rfl, .inl ⟨hs, new_list m1 h1 rv.reverse⟩⟩
      · exact h1.elim
end
end Y

/-! Y11: range(a, b, -1). -/
namespace Y
open PySem L2
def rangeD (i j : Int) : List D := (List.range (i - j).toNat).map fun (k : Nat) => .int (i + k * -1)
def iRngD (a b : E) : IW := fun r s => (a r s).bind fun x s1 => (b r s1).bind fun y s2 => match x, y with
  | .int i, .int j => if i.natAbs < 4611686018427387904 ∧ j.natAbs < 4611686018427387904 then .ok (.items (rangeD i j)) s2 else .stk
  | _, _ => .stk
section
variable {X : Cx} {t : Tb} {W : XW} {tg a b : Expr} {ma mb : E} {p pos p1 p2 : Pos}
theorem itok_rangeC (lo c : Int) (n : Nat) : ItOk t (Itc lo c n) (fun _ _ => True) ((List.range n).map fun (k : Nat) => D.int (lo + k * c)) where
  item := fun i d am H _ e => by
    rw [List.getElem?_map] at e
    cases h : (List.range n)[i]? with
    | none => rw [h] at e; cases e
    | some k =>
      rw [h] at e
      have hk := List.getElem?_eq_some_iff.mp h
      obtain ⟨hl, hv⟩ := hk
      rw [List.getElem_range] at hv
      subst hv
      cases e
      refine ⟨by have h2 := hl; rw [List.length_range] at h2; exact h2, fun x H' y => ?_⟩
      obtain ⟨rfl, rfl⟩ := y
      exact ⟨.refl, fun _ z => z, rfl⟩
  stop := fun i am H _ e => by
    rw [List.getElem?_eq_none_iff, List.length_map, List.length_range] at e
    exact e
  keep := fun _ _ _ _ _ _ => trivial
theorem i_rngD {c : Expr} (hg : Gl X "range") (hm : X.mg "range" = none) (ha : SE X t W a ma) (hb : SE X t W b mb) (hc : SE X t W c (e1 oNeg (eC (.int 1)))) (hs : starEach [a, b, c] X.env = (false, eval a X.env) :: starEach [b, c] X.env := by rfl) (hs2 : starEach [b, c] X.env = (false, eval b X.env) :: starEach [c] X.env := by rfl) (hs3 : starEach [c] X.env = [(false, eval c X.env)] := by rfl)
    (hpl : (backTo pos (starEach [b, c] X.env)).any (·.1) = false := by rfl) :
    SI X t W tg (.Call (.Name "range" p) [a, b, c] [] pos) (iRngD ma mb) :=
  (pi_range3 hg hm (s_cons ha (s_cons hb (s_cons hc s_nil (by rw [hs3]; rfl)) (by rw [hs2])) (by rw [hs])) hs hpl).imp fun σ H R ⟨am, r, s, en, mm, h⟩ => by
    refine ⟨am, r, s, en, mm, ?_⟩
    have h : IQ t am H ((ma r s).bind _) (W σ) R := h
    simp only [aC, aN]
    cases hx : ma r s with
    | ok d s1 =>
      rw [hx] at h
      simp only [Rs.bind_ok] at h ⊢
      cases hy : mb r s1 with
      | ok d2 s2 =>
        rw [hy] at h
        intro am' H' b q m z
        obtain ⟨v, w, rfl, z1, z2⟩ := z
        obtain ⟨v2, w2, rfl, z3, z4⟩ := z2
        obtain ⟨v3, w3, rfl, z5, z6⟩ := z4
        cases (show w3 = [] from z6)
        have h := IQ.re h q
        cases d with
        | int i =>
          cases d2 with
          | int j =>
            simp only [Rs.bind_ok] at h
            cases z1.intE
            cases z3.intE
            cases (show Rep t am' H' (.int (-1)) v3 from z5).intE
            split at h
            · rename_i hj
              exact ⟨i, j, -1, (i - j).toNat, rfl, RgC.neg (by omega) (by omega) (by omega) (by omega), h am' H' (Itc i (-1) (i - j).toNat) (fun _ _ => True) .refl m (itok_rangeC (t := t) i (-1) (i - j).toNat) trivial⟩
            · exact h.elim
          | _ => exact h.elim
        | _ => exact h.elim
      | exc c fs s' => rw [hy] at h; exact h
      | stk => rw [hy] at h; exact h
    | exc c fs s' => rw [hx] at h; exact h
    | stk => rw [hx] at h; exact h
end
end Y

/-! Y12: xs[i] among several targets; dicts. -/
namespace Y
open PySem L2
/-- xs[i] as a target -/
def gS (o i : E) : Tg := fun d r s => match o r s with
  | .ok x s1 => match i r s1 with
    | .ok k s2 => (putL x k d s2).map fun s3 => (r, s3)
    | _ => none
  | _ => none
/-- what putL does in the heap -/
theorem putL_sp {t : Tb} {am : List Addr} {s s' : S} {H : Hp} {o i d : D} {x y v : V} {Q : Hp → Prop} (m : Ms t am s H) (ro : Rep t am H o x) (ri : Rep t am H i y) (rv : Rep t am H d v) (e : putL o i d s = some s')
    (q : ∀ H', Post am H am H' → Ms t am s' H' → Q H') : rSetL x y v H Q := by
  unfold putL at e
  split at e
  · rename_i n k
    cases ri.intE
    obtain ⟨a, rfl, ha⟩ := ro.refE
    split at e
    · rename_i xs e1
      obtain ⟨vs, h4, h5⟩ := m.lst e1 ha
      split at e
      · rename_i j e2
        cases e
        have e2 : L2.ixN vs.length k = some j := by rw [← h5.length]; exact e2
        refine ⟨a, vs, k, j, rfl, rfl, h4, e2, ?_⟩
        have P : Post am H am (L2.upd H a (.lst (vs.set j v))) := .put (List.mem_of_getElem? ha) h4 (fun z => z)
        obtain ⟨_, m4⟩ := m.put (u := .lst (vs.set j v)) (o := .lst (xs.set j d)) ha ⟨_, upd_same, (h5.set rv j).mono P⟩
        exact q _ P m4
      · cases e
    · cases e
  · cases e
theorem g_sub {X : Cx} {t : Tb} {W : XW} {o i : Expr} {mo mi : E} {pos : Pos} (ho : SE X t W o mo) (hi : SE X t W i mi)
    (ha : ∀ v, assign (.Subscript o i pos) X.env v = (do
      let ov ← holding [v] (eval o X.env)
      let iv ← holding [v, ov] (eval i X.env)
      standAt pos
      holding [v, ov, iv] (setItem ov iv v)
      release [v, ov, iv] []) := by intro _; rfl) : SG X t (.Subscript o i pos) (gS mo mi) :=
  (pg_sub ho hi set_list ha).imp fun v σ H Q ⟨am, r, s, d, en, mm, rp, r2, s2, e, q⟩ => by
    unfold gS at e
    cases h1 : mo r s with
    | exc => rw [h1] at e; cases e
    | stk => rw [h1] at e; cases e
    | ok x s1 =>
      rw [h1] at e
      simp only at e
      cases h2 : mi r s1 with
      | exc => rw [h2] at e; cases e
      | stk => rw [h2] at e; cases e
      | ok k s3 =>
        rw [h2] at e
        simp only [Option.map_eq_some_iff] at e
        obtain ⟨s4, e, z⟩ := e
        cases z
        refine ⟨am, r, s, en, mm, ?_⟩
        rw [h1]
        intro am1 H1 b p1 m1 rb
        refine ⟨am1, r, s1, en.mono p1, m1, ?_⟩
        rw [h2]
        intro am2 H2 b2 p2 m2 rb2
        exact putL_sp m2 (rb.mono p2) rb2 (rp.mono (p1.trans p2)) e fun H' p3 m3 => q am2 H' σ (p1.trans (p2.trans p3)) m3 ((en.mono (p1.trans p2)).mono p3)

/-! ### dicts -/
def keyEq (a b : D) : Bool := match keyD a, keyD b with
  | some x, some y => decide (x = y)
  | _, _ => match keyT a, keyT b with
    | some x, some y => decide (x = y)
    | _, _ => false
def fndD (kvs : List (D × D)) (k : D) : Option D := (kvs.find? fun p => keyEq p.1 k).map (·.2)
def putD (kvs : List (D × D)) (k v : D) : List (D × D) := if (fndD kvs k).isSome = true then kvs.map (fun p => if keyEq p.1 k = true then (p.1, v) else p) else kvs ++ [(k, v)]
def keyOk (tk : Bool) (k : D) : Bool := if tk = true then (keyT k).isSome else (keyD k).isSome
def dctO (x : Option O) : Option (Bool × List (D × D)) := match x with
  | some (.dct tk kvs) => some (tk, kvs)
  | _ => none
def dctD (d : D) (s : S) : Option (Bool × List (D × D)) := match d with
  | .ref n => dctO s[n]?
  | _ => none
theorem keyD_T {d : D} {k : Key} (h : keyD d = some k) : keyT d = none := by cases d <;> first | rfl | cases h
theorem keyT_D {d : D} {k : List Key} (h : keyT d = some k) : keyD d = none := by cases d <;> first | rfl | cases h
section
variable {t : Tb} {am : List Addr} {H : Hp}
theorem RKV.fnd {κ : Type} [DecidableEq κ] {f : D → Option κ} {kd : D} {k : κ} (hk : ∀ d k', f d = some k' → keyEq d kd = decide (k' = k)) : ∀ {kvs : List (D × D)} {ks : List (κ × V)}, RKV f t am H kvs ks →
    (∀ d, fndD kvs kd = some d → ∃ v, valV ks k = some v ∧ Rep t am H d v) ∧ (fndD kvs kd = none → valV ks k = none)
  | [], ks, h => by
    rw [show ks = [] from h]
    exact ⟨fun d e => (by cases e), fun _ => rfl⟩
  | p :: ps, ks, ⟨k', v, r, e, h1, h2, h3⟩ => by
    obtain ⟨i1, i2⟩ := RKV.fnd hk h3
    rw [e]
    unfold fndD
    rw [List.find?_cons, hk _ _ h1]
    by_cases hh : k' = k
    · simp only [hh, decide_true, if_true]
      exact ⟨fun d z => ⟨v, valV_pos rfl, (by cases z; exact h2)⟩, fun z => (by cases z)⟩
    · simp only [hh, decide_false]
      rw [valV_neg (p := (k', v)) (r := r) (k := k) hh]
      exact ⟨i1, i2⟩
theorem RKV.repl {κ : Type} [DecidableEq κ] {f : D → Option κ} {kd d : D} {v : V} {k : κ} (hk : ∀ d k', f d = some k' → keyEq d kd = decide (k' = k)) (rv : Rep t am H d v) : ∀ {kvs : List (D × D)} {ks : List (κ × V)}, RKV f t am H kvs ks →
    RKV f t am H (kvs.map fun p => if keyEq p.1 kd = true then (p.1, d) else p) (ks.map fun kv => if kv.1 = k then (kv.1, v) else kv)
  | [], ks, h => by rw [show ks = [] from h]; exact rfl
  | p :: ps, ks, ⟨k', v', r, e, h1, h2, h3⟩ => by
    have ih := RKV.repl hk rv h3
    rw [e, List.map_cons, List.map_cons, hk _ _ h1]
    by_cases hh : k' = k
    · simp only [hh, decide_true, if_true]
      exact ⟨k, v, _, rfl, by rw [← hh]; exact h1, rv, ih⟩
    · simp only [hh, decide_false, if_false, Bool.false_eq_true]
      exact ⟨k', v', _, rfl, h1, h2, ih⟩
theorem RKV.snoc {κ : Type} {f : D → Option κ} {kd d : D} {v : V} {k : κ} (hk : f kd = some k) (rv : Rep t am H d v) : ∀ {kvs : List (D × D)} {ks : List (κ × V)}, RKV f t am H kvs ks → RKV f t am H (kvs ++ [(kd, d)]) (ks ++ [(k, v)])
  | [], ks, h => by rw [show ks = [] from h]; exact ⟨k, v, [], rfl, hk, rv, rfl⟩
  | p :: ps, ks, ⟨k', v', r, e, h1, h2, h3⟩ => by rw [e]; exact ⟨k', v', _, rfl, h1, h2, RKV.snoc hk rv h3⟩
theorem RKV.put {κ : Type} [DecidableEq κ] {f : D → Option κ} {kd d : D} {v : V} {k : κ} (hk : ∀ d k', f d = some k' → keyEq d kd = decide (k' = k)) (hkd : f kd = some k) (rv : Rep t am H d v) {kvs : List (D × D)} {ks : List (κ × V)} (h : RKV f t am H kvs ks) :
    RKV f t am H (putD kvs kd d) (putK ks k v) := by
  obtain ⟨h1, h2⟩ := h.fnd hk
  unfold putD putK
  rw [valV_any]
  cases e : fndD kvs kd with
  | none => rw [h2 e]; exact h.snoc hkd rv
  | some x =>
    obtain ⟨w, e2, _⟩ := h1 x e
    rw [e2]
    exact h.repl hk rv
theorem RKV.length {κ : Type} {f : D → Option κ} : ∀ {kvs : List (D × D)} {ks : List (κ × V)}, RKV f t am H kvs ks → kvs.length = ks.length
  | [], ks, h => by rw [show ks = [] from h]; rfl
  | p :: ps, ks, ⟨k', v', r, e, h1, h2, h3⟩ => by rw [e, List.length_cons, List.length_cons, RKV.length h3]
theorem keyEq_D {kd : D} {k : Key} (h : keyD kd = some k) : ∀ d k', keyD d = some k' → keyEq d kd = decide (k' = k) := fun d k' e => by unfold keyEq; rw [e, h]
theorem keyEq_T {kd : D} {k : List Key} (h : keyT kd = some k) : ∀ d k', keyT d = some k' → keyEq d kd = decide (k' = k) := fun d k' e => by unfold keyEq; rw [keyT_D e, e, h]
theorem keyD_V {kd : D} {k : Key} {y : V} (h : keyD kd = some k) (r : Rep t am H kd y) : y = kV k := by
  cases kd with
  | int i => cases h; exact r
  | str x => cases h; exact r
  | _ => cases h
theorem keysD_V : ∀ {ds : List D} {ks : List Key} {vs : List V}, keysD ds = some ks → Reps t am H ds vs → vs = ks.map kV
  | [], ks, vs, h, r => by
    cases h
    exact r
  | d :: ds, ks, vs, h, ⟨v, w, e, r1, r2⟩ => by
    unfold keysD at h
    split at h
    · rename_i k ks' e1 e2
      cases h
      rw [e, keyD_V e1 r1, keysD_V e2 r2, List.map_cons]
    · cases h
end
section
variable {t : Tb} {am : List Addr} {H : Hp} {s : S}
theorem dctO_some {x : Option O} {tk : Bool} {kvs : List (D × D)} (h : dctO x = some (tk, kvs)) : x = some (.dct tk kvs) := by
  unfold dctO at h
  split at h
  · cases h; rfl
  · cases h
theorem keyT_V {kd : D} {k : List Key} {y : V} (h : keyT kd = some k) (r : Rep t am H kd y) : ∃ b, y = .ref b ∧ H b = some (.tup (k.map kV)) := by
  cases kd with
  | tup ds =>
    obtain ⟨a, vs, rfl, h1, h2⟩ := r.tupH
    have h : keysD ds = some k := h
    exact ⟨a, rfl, by rw [h1, keysD_V h h2]⟩
  | _ => cases h
/-- a dict's place, and what it holds there -/
theorem dget_sp {d kd : D} {x y : V} {tk : Bool} {kvs : List (D × D)} (m : Ms t am s H) (rx : Rep t am H d x) (ry : Rep t am H kd y) (e : dctD d s = some (tk, kvs)) (hk : keyOk tk kd = true) :
    ∃ a o, x = .ref a ∧ IsD H a ∧ DGet H a y o ∧ (∀ z, fndD kvs kd = some z → ∃ v, o = some v ∧ Rep t am H z v) ∧ (fndD kvs kd = none → o = none) := by
  cases d with
  | ref n =>
    obtain ⟨a, rfl, ha⟩ := rx.refE
    have om := m.at (dctO_some e) ha
    cases tk with
    | false =>
      obtain ⟨ks, h1, h2⟩ := om
      cases hd : keyD kd with
      | none => unfold keyOk at hk; simp [hd] at hk
      | some k =>
        obtain ⟨f1, f2⟩ := h2.fnd (keyEq_D hd)
        cases keyD_V hd ry
        exact ⟨a, valV ks k, rfl, .inl ⟨ks, .inl h1⟩, .k h1, f1, f2⟩
    | true =>
      obtain ⟨ks, h1, h2⟩ := om
      cases hd : keyT kd with
      | none => unfold keyOk at hk; simp [hd] at hk
      | some k =>
        obtain ⟨f1, f2⟩ := h2.fnd (keyEq_T hd)
        obtain ⟨b, rfl, hb⟩ := keyT_V hd ry
        exact ⟨a, valV ks k, rfl, .inr ⟨ks, .inl h1⟩, .t h1 hb, f1, f2⟩
  | _ => cases e
theorem isD_sp {d : D} {x : V} {tk : Bool} {kvs : List (D × D)} (m : Ms t am s H) (rx : Rep t am H d x) (e : dctD d s = some (tk, kvs)) : ∃ a, x = .ref a ∧ IsD H a := by
  cases d with
  | ref n =>
    obtain ⟨a, rfl, ha⟩ := rx.refE
    have om := m.at (dctO_some e) ha
    cases tk with
    | false => obtain ⟨ks, h1, h2⟩ := om; exact ⟨a, rfl, .inl ⟨ks, .inl h1⟩⟩
    | true => obtain ⟨ks, h1, h2⟩ := om; exact ⟨a, rfl, .inr ⟨ks, .inl h1⟩⟩
  | _ => cases e
def oDIx : P2 := fun x y s => match dctD x s with
  | some (tk, kvs) => if keyOk tk y = true then match fndD kvs y with
    | some d => .ok d s
    | none => .stk else .stk
  | none => .stk
def oDIn : P2 := fun y x s => match dctD x s with
  | some (tk, kvs) => if keyOk tk y = true then .ok (.bl (fndD kvs y).isSome) s else .stk
  | none => .stk
def oDNotIn : P2 := fun y x s => match dctD x s with
  | some (tk, kvs) => if keyOk tk y = true then .ok (.bl (!(fndD kvs y).isSome)) s else .stk
  | none => .stk
def eGet2 (a b c : E) : E := fun r s => (a r s).bind fun x s1 => if (dctD x s1).isSome = true then (b r s1).bind fun y s2 => (c r s2).bind fun z s3 => match dctD x s3 with
  | some (tk, kvs) => if keyOk tk y = true then .ok ((fndD kvs y).getD z) s3 else .stk
  | none => .stk else .stk
def eGet1 (a b : E) : E := fun r s => (a r s).bind fun x s1 => if (dctD x s1).isSome = true then (b r s1).bind fun y s2 => match dctD x s2 with
  | some (tk, kvs) => if keyOk tk y = true then .ok ((fndD kvs y).getD .non) s2 else .stk
  | none => .stk else .stk
def putDct (x y v : D) (s : S) : Option S := match x with
  | .ref n => match dctO s[n]? with
    | some (tk, kvs) => if keyOk tk y = true ∧ kvs.length < LINE then some (s.set n (.dct tk (putD kvs y v))) else none
    | none => none
  | _ => none
def zPutD (o i e : E) : Sm := fun r s => (e r s).then r fun v s1 => (o r s1).then r fun x s2 => (i r s2).then r fun k s3 => match putDct x k v s3 with
  | some s4 => .nx r s4
  | none => .stk
def eDNew (tk : Bool) : E := fun _ s => .ok (.ref s.length) (s ++ [.dct tk []])
/-- the pairs of a list -/
def pairsD : List D → Option (List (D × D))
  | [] => some []
  | .tup [k, v] :: r => match keyD k, pairsD r with
    | some _, some ps => some ((k, v) :: ps)
    | _, _ => none
  | _ :: _ => none
def mergeD (kvs more : List (D × D)) : List (D × D) := more.foldl (fun acc p => putD acc p.1 p.2) kvs
def bDict : PN := fun ds s => match ds with
  | [x] => match seqL x s with
    | some xs => match pairsD xs with
      | some ps => .ok (.ref s.length) (s ++ [.dct false (mergeD [] ps)])
      | none => .stk
    | none => .stk
  | _ => .stk
end
section
variable {X : Cx} {t : Tb} {W : XW} {o i e : Expr} {mo mi m mz : E} {pos pos' apos : Pos}
theorem s_dix (hu : X.A.units + 1 < cLine) (ho : SE X t W o mo) (hi : SE X t W i mi) (hs : NoSl i) : SE X t W (.Subscript o i pos) (e2 oDIx mo mi) :=
  (pe_dget hu ho hi hs).imp fun σ H Q ⟨am, r, s, en, mm, h⟩ => tyE.of en mm h fun d1 s1 am1 H1 v1 en1 m1 p1 r1 h1 => tyE.of en1 m1 h1 fun d2 s2 am2 H2 v2 en2 m2 p2 r2 h2 => by
    unfold oDIx at h2
    split at h2
    · rename_i tk kvs ed
      split at h2
      · rename_i hk
        obtain ⟨a, o, rfl, _, g, f1, f2⟩ := dget_sp m2 (r1.mono p2) r2 ed hk
        split at h2
        · rename_i d ef
          obtain ⟨v, rfl, rv⟩ := f1 d ef
          exact ⟨a, v, rfl, g, h2.ok0 m2 rv⟩
        · exact h2.elim
      · exact h2.elim
    · exact h2.elim
theorem s_din (hu : X.A.units + 1 < cLine) (hi : SE X t W i mi) (ho : SE X t W o mo) (hm : behindInMarks .In o = false) : SE X t W (.Compare i [.In] [o] pos) (e2 oDIn mi mo) :=
  (pe_cmp (pc_din hu hi ho) hm).imp fun σ H Q ⟨am, r, s, en, mm, h⟩ => tyE.of en mm h fun d1 s1 am1 H1 v1 en1 m1 p1 r1 h1 => tyE.of en1 m1 h1 fun d2 s2 am2 H2 v2 en2 m2 p2 r2 h2 => by
    unfold oDIn at h2
    split at h2
    · rename_i tk kvs ed
      split at h2
      · rename_i hk
        obtain ⟨a, o, rfl, _, g, f1, f2⟩ := dget_sp m2 r2 (r1.mono p2) ed hk
        refine ⟨a, o, rfl, g, h2.ok0 m2 ?_⟩
        cases ef : fndD kvs d1 with
        | none => rw [f2 ef]; rfl
        | some z =>
          obtain ⟨v, rfl, _⟩ := f1 z ef
          rfl
      · exact h2.elim
    · exact h2.elim
theorem s_dnotin (hu : X.A.units + 1 < cLine) (hi : SE X t W i mi) (ho : SE X t W o mo) (hm : behindInMarks .NotIn o = false) : SE X t W (.Compare i [.NotIn] [o] pos) (e2 oDNotIn mi mo) :=
  (pe_cmp (pc_dnotin hu hi ho) hm).imp fun σ H Q ⟨am, r, s, en, mm, h⟩ => tyE.of en mm h fun d1 s1 am1 H1 v1 en1 m1 p1 r1 h1 => tyE.of en1 m1 h1 fun d2 s2 am2 H2 v2 en2 m2 p2 r2 h2 => by
    unfold oDNotIn at h2
    split at h2
    · rename_i tk kvs ed
      split at h2
      · rename_i hk
        obtain ⟨a, o, rfl, _, g, f1, f2⟩ := dget_sp m2 r2 (r1.mono p2) ed hk
        refine ⟨a, o, rfl, g, h2.ok0 m2 ?_⟩
        cases ef : fndD kvs d1 with
        | none => rw [f2 ef]; rfl
        | some z =>
          obtain ⟨v, rfl, _⟩ := f1 z ef
          rfl
      · exact h2.elim
    · exact h2.elim
theorem s_get2 {f : Expr} (hu : X.A.units + 1 < cLine) (ho : SE X t W o mo) (he : SE X t W e m) (hf : SE X t W f mz) (M : M2 X o "get" apos e f pos) : SE X t W (.Call (.Attribute o "get" apos) [e, f] [] pos) (eGet2 mo m mz) :=
  (pe_dget2 hu ho he hf M).imp fun σ H Q ⟨am, r, s, en, mm, h⟩ => tyE.of en mm h fun d1 s1 am1 H1 v1 en1 m1 p1 r1 h1 => by
    split at h1
    · rename_i hd
      cases ed : dctD d1 s1 with
      | none => rw [ed] at hd; cases hd
      | some q =>
        obtain ⟨a, rfl, isd⟩ := isD_sp m1 r1 (tk := q.1) (kvs := q.2) ed
        refine ⟨a, rfl, isd, ?_⟩
        refine tyE.of en1 m1 h1 fun d2 s2 am2 H2 v2 en2 m2 p2 r2 h2 => tyE.of en2 m2 h2 fun d3 s3 am3 H3 v3 en3 m3 p3 r3 h3 => ?_
        split at h3
        · rename_i tk kvs ed3
          split at h3
          · rename_i hk
            obtain ⟨a', o, e', _, g, f1, f2⟩ := dget_sp m3 ((r1.mono p2).mono p3) (r2.mono p3) ed3 hk
            cases e'
            refine ⟨o, g, h3.ok0 m3 ?_⟩
            cases ef : fndD kvs d2 with
            | none => rw [f2 ef]; exact r3
            | some z =>
              obtain ⟨v, rfl, rv⟩ := f1 z ef
              exact rv
          · exact h3.elim
        · exact h3.elim
    · exact h1.elim
theorem s_get1 (hu : X.A.units + 1 < cLine) (ho : SE X t W o mo) (he : SE X t W e m) (M : M1 X o "get" apos e pos) : SE X t W (.Call (.Attribute o "get" apos) [e] [] pos) (eGet1 mo m) :=
  (pe_dget1 hu ho he M).imp fun σ H Q ⟨am, r, s, en, mm, h⟩ => tyE.of en mm h fun d1 s1 am1 H1 v1 en1 m1 p1 r1 h1 => by
    split at h1
    · rename_i hd
      cases ed : dctD d1 s1 with
      | none => rw [ed] at hd; cases hd
      | some q =>
        obtain ⟨a, rfl, isd⟩ := isD_sp m1 r1 (tk := q.1) (kvs := q.2) ed
        refine ⟨a, rfl, isd, ?_⟩
        refine tyE.of en1 m1 h1 fun d2 s2 am2 H2 v2 en2 m2 p2 r2 h2 => ?_
        split at h2
        · rename_i tk kvs ed3
          split at h2
          · rename_i hk
            obtain ⟨a', o, e', _, g, f1, f2⟩ := dget_sp m2 (r1.mono p2) r2 ed3 hk
            cases e'
            refine ⟨o, g, h2.ok0 m2 ?_⟩
            cases ef : fndD kvs d2 with
            | none => rw [f2 ef]; exact rfl
            | some z =>
              obtain ⟨v, rfl, rv⟩ := f1 z ef
              exact rv
          · exact h2.elim
        · exact h2.elim
    · exact h1.elim
theorem z_putD (hu : X.A.units + 1 < cLine) (he : SE X t W e m) (ho : SE X t W o mo) (hi : SE X t W i mi) (hs : swapsWith e (some (.Subscript o i pos')) pos.line X.env = pure false := by rfl) :
    SS X t W (.Assign [.Subscript o i pos'] e pos) (zPutD mo mi m) :=
  (ps_dput hu ho hi he hs).imp fun D σ H ⟨am, r, s, en, mm, h⟩ => by
    refine ⟨am, r, s, en, mm, FQ.seq en h fun d1 s1 am1 H1 v1 p1 en1 m1 r1 h1 => ?_⟩
    refine ⟨am1, r, s1, en1, m1, FQ.seq en1 h1 fun d2 s2 am2 H2 v2 p2 en2 m2 r2 h2 => ?_⟩
    refine ⟨am2, r, s2, en2, m2, FQ.seq en2 h2 fun d3 s3 am3 H3 v3 p3 en3 m3 r3 h3 => ?_⟩
    split at h3
    · rename_i s4 e4
      unfold putDct at e4
      split at e4
      · rename_i n
        obtain ⟨a, rfl, ha⟩ := (r2.mono p3).refE
        split at e4
        · rename_i tk kvs ed
          split at e4
          · rename_i hk
            cases e4
            have om := m3.at (dctO_some ed) ha
            have rv := (r1.mono p2).mono p3
            have ma := List.mem_of_getElem? ha
            cases tk with
            | false =>
              obtain ⟨ks, h4, h5⟩ := om
              cases hd : keyD d3 with
              | none => have := hk.1; unfold keyOk at this; simp [hd] at this
              | some k =>
                cases keyD_V hd r3
                have P : Post am3 H3 am3 (L2.upd H3 a (.dK (putK ks k v1))) := .put ma h4 (fun z => z)
                obtain ⟨_, m4⟩ := m3.put (u := .dK (putK ks k v1)) (o := .dct false (putD kvs d3 d1)) ha ⟨_, upd_same, (h5.put (keyEq_D hd) hd rv).lift P.lift⟩
                exact ⟨a, _, rfl, .k h4 (by rw [← h5.length]; exact Nat.lt_of_lt_of_le hk.2 (by unfold LINE; decide)), h3 am3 _ σ P m4 (en3.mono P)⟩
            | true =>
              obtain ⟨ks, h4, h5⟩ := om
              cases hd : keyT d3 with
              | none => have := hk.1; unfold keyOk at this; simp [hd] at this
              | some k =>
                obtain ⟨b, rfl, hb⟩ := keyT_V hd r3
                have P : Post am3 H3 am3 (L2.upd H3 a (.dT (putK ks k v1))) := .put ma h4 (fun z => z)
                obtain ⟨_, m4⟩ := m3.put (u := .dT (putK ks k v1)) (o := .dct true (putD kvs d3 d1)) ha ⟨_, upd_same, (h5.put (keyEq_T hd) hd rv).lift P.lift⟩
                exact ⟨a, _, rfl, .t h4 hb (by rw [← h5.length]; exact Nat.lt_of_lt_of_le hk.2 (by unfold LINE; decide)), h3 am3 _ σ P m4 (en3.mono P)⟩
          · cases e4
        · cases e4
      · cases e4
    · exact h3.elim
theorem s_dnewK : SE X t W (.Dict [] [] pos) (eDNew false) := pe_dnewK.imp fun σ H Q ⟨am, r, s, en, mm, h⟩ => fun p hp =>
  h.ok (.new hp) (mm.new hp ⟨[], upd_same, rfl⟩) ⟨p, rfl, by rw [← mm.len]; simp⟩
theorem s_dnewT : SE X t W (.Dict [] [] pos) (eDNew true) := pe_dnewT.imp fun σ H Q ⟨am, r, s, en, mm, h⟩ => fun p hp =>
  h.ok (.new hp) (mm.new hp ⟨[], upd_same, rfl⟩) ⟨p, rfl, by rw [← mm.len]; simp⟩
end
section
variable {t : Tb} {am : List Addr} {H : Hp}
theorem RKV.merge : ∀ {more : List (D × D)} {mk : List (Key × V)} {kvs : List (D × D)} {ks : List (Key × V)}, RKV keyD t am H more mk → RKV keyD t am H kvs ks → RKV keyD t am H (mergeD kvs more) (mergeK ks mk)
  | [], mk, kvs, ks, h, h' => by rw [show mk = [] from h]; exact h'
  | p :: ps, mk, kvs, ks, ⟨k', v', r, e, h1, h2, h3⟩, h' => by
    rw [e]
    exact RKV.merge (more := ps) (mk := r) h3 (h'.put (keyEq_D h1) h1 h2)
theorem pairs_sp : ∀ {xs : List D} {vs : List V} {ps : List (D × D)}, Reps t am H xs vs → pairsD xs = some ps → ∃ (as : List Addr) (ks : List (Key × V)), vs = as.map V.ref ∧ Paired (fun p kv => SqT t.K H p [kV kv.1, kv.2]) as ks ∧ RKV keyD t am H ps ks
  | [], vs, ps, r, e => by
    cases e
    exact ⟨[], [], r, .nil, rfl⟩
  | x :: xs, vs, ps, ⟨v, w, e1, r1, r2⟩, e => by
    unfold pairsD at e
    split at e
    · cases e; rename_i h; cases h
    · rename_i k y rr h
      cases h
      split at e
      · rename_i kk ps' ek ep
        cases e
        obtain ⟨as, ks, rfl, h2, h3⟩ := pairs_sp r2 ep
        obtain ⟨a, us, rfl, h4, h5⟩ := r1.tupE
        obtain ⟨u1, w1, rfl, h6, h7⟩ := h5
        obtain ⟨u2, w2, rfl, h8, h9⟩ := h7
        cases (show w2 = [] from h9)
        cases keyD_V ek h6
        exact ⟨a :: as, (kk, u2) :: ks, by rw [e1]; rfl, .cons h4 h2, kk, u2, ks, rfl, ek, h8, h3⟩
      · cases e
    · cases e
def rDictP (K : PySem.W.Frag) : List V → Hp → VK → Prop := fun xs H Q => ∃ (a : Addr) (ps : List Addr) (kvs : List (Key × V)), xs = [.ref a] ∧ SqL K H a (ps.map V.ref) ∧ Paired (fun p kv => SqT K H p [kV kv.1, kv.2]) ps kvs ∧
    ∀ p, H p = none → Q (.ref p) (L2.upd H p (.dK (mergeK [] kvs)))
theorem call_dictP2 {X : Cx} (hcalm : X.calm = true) : CallR X (.type "dict") (rDictP X.K) := call_dictP hcalm
theorem n_dict : OpN t (rDictP t.K) bDict := fun am s H ds vs Ex Q m r q => by
  unfold bDict at q
  split at q
  · obtain ⟨v, rfl, h⟩ := reps1 r
    split at q
    · rename_i xs e
      obtain ⟨a, us, rfl, rv, hs⟩ := seqL_of m h e
      split at q
      · rename_i ps ep
        obtain ⟨as, ks, rfl, h2, h3⟩ := pairs_sp rv ep
        refine ⟨a, as, ks, rfl, hs, h2, fun p hp => ?_⟩
        have h4 : RKV keyD t am H (mergeD [] ps) (mergeK [] ks) := RKV.merge h3 (show RKV keyD t am H [] [] from rfl)
        exact q.ok (.new hp) (m.new hp ⟨_, upd_same, h4.lift (Post.new hp).lift⟩) ⟨p, rfl, by rw [← m.len]; simp⟩
      · exact q.elim
    · exact q.elim
  · exact q.elim
end
end Y

/-! Y13: zip, sorted, in, max and min of lists, lists unpacked. -/
namespace Y
open PySem L2
/-! ### zip -/
def zipD (xs ys : List D) : List D := List.zipWith (fun x y => .tup [x, y]) xs ys
def zipF (n m : Nat) (s : S) : Option (List D) := match s[n]?, s[m]? with
  | some (.lst xs), some (.lst ys) => some (zipD xs ys)
  | _, _ => none
def iZip (a b : E) : IW := fun r s => (a r s).bind fun x s1 => (b r s1).bind fun y s2 => match x, y with
  | .tup xs, .tup ys => .ok (.items (zipD xs ys)) s2
  | .ref n, .ref m => if (zipF n m s2).isSome = true then .ok (.dyn (zipF n m)) s2 else .stk
  | _, _ => .stk
section
variable {t : Tb}
theorem zip_get {xs ys : List D} {i : Nat} {d : D} (h : (zipD xs ys)[i]? = some d) : ∃ x y, d = .tup [x, y] ∧ xs[i]? = some x ∧ ys[i]? = some y := by
  unfold zipD at h
  rw [List.getElem?_zipWith] at h
  cases h1 : xs[i]? with
  | none => rw [h1] at h; cases h
  | some x =>
    cases h2 : ys[i]? with
    | none => rw [h1, h2] at h; cases h
    | some y => rw [h1, h2] at h; cases h; exact ⟨x, y, rfl, rfl, rfl⟩
theorem zip_end {xs ys : List D} {i : Nat} (h : (zipD xs ys)[i]? = none) : xs.length ≤ i ∨ ys.length ≤ i := by
  rw [List.getElem?_eq_none_iff] at h
  unfold zipD at h
  rw [List.length_zipWith] at h
  omega
theorem zip_yield {am : List Addr} {H : Hp} {d e : D} {x y : V} {T : Addr} (hT : H T = none) (r1 : Rep t am H d x) (r2 : Rep t am H e y) : Rep t am (L2.upd H T (.tup [x, y])) (.tup [d, e]) (.ref T) :=
  ⟨T, [x, y], rfl, upd_same, x, [y], rfl, r1.mono (.upd hT), y, [], rfl, r2.mono (.upd hT), rfl⟩
theorem itok_zipT {a b : Addr} {xs ys : List D} : ItOk t (RZ.ItzT t.K a b) (fun am H => ∃ vs ws, SqT t.K H a vs ∧ Reps t am H xs vs ∧ SqT t.K H b ws ∧ Reps t am H ys ws) (zipD xs ys) where
  item := fun i d am H ⟨vs, ws, h1, h2, h3, h4⟩ e => by
    obtain ⟨dx, dy, rfl, ex, ey⟩ := zip_get e
    obtain ⟨x, e1, r1⟩ := h2.get ex
    obtain ⟨y, e2, r2⟩ := h4.get ey
    refine ⟨⟨vs, ws, x, y, h1, h3, e1, e2⟩, fun z H' q => ?_⟩
    obtain ⟨T, x', y', rfl, hT, rfl, q1, q2⟩ := q
    have := q1 vs h1
    rw [e1] at this; cases this
    have := q2 ws h3
    rw [e2] at this; cases this
    exact ⟨.upd hT, fun s m => m.upd hT, zip_yield hT r1 r2⟩
  stop := fun i am H ⟨vs, ws, h1, h2, h3, h4⟩ e => ⟨vs, ws, h1, h3, by rw [← h2.length, ← h4.length]; exact zip_end e⟩
  keep := fun am H am' H' ⟨vs, ws, h1, h2, h3, h4⟩ p => ⟨vs, ws, p.sqT h1, h2.mono p, p.sqT h3, h4.mono p⟩
theorem dyn_zip {a b : Addr} {n m : Nat} : DynOk t (L2.Itz t.K a b) (fun am => am[n]? = some a ∧ am[m]? = some b) (zipF n m) where
  item := fun i d xs am s H ⟨ga, gb⟩ M e hd => by
    unfold zipF at e
    split at e
    · rename_i us ws e1 e2
      cases e
      obtain ⟨dx, dy, rfl, ex, ey⟩ := zip_get hd
      obtain ⟨vs, h1, h2⟩ := M.lst e1 ga
      obtain ⟨zs, h3, h4⟩ := M.lst e2 gb
      obtain ⟨x, e3, r1⟩ := h2.get ex
      obtain ⟨y, e4, r2⟩ := h4.get ey
      refine ⟨⟨vs, zs, x, y, .of h1, .of h3, e3, e4⟩, fun z H' q => ?_⟩
      obtain ⟨T, x', y', rfl, hT, rfl, q1, q2⟩ := q
      have := q1 vs (.of h1)
      rw [e3] at this; cases this
      have := q2 zs (.of h3)
      rw [e4] at this; cases this
      exact ⟨.upd hT, M.upd hT, zip_yield hT r1 r2⟩
    · cases e
  stop := fun i xs am s H ⟨ga, gb⟩ M e hd => by
    unfold zipF at e
    split at e
    · rename_i us ws e1 e2
      cases e
      obtain ⟨vs, h1, h2⟩ := M.lst e1 ga
      obtain ⟨zs, h3, h4⟩ := M.lst e2 gb
      exact ⟨vs, zs, .of h1, .of h3, by rw [← h2.length, ← h4.length]; exact zip_end hd⟩
    · cases e
  keep := fun am H am' H' ⟨ga, gb⟩ p => ⟨p.at ga, p.at gb⟩
end
section
variable {X : Cx} {t : Tb} {W : XW} {a b : Expr} {ma mb : E} {p pos tpos : Pos}
theorem i_zip {elts : List Expr} {kk : Nat} (hK : X.K = t.K) (hg : Gl X "zip") (hm : X.mg "zip" = none) (ha : SE X t W a ma) (hb : SE X t W b mb) (hs : starEach [a, b] X.env = (false, eval a X.env) :: starEach [b] X.env := by rfl) (hs2 : starEach [b] X.env = (false, eval b X.env) :: starEach [] X.env := by rfl) (hpl : (backTo pos (starEach [b] X.env)).any (·.1) = false := by rfl) :
    SI X t W (.Tuple elts kk tpos) (.Call (.Name "zip" p) [a, b] [] pos) (iZip ma mb) :=
  (RZ.pi_zipA hg hm (s_cons ha (s_cons hb s_nil hs2) hs) hs hpl).imp fun σ H R ⟨am, r, s, en, mm, h⟩ => by
    refine ⟨am, r, s, en, mm, ?_⟩
    have h : IQ t am H ((ma r s).bind _) (W σ) R := h
    simp only [aC, aN]
    cases hx : ma r s with
    | ok d s1 =>
      rw [hx] at h
      simp only [Rs.bind_ok] at h ⊢
      cases hy : mb r s1 with
      | ok d2 s2 =>
        rw [hy] at h
        intro am' H' b q m z
        obtain ⟨v, w, rfl, z1, z2⟩ := z
        obtain ⟨v2, w2, rfl, z3, z4⟩ := z2
        cases (show w2 = [] from z4)
        have h := IQ.re h q
        rw [hK]
        cases d with
        | tup xs =>
          cases d2 with
          | tup ys =>
            simp only [Rs.bind_ok] at h
            obtain ⟨a1, vs, rfl, h1, h2⟩ := z1.tupE
            obtain ⟨a2, ws, rfl, h3, h4⟩ := z3.tupE
            exact ⟨a1, a2, vs, ws, rfl, .inr ⟨h1, h3, h am' H' _ _ .refl m itok_zipT ⟨vs, ws, h1, h2, h3, h4⟩⟩⟩
          | _ => exact h.elim
        | ref n =>
          cases d2 with
          | ref k =>
            simp only [Rs.bind_ok] at h
            split at h
            · rename_i hz
              obtain ⟨a1, rfl, g1⟩ := z1.refE
              obtain ⟨a2, rfl, g2⟩ := z3.refE
              unfold zipF at hz
              split at hz
              · rename_i us zs e1 e2
                obtain ⟨vs, h1, h2⟩ := m.lst e1 g1
                obtain ⟨ws, h3, h4⟩ := m.lst e2 g2
                exact ⟨a1, a2, vs, ws, rfl, .inl ⟨.of h1, .of h3, h am' H' _ _ .refl m dyn_zip ⟨g1, g2⟩⟩⟩
              · cases hz
            · exact h.elim
          | _ => exact h.elim
        | _ => exact h.elim
      | exc c fs s' => rw [hy] at h; exact h
      | stk => rw [hy] at h; exact h
    | exc c fs s' => rw [hx] at h; exact h
    | stk => rw [hx] at h; exact h
end
/-! ### sorted -/
def ins (x : Int) : List Int → List Int
  | [] => [x]
  | y :: r => if x ≤ y then x :: y :: r else y :: ins x r
def srt : List Int → List Int
  | [] => []
  | x :: r => ins x (srt r)
theorem ins_perm (x : Int) : ∀ l, (ins x l).Perm (x :: l)
  | [] => .refl _
  | y :: r => by
    unfold ins
    split
    · exact .refl _
    · exact ((ins_perm x r).cons y).trans (List.Perm.swap x y r)
theorem srt_perm : ∀ l, (srt l).Perm l
  | [] => .refl _
  | x :: r => (ins_perm x _).trans ((srt_perm r).cons x)
theorem ins_sorted (x : Int) : ∀ l : List Int, l.Pairwise (· ≤ ·) → (ins x l).Pairwise (· ≤ ·)
  | [], _ => by simp [ins]
  | y :: r, h => by
    obtain ⟨h1, h2⟩ := List.pairwise_cons.mp h
    unfold ins
    split
    · rename_i hxy
      refine List.pairwise_cons.mpr ⟨fun z hz => ?_, h⟩
      rcases List.mem_cons.mp hz with rfl | hz
      · exact hxy
      · exact Int.le_trans hxy (h1 z hz)
    · rename_i hxy
      refine List.pairwise_cons.mpr ⟨fun z hz => ?_, ins_sorted x r h2⟩
      rcases List.mem_cons.mp ((ins_perm x r).mem_iff.mp hz) with rfl | hz
      · omega
      · exact h1 z hz
theorem srt_sorted : ∀ l : List Int, (srt l).Pairwise (· ≤ ·)
  | [] => .nil
  | x :: r => ins_sorted x _ (srt_sorted r)
theorem sorted_uniq : ∀ {a b : List Int}, a.Perm b → a.Pairwise (· ≤ ·) → b.Pairwise (· ≤ ·) → a = b
  | [], b, p, _, _ => (List.nil_perm.mp p).symm
  | x :: a, [], p, _, _ => by have := p.length_eq; simp at this
  | x :: a, y :: b, p, ha, hb => by
    obtain ⟨a1, a2⟩ := List.pairwise_cons.mp ha
    obtain ⟨b1, b2⟩ := List.pairwise_cons.mp hb
    have e : x = y := by
      have hx := p.mem_iff.mp (List.mem_cons_self (a := x) (l := a))
      have hy := p.mem_iff.mpr (List.mem_cons_self (a := y) (l := b))
      rcases List.mem_cons.mp hx with h | h
      · exact h
      · rcases List.mem_cons.mp hy with h' | h'
        · exact h'.symm
        · have := a1 y h'; have := b1 x h; omega
    subst e
    rw [sorted_uniq (List.perm_cons x |>.mp p) a2 b2]
theorem srt_uniq {l m : List Int} (p : m.Perm l) (s : m.Pairwise (· ≤ ·)) : m = srt l := sorted_uniq (p.trans (srt_perm l).symm) s (srt_sorted l)
/-- without what comes again -/
def ddp : List Int → List Int
  | [] => []
  | x :: r => if x ∈ ddp r then ddp r else x :: ddp r
theorem mem_ddp {k : Int} : ∀ {l : List Int}, k ∈ ddp l ↔ k ∈ l
  | [] => .rfl
  | x :: r => by
    unfold ddp
    have ih := mem_ddp (k := k) (l := r)
    split
    · rename_i h
      rw [ih, List.mem_cons]
      constructor
      · exact .inr
      · rintro (rfl | h')
        · exact mem_ddp.mp h
        · exact h'
    · rw [List.mem_cons, List.mem_cons, ih]
theorem nodup_ddp : ∀ l : List Int, (ddp l).Nodup
  | [] => .nil
  | x :: r => by
    unfold ddp
    split
    · exact nodup_ddp r
    · rename_i h
      exact List.nodup_cons.mpr ⟨h, nodup_ddp r⟩
theorem ddp_uniq {l m : List Int} (h : ∀ k, k ∈ m ↔ k ∈ l) (s : m.Pairwise (· < ·)) : m = srt (ddp l) := by
  refine srt_uniq ?_ (s.imp fun h => by omega)
  refine (List.perm_ext_iff_of_nodup (s.imp fun h => by omega) (nodup_ddp l)).mpr fun k => ?_
  rw [h, mem_ddp]
def keysI (kvs : List (D × D)) : Option (List Int) := intsOf (kvs.map (·.1))
def bSorted : PN := fun ds s => match ds with
  | [.ref n] => match s[n]? with
    | some (.lst xs) => match intsOf xs with
      | some is => .ok (.ref s.length) (s ++ [.lst ((srt is).map D.int)])
      | none => .stk
    | some (.dct false kvs) => match keysI kvs with
      | some is => if is.length < 64 then .ok (.ref s.length) (s ++ [.lst ((srt is).map D.int)]) else .stk
      | none => .stk
    | _ => .stk
  | _ => .stk
def rSortDI : List V → Hp → VK → Prop := fun xs H Q => ∃ (a : Addr) (kvs : List (Key × V)) (ks : List Int), xs = [.ref a] ∧ Rd H a (.dK kvs) ∧ kvs.map (·.1) = ks.map Sum.inl ∧ ks.length < 64 ∧ ∀ (ys : List Int) (p : Addr), ys.Perm ks → ys.Pairwise (· ≤ ·) → H p = none → Q (.ref p) (L2.upd H p (.lst (ys.map V.int)))
def rSort2 (K : PySem.W.Frag) : List V → Hp → VK → Prop := fun xs H Q => L2.rSortedI K xs H Q ∨ rSortDI xs H Q
theorem cr_sort2 {X : Cx} (hc : X.calm = true) : CallR X (.builtin "sorted") (rSort2 X.K) := L2.cr_sortedI.or (call_sortedDI hc)
section
variable {X : Cx} {t : Tb}
theorem repsI {am : List Addr} {H : Hp} : ∀ {is : List Int} {vs : List V}, Reps t am H (is.map D.int) vs → vs = is.map V.int
  | [], vs, h => h
  | i :: is, vs, ⟨v, r, e, h1, h2⟩ => by rw [e, h1.intE, repsI h2]; rfl
theorem intsR {am : List Addr} {H : Hp} : ∀ is : List Int, Reps t am H (is.map D.int) (is.map V.int)
  | [] => rfl
  | n :: ns => ⟨.int n, ns.map V.int, rfl, rfl, intsR ns⟩
theorem keys_ints {am : List Addr} {H : Hp} : ∀ {kvs : List (D × D)} {ks : List (Key × V)} {is : List Int}, RKV keyD t am H kvs ks → keysI kvs = some is → ks.map (·.1) = is.map Sum.inl
  | [], ks, is, h, e => by
    have e : some [] = some is := e
    cases e
    rw [show ks = [] from h]; rfl
  | p :: ps, ks, is, ⟨k, v, r, e, h1, h2, h3⟩, q => by
    obtain ⟨pk, pv⟩ := p
    have q : intsOf (pk :: ps.map (·.1)) = some is := q
    cases pk with
    | int i =>
      unfold intsOf at q
      split at q
      · rename_i js ej
        cases q
        rw [e, List.map_cons, List.map_cons, keys_ints h3 (show keysI ps = some js from ej)]
        cases h1
        rfl
      · cases q
    | _ => cases q
theorem n_sort2 : OpN t (rSort2 t.K) bSorted := fun am s H ds vs Ex Q m r q => by
  unfold bSorted at q
  split at q
  · obtain ⟨v, rfl, h⟩ := reps1 r
    obtain ⟨a, rfl, ha⟩ := h.refE
    split at q
    · rename_i xs e
      obtain ⟨us, h1, h2⟩ := m.lst e ha
      split at q
      · rename_i is ei
        rw [ints_map ei] at h2
        cases repsI h2
        exact .inl ⟨a, is, rfl, .of h1, fun ns p hp hs hn => by rw [srt_uniq hp hs]; exact new_list m q (intsR _) p hn⟩
      · exact q.elim
    · rename_i kvs e
      obtain ⟨ks, h1, h2⟩ := m.at e ha
      split at q
      · rename_i is ei
        split at q
        · rename_i hl
          exact .inr ⟨a, ks, is, rfl, .inl h1, keys_ints h2 ei, hl, fun ns p hp hs hn => by rw [srt_uniq hp hs]; exact new_list m q (intsR _) p hn⟩
        · exact q.elim
      · exact q.elim
    · exact q.elim
  · exact q.elim
end
/-! ### in, not in -/
def oInD : P2 := fun x y s => match D.py s 20 x, D.py s 20 y with
  | some p, some (.list ds) => if PySem.SeqAt.shaped p = true ∧ PySem.SeqAt.shaped (.list ds) = true then .ok (.bl (ds.any fun z => PyData.eqv z p)) s else .stk
  | some p, some (.tuple ds) => if PySem.SeqAt.shaped p = true ∧ PySem.SeqAt.shaped (.tuple ds) = true then .ok (.bl (ds.any fun z => PyData.eqv z p)) s else .stk
  | _, _ => .stk
def oNotInD : P2 := fun x y s => match D.py s 20 x, D.py s 20 y with
  | some p, some (.list ds) => if PySem.SeqAt.shaped p = true ∧ PySem.SeqAt.shaped (.list ds) = true then .ok (.bl (!ds.any fun z => PyData.eqv z p)) s else .stk
  | some p, some (.tuple ds) => if PySem.SeqAt.shaped p = true ∧ PySem.SeqAt.shaped (.tuple ds) = true then .ok (.bl (!ds.any fun z => PyData.eqv z p)) s else .stk
  | _, _ => .stk
def rInT (K : PySem.W.Frag) (f : Bool → Bool) : R2 := fun x y H Q => ∃ d ds, Dp K H x d ∧ Dp K H y (.tuple ds) ∧ SeqAt.shaped d = true ∧ SeqAt.shaped (.tuple ds) = true ∧ Q (.bl (f (ds.any fun z => PyData.eqv z d))) H
theorem shaped_room {A : Around} {d : PyData} {ds : List PyData} (sd : SeqAt.shaped d = true) (hu : A.units + 65 < cLine) : A.units + 1 + min (PyData.depthAll ds) d.depth < cLine := by
  unfold SeqAt.shaped at sd
  simp only [Bool.and_eq_true, decide_eq_true_eq] at sd
  have := Nat.min_le_right (PyData.depthAll ds) d.depth
  omega
section
variable {X : Cx} {t : Tb}
theorem op_inT (hu : X.A.units + 65 < cLine) : OpR X (compareOp .In) (rInT X.K id) := fun pins s σ H x y v u Q I rx ry h => by
  obtain ⟨d, ds, hd, he, sd, se, q⟩ := h
  obtain ⟨as, r1⟩ := Dp.reads I d x v hd rx
  obtain ⟨bs, r2⟩ := Dp.reads I (.tuple ds) y u he ry
  exact SeqAt.in_tuple_reads r2 r1 (SeqAt.canLay_of_shaped se) (SeqAt.canLay_of_shaped sd) (shaped_room sd hu) ⟨.bl _, H, I, rfl, q⟩
theorem op_notInT (hu : X.A.units + 65 < cLine) : OpR X (compareOp .NotIn) (rInT X.K not) := fun pins s σ H x y v u Q I rx ry h => by
  obtain ⟨d, ds, hd, he, sd, se, q⟩ := h
  obtain ⟨as, r1⟩ := Dp.reads I d x v hd rx
  obtain ⟨bs, r2⟩ := Dp.reads I (.tuple ds) y u he ry
  exact SeqAt.notIn_tuple_reads r2 r1 (SeqAt.canLay_of_shaped se) (SeqAt.canLay_of_shaped sd) (shaped_room sd hu) ⟨.bl _, H, I, rfl, q⟩
end
section
variable {X : Cx} {t : Tb}
def rIn3 (K : PySem.W.Frag) : R2 := fun x y H Q => rInD K x y H Q ∨ rInT K id x y H Q
def rNotIn3 (K : PySem.W.Frag) : R2 := fun x y H Q => rNotInD K x y H Q ∨ rInT K not x y H Q
theorem op_in3 (hu : X.A.units + 65 < cLine) : OpR X (compareOp .In) (rIn3 X.K) := (op_inD hu).or (op_inT hu)
theorem op_notIn3 (hu : X.A.units + 65 < cLine) : OpR X (compareOp .NotIn) (rNotIn3 X.K) := (op_notInD hu).or (op_notInT hu)
theorem o_in3 : Op2 t (rIn3 t.K) oInD := fun am s H d1 d2 v1 v2 Ex Q m r1 r2 q => by
  unfold oInD at q
  split at q
  · rename_i p ds e1 e2
    split at q
    · rename_i hs
      exact .inl ⟨p, ds, py_dp m _ _ _ _ e1 r1, py_dp m _ _ _ _ e2 r2, hs.1, hs.2, q.ok0 m rfl⟩
    · exact q.elim
  · rename_i p ds e1 e2
    split at q
    · rename_i hs
      exact .inr ⟨p, ds, py_dp m _ _ _ _ e1 r1, py_dp m _ _ _ _ e2 r2, hs.1, hs.2, q.ok0 m rfl⟩
    · exact q.elim
  · exact q.elim
theorem o_notIn3 : Op2 t (rNotIn3 t.K) oNotInD := fun am s H d1 d2 v1 v2 Ex Q m r1 r2 q => by
  unfold oNotInD at q
  split at q
  · rename_i p ds e1 e2
    split at q
    · rename_i hs
      exact .inl ⟨p, ds, py_dp m _ _ _ _ e1 r1, py_dp m _ _ _ _ e2 r2, hs.1, hs.2, q.ok0 m rfl⟩
    · exact q.elim
  · rename_i p ds e1 e2
    split at q
    · rename_i hs
      exact .inr ⟨p, ds, py_dp m _ _ _ _ e1 r1, py_dp m _ _ _ _ e2 r2, hs.1, hs.2, q.ok0 m rfl⟩
    · exact q.elim
  · exact q.elim
/-! ### max and min of a list -/
def maxI : List Int → Int
  | [] => 0
  | x :: r => r.foldl max x
def minI : List Int → Int
  | [] => 0
  | x :: r => r.foldl min x
theorem maxI_sp : ∀ (r : List Int) (x : Int), (r.foldl max x ∈ x :: r) ∧ ∀ y ∈ x :: r, y ≤ r.foldl max x
  | [], x => ⟨List.mem_cons_self, fun y hy => by rw [List.mem_singleton] at hy; rw [hy]; exact Int.le_refl _⟩
  | z :: r, x => by
    obtain ⟨h1, h2⟩ := maxI_sp r (max x z)
    rw [List.foldl_cons]
    refine ⟨?_, fun y hy => ?_⟩
    · rcases List.mem_cons.mp h1 with e | e
      · rw [e]
        rcases Int.le_total x z with h | h
        · rw [Int.max_eq_right h]; simp
        · rw [Int.max_eq_left h]; simp
      · exact List.mem_cons_of_mem _ (List.mem_cons_of_mem _ e)
    · have h0 := h2 (max x z) List.mem_cons_self
      rcases List.mem_cons.mp hy with rfl | hy
      · exact Int.le_trans (Int.le_max_left _ _) h0
      · rcases List.mem_cons.mp hy with rfl | hy
        · exact Int.le_trans (Int.le_max_right _ _) h0
        · exact h2 y (List.mem_cons_of_mem _ hy)
theorem minI_sp : ∀ (r : List Int) (x : Int), (r.foldl min x ∈ x :: r) ∧ ∀ y ∈ x :: r, r.foldl min x ≤ y
  | [], x => ⟨List.mem_cons_self, fun y hy => by rw [List.mem_singleton] at hy; rw [hy]; exact Int.le_refl _⟩
  | z :: r, x => by
    obtain ⟨h1, h2⟩ := minI_sp r (min x z)
    rw [List.foldl_cons]
    refine ⟨?_, fun y hy => ?_⟩
    · rcases List.mem_cons.mp h1 with e | e
      · rw [e]
        rcases Int.le_total x z with h | h
        · rw [Int.min_eq_left h]; simp
        · rw [Int.min_eq_right h]; simp
      · exact List.mem_cons_of_mem _ (List.mem_cons_of_mem _ e)
    · have h0 := h2 (min x z) List.mem_cons_self
      rcases List.mem_cons.mp hy with rfl | hy
      · exact Int.le_trans h0 (Int.min_le_left _ _)
      · rcases List.mem_cons.mp hy with rfl | hy
        · exact Int.le_trans h0 (Int.min_le_right _ _)
        · exact h2 y (List.mem_cons_of_mem _ hy)
def bMaxL : PN := fun ds s => match ds with
  | [x] => match seqL x s with
    | some xs => match intsOf xs with
      | some (i :: is) => .ok (.int (maxI (i :: is))) s
      | _ => .stk
    | none => .stk
  | _ => .stk
def bMinL : PN := fun ds s => match ds with
  | [x] => match seqL x s with
    | some xs => match intsOf xs with
      | some (i :: is) => .ok (.int (minI (i :: is))) s
      | _ => .stk
    | none => .stk
  | _ => .stk
theorem n_maxL : OpN t (rMax t.K) bMaxL := fun am s H ds vs Ex Q m r q => by
  unfold bMaxL at q
  split at q
  · obtain ⟨v, rfl, h⟩ := reps1 r
    split at q
    · rename_i xs e
      obtain ⟨a, us, rfl, rv, hs⟩ := seqL_of m h e
      split at q
      · rename_i i is ei
        rw [ints_map ei] at rv
        cases repsI rv
        refine ⟨a, i :: is, rfl, hs, by simp, fun k hk hle => ?_⟩
        obtain ⟨h1, h2⟩ := maxI_sp is i
        have : k = maxI (i :: is) := Int.le_antisymm (h2 k hk) (hle _ h1)
        rw [this]
        exact q.ok0 m rfl
      · exact q.elim
    · exact q.elim
  · exact q.elim
theorem n_minL : OpN t (rMin t.K) bMinL := fun am s H ds vs Ex Q m r q => by
  unfold bMinL at q
  split at q
  · obtain ⟨v, rfl, h⟩ := reps1 r
    split at q
    · rename_i xs e
      obtain ⟨a, us, rfl, rv, hs⟩ := seqL_of m h e
      split at q
      · rename_i i is ei
        rw [ints_map ei] at rv
        cases repsI rv
        refine ⟨a, i :: is, rfl, hs, by simp, fun k hk hle => ?_⟩
        obtain ⟨h1, h2⟩ := minI_sp is i
        have : k = minI (i :: is) := Int.le_antisymm (hle _ h1) (h2 k hk)
        rw [this]
        exact q.ok0 m rfl
      · exact q.elim
    · exact q.elim
  · exact q.elim
end
/-! ### a, b = a list -/
def gTL (t : List D → Env → S → Option (Env × S)) : Tg := fun d r s => match seqL d s with
  | some xs => t xs r s
  | none => none
theorem g_lst {X : Cx} {t : Tb} {pos : Pos} {es : List Expr} {k : Nat} {u : List D → Env → S → Option (Env × S)} (hK : X.K = t.K) (hc : X.calm = true) (h : SGs X t es u)
    (hlen : ∀ ds r s x, u ds r s = some x → ds.length = (assignEach es X.env).length) (hst : (assignEach es X.env).findIdx? (·.1) = none := by rfl) : SG X t (.Tuple es k pos) (gTL u) :=
  (pg_lst (n := (assignEach es X.env).length) hc h rfl hst).imp fun v σ H Q ⟨am, r, s, d, en, mm, rp, r2, s2, e, q⟩ => by
    unfold gTL at e
    split at e
    · rename_i xs ex
      obtain ⟨a, vs, rfl, h2, h1⟩ := seqL_of mm rp ex
      exact ⟨a, vs, rfl, by rw [hK]; exact h1, by rw [← h2.length]; exact hlen _ _ _ _ e, am, r, s, xs, en, mm, h2, r2, s2, e, q⟩
    · cases e
/-! ### insert -/
def mIns : PM := fun x ds s => match x, ds with
  | .ref n, [.int i, y] => match s[n]? with
    | some (.lst xs) => if xs.length < LINE ∧ 0 ≤ i ∧ i < 4611686018427387904 then .ok .non (s.set n (.lst (xs.take i.toNat ++ [y] ++ xs.drop i.toNat))) else .stk
    | _ => .stk
  | _, _ => .stk
def rIns : V → List V → Hp → VK → Prop := fun x vs H Q => ∃ (l : Addr) (xs : List V) (i : Int) (y : V), x = .ref l ∧ vs = [.int i, y] ∧ H l = some (.lst xs) ∧ xs.length < sizeLine ∧ 0 ≤ i ∧ i < 2 ^ 63 ∧
    Q .non (L2.upd H l (.lst (xs.take i.toNat ++ [y] ++ xs.drop i.toNat)))
theorem mt_ins {X : Cx} : MtR X "list.insert" rIns := mt_insert
theorem m_ins {t : Tb} : OpM t rIns mIns := fun am s H d v ds vs Ex Q m r1 r2 q => by
  unfold mIns at q
  split at q
  · rename_i n i y
    obtain ⟨a, rfl, ha⟩ := r1.refE
    obtain ⟨v1, w1, rfl, z1, z2⟩ := r2
    obtain ⟨v2, w2, rfl, z3, z4⟩ := z2
    cases (show w2 = [] from z4)
    cases z1.intE
    split at q
    · rename_i xs e
      obtain ⟨us, h1, h2⟩ := m.lst e ha
      split at q
      · rename_i hl
        refine ⟨a, us, i, v2, rfl, rfl, h1, by rw [← h2.length]; exact Nat.lt_of_lt_of_le hl.1 (by decide), hl.2.1, by omega, ?_⟩
        have P : Post am H am (L2.upd H a (.lst (us.take i.toNat ++ [v2] ++ us.drop i.toNat))) := .put (List.mem_of_getElem? ha) h1 (fun z => z)
        obtain ⟨_, m4⟩ := m.put (u := .lst (us.take i.toNat ++ [v2] ++ us.drop i.toNat)) (o := .lst (xs.take i.toNat ++ [y] ++ xs.drop i.toNat)) ha ⟨_, upd_same, (((h2.take _).append (.one z3)).append (h2.drop _)).mono P⟩
        exact q.ok P m4 rfl
      · exact q.elim
    · exact q.elim
  · exact q.elim
/-! ### range with a step -/
def rangeS (i c : Int) (n : Nat) : List D := (List.range n).map fun (k : Nat) => .int (i + k * c)
def iRngS (a b : E) (c : Int) : IW := fun r s => (a r s).bind fun x s1 => (b r s1).bind fun y s2 => match x, y with
  | .int i, .int j => if c ≠ 0 ∧ c.natAbs < 1073741824 ∧ Builtin.Range.small i j c = true ∧ 0 ≤ Builtin.Range.rangeSize i j c then .ok (.items (rangeS i c (Builtin.Range.rangeSize i j c).toNat)) s2 else .stk
  | _, _ => .stk
theorem i_rngS {X : Cx} {t : Tb} {W : XW} {tg a b c : Expr} {ma mb : E} {k : Int} {p pos : Pos} (hg : Gl X "range") (hm : X.mg "range" = none) (ha : SE X t W a ma) (hb : SE X t W b mb) (hc : SE X t W c (eC (.int k))) (hs : starEach [a, b, c] X.env = (false, eval a X.env) :: starEach [b, c] X.env := by rfl) (hs2 : starEach [b, c] X.env = (false, eval b X.env) :: starEach [c] X.env := by rfl) (hs3 : starEach [c] X.env = [(false, eval c X.env)] := by rfl)
    (hpl : (backTo pos (starEach [b, c] X.env)).any (·.1) = false := by rfl) :
    SI X t W tg (.Call (.Name "range" p) [a, b, c] [] pos) (iRngS ma mb k) :=
  (pi_range3 hg hm (s_cons ha (s_cons hb (s_cons hc s_nil (by rw [hs3]; rfl)) (by rw [hs2])) (by rw [hs])) hs hpl).imp fun σ H R ⟨am, r, s, en, mm, h⟩ => by
    refine ⟨am, r, s, en, mm, ?_⟩
    have h : IQ t am H ((ma r s).bind _) (W σ) R := h
    simp only [aC, aN]
    cases hx : ma r s with
    | ok d s1 =>
      rw [hx] at h
      simp only [Rs.bind_ok] at h ⊢
      cases hy : mb r s1 with
      | ok d2 s2 =>
        rw [hy] at h
        intro am' H' b q m z
        obtain ⟨v, w, rfl, z1, z2⟩ := z
        obtain ⟨v2, w2, rfl, z3, z4⟩ := z2
        obtain ⟨v3, w3, rfl, z5, z6⟩ := z4
        cases (show w3 = [] from z6)
        have h := IQ.re h q
        cases d with
        | int i =>
          cases d2 with
          | int j =>
            simp only [Rs.bind_ok] at h
            cases z1.intE
            cases z3.intE
            cases (show Rep t am' H' (.int k) v3 from z5).intE
            split at h
            · rename_i hj
              exact ⟨i, j, k, (Builtin.Range.rangeSize i j k).toNat, rfl, ⟨hj.1, hj.2.1, hj.2.2.1, (Int.toNat_of_nonneg hj.2.2.2).symm⟩, h am' H' (Itc i k _) (fun _ _ => True) .refl m (itok_rangeC (t := t) i k _) trivial⟩
            · exact h.elim
          | _ => exact h.elim
        | _ => exact h.elim
      | exc c fs s' => rw [hy] at h; exact h
      | stk => rw [hy] at h; exact h
    | exc c fs s' => rw [hx] at h; exact h
    | stk => rw [hx] at h; exact h
end Y

/-! Y14: set(xs) of a list of ints, and sorted(set(xs)). -/
namespace Y
open PySem PySem.Spec PyProof.Rows L2
/-- the set before anything is in it -/
abbrev set0 (w : World) : Obj := { cls := .type "set", dict := none, data := .set #[] 0 (.fresh 0 0 (!w.params.followText "set-order")) }
section
variable {P : Program} {w : World} {A : Around} {E : Value → Shared → Prop} {s : Shared}
/-- what comes of it -/
def Filled (w : World) (s : Shared) (ns : List Int) (r : Value) (s2 : Shared) : Prop :=
  r = .none ∧ ∃ (h' : Heap) (tk c : Nat), s2 = { s with heap := h', toks := tk } ∧ SetR w h' s.heap.objs.size (fun j => decide (j ∈ ns)) c ∧ c ≤ ns.length ∧ ∀ b o, s.heap.get? b = some o → h'.get? b = some o
theorem fill_list {l : Addr} {items : Array Value} {ns : List Int} (hh : A.handled = none) (hl : s.heap.IsList l items) (hit : IntsAre items.toList ns) (hb : ns.length + 1 < scanBound) :
    wpAny (model P w) A (Builtin.«set.__init__» ⟨[.ref s.heap.objs.size, .ref l], []⟩) (fun f s2 => ∃ r, f = .done (.ret r) ∧ Filled w s ns r s2) E { s with heap := s.heap.push (set0 w) } := by
  have size1 : (s.heap.push (set0 w)).objs.size = s.heap.objs.size + 1 := Heap.size_push ..
  have here : (s.heap.push (set0 w)).get? s.heap.objs.size = some (set0 w) := Heap.get?_push_size _ rfl
  have hT : Shared.TypeIs { s with heap := s.heap.push (set0 w) } (.ref s.heap.objs.size) "set" := ⟨_, here, rfl⟩
  have len : items.size = ns.length := by
    have q := IntsAre.length hit
    rwa [Array.length_toList] at q
  obtain ⟨⟨oc, odi, oda, osl⟩, gl, c1, nl, d1⟩ := hl
  simp only at c1 d1
  subst c1 d1
  have gl2 : (s.heap.push (set0 w)).get? l = some { cls := .type "list", dict := odi, data := .seq items nl, slots := osl } := Heap.get?_push_of_some _ gl
  have isl : (s.heap.push (set0 w)).IsList l items := ⟨_, gl2, rfl, nl, rfl⟩
  have f1 := F.sub_list_set
  have f2 := F.sub_list_frozenset
  have f3 : (Value.type "list" == Value.type "dict") = false := by decide
  unfold Builtin.«set.__init__» noKeywords Builtin.Frozenset.updateFrom
  generalize hI : pyIter = PI
  wp_walk
  subst hI
  refine wpAny_pyIter_list isl (wpAny_bind (wpAny_runValue ?_))
  have lt : l < s.heap.objs.size := Heap.lt_size gl
  have n1 : l ≠ (s.heap.push (set0 w)).objs.size := by rw [size1]; exact Nat.ne_of_lt (Nat.lt_succ_of_lt lt)
  have n2 : s.heap.objs.size ∉ [(s.heap.push (set0 w)).objs.size, l] := by
    rw [size1]
    simp only [List.mem_cons, List.not_mem_nil, or_false, not_or]
    exact ⟨Nat.ne_of_lt (Nat.lt_succ_self _), Ne.symm (Nat.ne_of_lt lt)⟩
  have val : ∀ (i : Nat) (v : Value), items[i]? = some v → ∃ k t, ns[i]? = some k ∧ v = .int k t := fun i v hv => by
    have hi : i < ns.length := by rw [← len]; exact (Array.getElem?_eq_some_iff.mp hv).1
    obtain ⟨t, e⟩ := IntsAre.int_at hit i v (by rw [Array.getElem?_toList]; exact hv)
    refine ⟨ns[i], t, List.getElem?_eq_getElem hi, e.trans ?_⟩
    rw [List.getD_eq_getElem?_getD, List.getElem?_eq_getElem hi]
    rfl
  refine set_update_ints ((Walks.list (by simp [hh]) _ l n1 items).toS) s.heap.objs.size n2 ns len hb val (items.size - 0) 0 _ (by omega) (Nat.zero_le _) ⟨⟨_, Heap.get?_push_size _ rfl, rfl, rfl⟩, isl.push _⟩ ⟨0, Nat.le_refl 0, setR_new_at (Heap.get?_push_of_some _ here)⟩ fun s' c m hc hS => ?_
  obtain ⟨h', g', d', k', o'⟩ := s'
  obtain rfl : g' = s.gens := m.gens
  obtain rfl : d' = s.drawn := m.drawn
  obtain rfl : o' = s.os := m.os
  rw [len] at hc
  refine wpAny_pure ?_
  refine wpAny_pure ⟨_, rfl, rfl, h', k', c, rfl, hS, hc, fun b o e => m.heap b o ?_ (Heap.get?_push_of_some _ (Heap.get?_push_of_some _ e))⟩
  have lb := Heap.lt_size e
  rw [size1]
  simp only [List.mem_cons, List.not_mem_nil, or_false, not_or]
  exact ⟨Nat.ne_of_lt lb, Nat.ne_of_lt (Nat.lt_succ_of_lt lb)⟩
theorem set_of_list {l : Addr} {items : Array Value} {ns : List Int} {Q : Value → Shared → Prop} (hh : A.handled = none) (hl : s.heap.IsList l items) (hit : IntsAre items.toList ns) (hb : ns.length + 1 < scanBound)
    (q : ∀ s2, Filled w s ns .none s2 → Q (.ref s.heap.objs.size) s2) : wpAny (model P w) A (call (.type "set") [.ref l]) Q E s := by
  obtain ⟨c0, t0, mro⟩ := F.called_set.mro
  have md := F.called_set.made
  have sb := F.called_set.sub
  have nt := F.called_set.notType
  have cc := F.called_set.canCreate
  have tc := F.typeCall_set_1 (.ref l)
  refine wpAny_call (codeAny_of_tree (wpAny_pure ⟨Code.quiet_builtin _ (by decide +kernel), codeAny_builtin F.entry_type_call ?_⟩))
  rw [Around.under_plain (weight_type_call_type "set" [.ref l] []) rfl]
  repeat (any_goals (first | assumption | wp_step))
  refine codeAny_mono (code_set_led1 (.ref l) (E := E) (Q₁ := fun v s1 => v = .ref s.heap.objs.size ∧ s1 = { s with heap := s.heap.push (set0 w) }) ⟨rfl, rfl⟩) fun r s1 z => ?_
  match r, z with
  | .error e, z => exact z
  | .ok .next, z => exact z.elim
  | .ok .brk, z => exact z.elim
  | .ok .cont, z => exact z.elim
  | .ok (.ret v), ⟨z1, z2⟩ =>
    subst z1 z2
    have hT : Shared.TypeIs { s with heap := s.heap.push (set0 w) } (.ref s.heap.objs.size) "set" := ⟨_, Heap.get?_push_size _ rfl, rfl⟩
    have li := F.called_set.init.lookup
    have bi := F.called_set.init.bind (.ref s.heap.objs.size)
    repeat (any_goals (first | assumption | wp_step))
    refine codeAny_mono (codeAny_call_builtin (R := wants (Filled w s ns) E) F.called_set.init.plain F.entry_set_init (check_set_init_1 hT ?_)) fun r2 s2 y => ?_
    · refine wpAny_mono (fill_list (by simp [hh]) hl hit hb) (fun f s3 x => ?_) fun _ _ x => x
      obtain ⟨r, rfl, x⟩ := x
      exact x
    · match r2, y with
      | .error e, y => exact y
      | .ok .next, y => exact y.elim
      | .ok .brk, y => exact y.elim
      | .ok .cont, y => exact y.elim
      | .ok (.ret v), y =>
        have y : Filled w s ns v s2 := y
        obtain rfl := y.1
        have fin := q s2 y
        repeat (any_goals (first | assumption | wp_step))
end
/-! ### in the layer -/
section
variable {X : Cx} {t : Tb}
theorem ints_at : ∀ {ns : List Int} {us : List Value}, Vals (ns.map V.int) us → IntsAre us ns
  | [], _, .nil => .nil
  | n :: ns, _, .cons r t => by
    obtain ⟨k, rfl⟩ := r
    exact .cons n k (ints_at t)
theorem setR_len {w : World} {h : Heap} {a : Addr} {ns : List Int} {c : Nat} (R : SetR w h a (fun j => decide (j ∈ ns)) c) : c = (ddp ns).length := by
  obtain ⟨o, es, ep, t, _, _, _, _, nd, hm, _, _, hn, _⟩ := R
  have p : (es.toList.map keyOf).Perm (ddp ns) := (List.perm_ext_iff_of_nodup nd (nodup_ddp ns)).mpr fun k => by
    rw [mem_ddp, ← hm k, decide_eq_true_eq]
  have := p.length_eq
  rw [List.length_map, Array.length_toList] at this
  omega
theorem ddp_le : ∀ l : List Int, (ddp l).length ≤ l.length
  | [] => Nat.le_refl _
  | x :: r => by
    have := ddp_le r
    unfold ddp
    split
    · simp only [List.length_cons]; omega
    · simp only [List.length_cons]; omega
def rSetL (K : PySem.W.Frag) (w : World) : List V → Hp → VK → Prop := fun xs H Q => ∃ (a : Addr) (ns : List Int), xs = [.ref a] ∧ (SqL K H a (ns.map V.int) ∨ SqT K H a (ns.map V.int)) ∧ ns.length ≤ 4000 ∧
  ∀ (p : Addr) (c : Nat), c = (ddp ns).length → H p = none → Q (.ref p) (L2.upd H p (SetO w p (fun j => decide (j ∈ ns)) c))
theorem cr_setL (hc : X.calm = true) : CallR X (.type "set") (rSetL X.K X.w) := by
  intro pins s σ H xs us Q I r h
  obtain ⟨a, ns, rfl, hq, hl, q⟩ := h
  obtain ⟨u, rfl, rx⟩ := vals1 r
  cases rx
  rcases hq with hq | hq
  · obtain ⟨its, rv, pl, hz⟩ := I.list hq
    refine set_of_list (I.ok.hd hc) pl.isList (by simpa using ints_at rv) (by unfold scanBound; omega) fun s2 F => ?_
    obtain ⟨_, h', tk, c, rfl, R, hcn, k⟩ := F
    exact ⟨.ref s.heap.objs.size, _, I.laid (t' := tk) k (Nat.le_refl _) (setO_new R), rfl, q _ c (setR_len R) (I.hok.fresh (Nat.le_refl _))⟩
  · obtain ⟨its, rv, pt, hz⟩ := I.tuple hq
    refine call_set_tupI ns (I.ok.hd hc) (show s.heap.IsTuple a its.toArray from pt) (by simpa using ints_at rv) (by unfold scanBound; omega) fun h' tk c R hcn k => ?_
    exact ⟨.ref s.heap.objs.size, _, I.laid (t' := tk) k (Nat.le_refl _) (setO_new R), rfl, q _ c (setR_len R) (I.hok.fresh (Nat.le_refl _))⟩
/-- sorted(set(xs)) -/
def oSortSet : P1 := fun x s => match seqX x s with
  | some xs => match intsOf xs with
    | some is => if is.length ≤ 4000 ∧ (ddp is).length < 64 then .ok (.ref s.length) (s ++ [.lst ((srt (ddp is)).map D.int)]) else .stk
    | none => .stk
  | none => .stk
theorem s_sortSet {W : XW} {a : Expr} {m : E} {p p2 q pos : Pos} (hc : X.calm = true) (hK : X.K = t.K) (hg : Gl X "sorted") (hm : X.mg "sorted" = none) (hg2 : Gl X "set") (hm2 : X.mg "set" = none) (ha : SE X t W a m)
    (hs : starEach [a] X.env = (false, eval a X.env) :: starEach [] X.env := by rfl)
    (hs2 : starEach [.Call (.Name "set" p2) [a] [] q] X.env = (false, eval (.Call (.Name "set" p2) [a] [] q) X.env) :: starEach [] X.env := by rfl) :
    SE X t W (.Call (.Name "sorted" p) [.Call (.Name "set" p2) [a] [] q] [] pos) (e1 oSortSet m) :=
  (pe_callB (cr_sortedSet hc) hg hm (by decide +kernel) (pa_cons (pe_callTy (cr_setL hc) hg2 hm2 (by decide +kernel) (pa_cons ha pa_nil hs) (by decide) (by decide) hs rfl) pa_nil hs2) (by decide) (by decide) hs2 rfl).imp fun σ H Q ⟨am, r, s, en, mm, h⟩ => tyE.of en mm h fun d s1 am1 H1 v en1 m1 p1 r1 h1 => by
    unfold oSortSet at h1
    split at h1
    · rename_i xs e
      split at h1
      · rename_i is ei
        split at h1
        · rename_i hl
          obtain ⟨b, us, rfl, rv, hq⟩ := seqX_of m1 r1 e
          rw [ints_map ei] at rv
          cases repsI rv
          refine ⟨b, is, rfl, by rw [hK]; exact hq, by omega, fun p c hcn hp => ?_⟩
          refine ⟨p, _, c, rfl, upd_same, by omega, fun ns l hs hmem hln hl2 => ?_⟩
          have e2 : ns = srt (ddp is) := ddp_uniq (fun k => by rw [hmem]; simp) hs
          subst e2
          have P : Post am1 H1 am1 (L2.upd H1 p (SetO X.w p (fun j => decide (j ∈ is)) c)) := .upd hp
          exact (RQ.re h1 P).ok (.new hl2) ((m1.upd hp).new hl2 ⟨_, upd_same, intsR _⟩) ⟨l, rfl, by rw [← m1.len]; simp⟩
        · exact h1.elim
      · exact h1.elim
    · exact h1.elim
end
theorem room65 {k : Nat} {A : Around} (hr : Room k A) : A.units + 65 < cLine := by
  have := hr.un
  omega
end Y

/-! Y15: comprehensions of two clauses. -/
namespace Y
open PySem L2
/-- a run whose result is thrown away -/
def thenD (x : Rs D) (k : S → Rs D) : Rs D := match x with
  | .ok _ s => k s
  | _ => .stk
def compO (g : Tg) (t : T) (it : IW) (g1 : Tg) (t1 : T) (e : E) (n : Nat) (vs1 : List Nat) : List D → Env → S → Rs D
  | [], _, s => .ok (.ref n) s
  | x :: xs, r, s => match g x r s with
    | none => .stk
    | some (r1, s1) => match t r1 s1 with
      | .ok false s2 => compO g t it g1 t1 e n vs1 xs r s2
      | .ok true s2 => match it r1 s2 with
        | .ok (.items ys) s3 => thenD (compM g1 t1 e n ys (wipeD r1 vs1) s3) fun s4 => compO g t it g1 t1 e n vs1 xs r s4
        | _ => .stk
      | _ => .stk
/-- [e for g in it if t for g1 in it1 if t1], both walks told ahead -/
def eLc2 (it : IW) (g : Tg) (t : T) (it1 : IW) (g1 : Tg) (t1 : T) (e : E) (own vs1 : List Nat) : E := fun r s => (it r s).bind fun j s1 => match j with
  | .items xs => compO g t it1 g1 t1 e s1.length vs1 xs (wipeD r own) (s1 ++ [.lst []])
  | _ => .stk
theorem compM_then {g : Tg} {t : T} {e : E} {n : Nat} {y : D} {ys : List D} {r : Env} {s : S} {K : S → Rs D} : thenD (compM g t e n (y :: ys) r s) K = (match g y r s with
      | none => .stk
      | some (r1, s1) => match t r1 s1 with
        | .ok false s2 => thenD (compM g t e n ys r s2) K
        | .ok true s2 => match e r1 s2 with
          | .ok d s3 => match appendAt n d s3 with
            | some s4 => thenD (compM g t e n ys r s4) K
            | none => .stk
          | _ => .stk
        | _ => .stk) := by
  conv => lhs; unfold compM
  cases g y r s with
  | none => rfl
  | some p =>
    obtain ⟨r1, s1⟩ := p
    simp only
    cases t r1 s1 with
    | ok b s2 =>
      cases b with
      | false => rfl
      | true =>
        simp only
        cases e r1 s2 with
        | ok d s3 =>
          simp only
          cases appendAt n d s3 <;> rfl
        | _ => rfl
    | _ => rfl
section
variable {X : Cx} {t : Tb} {W : XW} {mi mi1 : IW} {g g1 : Tg} {mt mt1 : T} {m : E}
theorem lc2_ty {vs vs1 : List Nat} {σ : L2.St} {H : Hp} {Q : VK} (h : tyE t W (eLc2 mi g mt mi1 g1 mt1 m vs vs1) σ H Q) :
    tLc2 (tyI t W mi) (tyGw t g vs) (tyT t W0 mt) (tyI t W0 mi1) (tyGw t g1 vs1) (tyT t W0 mt1) (tyE t W0 m) vs vs1 σ H Q := by
  obtain ⟨am, r, s, en, mm, h⟩ := h
  refine ⟨am, r, s, en, mm, ?_⟩
  have h : RQ t am H ((mi r s).bind _) (Rep t) (W σ) Q := h
  cases hx : mi r s with
  | exc c fs s' => rw [hx] at h; exact h
  | stk => rw [hx] at h; exact h
  | ok j s0 =>
    rw [hx] at h
    cases j with
    | list l => exact h.elim
    | dyn f => exact h.elim
    | items xs =>
      have h : RQ t am H (compO g mt mi1 g1 mt1 m s0.length vs1 xs (wipeD r vs) (s0 ++ [.lst []])) (Rep t) (W σ) Q := h
      intro am' H' J G p m' ok hG Dx hDx
      have pn : Post am' H' (am' ++ [Dx]) (L2.upd H' Dx (.lst [])) := .new hDx
      have mn : Ms t (am' ++ [Dx]) (s0 ++ [.lst []]) (L2.upd H' Dx (.lst [])) := m'.new hDx ⟨[], upd_same, rfl⟩
      have hn : (am' ++ [Dx])[s0.length]? = some Dx := by rw [← m'.len]; simp
      refine ⟨fun i n H1 => ∃ am1 s1, n = (xs.drop i).length ∧ am1[s0.length]? = some Dx ∧ EnvR t am1 H1 (wipeD r vs) (wipe σ vs) ∧ Ms t am1 s1 H1 ∧ G am1 H1 ∧ RQ t am1 H1 (compO g mt mi1 g1 mt1 m s0.length vs1 (xs.drop i) (wipeD r vs) s1) (Rep t) (W σ) Q,
        ⟨xs.length, am' ++ [Dx], s0 ++ [.lst []], by simp, hn, ((en.mono p).mono pn).wipe vs, mn, ok.keep _ _ _ _ hG pn, by rw [List.drop_zero]; exact RQ.re (RQ.re h p) pn⟩, ?_⟩
      rintro i n H1 ⟨am1, s1, rfl, hd1, en1, m1, gG, h1⟩
      cases hd : xs[i]? with
      | none =>
        have e : xs.drop i = [] := List.drop_eq_nil_of_le (List.getElem?_eq_none_iff.mp hd)
        rw [e] at h1
        exact .inl ⟨ok.stop i am1 H1 gG hd, RQ.ok0 h1 m1 ⟨Dx, rfl, hd1⟩⟩
      | some d =>
        have hl := (List.getElem?_eq_some_iff.mp hd)
        have e : xs.drop i = d :: xs.drop (i + 1) := by rw [List.drop_eq_getElem_cons hl.1, hl.2]
        rw [e] at h1
        obtain ⟨go, yl⟩ := ok.item i d am1 H1 gG hd
        -- what a turn reaches
        refine .inr ⟨go, fun H2 => ∃ am2 s2, am2[s0.length]? = some Dx ∧ EnvR t am2 H2 (wipeD r vs) (wipe σ vs) ∧ Ms t am2 s2 H2 ∧ G am2 H2 ∧ RQ t am2 H2 (compO g mt mi1 g1 mt1 m s0.length vs1 (xs.drop (i + 1)) (wipeD r vs) s2) (Rep t) (W σ) Q, fun H2 ⟨am2, s2, z0, z1, z2, z3, z4⟩ => ⟨_, by rw [e]; simp, am2, s2, rfl, z0, z1, z2, z3, z4⟩, fun x H2 y => ?_⟩
        obtain ⟨p2, m2, rp⟩ := yl x H2 y
        have g2 := ok.keep _ _ _ _ gG p2
        have en2 := en1.mono p2
        have h1 := RQ.re h1 p2
        have m2' := m2 s1 m1
        have hd2 := p2.at hd1
        unfold compO at h1
        split at h1
        · exact h1.elim
        · rename_i r1 s2 e1
          refine ⟨am1, wipeD r vs, s1, d, en2, m2', rp, r1, s2, e1, fun am3 H3 σ3 p3 m3 en3 w => ⟨?_, am3, r1, s2, en3, m3, ?_⟩⟩
          · rw [wipe_wipe] at w
            exact w
          have h1 := RQ.re h1 p3
          cases hz : mt r1 s2 with
          | exc c fs s' => rw [hz] at h1; exact h1.elim
          | stk => rw [hz] at h1; exact h1.elim
          | ok b s3 =>
            rw [hz] at h1
            intro am4 H4 b' p4 m4 eb
            cases eb
            have h1 := RQ.re h1 p4
            have en4 := (en2.mono p3).mono p4
            have hd4 := p4.at (p3.at hd2)
            have g4 := ok.keep _ _ _ _ (ok.keep _ _ _ _ g2 p3) p4
            cases b with
            | false =>
              rw [if_neg Bool.false_ne_true]
              exact ⟨am4, s3, hd4, en4, m4, g4, h1⟩
            | true =>
              rw [if_pos rfl]
              have h1 : RQ t am4 H4 (match mi1 r1 s3 with
                | .ok (.items ys) s4 => thenD (compM g1 mt1 m s0.length ys (wipeD r1 vs1) s4) fun s5 => compO g mt mi1 g1 mt1 m s0.length vs1 (xs.drop (i + 1)) (wipeD r vs) s5
                | _ => .stk) (Rep t) (W σ) Q := h1
              refine ⟨am4, r1, s3, en3.mono p4, m4, ?_⟩
              cases hw : mi1 r1 s3 with
              | exc c fs s' => rw [hw] at h1; exact h1.elim
              | stk => rw [hw] at h1; exact h1.elim
              | ok j s4 =>
                rw [hw] at h1
                cases j with
                | list l => exact h1.elim
                | dyn f => exact h1.elim
                | items ys =>
                  intro am5 H5 J1 G1 p5 m5 ok1 hG1
                  have h1 := RQ.re h1 p5
                  have en5 := en4.mono p5
                  have hd5 := p5.at hd4
                  have g5 := ok.keep _ _ _ _ g4 p5
                  refine ⟨fun j k H6 => ∃ am6 s6, k = (ys.drop j).length ∧ am6[s0.length]? = some Dx ∧ EnvR t am6 H6 (wipeD r vs) (wipe σ vs) ∧ EnvR t am6 H6 (wipeD r1 vs1) (wipe σ3 vs1) ∧ Ms t am6 s6 H6 ∧ G am6 H6 ∧ G1 am6 H6 ∧
                      RQ t am6 H6 (thenD (compM g1 mt1 m s0.length (ys.drop j) (wipeD r1 vs1) s6) fun s5 => compO g mt mi1 g1 mt1 m s0.length vs1 (xs.drop (i + 1)) (wipeD r vs) s5) (Rep t) (W σ) Q,
                    ⟨ys.length, am5, s4, by simp, hd5, en5, ((en3.mono p4).mono p5).wipe vs1, m5, g5, hG1, by rw [List.drop_zero]; exact h1⟩, ?_⟩
                  rintro j k H6 ⟨am6, s6, rfl, hd6, en6, eo6, m6, g6, gg6, h6⟩
                  cases hy : ys[j]? with
                  | none =>
                    have e6 : ys.drop j = [] := List.drop_eq_nil_of_le (List.getElem?_eq_none_iff.mp hy)
                    rw [e6] at h6
                    exact .inl ⟨ok1.stop j am6 H6 gg6 hy, am6, s6, hd6, en6, m6, g6, h6⟩
                  | some d6 =>
                    have hl6 := (List.getElem?_eq_some_iff.mp hy)
                    have e6 : ys.drop j = d6 :: ys.drop (j + 1) := by rw [List.drop_eq_getElem_cons hl6.1, hl6.2]
                    rw [e6, compM_then] at h6
                    obtain ⟨go6, yl6⟩ := ok1.item j d6 am6 H6 gg6 hy
                    refine .inr ⟨go6, fun H7 => ∃ am7 s7, am7[s0.length]? = some Dx ∧ EnvR t am7 H7 (wipeD r vs) (wipe σ vs) ∧ EnvR t am7 H7 (wipeD r1 vs1) (wipe σ3 vs1) ∧ Ms t am7 s7 H7 ∧ G am7 H7 ∧ G1 am7 H7 ∧
                        RQ t am7 H7 (thenD (compM g1 mt1 m s0.length (ys.drop (j + 1)) (wipeD r1 vs1) s7) fun s5 => compO g mt mi1 g1 mt1 m s0.length vs1 (xs.drop (i + 1)) (wipeD r vs) s5) (Rep t) (W σ) Q, fun H7 ⟨am7, s7, z0, z1, z2, z3, z4, z5, z6⟩ => ⟨_, by rw [e6]; simp, am7, s7, rfl, z0, z1, z2, z3, z4, z5, z6⟩, fun x7 H7 y7 => ?_⟩
                    obtain ⟨p7, m7, rp7⟩ := yl6 x7 H7 y7
                    have t1 := lc_turn (vs := vs1) (k := fun rr ss => thenD (compM g1 mt1 m s0.length (ys.drop (j + 1)) rr ss) fun s5 => compO g mt mi1 g1 mt1 m s0.length vs1 (xs.drop (i + 1)) (wipeD r vs) s5) (Nx := fun H7 => ∃ am7 s7, am7[s0.length]? = some Dx ∧ EnvR t am7 H7 (wipeD r vs) (wipe σ vs) ∧ EnvR t am7 H7 (wipeD r1 vs1) (wipe σ3 vs1) ∧ Ms t am7 s7 H7 ∧ G am7 H7 ∧ G1 am7 H7 ∧
                        RQ t am7 H7 (thenD (compM g1 mt1 m s0.length (ys.drop (j + 1)) (wipeD r1 vs1) s7) fun s5 => compO g mt mi1 g1 mt1 m s0.length vs1 (xs.drop (i + 1)) (wipeD r vs) s5) (Rep t) (W σ) Q) (eo6.mono p7) (m7 s6 m6) rp7 (p7.at hd6) (RQ.re h6 p7)
                      fun am8 s8 H8 p8 z2 z3 => ⟨am8, s8, p8.at (p7.at hd6), (en6.mono p7).mono p8, (eo6.mono p7).mono p8, z2, ok.keep _ _ _ _ (ok.keep _ _ _ _ g6 p7) p8, ok1.keep _ _ _ _ (ok1.keep _ _ _ _ gg6 p7) p8, z3⟩
                    rw [wipe_wipe] at t1
                    exact t1
end
section
variable {X : Cx} {t : Tb} {W : XW} {elt tg iter tg1 iter1 : Expr} {ifs ifs1 : List Expr} {scope : Scope} {own : List (Str × Nat)} {vs1 : List Nat} {pos : Pos} {mi mi1 : IW} {g g1 : Tg} {mt mt1 : T} {m : E}
theorem s_lc2 (hc : X.calm = true) (hN : X.N.Nodup) (hi : SI X t W tg iter mi) (ok : BlkOk X.N X.env.scope scope own) (hv : ∀ i ∈ vs1, i ∈ own.map (·.2))
    (hg : ∀ (s : Shared) (H : Hp) (C : Addr) (cl : List (Str × Addr)) (fp : List Addr), SGw (X.blk s H scope (compEnvC scope cl C X.env) fp) t tg g (own.map (·.2)))
    (ht : ∀ (s : Shared) (H : Hp) (C : Addr) (cl : List (Str × Addr)) (fp : List Addr), SPts (X.blk s H scope (compEnvC scope cl C X.env) fp) t W0 ifs mt)
    (hi1 : ∀ (s : Shared) (H : Hp) (C : Addr) (cl : List (Str × Addr)) (fp : List Addr), SI (X.blk s H scope (compEnvC scope cl C X.env) fp) t W0 tg1 iter1 mi1)
    (hg1 : ∀ (s : Shared) (H : Hp) (C : Addr) (cl : List (Str × Addr)) (fp : List Addr), SGw (X.blk s H scope (compEnvC scope cl C X.env) fp) t tg1 g1 vs1)
    (ht1 : ∀ (s : Shared) (H : Hp) (C : Addr) (cl : List (Str × Addr)) (fp : List Addr), SPts (X.blk s H scope (compEnvC scope cl C X.env) fp) t W0 ifs1 mt1)
    (he : ∀ (s : Shared) (H : Hp) (C : Addr) (cl : List (Str × Addr)) (fp : List Addr), SE (X.blk s H scope (compEnvC scope cl C X.env) fp) t W0 elt m) (hs : ∀ x, foldedSetIterable iter X.env x = pure x := by intro _; rfl) (hs1 : ∀ env x, foldedSetIterable iter1 env x = pure x := by intro _ _; rfl) :
    SE X t W (.ListComp elt [⟨tg, iter, ifs, 0⟩, ⟨tg1, iter1, ifs1, 0⟩] scope pos) (eLc2 mi g mt mi1 g1 mt1 m (own.map (·.2)) vs1) :=
  (pe_lc2 hc hN hi ok hv hg ht hi1 hg1 ht1 he hs hs1).imp fun σ H Q h => lc2_ty h
end
end Y

/-! Y16: dict(xs) of pairs whose firsts are tuples; list(d) of a dict. -/
namespace Y
open PySem PySem.Spec PyProof.Rows L2
def mergeT (kvs more : List (List Key × V)) : List (List Key × V) := more.foldl (fun acc kv => putK acc kv.1 kv.2) kvs
section
variable {X : Cx}
theorem pairsT_of {pins : List (Addr × Obj)} {σ : L2.St} {H : Hp} {s : Shared} (I : Inv X pins σ H s) : ∀ {ps : List Addr} {kvs : List (List Key × V)}, Paired (fun p kv => ∃ b, SqT X.K H p [.ref b, kv.2] ∧ H b = some (.tup (kv.1.map kV))) ps kvs →
    ∃ prs : List (List Key × Addr × Value), KT H kvs prs ∧ prs.length = ps.length ∧ ∀ (j : Nat) (q : List Key × Addr × Value), prs[j]? = some q → ∃ p, ps[j]? = some p ∧ s.heap.IsTuple p #[.ref q.2.1, q.2.2]
  | _, _, .nil => ⟨[], .nil, rfl, fun j q e => by simp at e⟩
  | _, _, .cons (a := p) (b := kv) h t => by
    obtain ⟨b, h1, h2⟩ := h
    obtain ⟨prs, kt, hlen, hat⟩ := pairsT_of I t
    obtain ⟨its, rv, tu, _⟩ := I.tuple h1
    obtain ⟨u, y, rfl, ru, ry⟩ := vals2 rv
    cases (show u = Value.ref b from ru)
    refine ⟨(kv.1, b, y) :: prs, .cons ⟨rfl, h2, ry⟩ kt, by simp [hlen], fun j q e => ?_⟩
    cases j with
    | zero =>
      cases (show (kv.1, b, y) = q from Option.some.inj e)
      exact ⟨p, rfl, tu⟩
    | succ j => exact hat j q e
theorem KT.merge {H : Hp} : ∀ {more : List (List Key × V)} {rs : List (List Key × Addr × Value)} {kvs : List (List Key × V)} {xs : List (List Key × Addr × Value)}, KT H more rs → KT H kvs xs → KT H (mergeT kvs more) (storedAllH xs rs)
  | _, _, _, _, .nil, h => h
  | _, _, kvs, xs, .cons (a := p) (b := q) h t, h' => by
    obtain ⟨h1, h2, h3⟩ := h
    have step := h'.put p.1 h2 h3
    rw [show storedH xs p.1 q.2.1 q.2.2 = storedH xs q.1 q.2.1 q.2.2 by rw [h1]] at step
    have fin := KT.merge t step
    exact fin
def rDictT (K : PySem.W.Frag) : List V → Hp → VK → Prop := fun xs H Q => ∃ (a : Addr) (ps : List Addr) (kvs : List (List Key × V)), xs = [.ref a] ∧ SqL K H a (ps.map V.ref) ∧ Paired (fun p kv => ∃ b, SqT K H p [.ref b, kv.2] ∧ H b = some (.tup (kv.1.map kV))) ps kvs ∧
    ∀ p, H p = none → Q (.ref p) (L2.upd H p (.dT (mergeT [] kvs)))
theorem call_dictT (hcalm : X.calm = true) (hu : X.A.units + 65 < cLine) : CallR X (.type "dict") (rDictT X.K) := by
  intro pins s σ H xs us Q I r h
  obtain ⟨a, ps, kvs, rfl, hq, hp, q⟩ := h
  obtain ⟨u, rfl, rx⟩ := vals1 r
  cases rx
  obtain ⟨its, rv, pl, hz⟩ := I.list hq
  have ei := refs_at rv
  subst ei
  rw [List.length_map] at hz
  obtain ⟨prs, kt, hlen, hat⟩ := pairsT_of I hp
  obtain ⟨o, n, ho, hc, hd, hdat⟩ := pl
  have P := PairArg.list (prog := X.prog) (w := X.w) a (ps.map Value.ref).toArray (fun j => ps.getD j 0) (prs.map fun q => (Value.ref q.2.1, q.2.2))
  have keys : ∀ x ∈ prs, (tupleKind (mixKind X.prog X.w)).is s.heap x.1 x.2.1 := by
    have all : ∀ {l : List (List Key × V)} {m : List (List Key × Addr × Value)}, KT H l m → ∀ x ∈ m, H x.2.1 = some (.tup (x.1.map kV)) := by
      intro l m kt
      induction kt with
      | nil => intro x hx; cases hx
      | @cons p q ps qs hh t ih =>
        intro x hx
        rcases List.mem_cons.mp hx with e | hx
        · subst e
          rw [← hh.1]; exact hh.2.1
        · exact ih x hx
    exact fun x hx => key_of I.hok (all kt x hx)
  refine call_dict_pairsH (knd := tupleKind (mixKind X.prog X.w)) (ps := prs) P (I.ok.hd hcalm) (show X.A.units + 1 + 1 < cLine by omega) ⟨⟨o, n, ho, hc, hd, hdat⟩, ?_, ?_⟩ ⟨by simp, ?_⟩ ?_ (by simp [hlen]; exact hz) ?_
  · simp [hlen]
  · intro j k v e
    rw [List.getElem?_map] at e
    cases e2 : prs[j]? with
    | none => rw [e2] at e; cases e
    | some q' =>
      rw [e2] at e
      cases e
      obtain ⟨p, e3, e4⟩ := hat j q' e2
      have e5 : ps.getD j 0 = p := by rw [List.getD_eq_getElem?_getD, e3]; rfl
      refine ⟨by simp [e3], .inl ?_⟩
      show s.heap.IsTuple (ps.getD j 0) _
      rw [e5]; exact e4
  · intro i key v e
    have e : (prs.map fun q => (Value.ref q.2.1, q.2.2))[i]? = some (key, v) := e
    rw [List.getElem?_map] at e
    cases e2 : prs[i]? with
    | none => rw [e2] at e; cases e
    | some q' =>
      rw [e2] at e
      cases e
      exact ⟨q'.1, q'.2.1, rfl, rfl⟩
  · intro h' hk x hx
    obtain ⟨ob, it, m, g1, g2, g3, g4⟩ := keys x hx
    exact ⟨ob, it, m, hk _ _ (Nat.ne_of_lt (Heap.lt_size g1)) (by simp) g1, g2, g3, g4⟩
  · intro h' tk hd' hk
    have hm : (s.heap.objs.size == sysModules) = false := beq_eq_false_iff_ne.mpr (Nat.ne_of_gt I.big)
    have kt' : KT H (mergeT [] kvs) (storedAllH [] prs) := KT.merge kt .nil
    have hl : (mergeT [] kvs).length ≤ sizeLine := by
      rw [Paired.length kt']
      have := storedAllH_length prs []
      simp only [List.length_nil, Nat.zero_add] at this
      omega
    have fr : H s.heap.objs.size = none := I.hok.fresh (Nat.le_refl _)
    obtain ⟨ob, es, ep, g1, g2, g3, g4, _, g5⟩ := hd'
    refine ⟨.ref s.heap.objs.size, upd H s.heap.objs.size (.dT (mergeT [] kvs)), I.laid (t' := tk) (fun b o' e => hk b o' (by simp) e) (Nat.le_refl _) (show ObjOk X.prog X.w _ _ _ (.dT (mergeT [] kvs)) from ⟨hl, hm, storedAllH [] prs, kt'.keeps fun c ys ec => ?_, ob, es, ep, g1, g2, g3, g4, g5⟩), rfl, q _ fr⟩
    rw [upd_ne (fun e => by rw [e, fr] at ec; cases ec)]
    exact ec
end
/-! ### in the plain semantics -/
def pairsT : List D → Option (List (D × D))
  | [] => some []
  | .tup [k, v] :: r => match keyT k, pairsT r with
    | some _, some ps => some ((k, v) :: ps)
    | _, _ => none
  | _ :: _ => none
def bDictT : PN := fun ds s => match ds with
  | [x] => match seqL x s with
    | some xs => match pairsT xs with
      | some ps => .ok (.ref s.length) (s ++ [.dct true (mergeD [] ps)])
      | none => .stk
    | none => .stk
  | _ => .stk
def bListD : PN := fun ds s => match ds with
  | [.ref n] => match s[n]? with
    | some (.dct _ kvs) => .ok (.ref s.length) (s ++ [.lst (kvs.map (·.1))])
    | _ => .stk
  | _ => .stk
section
variable {t : Tb} {am : List Addr} {H : Hp} {s : S}
theorem RKV.mergeT : ∀ {more : List (D × D)} {mk : List (List Key × V)} {kvs : List (D × D)} {ks : List (List Key × V)}, RKV keyT t am H more mk → RKV keyT t am H kvs ks → RKV keyT t am H (mergeD kvs more) (mergeT ks mk)
  | [], mk, kvs, ks, h, h' => by rw [show mk = [] from h]; exact h'
  | p :: ps, mk, kvs, ks, ⟨k', v', r, e, h1, h2, h3⟩, h' => by
    rw [e]
    have := RKV.mergeT (more := ps) (mk := r) h3 (h'.put (keyEq_T h1) h1 h2)
    exact this
theorem pairsT_sp : ∀ {xs : List D} {vs : List V} {ps : List (D × D)}, Reps t am H xs vs → pairsT xs = some ps → ∃ (as : List Addr) (ks : List (List Key × V)), vs = as.map V.ref ∧ Paired (fun p kv => ∃ b, SqT t.K H p [.ref b, kv.2] ∧ H b = some (.tup (kv.1.map kV))) as ks ∧ RKV keyT t am H ps ks
  | [], vs, ps, r, e => by
    cases e
    exact ⟨[], [], r, .nil, rfl⟩
  | x :: xs, vs, ps, ⟨v, w, e1, r1, r2⟩, e => by
    unfold pairsT at e
    split at e
    · cases e; rename_i h; cases h
    · rename_i k y rr h
      cases h
      split at e
      · rename_i kk ps' ek ep
        cases e
        obtain ⟨as, ks, rfl, h2, h3⟩ := pairsT_sp r2 ep
        obtain ⟨a, us, rfl, h4, h5⟩ := r1.tupE
        obtain ⟨u1, w1, rfl, h6, h7⟩ := h5
        obtain ⟨u2, w2, rfl, h8, h9⟩ := h7
        cases (show w2 = [] from h9)
        obtain ⟨b, rfl, hb⟩ := keyT_V ek h6
        exact ⟨a :: as, (kk, u2) :: ks, by rw [e1]; rfl, .cons ⟨b, h4, hb⟩ h2, kk, u2, ks, rfl, ek, h8, h3⟩
      · cases e
    · cases e
theorem n_dictT : OpN t (rDictT t.K) bDictT := fun am s H ds vs Ex Q m r q => by
  unfold bDictT at q
  split at q
  · obtain ⟨v, rfl, h⟩ := reps1 r
    split at q
    · rename_i xs e
      obtain ⟨a, us, rfl, rv, hs⟩ := seqL_of m h e
      split at q
      · rename_i ps ep
        obtain ⟨as, ks, rfl, h2, h3⟩ := pairsT_sp rv ep
        refine ⟨a, as, ks, rfl, hs, h2, fun p hp => ?_⟩
        have h4 : RKV keyT t am H (mergeD [] ps) (Y.mergeT [] ks) := RKV.mergeT h3 (show RKV keyT t am H [] [] from rfl)
        exact q.ok (.new hp) (m.new hp ⟨_, upd_same, h4.lift (Post.new hp).lift⟩) ⟨p, rfl, by rw [← m.len]; simp⟩
      · exact q.elim
    · exact q.elim
  · exact q.elim
def rListDD : List V → Hp → VK → Prop := fun xs H Q => (∃ (a : Addr) (kvs : List (Key × V)), xs = [.ref a] ∧ Rd H a (.dK kvs) ∧ ∀ p, H p = none → Q (.ref p) (L2.upd H p (.lst (kvs.map fun kv => kV kv.1)))) ∨
  ∃ d kvs, xs = [V.ref d] ∧ Rd H d (.dT kvs) ∧ ∀ p bs, H p = none → IsKeys H kvs bs → Q (.ref p) (L2.upd H p (.lst (bs.map V.ref)))
theorem call_listDD {X : Cx} (hc : X.calm = true) : CallR X (.type "list") rListDD := (call_listD hc).or (call_list_dT hc)
theorem keys_repK : ∀ {kvs : List (D × D)} {ks : List (Key × V)}, RKV keyD t am H kvs ks → Reps t am H (kvs.map (·.1)) (ks.map fun kv => kV kv.1)
  | [], ks, h => by rw [show ks = [] from h]; rfl
  | p :: ps, ks, ⟨k, v, r, e, h1, h2, h3⟩ => by
    rw [e]
    refine ⟨kV k, r.map fun kv => kV kv.1, rfl, ?_, keys_repK h3⟩
    obtain ⟨pk, pv⟩ := p
    cases pk with
    | int i => cases h1; rfl
    | str x => cases h1; rfl
    | _ => cases h1
theorem keysD_rep : ∀ {ds : List D} {ks : List Key}, keysD ds = some ks → Reps t am H ds (ks.map kV)
  | [], ks, h => by cases h; rfl
  | d :: ds, ks, h => by
    unfold keysD at h
    split at h
    · rename_i k ks' e1 e2
      cases h
      refine ⟨kV k, ks'.map kV, rfl, ?_, keysD_rep e2⟩
      cases d with
      | int i => cases e1; rfl
      | str x => cases e1; rfl
      | _ => cases e1
    · cases h
theorem keys_repT : ∀ {kvs : List (D × D)} {ks : List (List Key × V)} {bs : List Addr}, RKV keyT t am H kvs ks → IsKeys H ks bs → Reps t am H (kvs.map (·.1)) (bs.map V.ref)
  | [], ks, bs, h, hk => by
    rw [show ks = [] from h] at hk
    cases hk; rfl
  | p :: ps, ks, bs, ⟨k, v, r, e, h1, h2, h3⟩, hk => by
    rw [e] at hk
    cases hk with
    | cons hb hk =>
      refine ⟨.ref _, _, rfl, ?_, keys_repT h3 hk⟩
      obtain ⟨pk, pv⟩ := p
      cases pk with
      | tup ds => exact ⟨_, _, rfl, hb, keysD_rep h1⟩
      | _ => cases h1
theorem n_listD : OpN t rListDD bListD := fun am s H ds vs Ex Q m r q => by
  unfold bListD at q
  split at q
  · obtain ⟨v, rfl, h⟩ := reps1 r
    obtain ⟨a, rfl, ha⟩ := h.refE
    split at q
    · rename_i tk kvs e
      have om := m.at e ha
      cases tk with
      | false =>
        obtain ⟨ks, h1, h2⟩ := om
        exact .inl ⟨a, ks, rfl, .inl h1, fun p hp => new_list m q (keys_repK h2) p hp⟩
      | true =>
        obtain ⟨ks, h1, h2⟩ := om
        exact .inr ⟨a, ks, rfl, .inl h1, fun p bs hp hk => new_list m q (keys_repT h2 hk) p hp⟩
    · exact q.elim
  · exact q.elim
end
end Y

/-! Y17: lambdas handed to a def that tells the error of a call; calls by a name that holds a def. -/
namespace Y
open PySem L2
/-! ### the table of code objects grows -/
theorem Ms.extN {t : Tb} {am : List Addr} {s : S} {H H1 : Hp} (m : Ms t am s H) (e : LamX.ExtN H H1) (tb : LamX.Tabs t.T H1) : Ms t am s H1 ∧ Post am H am H1 := by
  have imm : ∀ a o, H a = some o → Imm o → H1 a = some o := fun a o h i => e a o h fun ps z => by subst z; exact i
  have P : Post am H am H1 := ⟨⟨[], by simp, by simp⟩, imm, fun a o h _ z => e a o h z, fun a o h z => ⟨o, e a o h z, z⟩⟩
  refine ⟨⟨m.nd, m.len, fun n o h => ?_, tb⟩, P⟩
  obtain ⟨a, h1, h2⟩ := m.ob n o h
  obtain ⟨u, hu, _, ht⟩ := h2.obj
  exact ⟨a, h1, h2.mono P ((e a u hu ht).trans hu.symm)⟩
/-! ### f(lambda: e) -/
abbrev Th := S → Rs D
def eLam (h : Th → S → Rs D) (m : E) : E := fun r s => h (fun s => m r s) s
def TTh (t : Tb) (h : Th → S → Rs D) : (XK → Hp → VK → Prop) → Hp → VK → Prop := fun tl H Q => ∃ am s th, Ms t am s H ∧
  (∀ (E : XK) am' H' s' Q', Post am H am' H' → Ms t am' s' H' → RQ t am' H' (th s') (Rep t) E Q' → tl E H' Q') ∧ RQ t am H (h th s) (Rep t) (fun _ _ _ => False) Q
theorem s_lam {X : Cx} {t : Tb} {W : XW} {x a : Str} {g c P : Addr} {fd : FuncData} {k : Nat} {st : Stmt} {Ng : List Str} {params : Arguments} {body : Expr} {scope : Scope} {m : E} {h : Th → S → Rs D} {p lpos pos : Pos}
    (hno : ∀ th s c fs s', h th s ≠ .exc c fs s')
    (hg : Gl X x) (hm : X.mg x = some (.ref g)) (F : Fun X.K x x st g fd) (hb : Binds X.K fd [a] []) (Sg : FnScope Ng [a] (defScope st)) (hNg : Ng[0]? = some a) (hva : Vis (defScope st) a)
    (hG : ∀ cdv, LamX.GivesTo X Ng x (defScope st) g cdv (defBody st) a (X.env.qual ++ ("<lambda>" : Str)) (TTh t h))
    (TB : LamX.TabB X.base X.mg c P) (hcode : X.env.code = .ref c) (hmT : (P, X.env.qual ++ ("<lambda>" : Str)) ∈ t.T) (hu : ∀ p ∈ t.T, p.1 = P → p.2 = X.env.qual ++ ("<lambda>" : Str))
    (hr : Room (k + 2) X.A) (L : LamX.LamS X.env.scope scope) (hdef : defaultsOf params X.env = ([], []))
    (hbind : ∀ (q : Str) (cl : List (Str × Addr)) (pm cv ctv : Value), bindArgs (PySem.W.kla_fn ("<lambda>" : Str) q params body scope cl pm cv ctv) ⟨[], []⟩ = pure [])
    (hbody : ∀ (A : Around) (outer : List PySem.Env) (s : Shared) (H : Hp) (E : XK) (f c' : Addr), Room k (A.deeper (LamX.lamEnv X scope s.heap.objs.size f c')) → SE (LamX.lamCx X A outer s H E scope f c') t (fun _ => E) body m)
    (hd1 : (x == ("__debug__" : Str)) = false := by decide) (hd2 : (a == ("__debug__" : Str)) = false := by decide) (hd3 : (a == ("__classdict__" : Str)) = false := by decide) :
    SE X t W (.Call (.Name x p) [.Lambda params body scope lpos] [] pos) (eLam h m) := by
  obtain ⟨oc, od, kV, doc, pm, an, cdv, ct, osl, rfl, lk, hc⟩ := F.ex
  refine (LamX.pe_lamcall (T := t.T) (TT := TTh t h) (t := fun E => tyE t (fun _ => E) m) hg hm F.kp lk hc hb Sg hNg hva (hG cdv) TB hcode hmT hu hr L hdef hbind hbody hd1 hd2 hd3).imp fun σ H Q h0 => ?_
  obtain ⟨am, r, s, en, mm, hq⟩ := h0
  refine ⟨mm.tb, fun H1 e tb => ?_⟩
  obtain ⟨m1, P1⟩ := mm.extN e tb
  refine ⟨am, s, fun s => m r s, m1, fun E am' H' s' Q' p' m' q' => ⟨am', r, s', (en.mono P1).mono p', m', q'⟩, ?_⟩
  have hq := RQ.re hq P1
  unfold eLam at hq
  cases hx : h (fun s => m r s) s with
  | ok d s1 => rw [hx] at hq; exact hq
  | exc c fs s1 => exact absurd hx (hno _ _ _ _ _)
  | stk => rw [hx] at hq; exact hq
/-! ### what tells the error -/
def errH (wf : Nat → List D → Option Str) : Th → S → Rs D := fun th s => match th s with
  | .ok _ s1 => .ok (.str (Str.ofString "")) s1
  | .exc c fs s1 => match wf c fs with
    | some w => .ok (.str w) s1
    | none => .stk
  | .stk => .stk
theorem errH_no (wf : Nat → List D → Option Str) (th : Th) (s : S) (c : Nat) (fs : List D) (s' : S) : errH wf th s ≠ .exc c fs s' := by
  unfold errH
  cases th s with
  | ok d s1 => intro z; cases z
  | exc c fs s1 =>
    simp only
    cases wf c fs <;> intro z <;> cases z
  | stk => intro z; cases z
theorem pss_len {X : Cx} {b : List Stmt} {u : TS} (h : PSs X b u) : PSs X b (fun D σ H => σ.length = X.N.length → u D σ H) := ⟨fun pins s σ H D I q => h.run pins s σ H D I (q I.len)⟩
theorem gives_as {X : Cx} {t : Tb} {Ng : List Str} {x a n ex : Str} {sg : Scope} {g CN : Addr} {cdg : Value} {q : Str} {i : Nat} {wf : Nat → List D → Option Str} {b0 : Stmt} {suite : List Stmt} {p1 p2 p3 p4 p5 p6 p7 p8 : Pos} {j : Nat}
    (hK : X.K = t.K) (hNd : Ng.Nodup) (hi : Ng[i]? = some n) (hln : sg.names.lookup n = some .local) (hst : ∀ (f : Addr), (L2.start Ng [V.ref f])[0]? = some (some (V.ref f)))
    (hge : sg.names.lookup ex = some .globalImplicit) (hme : X.mg ex = some (.ref CN)) (hde : (ex == ("__debug__" : Str)) = false)
    (hex : ∀ c fs C names, wf c fs ≠ none → t.xc c = some (C, names) → PySem.W.exmOne X.K (.ref C) (.ref CN) = some true)
    (hsu : ∀ (s : Shared) (H : Hp) (b : Addr) (oe : Obj) (cls : Value) (d : Option Addr) (pn : List (Addr × Obj)), Zc cls d oe → (∃ vs, oe.data = Data.fields vs) →
      PSs ((cxOf C8.CX0 X.prog X.w X.K X.mg X.base Ng x sg g cdg X.A X.stack s H C8.E0).nox.suite b ((b, oe) :: pn)) (b0 :: suite) fun D σ H' => σ[i]? = some (some (.ref b)) ∧ ∃ c fs am w, XRep t c fs am H' cls d ∧ wf c fs = some w ∧ D.rt (.str w) H') :
    LamX.GivesTo X Ng x sg g cdg [.Try [.Expr (.Call (.Name a p1) [] [] p2) p3] [.ExceptHandler (some (.Name ex p4)) (some n) (b0 :: suite) p5] [] [] p6, .Return (some (.Constant (.str (Str.ofString "")) j p7)) p8] a q (TTh t (errH wf)) := by
  intro f c' s H Q tl hcall hc' hTT
  obtain ⟨am, s0, th, mm, htl, hq⟩ := hTT
  refine ⟨_, pss_cons (ps_try_as (c := .ref CN) (i := i) (Wout := fun _ _ _ _ => False) (ts := fun b cls d D σ H' => σ.length = Ng.length → (σ[i]? = some (some (.ref b)) ∧ ∃ c fs am w, XRep t c fs am H' cls d ∧ wf c fs = some w ∧ D.rt (.str w) H'))
    rfl rfl hNd hi hln ⟨hge, hde, .inl hme⟩ takes0 (fun W pn xe tk _ => pss_one (ps_expr (hcall W pn xe (fun cls d H' => ∀ σ', W cls d σ' H') p1 p2 tk (fun cls d σ' H' z => z σ'))))
    (fun b oe cls d pn hz hf => pss_len (hsu s H b oe cls d pn hz hf))) (pss_one (ps_ret pe_str)), ?_⟩
  refine ⟨hst f, hc', htl _ am H s0 _ .refl mm ?_⟩
  unfold errH at hq
  cases hx : th s0 with
  | ok d s1 =>
    rw [hx] at hq
    intro am' H' b P M _
    exact hq am' H' (.str (Str.ofString "")) P M rfl
  | exc c fs s1 =>
    rw [hx] at hq
    simp only at hq
    cases hw : wf c fs with
    | none => rw [hw] at hq; exact hq.elim
    | some w =>
      rw [hw] at hq
      intro am' H' cls dd P M xr σ'
      have xr' := xr
      obtain ⟨C, names, e1, rfl, _⟩ := xr
      refine ⟨true, hex c fs C names (by rw [hw]; intro z; cases z) e1, fun _ b hb hl => ?_, fun z => by cases z⟩
      rw [List.length_set] at hl
      have hil : i < σ'.length := by rw [hl]; exact (List.getElem?_eq_some_iff.mp hi).1
      exact ⟨by rw [List.getElem?_set_self hil], c, fs, am', w, xr', hw, hq am' H' (.str w) P M rfl⟩
  | stk => rw [hx] at hq; exact hq
/-- the suite: return "a" if isinstance(error, X) else "b", where only errors of X come -/
theorem suite_is {X : Cx} {t : Tb} {b C : Addr} {oe : Obj} {cls : Value} {d : Option Addr} {pn : List (Addr × Obj)} {i c0 : Nat} {n cx : Str} {w1 w2 : Str} {j1 j2 : Nat} {q1 q2 q3 q4 q5 q6 q7 q8 : Pos}
    (hi : X.N[i]? = some n) (hv : Vis X.env.scope n) (hn1 : (n == ("__debug__" : Str)) = false) (hn2 : (n == ("__classdict__" : Str)) = false) (hg : Gl X "isinstance") (hm : X.mg "isinstance" = none)
    (hgc : Gl X cx) (hmc : X.mg cx = some (.ref C)) (hdc : (cx == ("__debug__" : Str)) = false) (EC : ExcC X.K C) (hx : t.xc c0 = some (C, [])) (hz : Zc cls d oe) (hf : ∃ vs, oe.data = Data.fields vs)
    (h1 : starEach [.Name n q1, .Name cx q2] X.env = (false, eval (.Name n q1) X.env) :: starEach [.Name cx q2] X.env := by rfl) (h2 : starEach [.Name cx q2] X.env = (false, eval (.Name cx q2) X.env) :: starEach [] X.env := by rfl) (hpl : (backTo q4 (starEach [.Name cx q2] X.env)).any (·.1) = false := by rfl) :
    PSs (X.suite b ((b, oe) :: pn)) [.Return (some (.IfExp (.Call (.Name "isinstance" q3) [.Name n q1, .Name cx q2] [] q4) (.Constant (.str w1) j1 q5) (.Constant (.str w2) j2 q6) q7)) q8] fun D σ H' => σ[i]? = some (some (.ref b)) ∧ ∃ c fs am w, XRep t c fs am H' cls d ∧ (if c = c0 ∧ fs.isEmpty = true then some w1 else none) = some w ∧ D.rt (.str w) H' := by
  by_cases hh : cls = .ref C ∧ d = none
  · obtain ⟨rfl, rfl⟩ := hh
    have pe := pe_callB (X := X.suite b ((b, oe) :: pn)) (p := q3) (pos := q4) (call_isE EC hz hf) hg hm (by decide +kernel) (pa_cons (pe_var (i := i) (pos := q1) hi hv hn1 hn2) (pa_cons (pe_glob (v := .ref C) (pos := q2) hgc hmc rfl hdc) pa_nil h2) h1) (by decide) (by decide) h1 hpl
    have ps := pss_one (ps_ret (pos := q8) (pe_ifExp (pos := q7) (pt_val pe (by intro _; rfl)) (pe_str (x := w1) (j := j1) (pos := q5)) (pe_str (x := w2) (j := j2) (pos := q6))))
    refine ⟨fun pins s σ H D I q => ps.run pins s σ H D I ?_⟩
    obtain ⟨e1, c, fs, am, w, xr, hw, hq⟩ := q
    split at hw
    · cases hw
      refine ⟨_, e1, ?_⟩
      exact ⟨.ref C, .ref C, true, rfl, fun u h => h, by unfold PySem.W.kitOne; simp, true, rfl, hq⟩
    · cases hw
  · refine ⟨fun pins s σ H D I q => absurd ?_ hh⟩
    obtain ⟨e1, c, fs, am, w, xr, hw, hq⟩ := q
    split at hw
    · rename_i hc
      obtain ⟨C', names, z1, z2, z3⟩ := xr
      rw [hc.1, hx] at z1
      cases z1
      refine ⟨z2, ?_⟩
      rcases z3 with ⟨_, _, z⟩ | ⟨_, _, z, _⟩
      · exact z
      · exact absurd rfl z
    · cases hw
/-! ### a call by a name of the def that holds a def of the text -/
def eCallV (i k : Nat) (tbl : Nat → Option Fn) (ms : A) : E := fun r s => match r[i]? with
  | some (.fn j) => match tbl j with
    | some g => (ms r s).bind (nArgs k (callK g))
    | none => .stk
  | _ => .stk
theorem s_callV {X : Cx} {t : Tb} {E : XK} {i k : Nat} {tbl : Nat → Option Fn} {x : Str} {e : Expr} {es : List Expr} {ms : A} {p pos : Pos} (O : Okc X t fun _ => E)
    (hF : ∀ j g, tbl j = some g → ∃ f fd ps l, t.fa j = some f ∧ FnOk X.prog X.w X.K X.mg X.base (L2.CX X.prog X.w) l f fd ps (spF t k g) ∧ Room l X.A ∧ PySem.W.keepIn X.K (.ref f) = true ∧ Binds X.K fd ps [])
    (hN : X.N[i]? = some x) (hv : Vis X.env.scope x) (ha : SA X t (fun _ => E) (e :: es) ms)
    (hdb : (x == ("__debug__" : Str)) = false := by decide) (hcd : (x == ("__classdict__" : Str)) = false := by decide) (he : starEach (e :: es) X.env = (false, eval e X.env) :: starEach es X.env := by rfl) (hpl : (backTo pos (starEach es X.env)).any (·.1) = false := by rfl) :
    SE X t (fun _ => E) (.Call (.Name x p) (e :: es) [] pos) (eCallV i k tbl ms) := by
  refine ⟨fun pins s σ H Q I hh => ?_⟩
  obtain ⟨am, r, s1, en, mm, h⟩ := hh
  unfold eCallV at h
  split at h
  · rename_i j er
    split at h
    · rename_i g eg
      obtain ⟨f, fd, ps, l, ef, F, hr, hk, hb⟩ := hF j g eg
      obtain ⟨v, ev, rv⟩ := en.get i (.fn j) er (by intro z; cases z)
      obtain ⟨f', rfl, ef'⟩ := rv
      rw [ef] at ef'; cases ef'
      refine (pe_callL (E := E) F hr hN hv hk hb .nil (fun pins σ H s e s' I c => O.hx σ pins H s e s' I c) ha hdb hcd he hpl).run pins s σ H Q I ⟨ev, ?_⟩
      refine tyA.of en mm h fun ds s2 am1 H1 vs en1 m1 p1 r1 h1 => ?_
      unfold nArgs at h1
      rw [List.append_nil]
      split at h1
      · rename_i hl
        exact callK_sp hl m1 r1 h1
      · exact h1.elim
    · exact h.elim
  · exact h.elim
/-! ### a def whose code object is known -/
structure FunL (K : PySem.W.Frag) (x qual : Str) (st : Stmt) (f : Addr) (fd : FuncData) (c : Addr) : Prop where
  ex : ∃ oc od kV doc pm an ct osl, fd = PySem.W.fnOf x qual (defArgs st) (defBody st) (defScope st) .none kV doc pm an (.ref c) ct ∧ K.lookup f = some ⟨oc, od, .func fd, osl⟩ ∧ PySem.W.codeIn K (.ref c) qual = true
  kp : PySem.W.keepIn K (.ref f) = true
theorem FunL.fun {K : PySem.W.Frag} {x qual : Str} {st : Stmt} {f c : Addr} {fd : FuncData} (F : FunL K x qual st f fd c) : Fun K x qual st f fd :=
  let ⟨oc, od, kV, doc, pm, an, ct, osl, h1, h2, h3⟩ := F.ex
  ⟨⟨oc, od, kV, doc, pm, an, .ref c, ct, osl, h1, h2, h3⟩, F.kp⟩
section
variable {P : Program} {w : World} {K : PySem.W.Frag} {mg : Str → Option Value} {base : Heap}
theorem fn_okL {x qual : Str} {st : Stmt} {f c : Addr} {fd : FuncData} {N ps : List Str} {k : Nat} {t : Tb} {m : Sm} (F : FunL K x qual st f fd c) (S : FnScope N ps (defScope st))
    (hbody : ∀ (A : Around) (outer : List PySem.Env) (s : Shared) (H : Hp) (E : XK), Room k (A.deeper (PyProof.Rows.envOfC qual (defScope st) s.heap.objs.size f (.ref c))) →
      SSs (cxOf (L2.CX P w) P w K mg base N qual (defScope st) f (.ref c) A outer s H E) t (fun _ => E) (defBody st) m) :
    FnOk P w K mg base (L2.CX P w) (k + 1) f fd ps (spF t ps.length (mkFn N.length ps.length m)) := by
  obtain ⟨oc, od, kV, doc, pm, an, ct, osl, rfl, lk, hc⟩ := F.ex
  refine ⟨fun vs H Q E h => ?_, fun A outer s H args us vs Q E hr e0 bt vv h => ?_⟩
  · obtain ⟨am, ds, s, hl, _, r, _⟩ := h
    rw [← r.length, hl]
  · have hl' : vs.length = ps.length := by
      obtain ⟨am, ds, s, hl, _, r, _⟩ := h
      rw [← r.length, hl]
    refine LamX.run_ofS lk hc S hr e0 bt vv hl' fun hr' => ⟨_, hbody A outer s H E hr', ?_⟩
    obtain ⟨am, ds, s0, hl, mm, r, h⟩ := h
    have hN : ps.length ≤ N.length := by
      have := congrArg List.length S.pre
      rw [List.length_take] at this
      omega
    have en : EnvR t am H (ds ++ List.replicate (N.length - ps.length) .undef) (L2.start N vs) := by
      unfold L2.start
      rw [← r.length, hl]
      exact reps_start r _
    refine ⟨am, _, s0, en, mm, ?_⟩
    unfold mkFn at h
    rw [if_pos hl] at h
    cases hx : m (ds ++ List.replicate (N.length - ps.length) .undef) s0 with
    | nx r1 s1 => rw [hx] at h; exact fun am' H' σ' p m _ => h am' H' .non p m rfl
    | rt d s1 => rw [hx] at h; exact h
    | bk r1 s1 => rw [hx] at h; exact h.elim
    | ct r1 s1 => rw [hx] at h; exact h.elim
    | exc c fs r1 s1 => rw [hx] at h; exact fun am' H' σ' cls dd p m _ x => h am' H' cls dd p m x
    | stk => rw [hx] at h; exact h.elim
end
theorem okc_lam {X : Cx} {t : Tb} {A : Around} {outer : List PySem.Env} {s : Shared} {H : Hp} {E : XK} {scope : Scope} {f c' : Addr} (hK : X.K = t.K) : Okc (LamX.lamCx X A outer s H E scope f c') t fun _ => E := by
  exact ⟨hK, fun σ => passAt (W := fun cls d _ H => E cls d H) (takes_of rfl rfl rfl rfl) σ⟩
end Y

/-! Y18: the end of a law's row where the law makes lambdas. -/
namespace Y
open PySem L2
theorem law_spT {t : Tb} {f : Fn} {H : Hp} {a : Addr} {ns : List Int} (hT : LamX.Tabs t.T H) (hS : SqL t.K H a (ns.map V.int)) (hf : ∃ s', f [.frl (ns.map D.int)] [] = .ok (.bl true) s') (hf2 : ∃ s', f [.ref 0] [.lst (ns.map D.int)] = .ok (.bl true) s') : spF t 1 f [.ref a] H (fun v _ => v = .bl true) fun _ _ _ => False := by
  by_cases hl : H a = some (.lst (ns.map V.int))
  · obtain ⟨s', e⟩ := hf2
    refine ⟨[a], [.ref 0], [.lst (ns.map D.int)], rfl, ⟨by simp, rfl, fun n o h => ?_, hT⟩, ⟨.ref a, [], rfl, ⟨a, rfl, rfl⟩, rfl⟩, ?_⟩
    · cases n with
      | zero =>
        cases h
        exact ⟨a, rfl, _, hl, reps_of_ints ns⟩
      | succ n => simp at h
    · rw [e]
      intro am' H' v p m r
      exact r
  · obtain ⟨s', e⟩ := hf
    have fr : FrL t.K H a (ns.map V.int) := by
      rcases hS with (h | ⟨o, h⟩) | h
      · exact absurd h hl
      · exact .inl ⟨o, h⟩
      · exact .inr h
    refine ⟨[], [.frl (ns.map D.int)], [], rfl, ⟨List.nodup_nil, rfl, fun n o h => by simp at h, hT⟩, ⟨.ref a, [], rfl, ⟨a, ns.map V.int, rfl, fr, reps_of_ints ns⟩, rfl⟩, ?_⟩
    rw [e]
    intro am' H' v p m r
    exact r
theorem walk_y1 {l : PySem.W.OpenLaw} {n k : Nat} {q : Program} {loose : List Str} {lv : List (Str × PySem.W.WData)} {YP : World → Heap → Prop} {d : DefRec} {K : Params → PySem.W.Frag} {x : Str} {P : Addr} {f : Fn}
    (hn : l.most = some n) (hn2 : n ≤ sizeLine) (hdf : d.params.defaults = []) (hr : Room k callerA)
    (hY : ∀ (w : World) (h : Heap), YP w h → (K w.params).In h) (hT : ∀ (w : World) (h : Heap), YP w h → h.get? P = some (PySem.W.tabObj #[]))
    (F : ∀ (w : World) (mg : Str → Option Value) (fa : Addr) (h : Heap), (K w.params).In h → h.Ns mainGlobals mg → PySem.W.LooseAre lv mg h → mg d.name = some (.ref fa) →
      ∃ fd : FuncData, (∀ (s : Shared) (u : Value), BindsTo s fd ⟨[u], []⟩ [(x, u)]) ∧
        ∃ (c : Addr) (t : Tb), PySem.W.codeHdIn (K w.params) c P = true ∧ (K w.params).lookup P = none ∧ t.K = K w.params ∧ (∀ z ∈ t.T, P = z.1) ∧ ∀ base : Heap, (K w.params).In base → base.Ns mainGlobals mg → LamX.TabB base mg c P → FnOk l.prog w (K w.params) mg base (L2.CX l.prog w) k fa fd [x] (spF t 1 f))
    (hf : ∀ ns : List Int, ns.length ≤ n → (∃ s', f [.frl (ns.map D.int)] [] = .ok (.bl true) s') ∧ ∃ s', f [.ref 0] [.lst (ns.map D.int)] = .ok (.bl true) s') :
    PySem.W.WalkO q loose (PySem.W.XL q lv) YP l.row.toRowW d [] (fun f vs => PySem.call f vs) := by
  refine Att.attach_call hn hdf fun w s₀ s₁ mg mb fa o pm cd doc a vs ns G Y ho hd hcd hmg hobj hints hlen hg => ?_
  have KX := hY w _ Y
  obtain ⟨fd, hb, c, t, hc, hl, ht, hT', hF⟩ := F w mg fa _ KX G.T.g G.X.2 hmg
  refine LamX.law_callTs (cs := [(c, P)]) KX G.T.g G.T.b G.T.builtins G.T.nolimit hg (fun p hp => ?_) (fun p hp => ?_) (fun p hp => ?_) G.T.bmain hobj hints (Nat.le_trans hlen hn2) hr (fun base a b g => hF base a b (g _ (List.mem_singleton_self _))) hb (fun H hH hS => law_spT (fun z hz => ?_) (by rw [ht]; exact hS) (hf ns hlen).1 (hf ns hlen).2) fun H e s' h => ?_
  · rw [List.mem_singleton] at hp
    rw [hp]; exact hT w _ Y
  · rw [List.mem_singleton] at hp
    rw [hp]; exact hl
  · rw [List.mem_singleton] at hp
    rw [hp]; exact PySem.W.codeHd_of_K KX hc
  · exact LamX.TabS.nil (by rw [← hT' z hz]; exact hH (c, P) (List.mem_singleton_self _))
  · obtain ⟨_, _, _, _, _, _, _, _, _, _, _, _, z⟩ := h
    exact z
theorem exm_one' {K : PySem.W.Frag} {C N : Addr} (bB : PySem.W.subIn K (.ref N) (.type "BaseException") = some true) (bI : PySem.W.isClsIn K N = true) (bT : PySem.W.typeIn K (.ref N) = some (.type "type")) (bS : PySem.W.subIn K (.ref C) (.ref N) = some true) : PySem.W.exmOne K (.ref C) (.ref N) = some true := by
  unfold PySem.W.exmOne PySem.W.kitCls
  unfold PySem.W.isClsIn at bI
  simp [bB, bI, bT, bS]
/-- a class of errors, and the class by which its errors are caught -/
theorem mkXE {K : PySem.W.Frag} {h : Heap} {mg : Str → Option Value} {x y : Str} {C N : Addr} (KX : K.In h) (G : h.Ns mainGlobals mg) (a : PySem.W.nsIn K mainGlobals x = some (some (.ref C)))
    (ex : PySem.W.excIn K C [.type "ValueError", .type "Exception", .type "BaseException", .type "object"] "ValueError.__new__" = true) (kp : PySem.W.keepIn K (.ref C) = true) (sub : PySem.W.subIn K (.ref C) (.type "BaseException") = some true) (ty : PySem.W.typeIn K (.ref C) = some (.type "type"))
    (b : PySem.W.nsIn K mainGlobals y = some (some (.ref N))) (bB : PySem.W.subIn K (.ref N) (.type "BaseException") = some true) (bI : PySem.W.isClsIn K N = true) (bT : PySem.W.typeIn K (.ref N) = some (.type "type")) (bS : PySem.W.subIn K (.ref C) (.ref N) = some true)
    (e1 : PySem.W.findIn K (.ref C) "__getattribute__" = some (some (.builtin "BaseException.__getattribute__"))) (e2 : PySem.W.findIn K (.ref C) "__getattr__" = some none) (e4 : PySem.W.hasDictIn K C = true)
    (e5 : PySem.W.findIn K (.ref C) "__class__" = some (some (.builtin "object.__class__"))) (e6 : PySem.W.specialIn K (.builtin "object.__class__") "__get__" = some (some (.builtin "getset_descriptor.__get__"))) (e7 : PySem.W.takesIn K (.builtin "object.__class__") = some true) (e8 : PySem.W.mroIn K C (.type "object") = some true) :
    ∃ C N, PySem.W.excIn K C [.type "ValueError", .type "Exception", .type "BaseException", .type "object"] "ValueError.__new__" = true ∧ mg x = some (.ref C) ∧ PySem.W.keepIn K (.ref C) = true ∧ PySem.W.subIn K (.ref C) (.type "BaseException") = some true ∧ PySem.W.typeIn K (.ref C) = some (.type "type") ∧ mg y = some (.ref N) ∧ PySem.W.exmOne K (.ref C) (.ref N) = some true ∧ ExcC K C :=
  ⟨C, N, ex, PySem.W.mg_of KX G a, kp, sub, ty, PySem.W.mg_of KX G b, exm_one' bB bI bT bS, ⟨e1, e2, sub, e4, e5, e6, e7, e8⟩⟩
theorem mkFL {K : PySem.W.Frag} {h : Heap} {mg : Str → Option Value} {x : Str} {st : Stmt} {ps : List Str} {f c : Addr} {oc : Value} {od an : Option Addr} {osl : Array (Option Value)} {kV doc pm ct : Value} (KX : K.In h) (G : h.Ns mainGlobals mg)
    (a : PySem.W.nsIn K mainGlobals x = some (some (.ref f)))
    (l : K.lookup f = some ⟨oc, od, .func (PySem.W.fnOf x x (defArgs st) (defBody st) (defScope st) .none kV doc pm an (.ref c) ct), osl⟩) (hc : PySem.W.codeIn K (.ref c) x = true) (k : PySem.W.keepIn K (.ref f) = true)
    (hb : ∀ (kV doc pm : Value) (an : Option Addr) (cdv ct : Value) (us : List Value), us.length = ps.length → bindArgs (PySem.W.fnOf x x (defArgs st) (defBody st) (defScope st) .none kV doc pm an cdv ct) ⟨us, []⟩ = pure (ps.zip us)) :
    ∃ fd, FunL K x x st f fd c ∧ mg x = some (.ref f) ∧ Binds K fd ps [] ∧ ∀ (s : Shared) (us : List Value), us.length = ps.length → BindsTo s fd ⟨us, []⟩ (ps.zip us) :=
  ⟨_, ⟨⟨oc, od, kV, doc, pm, an, ct, osl, rfl, l, hc⟩, k⟩, PySem.W.mg_of KX G a, .all (hb kV doc pm an (.ref c) ct), fun s us hl => .of_eq (hb kV doc pm an (.ref c) ct us hl)⟩
end Y

/-! Y19: list(d.values()), dicts displayed with numbers as keys, sorted lists of pairs. -/
namespace Y
open PySem L2
def tListVals (te : TE) : TE := fun σ H Q => te σ H fun x H1 => ∃ (d : Addr) (kvs : List (Key × V)), x = .ref d ∧ H1 d = some (.dK kvs) ∧ ∀ p, H1 p = none → Q (.ref p) (L2.upd H1 p (.lst (kvs.map (·.2))))
theorem vals_kv : ∀ {kvs : List (Key × V)} {vs : List (Key × Value)}, KV kvs vs → Vals (kvs.map (·.2)) (vs.map (·.2))
  | [], _, .nil => .nil
  | p :: ps, _, .cons h r => .cons h.2 (vals_kv r)
theorem pe_listVals {X : Cx} {e : Expr} {te : TE} {p apos cpos pos : Pos} (hc : X.calm = true) (he : PE X e te) (hg : Gl X "list") (hm : X.mg "list" = none)
    (hb : attributeBase e "values" X.env (eval e X.env) = eval e X.env := by rfl) (hline : (apos.endLine == cpos.line) = true := by rfl)
    (hs : starEach [.Call (.Attribute e "values" apos) [] [] cpos] X.env = (false, eval (.Call (.Attribute e "values" apos) [] [] cpos) X.env) :: starEach [] X.env := by rfl) :
    PE X (.Call (.Name "list" p) [.Call (.Attribute e "values" apos) [] [] cpos] [] pos) (tListVals te) := by
  refine ⟨fun pins s σ H Q I h => ?_⟩
  refine wpAny_Call_Name_kw (ld_blt I hg hm (u := .type "list") (by decide +kernel) ?_ (by decide) (by decide))
  refine PyProof.Rows.callWith_type1 ?_ hs rfl
  rw [hs]
  refine Calls.spliced_cons ?_
  refine wpAny_Call_method (T := "dict") (id := "dict.values") hb (by rfl) hline F.plainAttrs_dict F.slot_dict_values F.type_dict_values ?_
  refine thn (he.run pins s σ H _ I h) fun v s1 z => ?_
  obtain ⟨x, H1, I1, rx, d, kvs, rfl, hd, q⟩ := z
  cases rx
  obtain ⟨hl, hsm, vs, kv, dof⟩ := dk_rd I1.hok (.inl hd)
  have dof0 := dof
  obtain ⟨es, ep, raw, hsz, hes⟩ := dof.raw
  refine ⟨dof0.typeIs, fun a ha => ?_, ?_⟩
  · cases ha
    exact dof0.mapOf.noDict d rfl
  refine method_meetsIn F.slot_dict_values F.entry_dict_values rfl (evalArgs_none ⟨rfl, dof0.typeIs, F.args_dict_values_1 _, _, meets_dict_values_raw d hsm, ⟨es, ep, raw⟩, ?_⟩)
  show wpAny _ _ (spliced _) _ _ _
  refine Calls.spliced_nil ?_
  have view : (s1.heap.push { cls := .type "dict_values", data := .fields #[.ref d] }).IsValuesView s1.heap.objs.size d := ⟨_, Heap.get?_push_size _ rfl, rfl, rfl⟩
  have hkv : kvs.length = vs.length := Paired.length kv
  refine W.kdl_call KdlSrc.rawValues (I1.ok.hd hc) ⟨view, raw.push _⟩ (by rw [hsz, ← hkv]; exact hl) fun h' tk acc c keep g items => ?_
  have size1 : (s1.heap.push { cls := .type "dict_values", data := .fields #[.ref d] }).objs.size = s1.heap.objs.size + 1 := Heap.size_push ..
  refine ⟨.ref (s1.heap.push { cls := .type "dict_values", data := .fields #[.ref d] }).objs.size, _, I1.laid (t' := tk) (fun b u hu => keep b u (Heap.get?_push_of_some _ hu)) (by rw [size1]; exact Nat.le_succ _) ?_, rfl, q _ (I1.hok.fresh (by rw [size1]; exact Nat.le_succ _))⟩
  have ea : acc.toList = vs.map (·.2) := by
    obtain ⟨sz, it⟩ := items
    refine List.ext_getElem? fun j => ?_
    by_cases hj : j < vs.length
    · have ha : acc[j]? = some (acc[j]'(by omega)) := Array.getElem?_eq_getElem (by omega)
      obtain ⟨hi, ev⟩ := it j _ ha
      have e2 := (hes j hi vs[j].1 vs[j].2 (by rw [List.getElem?_eq_getElem hj])).2
      rw [Array.getElem?_toList, ha, List.getElem?_map, List.getElem?_eq_getElem hj]
      show some _ = some vs[j].2
      rw [ev, e2]
    · rw [Array.getElem?_toList, Array.getElem?_eq_none (by omega), List.getElem?_eq_none (by rw [List.length_map]; omega)]
  refine ⟨by rw [List.length_map]; exact hl, acc.toList, c, by rw [ea]; exact vals_kv kv, by simpa using g⟩
section
variable {X : Cx} {t : Tb} {W : XW}
def oListVals : P1 := fun x s => match x with
  | .ref n => match s[n]? with
    | some (.dct false kvs) => .ok (.ref s.length) (s ++ [.lst (kvs.map (·.2))])
    | _ => .stk
  | _ => .stk
theorem vals_repK {am : List Addr} {H : Hp} : ∀ {kvs : List (D × D)} {ks : List (Key × V)}, RKV keyD t am H kvs ks → Reps t am H (kvs.map (·.2)) (ks.map (·.2))
  | [], ks, h => by rw [show ks = [] from h]; rfl
  | p :: ps, ks, ⟨k, v, r, e, h1, h2, h3⟩ => by
    rw [e]
    exact ⟨v, r.map (·.2), rfl, h2, vals_repK h3⟩
theorem s_listVals {e : Expr} {m : E} {p apos cpos pos : Pos} (hc : X.calm = true) (he : SE X t W e m) (hg : Gl X "list") (hm : X.mg "list" = none)
    (hb : attributeBase e "values" X.env (eval e X.env) = eval e X.env := by rfl) (hline : (apos.endLine == cpos.line) = true := by rfl)
    (hs : starEach [.Call (.Attribute e "values" apos) [] [] cpos] X.env = (false, eval (.Call (.Attribute e "values" apos) [] [] cpos) X.env) :: starEach [] X.env := by rfl) :
    SE X t W (.Call (.Name "list" p) [.Call (.Attribute e "values" apos) [] [] cpos] [] pos) (e1 oListVals m) :=
  (pe_listVals hc he hg hm hb hline hs).imp fun σ H Q ⟨am, r, s, en, mm, h⟩ => tyE.of en mm h fun d s1 am1 H1 v en1 m1 p1 r1 h1 => by
    unfold oListVals at h1
    split at h1
    · rename_i n
      obtain ⟨a, rfl, ha⟩ := r1.refE
      split at h1
      · rename_i kvs e
        obtain ⟨ks, h2, h3⟩ := m1.at e ha
        exact ⟨a, ks, rfl, h2, new_list m1 h1 (vals_repK h3)⟩
      · exact h1.elim
    · exact h1.elim
def eDisp1 (i j : Int) : E := fun _ s => .ok (.ref s.length) (s ++ [.dct false [(.int i, .int j)]])
theorem s_disp1 {i j : Int} {k1 v1 : Expr} {pos : Pos} (hk : PE X k1 (tC (.int i))) (hv : PE X v1 (tC (.int j))) (h : PPs X pos [some k1] [v1] [(tC (.int i), tC (.int j))]) : SE X t W (.Dict [some k1] [v1] pos) (eDisp1 i j) :=
  (pe_disp h rfl rfl (by intro z; cases z) (by simp)).imp fun σ H Q ⟨am, r, s, en, mm, h⟩ => fun p hp => by
    show L2.upd H p (.dK []) p = _ ∧ _
    refine ⟨upd_same, [(.inl i, .int j)], rfl, by simp, ?_⟩
    have e : L2.upd (L2.upd H p (.dK [])) p (.dK (mergeK [] [(.inl i, .int j)])) = L2.upd H p (.dK [(.inl i, .int j)]) := by
      funext b
      unfold L2.upd
      split <;> rfl
    rw [e]
    exact h.ok (.new hp) (mm.new hp ⟨[(.inl i, .int j)], upd_same, .inl i, .int j, [], rfl, rfl, rfl, rfl⟩) ⟨p, rfl, by rw [← mm.len]; simp⟩
/-! ### sorted of pairs -/
def ltPr (p q : Int × Int) : Bool := SrtO.lexB p q
def insP (x : Int × Int) : List (Int × Int) → List (Int × Int)
  | [] => [x]
  | y :: r => if ltPr y x = true then y :: insP x r else x :: y :: r
def srtP : List (Int × Int) → List (Int × Int)
  | [] => []
  | x :: r => insP x (srtP r)
def AscP (l : List (Int × Int)) : Prop := l.Pairwise fun p q => ltPr q p = false
theorem ltPr_iff {p q : Int × Int} : ltPr p q = true ↔ p.1 < q.1 ∨ (p.1 = q.1 ∧ p.2 < q.2) := SrtO.lexB_iff
theorem ltPr_no {p q : Int × Int} : ltPr p q = false ↔ ¬ (p.1 < q.1 ∨ (p.1 = q.1 ∧ p.2 < q.2)) := by
  rw [← ltPr_iff]; simp
theorem insP_perm (x : Int × Int) : ∀ l, (insP x l).Perm (x :: l)
  | [] => .refl _
  | y :: r => by
    unfold insP
    split
    · exact ((insP_perm x r).cons y).trans (List.Perm.swap x y r)
    · exact .refl _
theorem srtP_perm : ∀ l, (srtP l).Perm l
  | [] => .refl _
  | x :: r => (insP_perm x _).trans ((srtP_perm r).cons x)
theorem insP_asc (x : Int × Int) : ∀ l, AscP l → AscP (insP x l)
  | [], _ => by simp [insP, AscP]
  | y :: r, h => by
    obtain ⟨h1, h2⟩ := List.pairwise_cons.mp h
    unfold insP
    split
    · rename_i hxy
      refine List.pairwise_cons.mpr ⟨fun z hz => ?_, insP_asc x r h2⟩
      rcases List.mem_cons.mp ((insP_perm x r).mem_iff.mp hz) with rfl | hz
      · rw [ltPr_iff] at hxy; rw [ltPr_no]; omega
      · exact h1 z hz
    · rename_i hxy
      have hxy : ltPr y x = false := by simpa using hxy
      refine List.pairwise_cons.mpr ⟨fun z hz => ?_, h⟩
      rcases List.mem_cons.mp hz with rfl | hz
      · exact hxy
      · have := h1 z hz
        rw [ltPr_no] at *
        omega
theorem srtP_asc : ∀ l, AscP (srtP l)
  | [] => .nil
  | x :: r => insP_asc x _ (srtP_asc r)
theorem ascP_uniq : ∀ {a b : List (Int × Int)}, a.Perm b → AscP a → AscP b → a = b
  | [], b, p, _, _ => (List.nil_perm.mp p).symm
  | x :: a, [], p, _, _ => by have := p.length_eq; simp at this
  | x :: a, y :: b, p, ha, hb => by
    obtain ⟨a1, a2⟩ := List.pairwise_cons.mp ha
    obtain ⟨b1, b2⟩ := List.pairwise_cons.mp hb
    have e : x = y := by
      have hx := p.mem_iff.mp (List.mem_cons_self (a := x) (l := a))
      have hy := p.mem_iff.mpr (List.mem_cons_self (a := y) (l := b))
      rcases List.mem_cons.mp hx with h | h
      · exact h
      · rcases List.mem_cons.mp hy with h' | h'
        · exact h'.symm
        · have q1 := a1 y h'
          have q2 := b1 x h
          rw [ltPr_no] at q1 q2
          exact Prod.ext (by omega) (by omega)
    subst e
    rw [ascP_uniq (List.perm_cons x |>.mp p) a2 b2]
theorem srtP_uniq {l m : List (Int × Int)} (p : m.Perm l) (s : AscP m) : m = srtP l := ascP_uniq (p.trans (srtP_perm l).symm) s (srtP_asc l)
def prO (p : Int × Int) : D := .tup [.int p.1, .int p.2]
def pairsOf : List D → Option (List (Int × Int))
  | [] => some []
  | .tup [.int i, .int j] :: r => match pairsOf r with
    | some ps => some ((i, j) :: ps)
    | none => none
  | _ :: _ => none
def bSortP : PN := fun ds s => match ds with
  | [.ref n] => match s[n]? with
    | some (.lst xs) => match pairsOf xs with
      | some ps => .ok (.ref s.length) (s ++ [.lst ((srtP ps).map prO)])
      | none => .stk
    | _ => .stk
  | _ => .stk
def kOf (H : Hp) : V → Int × Int
  | .ref a => match H a with
    | some (.tup [.int i, .int j]) => (i, j)
    | _ => (0, 0)
  | _ => (0, 0)
theorem pairs_at {am : List Addr} {H : Hp} : ∀ {xs : List D} {vs : List V} {ps : List (Int × Int)}, pairsOf xs = some ps → Reps t am H xs vs → (∀ v ∈ vs, ∃ a, v = .ref a ∧ H a = some (.tup [.int (kOf H v).1, .int (kOf H v).2])) ∧ vs.map (kOf H) = ps
  | [], vs, ps, e, r => by
    cases e
    rw [show vs = [] from r]
    exact ⟨by simp, rfl⟩
  | x :: xs, vs, ps, e, ⟨v, w, e1, r1, r2⟩ => by
    unfold pairsOf at e
    split at e
    · rename_i h; cases h
    · rename_i i j rr h
      cases h
      split at e
      · rename_i ps' ep
        cases e
        obtain ⟨h1, h2⟩ := pairs_at ep r2
        obtain ⟨a, us, rfl, h4, h5⟩ := r1
        obtain ⟨u1, w1, rfl, h6, h7⟩ := h5
        obtain ⟨u2, w2, rfl, h8, h9⟩ := h7
        cases (show w2 = [] from h9)
        cases (show u1 = .int i from h6)
        cases (show u2 = .int j from h8)
        have ek : kOf H (.ref a) = (i, j) := by unfold kOf; simp only [h4]
        rw [e1]
        refine ⟨fun z hz => ?_, by rw [List.map_cons, ek, h2]⟩
        rcases List.mem_cons.mp hz with rfl | hz
        · exact ⟨a, rfl, by rw [ek]; exact h4⟩
        · exact h1 z hz
      · cases e
    · cases e
theorem pairs_rep {am : List Addr} {H : Hp} : ∀ (ys : List V), (∀ v ∈ ys, ∃ a, v = .ref a ∧ H a = some (.tup [.int (kOf H v).1, .int (kOf H v).2])) → Reps t am H ((ys.map (kOf H)).map prO) ys
  | [], _ => rfl
  | y :: ys, h => by
    obtain ⟨a, e, g⟩ := h y List.mem_cons_self
    refine ⟨y, ys, rfl, ⟨a, _, e, g, .int (kOf H y).1, [.int (kOf H y).2], rfl, rfl, .int (kOf H y).2, [], rfl, rfl, rfl⟩, pairs_rep ys fun v hv => h v (List.mem_cons_of_mem _ hv)⟩
theorem n_sortP : OpN t (rSortedPO t.K) bSortP := fun am s H ds vs Ex Q m r q => by
  unfold bSortP at q
  split at q
  · obtain ⟨v, rfl, h⟩ := reps1 r
    obtain ⟨a, rfl, ha⟩ := h.refE
    split at q
    · rename_i xs e
      obtain ⟨us, h1, h2⟩ := m.lst e ha
      split at q
      · rename_i ps ep
        obtain ⟨p1, p2⟩ := pairs_at ep h2
        refine ⟨a, us, kOf H, rfl, .of h1, p1, fun ys p hs hst hp => ?_⟩
        have pm : (ys.map (kOf H)).Perm ps := by rw [← p2]; exact hst.perm.map _
        have as : AscP (ys.map (kOf H)) := List.pairwise_map.mpr hs
        rw [← srtP_uniq pm as] at q
        exact new_list m q (pairs_rep ys fun v hv => p1 v (hst.perm.mem_iff.mp hv)) p hp
      · exact q.elim
    · exact q.elim
  · exact q.elim
/-! ### x += y -/
def oIAdd : P2 := fun x y s => match x, y with
  | .int i, .int j => .ok (.int (i + j)) s
  | .ref a, .ref b => match s[a]?, s[b]? with
    | some (.lst xs), some (.lst ys) => if xs.length + ys.length ≤ LINE then .ok (.ref a) (s.set a (.lst (xs ++ ys))) else .stk
    | _, _ => .stk
  | _, _ => .stk
def rIAdd : R2 := fun x y H Q => rI0 (fun i j => .int (i + j)) x y H Q ∨ rExt2 x y H Q
theorem iop_add2 {X : Cx} : OpR X (inplaceOp .Add) rIAdd := iop_add.or iop_ext
theorem o_iadd {t : Tb} : Op2 t rIAdd oIAdd := fun am s H d1 d2 v1 v2 Ex Q m r1 r2 q => by
  unfold oIAdd at q
  split at q
  · cases r1.intE; cases r2.intE
    exact .inl ⟨_, _, rfl, rfl, q.ok0 m rfl⟩
  · rename_i a b
    obtain ⟨l, rfl, g1⟩ := r1.refE
    obtain ⟨k, rfl, g2⟩ := r2.refE
    split at q
    · rename_i xs ys e1 e2
      obtain ⟨us, h1, h2⟩ := m.lst e1 g1
      obtain ⟨ws, h3, h4⟩ := m.lst e2 g2
      by_cases hl : xs.length + ys.length ≤ LINE
      · rw [if_pos hl] at q
        have P : Post am H am (L2.upd H l (.lst (us ++ ws))) := .put (List.mem_of_getElem? g1) h1 (fun z => z)
        obtain ⟨_, m2⟩ := m.put (u := .lst (us ++ ws)) (o := .lst (xs ++ ys)) g1 ⟨_, upd_same, (h2.append h4).mono P⟩
        exact .inr ⟨l, k, us, ws, rfl, rfl, h1, h3, by rw [← h2.length, ← h4.length]; exact line_le hl, q.ok P m2 ⟨l, rfl, g1⟩⟩
      · rw [if_neg hl] at q; exact q.elim
    · exact q.elim
  · exact q.elim
theorem tst_ty {t : Tb} {W : XW} {m : E} {σ : St} {H : Hp} {Q : Bool → Hp → Prop} (h : tyT t W (tst m) σ H Q) : tyE t W m σ H fun v H' => ∃ b, v = .bl b ∧ Q b H' := by
  obtain ⟨am, r, s, en, mm, h⟩ := h
  refine ⟨am, r, s, en, mm, ?_⟩
  have h : RQ t am H ((m r s).bind fun x s1 => match x with
      | .bl b => .ok b s1
      | _ => .stk) repB (W σ) Q := h
  cases hx : m r s with
  | ok d s1 =>
    rw [hx] at h
    intro am' H' v p m' r1
    have h1 := RQ.re h p
    cases d with
    | bl b => exact ⟨b, r1, h1.ok0 m' rfl⟩
    | _ => exact h1.elim
  | exc c fs s1 => rw [hx] at h; exact h
  | stk => rw [hx] at h; exact h
theorem s_tdin {X : Cx} {t : Tb} {W : XW} {i o : Expr} {mi mo : E} {pos : Pos} (hu : X.A.units + 1 < cLine) (hi : SE X t W i mi) (ho : SE X t W o mo) (hm : behindInMarks .In o = false) : ST X t W (.Compare i [.In] [o] pos) (tst (e2 oDIn mi mo)) :=
  (pt_cmp (pc_din hu hi ho) hm).imp fun σ H Q hh => by
    obtain ⟨am, r, s, en, mm, h⟩ := tst_ty hh
    show tDIn (tyE t W mi) (tyE t W mo) σ H _
    exact tyE.of en mm h fun d1 s1 am1 H1 v1 en1 m1 p1 r1 h1 => tyE.of en1 m1 h1 fun d2 s2 am2 H2 v2 en2 m2 p2 r2 h2 => by
      unfold oDIn at h2
      split at h2
      · rename_i tk kvs ed
        split at h2
        · rename_i hk
          obtain ⟨a, o, rfl, _, g, f1, f2⟩ := dget_sp m2 r2 (r1.mono p2) ed hk
          refine ⟨a, o, rfl, g, h2.ok0 m2 ?_⟩
          cases ef : fndD kvs d1 with
          | none => rw [f2 ef]; rfl
          | some z =>
            obtain ⟨v, rfl, _⟩ := f1 z ef
            rfl
        · exact h2.elim
      · exact h2.elim
theorem s_tdnotin {X : Cx} {t : Tb} {W : XW} {i o : Expr} {mi mo : E} {pos : Pos} (hu : X.A.units + 1 < cLine) (hi : SE X t W i mi) (ho : SE X t W o mo) (hm : behindInMarks .NotIn o = false) : ST X t W (.Compare i [.NotIn] [o] pos) (tst (e2 oDNotIn mi mo)) :=
  (pt_cmp (pc_dnotin hu hi ho) hm).imp fun σ H Q hh => by
    obtain ⟨am, r, s, en, mm, h⟩ := tst_ty hh
    show tDNotIn (tyE t W mi) (tyE t W mo) σ H _
    exact tyE.of en mm h fun d1 s1 am1 H1 v1 en1 m1 p1 r1 h1 => tyE.of en1 m1 h1 fun d2 s2 am2 H2 v2 en2 m2 p2 r2 h2 => by
      unfold oDNotIn at h2
      split at h2
      · rename_i tk kvs ed
        split at h2
        · rename_i hk
          obtain ⟨a, o, rfl, _, g, f1, f2⟩ := dget_sp m2 r2 (r1.mono p2) ed hk
          refine ⟨a, o, rfl, g, h2.ok0 m2 ?_⟩
          cases ef : fndD kvs d1 with
          | none => rw [f2 ef]; rfl
          | some z =>
            obtain ⟨v, rfl, _⟩ := f1 z ef
            rfl
        · exact h2.elim
      · exact h2.elim
/-! ### len of a dict -/
def bLenD : PN := fun ds s => match ds with
  | [.ref n] => match s[n]? with
    | some (.dct false kvs) => .ok (.int kvs.length) s
    | _ => .stk
  | _ => .stk
def rLenD : List V → Hp → VK → Prop := fun xs H Q => ∃ (d : Addr) (kvs : List (Key × V)), xs = [.ref d] ∧ H d = some (.dK kvs) ∧ Q (.int kvs.length) H
theorem rkv_len {t : Tb} {am : List Addr} {H : Hp} : ∀ {kvs : List (D × D)} {ks : List (Key × V)}, RKV keyD t am H kvs ks → kvs.length = ks.length
  | [], ks, h => by rw [show ks = [] from h]; rfl
  | p :: ps, ks, ⟨k, v, r, e, h1, h2, h3⟩ => by rw [e, List.length_cons, List.length_cons, rkv_len h3]
theorem n_lenD {t : Tb} : OpN t rLenD bLenD := fun am s H ds vs Ex Q m r q => by
  unfold bLenD at q
  split at q
  · obtain ⟨v, rfl, h⟩ := reps1 r
    obtain ⟨a, rfl, ha⟩ := h.refE
    split at q
    · rename_i kvs e
      obtain ⟨ks, h1, h2⟩ := m.at e ha
      exact ⟨a, ks, rfl, h1, by rw [← rkv_len h2]; exact q.ok0 m rfl⟩
    · exact q.elim
  · exact q.elim
end
end Y

/-! YL: reckoning in the plain semantics. -/
namespace Y
open PySem (Str PyData)

/-! ### what reduces by itself -/
section
variable {α β : Type} {r : Env} {s s1 : S} {d x y : D} {a b c : E} {t u : T} {as : A} {p : P1} {q q' : P2} {pn : PN}
@[simp] theorem bind_ok (a : α) (s : S) (f : α → S → Rs β) : (Rs.ok a s).bind f = f a s := rfl
@[simp] theorem bind_exc (c fs) (s : S) (f : α → S → Rs β) : (Rs.exc c fs s : Rs α).bind f = .exc c fs s := rfl
@[simp] theorem bind_stk (f : α → S → Rs β) : (Rs.stk : Rs α).bind f = .stk := rfl
@[simp] theorem then_ok (a : α) (s : S) (r) (f : α → S → F) : (Rs.ok a s).then r f = f a s := rfl
@[simp] theorem then_exc (c fs) (s : S) (r) (f : α → S → F) : (Rs.exc c fs s : Rs α).then r f = .exc c fs r s := rfl
@[simp] theorem then_stk (r) (f : α → S → F) : (Rs.stk : Rs α).then r f = .stk := rfl
@[simp] theorem andThen_nx (r : Env) (s : S) (f : Env → S → F) : (F.nx r s).andThen f = f r s := rfl
@[simp] theorem andThen_rt (d : D) (s : S) (f : Env → S → F) : (F.rt d s).andThen f = .rt d s := rfl
@[simp] theorem andThen_bk (r : Env) (s : S) (f : Env → S → F) : (F.bk r s).andThen f = .bk r s := rfl
@[simp] theorem andThen_ct (r : Env) (s : S) (f : Env → S → F) : (F.ct r s).andThen f = .ct r s := rfl
@[simp] theorem andThen_exc (c fs) (r : Env) (s : S) (f : Env → S → F) : (F.exc c fs r s).andThen f = .exc c fs r s := rfl
@[simp] theorem andThen_stk (f : Env → S → F) : (F.stk).andThen f = .stk := rfl
@[simp] theorem turn_nx (r : Env) (s : S) (f : Env → S → F) : (F.nx r s).turn f = f r s := rfl
@[simp] theorem turn_ct (r : Env) (s : S) (f : Env → S → F) : (F.ct r s).turn f = f r s := rfl
@[simp] theorem turn_bk (r : Env) (s : S) (f : Env → S → F) : (F.bk r s).turn f = .nx r s := rfl
@[simp] theorem turn_rt (d : D) (s : S) (f : Env → S → F) : (F.rt d s).turn f = .rt d s := rfl
@[simp] theorem turn_exc (c fs) (r : Env) (s : S) (f : Env → S → F) : (F.exc c fs r s).turn f = .exc c fs r s := rfl
@[simp] theorem turn_stk (f : Env → S → F) : (F.stk).turn f = .stk := rfl
@[simp] theorem ap_eC : eC d r s = .ok d s := rfl
@[simp] theorem ap_e1 : e1 p a r s = (a r s).bind fun x s1 => p x s1 := rfl
@[simp] theorem ap_e2 : e2 q a b r s = (a r s).bind fun x s1 => (b r s1).bind fun y s2 => q x y s2 := rfl
@[simp] theorem ap_aN : aN r s = .ok [] s := rfl
@[simp] theorem ap_aC : aC a as r s = (a r s).bind fun x s1 => (as r s1).bind fun xs s2 => .ok (x :: xs) s2 := rfl
@[simp] theorem ap_eN : eN pn as r s = (as r s).bind fun xs s1 => pn xs s1 := rfl
@[simp] theorem ap_tAnd : tAnd t u r s = (t r s).bind fun c s1 => if c = true then u r s1 else .ok false s1 := rfl
@[simp] theorem ap_tOr : tOr t u r s = (t r s).bind fun c s1 => if c = true then .ok true s1 else u r s1 := rfl
@[simp] theorem ap_tNot : tNot t r s = (t r s).bind fun c s1 => .ok (!c) s1 := rfl
@[simp] theorem ap_eIf : eIf t a b r s = (t r s).bind fun c s1 => if c = true then a r s1 else b r s1 := rfl
/-- a bool that is told -/
def Bl (x : D) (s : S) (f : Bool → S → Rs α) : Rs α := match x with
  | .bl b => f b s
  | _ => .stk
@[simp] theorem Bl_bl (b : Bool) (f : Bool → S → Rs α) : Bl (.bl b) s f = f b s := rfl
@[simp] theorem ap_tst : tst a r s = (a r s).bind fun x s1 => Bl x s1 .ok := rfl
theorem ap_eAnd' : eAnd a b r s = (a r s).bind fun x s1 => Bl x s1 fun k s2 => if k = true then b r s2 else .ok (.bl false) s2 := by
  unfold eAnd Bl
  congr 1
  funext x s1
  cases x with
  | bl k => cases k <;> rfl
  | _ => rfl
@[simp] theorem ap_eAnd : eAnd a b r s = (a r s).bind fun x s1 => Bl x s1 fun k s2 => if k = true then b r s2 else .ok (.bl false) s2 := ap_eAnd'
@[simp] theorem ap_eOr : eOr a b r s = (a r s).bind fun x s1 => Bl x s1 fun k s2 => if k = true then .ok (.bl true) s2 else b r s2 := by
  unfold eOr Bl
  congr 1
  funext x s1
  cases x with
  | bl k => cases k <;> rfl
  | _ => rfl
@[simp] theorem ap_eNot : eNot a r s = (a r s).bind fun x s1 => Bl x s1 fun k s2 => .ok (.bl (!k)) s2 := rfl
@[simp] theorem ap_eCh : eCh q q' a b c r s = (a r s).bind fun x s1 => (b r s1).bind fun y s2 => (q x y s2).bind fun z s3 => Bl z s3 fun k s3 => if k = true then (c r s3).bind fun w s4 => q' y w s4 else .ok (.bl false) s3 := by
  unfold eCh Bl
  cases a r s with
  | ok x s1 =>
    simp only [Rs.bind_ok]
    cases b r s1 with
    | ok y s2 =>
      simp only [Rs.bind_ok]
      cases q x y s2 with
      | ok z s3 =>
        simp only [Rs.bind_ok]
        cases z with
        | bl k => cases k <;> rfl
        | _ => rfl
      | exc => rfl
      | stk => rfl
    | exc => rfl
    | stk => rfl
  | exc => rfl
  | stk => rfl
@[simp] theorem ap_eTup : eTup as r s = (as r s).bind fun xs s1 => if xs.length ≤ 1000000 then .ok (.tup xs) s1 else .stk := rfl
@[simp] theorem ap_eLst : eLst as r s = (as r s).bind fun xs s1 => if xs.length ≤ 1000000 then .ok (.ref s1.length) (s1 ++ [.lst xs]) else .stk := rfl
@[simp] theorem eV_succ {i : Nat} : eV (i + 1) (d :: r) s = eV i r s := rfl
@[simp] theorem eV_non : eV 0 (.non :: r) s = .ok .non s := rfl
@[simp] theorem eV_bl {k : Bool} : eV 0 (.bl k :: r) s = .ok (.bl k) s := rfl
@[simp] theorem eV_int {i : Int} : eV 0 (.int i :: r) s = .ok (.int i) s := rfl
@[simp] theorem eV_str {x : Str} : eV 0 (.str x :: r) s = .ok (.str x) s := rfl
@[simp] theorem eV_tup {xs : List D} : eV 0 (.tup xs :: r) s = .ok (.tup xs) s := rfl
@[simp] theorem eV_frl {xs : List D} : eV 0 (.frl xs :: r) s = .ok (.frl xs) s := rfl
@[simp] theorem eV_ref {n : Nat} : eV 0 (.ref n :: r) s = .ok (.ref n) s := rfl
@[simp] theorem eV_fn {n : Nat} : eV 0 (.fn n :: r) s = .ok (.fn n) s := rfl
theorem eV_any (hu : d ≠ .undef) : eV 0 (d :: r) s = .ok d s := by cases d <;> first | rfl | exact absurd rfl hu
theorem ap_eV {i : Nat} (h : r[i]? = some d) (hu : d ≠ .undef) : eV i r s = .ok d s := by
  unfold eV
  rw [h]
  cases d <;> first | rfl | exact absurd rfl hu
end
section
variable {r : Env} {s s1 : S} {e : E} {b c : Sm} {t : T} {g : Tg} {i j : Nat}
@[simp] theorem ap_zCons : zCons b c r s = (b r s).andThen c := rfl
@[simp] theorem ap_zNil : zNil r s = .nx r s := rfl
@[simp] theorem ap_zRet : zRet e r s = (e r s).then r fun d s1 => .rt d s1 := rfl
@[simp] theorem ap_zRetN : zRetN r s = .rt .non s := rfl
@[simp] theorem ap_zEx : zEx e r s = (e r s).then r fun _ s1 => .nx r s1 := rfl
@[simp] theorem ap_zIf : zIf t b c r s = (t r s).then r fun k s1 => if k = true then b r s1 else c r s1 := rfl
@[simp] theorem ap_zPass : zPass r s = .nx r s := rfl
@[simp] theorem ap_zCnt : zCnt r s = .ct r s := rfl
@[simp] theorem ap_zBrk : zBrk r s = .bk r s := rfl
@[simp] theorem ap_zStk : zStk r s = .stk := rfl
@[simp] theorem ap_zRaise {c : Nat} : zRaise c r s = .exc c [] r s := rfl
/-- what a target leaves -/
def Go (x : Option (Env × S)) (f : Env → S → F) : F := match x with
  | some (r, s) => f r s
  | none => .stk
@[simp] theorem Go_some (r : Env) (s : S) (f : Env → S → F) : Go (some (r, s)) f = f r s := rfl
@[simp] theorem ap_zSet : zSet g e r s = (e r s).then r fun d s1 => Go (g d r s1) .nx := rfl
@[simp] theorem ap_zPar {x y : E} : zPar i j x y r s = (x r s).then r fun x s1 => (y r s1).then r fun y s2 => if i < r.length ∧ j < r.length then .nx ((r.set i x).set j y) s2 else .stk := rfl
@[simp] theorem ap_gV {d : D} : gV i d r s = if i < r.length then some (r.set i d, s) else none := rfl
@[simp] theorem ap_gsN {ds : List D} : gsN ds r s = if ds.isEmpty then some (r, s) else none := rfl
@[simp] theorem ap_gsC {d : D} {ds : List D} {t : List D → Env → S → Option (Env × S)} : gsC g t (d :: ds) r s = (g d r s).bind fun p => t ds p.1 p.2 := by
  unfold gsC
  simp only
  cases g d r s <;> rfl
@[simp] theorem ap_gT {ds : List D} {t : List D → Env → S → Option (Env × S)} : gT t (.tup ds) r s = t ds r s := rfl
/-- xs[i] = e where the list stands -/
def Pu (x : Option S) (r : Env) : F := match x with
  | some s => .nx r s
  | none => .stk
@[simp] theorem Pu_some (s : S) (r : Env) : Pu (some s) r = .nx r s := rfl
@[simp] theorem ap_zPutL {o k : E} : zPutL o k e r s = (e r s).then r fun v s1 => (o r s1).then r fun x s2 => (k r s2).then r fun k s3 => Pu (putL x k v s3) r := rfl
end
section
variable {s : S} {i j : Int} {xs ys : List D} {n m : Nat}
@[simp] theorem v_addI : oAdd (.int i) (.int j) s = .ok (.int (i + j)) s := rfl
@[simp] theorem v_subI : oSub (.int i) (.int j) s = .ok (.int (i - j)) s := rfl
theorem v_mulI (h : mulOk i j = true) : oMul (.int i) (.int j) s = .ok (.int (i * j)) s := by unfold oMul; simp [h]
theorem v_mul64 (h : i.natAbs < 18446744073709551616) : oMul (.int i) (.int j) s = .ok (.int (i * j)) s := v_mulI (by unfold mulOk; simp [h])
theorem v_mul64r (h : j.natAbs < 18446744073709551616) : oMul (.int i) (.int j) s = .ok (.int (i * j)) s := v_mulI (by unfold mulOk; simp [h])
theorem log2_lt {a k : Nat} (hk : 0 < k) (h : a < 2 ^ k) : a.log2 < k := by
  by_cases h0 : a = 0
  · subst h0; simpa using hk
  · exact (Nat.log2_lt h0).mpr h
theorem v_divP (h : 0 < j) (h2 : j.natAbs.log2 < 9000) : oDiv (.int i) (.int j) s = .ok (.int (i / j)) s := by
  unfold oDiv pdiv
  simp [h, h2, show j ≠ 0 by omega]
theorem v_div64 (h : 0 < j) (h2 : j < 18446744073709551616) : oDiv (.int i) (.int j) s = .ok (.int (i / j)) s :=
  v_divP h (Nat.lt_of_lt_of_le (log2_lt (k := 64) (by decide) (by omega)) (by decide))
theorem v_modP (h : 0 < j) : oMod (.int i) (.int j) s = .ok (.int (i % j)) s := by
  unfold oMod pmod
  simp [h, show j ≠ 0 by omega]
@[simp] theorem v_neg : oNeg (.int i) s = .ok (.int (-i)) s := rfl
@[simp] theorem v_lt : oLt (.int i) (.int j) s = .ok (.bl (decide (i < j))) s := rfl
@[simp] theorem v_le : oLe (.int i) (.int j) s = .ok (.bl (decide (i ≤ j))) s := rfl
@[simp] theorem v_gt : oGt (.int i) (.int j) s = .ok (.bl (decide (j < i))) s := rfl
@[simp] theorem v_ge : oGe (.int i) (.int j) s = .ok (.bl (decide (j ≤ i))) s := rfl
@[simp] theorem v_eqI : oEq (.int i) (.int j) s = .ok (.bl (decide (i = j))) s := by
  unfold oEq eqD
  have e : (i == j) = decide (i = j) := by by_cases h : i = j <;> simp [h]
  simp [D.py, PySem.SeqAt.shaped, PyData.canLay0, PyData.depth, PyData.eqv, e]
@[simp] theorem v_neI : oNe (.int i) (.int j) s = .ok (.bl (decide (i ≠ j))) s := by
  unfold oNe eqD
  have e : (i == j) = decide (i = j) := by by_cases h : i = j <;> simp [h]
  simp [D.py, PySem.SeqAt.shaped, PyData.canLay0, PyData.depth, PyData.eqv, e]
@[simp] theorem v_isN_non : oIsN .non s = .ok (.bl true) s := rfl
@[simp] theorem v_isN_int : oIsN (.int i) s = .ok (.bl false) s := rfl
@[simp] theorem v_isN_tup : oIsN (.tup xs) s = .ok (.bl false) s := rfl
@[simp] theorem v_isN_ref : oIsN (.ref n) s = .ok (.bl false) s := rfl
@[simp] theorem v_isN_bl {b : Bool} : oIsN (.bl b) s = .ok (.bl false) s := rfl
@[simp] theorem v_isN_str {x : Str} : oIsN (.str x) s = .ok (.bl false) s := rfl
@[simp] theorem v_isN_frl : oIsN (.frl xs) s = .ok (.bl false) s := rfl
@[simp] theorem v_notN_bl {b : Bool} : oNotN (.bl b) s = .ok (.bl true) s := rfl
@[simp] theorem v_notN_str {x : Str} : oNotN (.str x) s = .ok (.bl true) s := rfl
@[simp] theorem v_isB {a b : Bool} : oIsB (.bl a) (.bl b) s = .ok (.bl (decide (a = b))) s := rfl
@[simp] theorem v_notB {a b : Bool} : oNotB (.bl a) (.bl b) s = .ok (.bl (!decide (a = b))) s := rfl
@[simp] theorem v_notN_non : oNotN .non s = .ok (.bl false) s := rfl
@[simp] theorem v_notN_int : oNotN (.int i) s = .ok (.bl true) s := rfl
@[simp] theorem v_notN_tup : oNotN (.tup xs) s = .ok (.bl true) s := rfl
@[simp] theorem v_notN_ref : oNotN (.ref n) s = .ok (.bl true) s := rfl
@[simp] theorem v_intI : bInt [.int i] s = .ok (.int i) s := rfl
@[simp] theorem v_abs : bAbs [.int i] s = .ok (.int (if i < 0 then -i else i)) s := rfl
@[simp] theorem v_min : bMin2 [.int i, .int j] s = .ok (.int (if j < i then j else i)) s := rfl
@[simp] theorem v_max : bMax2 [.int i, .int j] s = .ok (.int (if j > i then j else i)) s := rfl
@[simp] theorem v_lenT : bLen [.tup xs] s = .ok (.int xs.length) s := rfl
theorem v_lenL (h : s[n]? = some (.lst xs)) : bLen [.ref n] s = .ok (.int xs.length) s := by unfold bLen; simp [h]
theorem v_ixT {d : D} (h : atD xs i = some d) : oIx (.tup xs) (.int i) s = .ok d s := by unfold oIx seqX; simp [h]
theorem v_ixL {d : D} (hs : s[n]? = some (.lst xs)) (h : atD xs i = some d) : oIx (.ref n) (.int i) s = .ok d s := by unfold oIx seqX seqL; simp [hs, h]
theorem atD_nat {k : Nat} {d : D} (h : xs[k]? = some d) : atD xs (k : Int) = some d := by
  have hl := (List.getElem?_eq_some_iff.mp h).1
  unfold atD
  rw [if_pos (by omega), if_pos (by omega)]
  simpa using h
@[simp] theorem atD_0 {d : D} : atD (d :: xs) 0 = some d := atD_nat (k := 0) rfl
@[simp] theorem atD_1 {d e : D} : atD (d :: e :: xs) 1 = some e := atD_nat (k := 1) rfl
@[simp] theorem atD_2 {d e f : D} : atD (d :: e :: f :: xs) 2 = some f := atD_nat (k := 2) rfl
/-- the list at a place of the store, once it is looked up -/
def lstO (x : Option O) : Option (List D) := match x with
  | some (.lst xs) => some xs
  | _ => none
@[simp] theorem lstO_some : lstO (some (.lst xs)) = some xs := rfl
def OkO (x : Option D) (s : S) : Rs D := match x with
  | some d => .ok d s
  | none => .stk
@[simp] theorem OkO_some (d : D) : OkO (some d) s = .ok d s := rfl
@[simp] theorem seqL_ref : seqL (.ref n) s = lstO s[n]? := by
  unfold seqL lstO
  dsimp only
  all_goals (cases s[n]? with
  | none => rfl
  | some o => cases o <;> rfl)
@[simp] theorem seqL_frl : seqL (.frl xs) s = some xs := rfl
@[simp] theorem seqX_tup : seqX (.tup xs) s = some xs := rfl
@[simp] theorem seqX_ref : seqX (.ref n) s = lstO s[n]? := by
  show seqL (.ref n) s = _
  exact seqL_ref
@[simp] theorem seqX_frl : seqX (.frl xs) s = some xs := rfl
theorem ix_seq (d : D) : oIx d (.int i) s = OkO ((seqX d s).bind fun xs => atD xs i) s := by
  unfold oIx OkO
  dsimp only
  cases seqX d s with
  | none => rfl
  | some xs =>
    simp only [Option.bind_some]
    all_goals (cases atD xs i <;> rfl)
@[simp] theorem ix_ref : oIx (.ref n) (.int i) s = OkO ((lstO s[n]?).bind fun xs => atD xs i) s := by rw [ix_seq, seqX_ref]
@[simp] theorem ix_tup : oIx (.tup xs) (.int i) s = OkO (atD xs i) s := by rw [ix_seq]; rfl
@[simp] theorem ix_frl : oIx (.frl xs) (.int i) s = OkO (atD xs i) s := by rw [ix_seq]; rfl
@[simp] theorem len_ref : bLen [.ref n] s = OkO ((lstO s[n]?).map fun xs => .int xs.length) s := by
  unfold bLen lstO OkO
  dsimp only
  cases s[n]? with
  | none => rfl
  | some o => cases o <;> rfl
@[simp] theorem len_frl : bLen [.frl xs] s = .ok (.int xs.length) s := rfl
@[simp] theorem putL_ref {v : D} : putL (.ref n) (.int i) v s = (lstO s[n]?).bind fun xs => (ixN xs.length i).map fun j => s.set n (.lst (xs.set j v)) := by
  unfold putL lstO
  simp only
  cases s[n]? with
  | none => rfl
  | some o =>
    cases o with
    | lst xs =>
      simp only [Option.bind_some]
      cases ixN xs.length i <;> rfl
    | _ => rfl
@[simp] theorem app_ref {v : D} : mApp (.ref n) [v] s = match (lstO s[n]?).bind fun xs => if xs.length < LINE then some (s.set n (.lst (xs ++ [v]))) else none with | some s1 => .ok .non s1 | none => .stk := by
  unfold mApp appendAt lstO
  simp only
  cases s[n]? with
  | none => rfl
  | some o => cases o <;> rfl
@[simp] theorem list_seq (d : D) : bList [d] s = match seqX d s with | some xs => .ok (.ref s.length) (s ++ [.lst xs]) | none => .stk := rfl
@[simp] theorem tuple_seq (d : D) : bTuple [d] s = match seqX d s with | some xs => .ok (.tup xs) s | none => .stk := rfl
@[simp] theorem isL_ref : isL (.ref n) s = (lstO s[n]?).isSome := by
  unfold isL
  rw [seqL_ref]
/-- isinstance by the kind -/
@[simp] theorem ty_int {t : Ty} : oIsI t (.int i) s = .ok (.bl (t == .int)) s := rfl
@[simp] theorem ty_bl {t : Ty} {b : Bool} : oIsI t (.bl b) s = .ok (.bl (t == .bool || t == .int)) s := rfl
@[simp] theorem ty_non {t : Ty} : oIsI t .non s = .ok (.bl false) s := rfl
@[simp] theorem ty_str {t : Ty} {x : Str} : oIsI t (.str x) s = .ok (.bl (t == .str)) s := rfl
@[simp] theorem ty_tup {t : Ty} : oIsI t (.tup xs) s = .ok (.bl (t == .tuple)) s := rfl
theorem ty_lst {t : Ty} (h : s[n]? = some (.lst xs)) : oIsI t (.ref n) s = .ok (.bl (t == .list)) s := by unfold oIsI isTy; simp [h]
end

/-! ### calls -/
theorem refs_pure : ∀ {ds : List D}, D.pureL ds = true → refsOf ds = [] ∧ (∀ k, renum k ds = ds) ∧ ds.all argOk = true
  | [], _ => ⟨rfl, fun _ => rfl, rfl⟩
  | d :: ds, h => by
    unfold D.pureL at h
    rw [Bool.and_eq_true] at h
    obtain ⟨h1, h2, h3⟩ := refs_pure h.2
    cases d with
    | ref n => exact absurd h.1 (by unfold D.pure; exact Bool.false_ne_true)
    | undef => exact absurd h.1 (by unfold D.pure; exact Bool.false_ne_true)
    | _ => exact ⟨h1, fun k => by show _ :: renum k ds = _; rw [h2], by rw [List.all_cons, h3, Bool.and_true]; exact h.1⟩
/-- pure arguments, a pure result -/
theorem callK_val {f : Fn} {ds : List D} {s g : S} {d : D} (hp : D.pureL ds = true) (h : f ds [] = .ok d g) (hd : d.pure = true) : callK f ds s = .ok d s := by
  obtain ⟨h1, h2, h3⟩ := refs_pure hp
  unfold callK
  rw [h1, h2, h3, if_pos ⟨rfl, rfl⟩]
  simp only [getAll, h, putAll, List.length_nil, List.take_zero, List.all_nil, if_true]
  cases d <;> first | (simp only [hd, if_true]; done) | (simp only [D.pure] at hd; exact absurd hd Bool.false_ne_true) | simp [D.pure]
/-- pure arguments, a new object -/
theorem callK_new {f : Fn} {ds : List D} {s g : S} {j : Nat} {o : O} (hp : D.pureL ds = true) (h : f ds [] = .ok (.ref j) g) (ho : g[j]? = some o) (hd : o.pure = true) : callK f ds s = .ok (.ref s.length) (s ++ [o]) := by
  obtain ⟨h1, h2, h3⟩ := refs_pure hp
  unfold callK
  rw [h1, h2, h3, if_pos ⟨rfl, rfl⟩]
  simp only [getAll, h, putAll, List.length_nil, List.take_zero, List.all_nil, if_true, ho, hd, List.getElem?_nil]
/-- pure arguments, an error -/
theorem callK_exc {f : Fn} {ds : List D} {s g : S} {c : Nat} {fs : List D} (hp : D.pureL ds = true) (h : f ds [] = .exc c fs g) (hd : D.pureL fs = true) : callK f ds s = .exc c fs s := by
  obtain ⟨h1, h2, h3⟩ := refs_pure hp
  unfold callK
  rw [h1, h2, h3, if_pos ⟨rfl, rfl⟩]
  simp only [getAll, h, putAll, List.length_nil, List.take_zero, List.all_nil, hd, if_true, and_self]
/-- the first argument an object, the others pure; a pure result -/
theorem callK_ref {f : Fn} {ds : List D} {s g : S} {n : Nat} {o o' : O} {d : D} (hp : D.pureL ds = true) (hs : s[n]? = some o) (ho : o.pure = true) (h : f (.ref 0 :: ds) [o] = .ok d (o' :: g)) (ho' : o'.pure = true) (hd : d.pure = true) :
    callK f (.ref n :: ds) s = .ok d (s.set n o') := by
  obtain ⟨h1, h2, h3⟩ := refs_pure hp
  unfold callK
  simp only [refsOf, renum, h1, h2, List.all_cons, h3, Bool.and_true, argOk, nodupN, List.contains_nil, Bool.not_false, and_self, if_true, getAll, hs, ho, h, List.length_singleton, List.take_succ_cons, List.take_zero, List.all_nil, ho', putAll]
  cases d <;> first | (simp only [hd, if_true]; done) | (simp only [D.pure] at hd; exact absurd hd Bool.false_ne_true) | simp [D.pure]
/-- .. a new object -/
theorem callK_ref_new {f : Fn} {ds : List D} {s g : S} {n j : Nat} {o o' o2 : O} (hp : D.pureL ds = true) (hs : s[n]? = some o) (ho : o.pure = true) (h : f (.ref 0 :: ds) [o] = .ok (.ref (j + 1)) (o' :: g)) (ho' : o'.pure = true) (hj : g[j]? = some o2) (ho2 : o2.pure = true) :
    callK f (.ref n :: ds) s = .ok (.ref s.length) (s.set n o' ++ [o2]) := by
  obtain ⟨h1, h2, h3⟩ := refs_pure hp
  unfold callK
  simp only [refsOf, renum, h1, h2, List.all_cons, h3, Bool.and_true, argOk, nodupN, List.contains_nil, Bool.not_false, and_self, if_true, getAll, hs, ho, h, List.length_singleton, List.take_succ_cons, List.take_zero, List.all_nil, ho', putAll, List.getElem?_cons_succ, List.getElem?_nil, hj, ho2]
@[simp] theorem nArgs1 {g : Fn} {a : D} {s : S} : nArgs 1 g [a] s = g [a] s := rfl
@[simp] theorem nArgs2 {g : Fn} {a b : D} {s : S} : nArgs 2 g [a, b] s = g [a, b] s := rfl
@[simp] theorem nArgs3 {g : Fn} {a b c : D} {s : S} : nArgs 3 g [a, b, c] s = g [a, b, c] s := rfl
@[simp] theorem nArgs4 {g : Fn} {a b c d : D} {s : S} : nArgs 4 g [a, b, c, d] s = g [a, b, c, d] s := rfl
@[simp] theorem ap_eCallK {k : Nat} {g : Fn} {as : A} {r : Env} {s : S} : eCallK k g as r s = (as r s).bind fun xs s1 => nArgs k (callK g) xs s1 := rfl
@[simp] theorem ap_eCall {k : Nat} {g : Fn} {as : A} {r : Env} {s : S} : eCall k g as r s = (as r s).bind fun xs s1 => nArgs k g xs s1 := rfl
/-- what a body's end hands back -/
def F.out (x : F) : Rs D := match x with
  | .nx _ s => .ok .non s
  | .rt d s => .ok d s
  | .exc c fs _ s => .exc c fs s
  | _ => .stk
@[simp] theorem out_rt (d : D) (s : S) : (F.rt d s).out = .ok d s := rfl
@[simp] theorem out_nx (r : Env) (s : S) : (F.nx r s).out = .ok .non s := rfl
@[simp] theorem out_exc (c fs) (r : Env) (s : S) : (F.exc c fs r s).out = .exc c fs s := rfl
theorem ap_mkFn {n k : Nat} {b : Sm} {ds : List D} {s : S} (h : ds.length = k) : mkFn n k b ds s = (b (ds ++ List.replicate (n - k) .undef) s).out := by
  unfold mkFn F.out
  rw [if_pos h]
  all_goals (cases b (ds ++ List.replicate (n - k) .undef) s <;> rfl)

/-! ### loops -/
/-- what holds between two turns -/
theorem forM_inv {g : Tg} {b : Sm} (P : Nat → Env → S → Prop) : ∀ (xs : List D) (i : Nat) (r : Env) (s : S), P i r s →
    (∀ j x r s, xs[j]? = some x → P (i + j) r s → ∃ r1 s1 r2 s2, g x r s = some (r1, s1) ∧ (b r1 s1 = .nx r2 s2 ∨ b r1 s1 = .ct r2 s2) ∧ P (i + j + 1) r2 s2) →
    ∃ r' s', forM g b xs r s = .nx r' s' ∧ P (i + xs.length) r' s'
  | [], i, r, s, h0, _ => ⟨r, s, rfl, by simpa using h0⟩
  | x :: xs, i, r, s, h0, hs => by
    obtain ⟨r1, s1, r2, s2, e1, e2, p⟩ := hs 0 x r s rfl (by simpa using h0)
    obtain ⟨r', s', e3, p3⟩ := forM_inv P xs (i + 1) r2 s2 (by simpa using p) fun j y r s e q => by
      obtain ⟨a, b, c, d, z1, z2, z3⟩ := hs (j + 1) y r s (by simpa using e) (by rw [show i + (j + 1) = i + 1 + j by omega]; exact q)
      exact ⟨a, b, c, d, z1, z2, by rw [show i + 1 + j + 1 = i + (j + 1) + 1 by omega]; exact z3⟩
    refine ⟨r', s', ?_, by rw [List.length_cons, show i + (xs.length + 1) = i + 1 + xs.length by omega]; exact p3⟩
    unfold forM
    rw [e1]
    rcases e2 with e2 | e2 <;> (simp only [e2]; exact e3)
theorem whileM_inv {c : T} {b : Sm} (P : Env → S → Prop) (Z : Env → S → Prop) (μ : Env → S → Nat)
    (step : ∀ r s, P r s → ∃ k s1, c r s = .ok k s1 ∧ (k = false → Z r s1) ∧ (k = true → ∃ r2 s2, (b r s1 = .nx r2 s2 ∨ b r s1 = .ct r2 s2) ∧ P r2 s2 ∧ μ r2 s2 < μ r s)) :
    ∀ (n : Nat) (r : Env) (s : S), P r s → μ r s < n → ∃ r' s', whileM c b n r s = .nx r' s' ∧ Z r' s'
  | 0, _, _, _, h => absurd h (Nat.not_lt_zero _)
  | n + 1, r, s, h, hm => by
    obtain ⟨k, s1, e, z, st⟩ := step r s h
    unfold whileM
    simp only [e, then_ok]
    cases k with
    | false => exact ⟨r, s1, rfl, z rfl⟩
    | true =>
      obtain ⟨r2, s2, e2, p2, m2⟩ := st rfl
      rw [if_pos rfl]
      have ih := whileM_inv P Z μ step n r2 s2 p2 (by omega)
      rcases e2 with e2 | e2 <;> (rw [e2]; exact ih)
/-- great numbers: what is below may be multiplied, and counted down -/
def B0 : Nat := 2 ^ 3000
def B1 : Nat := 2 ^ 8990
theorem B01 : 1000000000000 * B0 ≤ B1 := by decide +kernel
theorem B0_big : 1000000000000000000000000000000000000000000000000000000000000 ≤ B0 := by decide +kernel
theorem B1_fuel : B1 ≤ FUEL := by decide +kernel
theorem log2_B1 {i : Nat} (h : i < B1) : i.log2 < 8990 := log2_lt (by decide) h
theorem zWhile_invB {c : T} {b : Sm} (P : Env → S → Prop) (Z : Env → S → Prop) (μ : Env → S → Nat)
    (step : ∀ r s, P r s → ∃ k s1, c r s = .ok k s1 ∧ (k = false → Z r s1) ∧ (k = true → ∃ r2 s2, (b r s1 = .nx r2 s2 ∨ b r s1 = .ct r2 s2) ∧ P r2 s2 ∧ μ r2 s2 < μ r s)) {r : Env} {s : S} (h : P r s) (hm : μ r s < B1) :
    ∃ r' s', zWhile c b r s = .nx r' s' ∧ Z r' s' := whileM_inv P Z μ step _ r s h (Nat.lt_of_lt_of_le hm B1_fuel)
theorem mul_big {i j : Int} {s : S} (hi : i.natAbs < B1) (hj : j.natAbs < B1) : oMul (.int i) (.int j) s = .ok (.int (i * j)) s := v_mulI (by
  unfold mulOk
  have a := log2_B1 hi
  have b := log2_B1 hj
  have : i.natAbs.log2 + j.natAbs.log2 < 1000000 := by omega
  simp [this])
theorem div_big {i j : Int} {s : S} (h : 0 < j) (hj : j.natAbs < B1) : oDiv (.int i) (.int j) s = .ok (.int (i / j)) s := v_divP h (by have := log2_B1 hj; omega)
theorem zWhile_inv {c : T} {b : Sm} (P : Env → S → Prop) (Z : Env → S → Prop) (μ : Env → S → Nat)
    (step : ∀ r s, P r s → ∃ k s1, c r s = .ok k s1 ∧ (k = false → Z r s1) ∧ (k = true → ∃ r2 s2, (b r s1 = .nx r2 s2 ∨ b r s1 = .ct r2 s2) ∧ P r2 s2 ∧ μ r2 s2 < μ r s)) {r : Env} {s : S} (h : P r s) (hm : μ r s < 1000000000000) :
    ∃ r' s', zWhile c b r s = .nx r' s' ∧ Z r' s' := whileM_inv P Z μ step _ r s h (by have h1 := B1_fuel; have h2 := B01; have h3 := B0_big; omega)
/-- a loop's walk told -/
theorem ap_zFor {it : IW} {g : Tg} {b : Sm} {r : Env} {s s1 : S} {xs : List D} (h : it r s = .ok (.items xs) s1) : zFor it g b r s = forM g b xs r s1 := by
  unfold zFor
  rw [h]; rfl
@[simp] theorem ap_iRng1 {a : E} {r : Env} {s s1 : S} {j : Int} (h : a r s = .ok (.int j) s1) (hj : j.natAbs < 4611686018427387904) : iRng1 a r s = .ok (.items (range2 0 j)) s1 := by
  unfold iRng1
  simp only [h, bind_ok, hj, if_true]
@[simp] theorem ap_iRng2 {a b : E} {r : Env} {s s1 s2 : S} {i j : Int} (h : a r s = .ok (.int i) s1) (h' : b r s1 = .ok (.int j) s2) (hi : i.natAbs < 4611686018427387904) (hj : j.natAbs < 4611686018427387904) : iRng2 a b r s = .ok (.items (range2 i j)) s2 := by
  unfold iRng2
  simp only [h, h', bind_ok, hi, hj, and_self, if_true]
theorem range2_get {i j : Int} {k : Nat} {x : D} (h : (range2 i j)[k]? = some x) : x = .int (i + k) ∧ k < (j - i).toNat := by
  unfold range2 at h
  rw [List.getElem?_map] at h
  cases e : (List.range (j - i).toNat)[k]? with
  | none => rw [e] at h; cases h
  | some n =>
    rw [e] at h
    obtain ⟨hl, hv⟩ := List.getElem?_eq_some_iff.mp e
    rw [List.getElem_range] at hv
    rw [List.length_range] at hl
    subst hv
    cases h
    exact ⟨rfl, hl⟩
theorem range2_len (i j : Int) : (range2 i j).length = (j - i).toNat := by unfold range2; simp
/-- an int, a tuple that is told -/
def NI (x : D) (f : Int → F) : F := match x with
  | .int j => f j
  | _ => .stk
@[simp] theorem NI_int (j : Int) (f : Int → F) : NI (.int j) f = f j := rfl
def NT (x : D) (f : List D → F) : F := match x with
  | .tup xs => f xs
  | _ => .stk
@[simp] theorem NT_tup (xs : List D) (f : List D → F) : NT (.tup xs) f = f xs := rfl
section
variable {g : Tg} {b : Sm} {r : Env} {s : S} {a c : E}
@[simp] theorem zFor_rng1 : zFor (iRng1 a) g b r s = (a r s).then r fun x s1 => NI x fun j => if j.natAbs < 4611686018427387904 then forM g b (range2 0 j) r s1 else .stk := by
  unfold zFor iRng1
  cases a r s with
  | ok x s1 =>
    cases x with
    | int j =>
      by_cases h : j.natAbs < 4611686018427387904 <;> simp [h]
    | _ => rfl
  | exc => rfl
  | stk => rfl
@[simp] theorem zFor_rng2 : zFor (iRng2 a c) g b r s = (a r s).then r fun x s1 => (c r s1).then r fun y s2 => NI x fun i => NI y fun j => if i.natAbs < 4611686018427387904 ∧ j.natAbs < 4611686018427387904 then forM g b (range2 i j) r s2 else .stk := by
  unfold zFor iRng2
  cases a r s with
  | ok x s1 =>
    simp only [bind_ok, then_ok]
    cases c r s1 with
    | ok y s2 =>
      simp only [bind_ok, then_ok]
      cases x with
      | int i =>
        cases y with
        | int j =>
          simp only [NI_int]
          by_cases h : i.natAbs < 4611686018427387904 ∧ j.natAbs < 4611686018427387904
          · simp only [h, and_self, if_true, then_ok]
          · simp only [h, if_false, then_stk]
        | _ => rfl
      | _ => rfl
    | exc => rfl
    | stk => rfl
  | exc => rfl
  | stk => rfl
@[simp] theorem zFor_tup : zFor (iTup a) g b r s = (a r s).then r fun x s1 => NT x fun xs => forM g b xs r s1 := by
  unfold zFor iTup
  cases a r s with
  | ok x s1 => cases x <;> rfl
  | exc => rfl
  | stk => rfl
/-- a list's walk: of the text's own script, or of the store -/
def NL (x : D) (s : S) (f : List D → F) (f' : Nat → F) : F := match x with
  | .frl xs => f xs
  | .ref n => if (lstO s[n]?).isSome = true then f' n else .stk
  | _ => .stk
@[simp] theorem NL_frl (xs : List D) (s : S) (f f') : NL (.frl xs) s f f' = f xs := rfl
@[simp] theorem NL_ref (n : Nat) (s : S) (f f') : NL (.ref n) s f f' = if (lstO s[n]?).isSome = true then f' n else .stk := rfl
@[simp] theorem zFor_lst : zFor (iLst a) g b r s = (a r s).then r fun x s1 => NL x s1 (fun xs => forM g b xs r s1) fun n => forR g b n FUEL 0 r s1 := by
  unfold zFor iLst
  cases a r s with
  | ok x s1 =>
    simp only [bind_ok, then_ok]
    cases x with
    | ref n =>
      simp only [NL_ref, lstO]
      cases s1[n]? with
      | none => rfl
      | some o => cases o <;> rfl
    | _ => rfl
  | exc => rfl
  | stk => rfl
/-- a list of the store that the loop leaves as it is -/
theorem forR_forM {n : Nat} {xs : List D} : ∀ (k i : Nat) (r : Env) (s : S) (P : Nat → Env → S → Prop), xs.length < k + i → P i r s → (∀ j r s, P j r s → s[n]? = some (.lst xs)) →
    (∀ j x r s, xs[j]? = some x → P j r s → ∃ r1 s1 r2 s2, g x r s = some (r1, s1) ∧ (b r1 s1 = .nx r2 s2 ∨ b r1 s1 = .ct r2 s2) ∧ P (j + 1) r2 s2) → i ≤ xs.length →
    ∃ r' s', forR g b n k i r s = .nx r' s' ∧ P xs.length r' s'
  | 0, i, r, s, P, h, _, _, _, hi => by omega
  | k + 1, i, r, s, P, h, p, hs, step, hi => by
    unfold forR
    rw [hs i r s p]
    simp only
    by_cases hl : i < xs.length
    · obtain ⟨r1, s1, r2, s2, e1, e2, p2⟩ := step i xs[i] r s (List.getElem?_eq_getElem hl) p
      rw [List.getElem?_eq_getElem hl]
      simp only [e1]
      obtain ⟨r', s', e3, p3⟩ := forR_forM k (i + 1) r2 s2 P (by omega) p2 hs step hl
      refine ⟨r', s', ?_, p3⟩
      rcases e2 with e2 | e2 <;> (rw [e2]; exact e3)
    · have e : i = xs.length := by omega
      subst e
      rw [List.getElem?_eq_none (Nat.le_refl _)]
      exact ⟨r, s, rfl, p⟩
end
/-- a comprehension whose parts leave the store alone -/
theorem compM_items {g : Tg} {t : T} {e : E} {n : Nat} {r : Env} {s : S} (hn : n = s.length) (rr : D → Env) (p : D → Bool) (f : D → D) : ∀ (xs acc : List D),
    (∀ x ∈ xs, ∀ acc, g x r (s ++ [.lst acc]) = some (rr x, s ++ [.lst acc]) ∧ t (rr x) (s ++ [.lst acc]) = .ok (p x) (s ++ [.lst acc]) ∧ (p x = true → e (rr x) (s ++ [.lst acc]) = .ok (f x) (s ++ [.lst acc]))) →
    acc.length + xs.length ≤ 1000000 → compM g t e n xs r (s ++ [.lst acc]) = .ok (.ref n) (s ++ [.lst (acc ++ (xs.filter p).map f)])
  | [], acc, _, _ => by unfold compM; simp
  | x :: xs, acc, h, hl => by
    obtain ⟨h1, h2, h3⟩ := h x List.mem_cons_self acc
    rw [List.length_cons] at hl
    have ih := fun acc' hl' => compM_items hn rr p f xs acc' (fun y hy => h y (List.mem_cons_of_mem _ hy)) hl'
    unfold compM
    simp only [h1, h2]
    cases hp : p x with
    | false =>
      simp only
      rw [ih acc (by omega), List.filter_cons, hp]
      simp
    | true =>
      simp only [h3 hp]
      have ha : appendAt n (f x) (s ++ [.lst acc]) = some (s ++ [.lst (acc ++ [f x])]) := by
        unfold appendAt
        subst hn
        simp only [List.getElem?_concat_length]
        rw [if_pos (show acc.length < LINE from by unfold LINE; omega)]
        simp
      simp only [ha]
      rw [ih (acc ++ [f x]) (by rw [List.length_append, List.length_singleton]; omega), List.filter_cons, hp]
      simp
theorem eLc_items {it : IW} {g : Tg} {t : T} {e : E} {own : List Nat} {r : Env} {s s1 : S} {xs : List D} (hit : it r s = .ok (.items xs) s1) (rr : D → Env) (p : D → Bool) (f : D → D)
    (h : ∀ x ∈ xs, ∀ acc, g x (wipeD r own) (s1 ++ [.lst acc]) = some (rr x, s1 ++ [.lst acc]) ∧ t (rr x) (s1 ++ [.lst acc]) = .ok (p x) (s1 ++ [.lst acc]) ∧ (p x = true → e (rr x) (s1 ++ [.lst acc]) = .ok (f x) (s1 ++ [.lst acc]))) (hl : xs.length ≤ 1000000) :
    eLc it g t e own r s = .ok (.ref s1.length) (s1 ++ [.lst ((xs.filter p).map f)]) := by
  unfold eLc
  rw [hit]
  show compM g t e s1.length xs (wipeD r own) (s1 ++ [.lst []]) = _
  rw [compM_items rfl rr p f xs [] h (by simpa using hl), List.nil_append]

/-! ### loops as goals -/
def Nx (P : Env → S → Prop) (f : F) : Prop := ∃ r s, (f = .nx r s ∨ f = .ct r s) ∧ P r s
theorem Nx_nx {P : Env → S → Prop} {r : Env} {s : S} (h : P r s) : Nx P (.nx r s) := ⟨r, s, .inl rfl, h⟩
theorem Nx_ct {P : Env → S → Prop} {r : Env} {s : S} (h : P r s) : Nx P (.ct r s) := ⟨r, s, .inr rfl, h⟩
theorem forM_nx {g : Tg} {b : Sm} {xs : List D} {r : Env} {s : S} (P : Nat → Env → S → Prop) (h0 : P 0 r s)
    (step : ∀ j x r s, xs[j]? = some x → P j r s → ∃ r1 s1, g x r s = some (r1, s1) ∧ ∀ Q : Env → S → Prop, (∀ r s, P (j + 1) r s → Q r s) → Nx Q (b r1 s1)) :
    ∃ r' s', forM g b xs r s = .nx r' s' ∧ P xs.length r' s' := by
  obtain ⟨r', s', e, p⟩ := forM_inv (g := g) (b := b) P xs 0 r s h0 fun j x r s hx hp => by
    rw [Nat.zero_add] at hp
    obtain ⟨r1, s1, e1, q⟩ := step j x r s hx hp
    obtain ⟨r2, s2, e2, p2⟩ := q _ fun _ _ h => h
    exact ⟨r1, s1, r2, s2, e1, e2, by rw [Nat.zero_add]; exact p2⟩
  exact ⟨r', s', e, by rwa [Nat.zero_add] at p⟩
theorem for_out {g : Tg} {b : Sm} {xs : List D} {r : Env} {s : S} {k : Env → S → F} {d : D} (P : Nat → Env → S → Prop) (h0 : P 0 r s)
    (step : ∀ j x r s, xs[j]? = some x → P j r s → ∃ r1 s1, g x r s = some (r1, s1) ∧ ∀ Q : Env → S → Prop, (∀ r s, P (j + 1) r s → Q r s) → Nx Q (b r1 s1))
    (fin : ∀ r' s', P xs.length r' s' → ∃ s2, (k r' s').out = .ok d s2) : ∃ s2, ((forM g b xs r s).andThen k).out = .ok d s2 := by
  obtain ⟨r', s', e, p⟩ := forM_nx P h0 step
  rw [e]; exact fin r' s' p
theorem for_nx {g : Tg} {b : Sm} {xs : List D} {r : Env} {s : S} {k : Env → S → F} {Q : Env → S → Prop} (P : Nat → Env → S → Prop) (h0 : P 0 r s)
    (step : ∀ j x r s, xs[j]? = some x → P j r s → ∃ r1 s1, g x r s = some (r1, s1) ∧ ∀ Q : Env → S → Prop, (∀ r s, P (j + 1) r s → Q r s) → Nx Q (b r1 s1))
    (fin : ∀ r' s', P xs.length r' s' → Nx Q (k r' s')) : Nx Q ((forM g b xs r s).andThen k) := by
  obtain ⟨r', s', e, p⟩ := forM_nx P h0 step
  rw [e]; exact fin r' s' p
theorem nx_then {f : F} {k : Env → S → F} {Q : Env → S → Prop} (P1 : Env → S → Prop) (h : ∀ Q : Env → S → Prop, (∀ r s, P1 r s → Q r s) → ∃ r s, f = .nx r s ∧ Q r s) (h2 : ∀ r s, P1 r s → Nx Q (k r s)) : Nx Q (f.andThen k) := by
  obtain ⟨r, s, rfl, p⟩ := h P1 fun _ _ h => h
  exact h2 r s p
@[simp] theorem ap_zPar3 {i j l : Nat} {a b c : E} {r : Env} {s : S} : zPar3 i j l a b c r s = (a r s).then r fun x s1 => (b r s1).then r fun y s2 => (c r s2).then r fun z s3 => if i < r.length ∧ j < r.length ∧ l < r.length then .nx (((r.set i x).set j y).set l z) s3 else .stk := rfl
theorem while_nx {c : T} {b : Sm} {r : Env} {s : S} {k : Env → S → F} {Q : Env → S → Prop} (P : Env → S → Prop) (Z : Env → S → Prop) (μ : Env → S → Nat) (h : P r s) (hm : μ r s < 1000000000000)
    (step : ∀ r s, P r s → ∃ k s1, c r s = .ok k s1 ∧ (k = false → Z r s1) ∧ (k = true → ∀ Q : Env → S → Prop, (∀ r2 s2, P r2 s2 → μ r2 s2 < μ r s → Q r2 s2) → Nx Q (b r s1)))
    (fin : ∀ r' s', Z r' s' → Nx Q (k r' s')) : Nx Q ((zWhile c b r s).andThen k) := by
  obtain ⟨r', s', e, z⟩ := zWhile_inv (c := c) (b := b) P Z μ (fun r s hp => by
    obtain ⟨k, s1, e, h1, h2⟩ := step r s hp
    exact ⟨k, s1, e, h1, fun hk => by
      obtain ⟨r2, s2, e2, p2, m2⟩ := h2 hk (fun r2 s2 => P r2 s2 ∧ μ r2 s2 < μ r s) fun _ _ a b => ⟨a, b⟩
      exact ⟨r2, s2, e2, p2, m2⟩⟩) h hm
  rw [e]; exact fin r' s' z
/-- a loop that counts up one number -/
theorem while_cnt {c : T} {b : Sm} (E : Int → Env) {s : S} (p : Int → Bool) {h0 hi : Int} (h01 : h0 ≤ hi) (hw : hi - h0 < 900000000000) (hend : p hi = false)
    (hc : ∀ h, h0 ≤ h → h ≤ hi → c (E h) s = .ok (p h) s) (hb : ∀ h, h0 ≤ h → h < hi → p h = true → b (E h) s = .nx (E (h + 1)) s) :
    ∃ m, h0 ≤ m ∧ m ≤ hi ∧ p m = false ∧ (∀ k, h0 ≤ k → k < m → p k = true) ∧ zWhile c b (E h0) s = .nx (E m) s := by
  have key : ∀ (n : Nat) (h : Int), h0 ≤ h → h ≤ hi → (hi - h).toNat < n → (∀ k, h0 ≤ k → k < h → p k = true) → ∃ m, h0 ≤ m ∧ m ≤ hi ∧ p m = false ∧ (∀ k, h0 ≤ k → k < m → p k = true) ∧ whileM c b n (E h) s = .nx (E m) s := by
    intro n
    induction n with
    | zero => intro h _ _ hn _; omega
    | succ n ih =>
      intro h a1 a2 a3 a4
      unfold whileM
      simp only [hc h a1 a2, then_ok]
      cases hp : p h with
      | false => exact ⟨h, a1, a2, hp, a4, by simp⟩
      | true =>
        have hne : h ≠ hi := by rintro rfl; rw [hend] at hp; cases hp
        obtain ⟨m, m1, m2, m3, m4, m5⟩ := ih (h + 1) (by omega) (by omega) (by omega) fun k k1 k2 => by
          by_cases hk : k = h
          · rw [hk]; exact hp
          · exact a4 k k1 (by omega)
        exact ⟨m, m1, m2, m3, m4, by simp [hb h a1 (by omega) hp, m5]⟩
  exact key FUEL h0 (Int.le_refl _) h01 (by have h1 := B1_fuel; have h2 := B01; have h3 := B0_big; omega) (fun k k1 k2 => by omega)
theorem while_cnt_nx {c : T} {b : Sm} (E : Int → Env) {s : S} (p : Int → Bool) {h0 hi : Int} {k : Env → S → F} {Q : Env → S → Prop} (h01 : h0 ≤ hi) (hw : hi - h0 < 900000000000) (hend : p hi = false)
    (hc : ∀ h, h0 ≤ h → h ≤ hi → c (E h) s = .ok (p h) s) (hb : ∀ h, h0 ≤ h → h < hi → p h = true → b (E h) s = .nx (E (h + 1)) s)
    (fin : ∀ m, h0 ≤ m → m ≤ hi → p m = false → (∀ k, h0 ≤ k → k < m → p k = true) → Nx Q (k (E m) s)) : Nx Q ((zWhile c b (E h0) s).andThen k) := by
  obtain ⟨m, m1, m2, m3, m4, e⟩ := while_cnt (c := c) (b := b) E p h01 hw hend hc hb
  rw [e]; exact fin m m1 m2 m3 m4
@[simp] theorem ap_eMe {ck : D → S → Bool} {p : PM} {a : E} {as : A} {r : Env} {s : S} : eMe ck p a as r s = (a r s).bind fun x s1 => if ck x s1 = true then (as r s1).bind fun xs s2 => p x xs s2 else .stk := rfl
@[simp] theorem ap_eMe0 {ck : D → S → Bool} {p : PM} {a : E} {r : Env} {s : S} : eMe0 ck p a r s = (a r s).bind fun x s1 => if ck x s1 = true then p x [] s1 else .stk := rfl
theorem callK_tup {f : Fn} {ds : List D} {s g : S} {xs : List D} (hp : D.pureL ds = true) (h : f ds [] = .ok (.tup xs) g) (hd : D.pureL xs = true) : callK f ds s = .ok (.tup xs) s := callK_val hp h (by show D.pureL xs = true; exact hd)
end Y

/-! YN: the defs that many laws share, and what they come to. -/
namespace YN
open Y
open PySem (Str PyData)
def b_fits_whole : Sm :=
  (zRet (eAnd (e1 (oIsI .int) (eV 0)) (eAnd (eNot (e1 (oIsI .bool) (eV 0))) (eCh oLe oLe (eV 1) (eV 0) (eV 2)))))
def D_fits_whole : Fn := mkFn 3 3 b_fits_whole
def b_need_whole : Sm :=
  (zIf (tNot (tst (eCallK 3 D_fits_whole (aC (eV 0) (aC (eV 1) (aC (eV 2) aN))))))
     (zRaise 1)
     zNil)
def D_need_whole : Fn := mkFn 3 3 b_need_whole
def b_root_in : Sm :=
  (zCons (zIf (tst (e2 oEq (eV 0) (eC (.int 0))))
     (zRet (eC (.int 0)))
     zNil)
    (zCons (zSet (gT (gsC (gV 1) (gsC (gV 2) gsN))) (eTup (aC (eC (.int 1)) (aC (eC (.int 1)) aN))))
    (zCons (zWhile (tst (e2 oLe (e2 oMul (eV 2) (eV 2)) (eV 0)))
     (zSet (gV 2) (e2 oMul (eC (.int 2)) (eV 2))))
    (zCons (zWhile (tst (e2 oGt (e2 oSub (eV 2) (eV 1)) (eC (.int 1))))
     (zCons (zSet (gV 3) (e2 oDiv (e2 oAdd (eV 1) (eV 2)) (eC (.int 2))))
    (zSet (gT (gsC (gV 1) (gsC (gV 2) gsN))) (eIf (tst (e2 oLe (e2 oMul (eV 3) (eV 3)) (eV 0))) (eTup (aC (eV 3) (aC (eV 2) aN))) (eTup (aC (eV 1) (aC (eV 3) aN)))))))
    (zRet (eV 1))))))
def D_root_in : Fn := mkFn 4 1 b_root_in
def b__law_cup (k1 k2 k3 k4 k5 : Int) : Sm :=
  (zCons (zSet (gV 1) (eN bAbs (aC (e2 oIx (e2 oAdd (eN bList (aC (eV 0) aN)) (eLst (aC (eC (.int 0)) aN))) (eC (.int 0))) aN)))
    (zRet (eLst (aC (eIf (tst (e2 oGe (eV 1) (e2 oPow (eC (.int 10)) (eC (.int 18))))) (e2 oDiv (eV 1) (eC (.int k1))) (eC (.int 0))) (aC (e2 oAdd (e2 oMod (eN bInt (aC (e2 oAdd (e2 oMul (eV 1) (eC (.int k2))) (eC (.int k3))) aN)) (eC (.int k4))) (eC (.int k5))) aN)))))
def D__law_cup (k1 k2 k3 k4 k5 : Int) : Fn := mkFn 2 1 (b__law_cup k1 k2 k3 k4 k5)
def b__law_roll (k1 k2 k3 k4 : Int) : Sm :=
  (zCons (zIf (tst (e2 oGt (e2 oIx (eV 0) (eC (.int 0))) (eC (.int 0))))
     (zCons (zSet (gV 2) (e2 oMod (eN bInt (aC (e2 oIx (eV 0) (eC (.int 0))) aN)) (eV 1)))
    (zCons (zPutL (eV 0) (eC (.int 0)) (e2 oDiv (e2 oIx (eV 0) (eC (.int 0))) (eV 1)))
    (zRet (eV 2))))
     zNil)
    (zCons (zPutL (eV 0) (eC (.int 1)) (e2 oMod (eN bInt (aC (e2 oAdd (e2 oMul (e2 oIx (eV 0) (eC (.int 1))) (eC (.int k1))) (eC (.int k2))) aN)) (eC (.int 2147483423))))
    (zCons (zSet (gV 3) (e2 oMod (eN bInt (aC (e2 oMul (e2 oIx (eV 0) (eC (.int 1))) (e2 oAdd (e2 oIx (eV 0) (eC (.int 1))) (eC (.int k3)))) aN)) (eC (.int 2147483587))))
    (zRet (e2 oMod (eN bInt (aC (e2 oDiv (eV 3) (eC (.int k4))) aN)) (eV 1))))))
def D__law_roll (k1 k2 k3 k4 : Int) : Fn := mkFn 4 2 (b__law_roll k1 k2 k3 k4)
def b__law_same (self : Fn) : Sm :=
  (zCons (zIf (tOr (tst (e1 (oIsI .tuple) (eV 1))) (tst (e1 (oIsI .list) (eV 1))))
     (zCons (zIf (tOr (tst (e2 oNe (e1 (oIsI .tuple) (eV 0)) (e1 (oIsI .tuple) (eV 1)))) (tOr (tst (e2 oNe (e1 (oIsI .list) (eV 0)) (e1 (oIsI .list) (eV 1)))) (tst (e2 oNe (eN bLen (aC (eV 0) aN)) (eN bLen (aC (eV 1) aN))))))
     (zRet (eC (.bl false)))
     zNil)
    (zRet (e2 oEq (eLc (iRng1 (eN bLen (aC (eV 1) aN))) (gV 2) (tNot (tst (eCallK 2 self (aC (e2 oIx (eV 0) (eV 2)) (aC (e2 oIx (eV 1) (eV 2)) aN))))) (eC (.int 1)) [2]) (eLst aN))))
     zNil)
    (zCons (zIf (tst (e1 oIsN (eV 1)))
     (zRet (e1 oIsN (eV 0)))
     zNil)
    (zCons (zIf (tst (e1 (oIsI .bool) (eV 1)))
     (zRet (eIf (tst (eV 1)) (e2 oIsB (eV 0) (eC (.bl true))) (e2 oIsB (eV 0) (eC (.bl false)))))
     zNil)
    (zCons (zIf (tst (e1 (oIsI .int) (eV 1)))
     (zRet (eAnd (e1 (oIsI .int) (eV 0)) (eAnd (eNot (e1 (oIsI .bool) (eV 0))) (e2 oEq (eN bInt (aC (eV 0) aN)) (eV 1)))))
     zNil)
    (zRet (eAnd (e1 (oIsI .str) (eV 0)) (e2 oEq (eN bStr (aC (eV 0) aN)) (eV 1))))))))
def D__law_same : Nat → Fn
  | 0 => fun _ _ => .stk
  | n + 1 => mkFn 3 2 (b__law_same (D__law_same n))

def b__law_power : Sm :=
  (zCons (zSet (gV 2) (eC (.int 1)))
    (zCons (zFor (iRng1 (eV 1)) (gV 3)
     (zSet (gV 2) (e2 oMul (eV 2) (eV 0))))
    (zRet (eV 2))))
def D__law_power : Fn := mkFn 4 2 b__law_power
def b_power_in : Sm :=
  (zCons (zSet (gV 2) (eC (.int 1)))
    (zCons (zFor (iRng1 (eV 1)) (gV 3)
     (zSet (gV 2) (e2 oMul (eV 2) (eV 0))))
    (zRet (eV 2))))
def D_power_in : Fn := mkFn 4 2 b_power_in
def b__law_root : Sm :=
  (zCons (zIf (tst (e2 oEq (eV 0) (eC (.int 0))))
     (zRet (eC (.int 0)))
     zNil)
    (zCons (zSet (gV 1) (eCallK 2 D__law_power (aC (eC (.int 2)) (aC (e2 oMul (eN bLen (aC (eN bStr (aC (eV 0) aN)) aN)) (eC (.int 2))) aN))))
    (zCons (zWhile (tst (e2 oGt (e2 oMul (eV 1) (eV 1)) (eV 0)))
     (zSet (gV 1) (eN bInt (aC (e2 oDiv (e2 oAdd (eV 1) (e2 oDiv (eV 0) (eV 1))) (eC (.int 2))) aN))))
    (zRet (eV 1)))))
def D__law_root : Fn := mkFn 2 1 b__law_root

/-! ### numbers -/
theorem fits_whole_ok {i lo hi : Int} {s : S} : D_fits_whole [.int i, .int lo, .int hi] s = .ok (.bl (decide (lo ≤ i ∧ i ≤ hi))) s := by
  unfold D_fits_whole
  rw [ap_mkFn (k := 3) (ds := [.int i, .int lo, .int hi]) rfl]
  unfold b_fits_whole
  by_cases h1 : lo ≤ i <;> by_cases h2 : i ≤ hi <;> simp [h1, h2]
theorem fits_whole_k {i lo hi : Int} {s : S} : callK D_fits_whole [.int i, .int lo, .int hi] s = .ok (.bl (decide (lo ≤ i ∧ i ≤ hi))) s := callK_val rfl fits_whole_ok rfl
theorem need_whole_k {i lo hi : Int} {s : S} (h1 : lo ≤ i) (h2 : i ≤ hi) : callK D_need_whole [.int i, .int lo, .int hi] s = .ok .non s := by
  refine callK_val rfl (g := []) ?_ rfl
  unfold D_need_whole
  rw [ap_mkFn (k := 3) (ds := [.int i, .int lo, .int hi]) rfl]
  unfold b_need_whole
  simp [fits_whole_k, h1, h2]
theorem pureL_mem {xs : List D} (h : D.pureL xs = true) : ∀ x ∈ xs, x.pure = true := pureL_all h
theorem set_same {α : Type} {s : List α} {a : Nat} {o : α} (h : s[a]? = some o) : s.set a o = s := by
  refine List.ext_getElem? fun k => ?_
  by_cases hk : a = k
  · subst hk; rw [List.getElem?_set_self (List.getElem?_eq_some_iff.mp h).1, h]
  · rw [List.getElem?_set_ne hk]
/-! ### draws -/
/-- the state of the draws -/
structure Cup (a b : Int) : Prop where
  a0 : 0 ≤ a
  b0 : 0 ≤ b
  b1 : b < 1099511627776
theorem roll_ok {k1 k2 k3 k4 a b m : Int} (h : Cup a b) (hm : 0 < m) (hm2 : m < 1000000000000) (g1 : 0 ≤ k1) (g2 : 0 ≤ k2) (g4 : 0 < k4 ∧ k4 < 1000000000) :
    ∃ r a' b', 0 ≤ r ∧ r < m ∧ Cup a' b' ∧ D__law_roll k1 k2 k3 k4 [.ref 0, .int m] [.lst [.int a, .int b]] = .ok (.int r) [.lst [.int a', .int b']] := by
  obtain ⟨a0, b0, b1⟩ := h
  unfold D__law_roll
  simp only [ap_mkFn (n := 4) (k := 2) (ds := [.ref 0, .int m]) rfl]
  unfold b__law_roll
  by_cases h1 : 0 < a
  · refine ⟨a % m, a / m, b, Int.emod_nonneg _ (by omega), Int.emod_lt_of_pos _ hm, ⟨Int.ediv_nonneg a0 (by omega), b0, b1⟩, ?_⟩
    simp [h1, v_modP hm, v_div64 hm (show m < 18446744073709551616 by omega), ixN]
  · have e1 : (0 : Int) ≤ b * k1 + k2 := Int.add_nonneg (Int.mul_nonneg b0 g1) g2
    have hb := Int.emod_nonneg (b * k1 + k2) (show (2147483423 : Int) ≠ 0 by decide)
    have hb2 := Int.emod_lt_of_pos (b * k1 + k2) (show (0 : Int) < 2147483423 by decide)
    generalize hb' : (b * k1 + k2) % 2147483423 = b' at hb hb2
    refine ⟨(b' * (b' + k3) % 2147483587 / k4) % m, a, b', Int.emod_nonneg _ (by omega), Int.emod_lt_of_pos _ hm, ⟨a0, hb, by omega⟩, ?_⟩
    simp [h1, v_mul64 (i := b) (by omega), v_mul64 (i := b') (by omega), v_modP, ixN, hb', v_div64 g4.1 (show k4 < 18446744073709551616 by omega), v_modP hm]
/-- a draw: the store's cup is turned on -/
theorem roll_k {k1 k2 k3 k4 a b m : Int} (h : Cup a b) (hm : 0 < m) (hm2 : m < 1000000000000) (g1 : 0 ≤ k1) (g2 : 0 ≤ k2) (g4 : 0 < k4 ∧ k4 < 1000000000) :
    ∃ r a' b', 0 ≤ r ∧ r < m ∧ Cup a' b' ∧ ∀ (n : Nat) (s : S), s[n]? = some (.lst [.int a, .int b]) → callK (D__law_roll k1 k2 k3 k4) [.ref n, .int m] s = .ok (.int r) (s.set n (.lst [.int a', .int b'])) := by
  obtain ⟨r, a', b', h1, h2, h3, h4⟩ := roll_ok (k3 := k3) h hm hm2 g1 g2 g4
  exact ⟨r, a', b', h1, h2, h3, fun n s hs => callK_ref rfl hs rfl h4 rfl rfl⟩
theorem ints_pure : ∀ ns : List Int, D.pureL (ns.map D.int) = true
  | [] => rfl
  | n :: ns => by
    show (D.pure (.int n) && D.pureL (ns.map D.int)) = true
    rw [ints_pure ns]; rfl
theorem cup_k {k1 k2 k3 k4 k5 : Int} (g1 : 0 < k1 ∧ k1 < 1000000000) (g2 : k2.natAbs < 1000000000) (g4 : 0 < k4 ∧ k4 < 100000000000) (g5 : 0 ≤ k5 ∧ k5 < 100000000000) (ns : List Int) (hl : ns.length ≤ 63) :
    ∃ a b, Cup a b ∧ ∀ s, callK (D__law_cup k1 k2 k3 k4 k5) [.frl (ns.map D.int)] s = .ok (.ref s.length) (s ++ [.lst [.int a, .int b]]) := by
  have hx : ∃ i, ((ns.map D.int) ++ [D.int 0])[0]? = some (.int i) := by
    cases ns with
    | nil => exact ⟨0, rfl⟩
    | cons n r => exact ⟨n, rfl⟩
  obtain ⟨i, hi⟩ := hx
  have ha : atD ((ns.map D.int) ++ [D.int 0]) 0 = some (.int i) := atD_nat (k := 0) hi
  have hc : (0 : Int) ≤ if i < 0 then -i else i := by split <;> omega
  generalize hcell : (if i < 0 then -i else i) = cell at hc
  refine ⟨if (1000000000000000000 : Int) ≤ cell then cell / k1 else 0, (cell * k2 + k3) % k4 + k5, ⟨?_, ?_, ?_⟩, fun s => ?_⟩
  · split
    · exact Int.ediv_nonneg hc (by omega)
    · omega
  · have := Int.emod_nonneg (cell * k2 + k3) (show k4 ≠ 0 by omega); omega
  · have := Int.emod_lt_of_pos (cell * k2 + k3) g4.1; omega
  · refine callK_new (g := [.lst (ns.map D.int), .lst [.int 0], .lst (ns.map D.int ++ [.int 0]), .lst [.int (if (1000000000000000000 : Int) ≤ cell then cell / k1 else 0), .int ((cell * k2 + k3) % k4 + k5)]]) (j := 3) ?_ ?_ rfl rfl
    · show (D.pure (.frl (ns.map D.int)) && true) = true
      rw [Bool.and_true]; exact ints_pure ns
    · unfold D__law_cup
      rw [ap_mkFn (n := 2) (k := 1) (ds := [.frl (ns.map D.int)]) rfl]
      unfold b__law_cup
      have hadd : oAdd (.ref 0) (.ref 1) [.lst (ns.map D.int), .lst [.int 0]] = .ok (.ref 2) [.lst (ns.map D.int), .lst [.int 0], .lst (ns.map D.int ++ [.int 0])] := by
        unfold oAdd
        simp
        unfold LINE; omega
      have hpow : oPow (.int 10) (.int 18) = fun s => .ok (.int 1000000000000000000) s := rfl
      by_cases hge : (1000000000000000000 : Int) ≤ cell
      · simp [hadd, ha, hcell, hpow, hge, v_mul64r (j := k2) (by omega), v_modP g4.1, v_div64 g1.1 (show k1 < 18446744073709551616 by omega)]
      · simp [hadd, ha, hcell, hpow, hge, v_mul64r (j := k2) (by omega), v_modP g4.1, v_div64 g1.1 (show k1 < 18446744073709551616 by omega)]
/-- a def that draws -/
def RollOk (f : Fn) : Prop := ∀ {a b m : Int}, Cup a b → 0 < m → m < 1000000000000 → ∃ r a' b', 0 ≤ r ∧ r < m ∧ Cup a' b' ∧ ∀ (n : Nat) (s : S), s[n]? = some (.lst [.int a, .int b]) → callK f [.ref n, .int m] s = .ok (.int r) (s.set n (.lst [.int a', .int b']))
theorem rollOk {k1 k2 k3 k4 : Int} (g1 : 0 ≤ k1) (g2 : 0 ≤ k2) (g4 : 0 < k4 ∧ k4 < 1000000000) : RollOk (D__law_roll k1 k2 k3 k4) := fun h hm hm2 => roll_k h hm hm2 g1 g2 g4
def b_someG (roll : Fn) : Sm := (zRet (e2 oIx (eV 1) (eCallK 2 roll (aC (eV 0) (aC (eN bLen (aC (eV 1) aN)) aN)))))
def D_someG (roll : Fn) : Fn := mkFn 2 2 (b_someG roll)
theorem some_run {f : Fn} (R : RollOk f) {a b : Int} (h : Cup a b) {xs : List D} (h0 : 0 < xs.length) (h1 : xs.length < 1000000) {d : D} {s0 : List O} (hl : ∀ o, seqX d (o :: s0) = some xs) (hd : d ≠ .undef) (hd2 : ∀ o, bLen [d] (o :: s0) = .ok (.int xs.length) (o :: s0)) :
    ∃ k a' b', ∃ (hk : k < xs.length), Cup a' b' ∧ D_someG f [.ref 0, d] (.lst [.int a, .int b] :: s0) = .ok xs[k] (.lst [.int a', .int b'] :: s0) := by
  obtain ⟨r, a', b', r0, r1, hc, hr⟩ := R h (show (0 : Int) < (xs.length : Int) by omega) (by omega)
  refine ⟨r.toNat, a', b', by omega, hc, ?_⟩
  unfold D_someG
  rw [ap_mkFn (k := 2) (ds := [.ref 0, d]) rfl]
  unfold b_someG
  have e := hr 0 (.lst [.int a, .int b] :: s0) rfl
  have e2 : atD xs r = some xs[r.toNat] := by
    have := atD_nat (List.getElem?_eq_getElem (show r.toNat < xs.length by omega))
    rwa [Int.toNat_of_nonneg r0] at this
  simp [eV_any hd, hd2, e, ix_seq, hl, e2]
/-- one of a tuple -/
theorem some_tup {f : Fn} (R : RollOk f) {a b : Int} (h : Cup a b) {xs : List D} (h0 : 0 < xs.length) (h1 : xs.length < 1000000) (hp : D.pureL xs = true) :
    ∃ k a' b', ∃ (hk : k < xs.length), Cup a' b' ∧ ∀ (n : Nat) (s : S), s[n]? = some (.lst [.int a, .int b]) → callK (D_someG f) [.ref n, .tup xs] s = .ok xs[k] (s.set n (.lst [.int a', .int b'])) := by
  obtain ⟨k, a', b', hk, hc, e⟩ := some_run R h h0 h1 (d := .tup xs) (s0 := []) (fun _ => rfl) (by simp) (fun _ => rfl)
  exact ⟨k, a', b', hk, hc, fun n s hs => callK_ref (by show (D.pure (.tup xs) && true) = true; rw [Bool.and_true]; exact hp) hs rfl e rfl (pureL_mem hp _ (List.getElem_mem hk))⟩
/-- one of a list -/
theorem some_lst {f : Fn} (R : RollOk f) {a b : Int} (h : Cup a b) {xs : List D} (h0 : 0 < xs.length) (h1 : xs.length < 1000000) (hp : D.pureL xs = true) :
    ∃ k a' b', ∃ (hk : k < xs.length), Cup a' b' ∧ ∀ (n m : Nat) (s : S), n ≠ m → s[n]? = some (.lst [.int a, .int b]) → s[m]? = some (.lst xs) → callK (D_someG f) [.ref n, .ref m] s = .ok xs[k] (s.set n (.lst [.int a', .int b'])) := by
  obtain ⟨k, a', b', hk, hc, e⟩ := some_run R h h0 h1 (d := .ref 1) (s0 := [.lst xs]) (fun o => by simp) (by simp) (fun o => by simp)
  refine ⟨k, a', b', hk, hc, fun n m s hnm hs hm => ?_⟩
  have px := pureL_mem hp _ (List.getElem_mem hk)
  have pu : (O.lst xs).pure = true := hp
  have p1 : (O.lst [.int a, .int b]).pure = true := rfl
  have p2 : (O.lst [.int a', .int b']).pure = true := rfl
  have hm' : (s.set n (.lst [.int a', .int b']))[m]? = some (.lst xs) := by rw [List.getElem?_set_ne hnm]; exact hm
  unfold callK
  simp only [refsOf, renum, nodupN, List.contains_cons, List.contains_nil, Bool.or_false, Bool.not_false, Bool.and_true, beq_eq_false_iff_ne.mpr hnm, List.all_cons, List.all_nil, argOk, and_self, if_true, getAll, hs, hm, pu, p1, e, List.length_cons, List.length_nil, List.take_succ_cons, List.take_zero, p2, putAll, set_same hm', Bool.true_and]
  generalize xs[k] = y at px
  cases y <;> first | (simp only [px, if_true]; done) | (simp only [D.pure] at px; exact absurd px Bool.false_ne_true) | simp [D.pure]
/-! ### two plain values alike -/
mutual
/-- a value that is compared with itself: tuples, numbers, texts, to a depth -/
def dep : D → Nat
  | .tup xs => depL xs + 1
  | _ => 0
def depL : List D → Nat
  | [] => 0
  | x :: xs => max (dep x) (depL xs)
end
mutual
def plainD : D → Bool
  | .non => true
  | .bl _ => true
  | .int _ => true
  | .tup xs => plainL xs && decide (xs.length ≤ 1000000)
  | _ => false
def plainL : List D → Bool
  | [] => true
  | x :: xs => plainD x && plainL xs
end
theorem plainL_mem : ∀ {xs : List D}, plainL xs = true → ∀ x ∈ xs, plainD x = true
  | [], _, _, h => by cases h
  | y :: xs, h, x, hx => by
    unfold plainL at h
    rw [Bool.and_eq_true] at h
    rcases List.mem_cons.mp hx with e | e
    · rw [e]; exact h.1
    · exact plainL_mem h.2 x e
mutual
theorem plain_pure : ∀ {d : D}, plainD d = true → d.pure = true
  | .non, _ => rfl
  | .bl _, _ => rfl
  | .int _, _ => rfl
  | .tup xs, h => by
    unfold plainD at h
    rw [Bool.and_eq_true] at h
    exact plainL_pure h.1
  | .undef, h => h
  | .str _, h => absurd h (by unfold plainD; exact Bool.false_ne_true)
  | .ref _, h => h
  | .fn _, h => absurd h (by unfold plainD; exact Bool.false_ne_true)
  | .frl _, h => absurd h (by unfold plainD; exact Bool.false_ne_true)
theorem plainL_pure : ∀ {ds : List D}, plainL ds = true → D.pureL ds = true
  | [], _ => rfl
  | d :: ds, h => by
    unfold plainL at h
    rw [Bool.and_eq_true] at h
    show (d.pure && D.pureL ds) = true
    rw [plain_pure h.1, plainL_pure h.2]; rfl
end
theorem depL_mem : ∀ {xs : List D}, ∀ x ∈ xs, dep x ≤ depL xs
  | [], _, h => by cases h
  | y :: xs, x, hx => by
    unfold depL
    rcases List.mem_cons.mp hx with e | e
    · rw [e]; exact Nat.le_max_left _ _
    · exact Nat.le_trans (depL_mem x e) (Nat.le_max_right _ _)
theorem plain_ne {d : D} (h : plainD d = true) : d ≠ .undef := by
  rintro rfl
  exact absurd h (by unfold plainD; exact Bool.false_ne_true)
@[simp] theorem eq_nil2 {s : S} {a b : Nat} (h1 : s[a]? = some (.lst [])) (h2 : s[b]? = some (.lst [])) : oEq (.ref a) (.ref b) s = .ok (.bl true) s := by
  unfold oEq eqD
  simp [D.py, h1, h2, mapO, PySem.SeqAt.shaped, PyData.canLay0, PyData.canLayAll0, PyData.depth, PyData.depthAll, PyData.eqv, PyData.eqvAll]
@[simp] theorem v_neB {a b : Bool} {s : S} : oNe (.bl a) (.bl b) s = .ok (.bl (a != b)) s := by
  unfold oNe eqD
  simp [D.py, PySem.SeqAt.shaped, PyData.canLay0, PyData.depth, PyData.eqv]
  cases a <;> cases b <;> rfl
theorem lt_of_get {xs : List D} {k : Nat} {x : D} (h : xs[k]? = some x) : k < xs.length := (List.getElem?_eq_some_iff.mp h).1
/-- items at places -/
theorem same_items {self : Fn} {told due : D} {xs : List D} {s : S} (hlen : xs.length ≤ 1000000) (hl : bLen [due] s = .ok (.int xs.length) s) (ht : ∀ acc, seqX told (s ++ [.lst acc]) = some xs) (hd : ∀ acc, seqX due (s ++ [.lst acc]) = some xs) (nt : told ≠ .undef) (nd : due ≠ .undef)
    (h : ∀ x ∈ xs, ∀ s, callK self [x, x] s = .ok (.bl true) s) :
    eLc (iRng1 (eN bLen (aC (eV 1) aN))) (gV 2) (tNot (tst (eCallK 2 self (aC (e2 oIx (eV 0) (eV 2)) (aC (e2 oIx (eV 1) (eV 2)) aN))))) (eC (.int 1)) [2] [told, due, .undef] s = .ok (.ref s.length) (s ++ [.lst []]) := by
  have hit : iRng1 (eN bLen (aC (eV 1) aN)) [told, due, .undef] s = .ok (.items (range2 0 xs.length)) s := ap_iRng1 (by simp [eV_any nd, hl]) (by omega)
  rw [eLc_items (xs := range2 0 xs.length) hit (fun x => [told, due, x]) (fun _ => false) (fun _ => .int 1) (fun x hx acc => ?_) (by rw [range2_len]; omega)]
  · simp
  · obtain ⟨k, hk⟩ := List.getElem?_of_mem hx
    obtain ⟨rfl, hk2⟩ := range2_get hk
    have hk3 : k < xs.length := by omega
    have e : atD xs (k : Int) = some xs[k] := atD_nat (List.getElem?_eq_getElem hk3)
    refine ⟨by simp [wipeD], ?_, fun q => by cases q⟩
    simp [eV_any nt, eV_any nd, ix_seq, ht, hd, e, h xs[k] (List.getElem_mem hk3)]
theorem same_n : ∀ (n : Nat) (d : D) (s : S), plainD d = true → dep d ≤ n → ∃ g, D__law_same (n + 1) [d, d] s = .ok (.bl true) g := by
  intro n
  induction n with
  | zero =>
    intro d s hp hd
    show ∃ g, mkFn 3 2 (b__law_same (D__law_same 0)) [d, d] s = _
    rw [ap_mkFn (k := 2) (ds := [d, d]) rfl]
    unfold b__law_same
    cases d with
    | non => exact ⟨s, by simp⟩
    | bl b => cases b <;> exact ⟨s, by simp [oIsB]⟩
    | int i => exact ⟨s, by simp⟩
    | tup xs => unfold dep at hd; omega
    | _ => exact absurd hp (by unfold plainD; exact Bool.false_ne_true)
  | succ n ih =>
    intro d s hp hd
    show ∃ g, mkFn 3 2 (b__law_same (D__law_same (n + 1))) [d, d] s = _
    rw [ap_mkFn (k := 2) (ds := [d, d]) rfl]
    unfold b__law_same
    cases d with
    | non => exact ⟨s, by simp⟩
    | bl b => cases b <;> exact ⟨s, by simp [oIsB]⟩
    | int i => exact ⟨s, by simp⟩
    | tup xs =>
      unfold plainD at hp
      rw [Bool.and_eq_true] at hp
      have hlen : xs.length ≤ 1000000 := of_decide_eq_true hp.2
      unfold dep at hd
      have hx : ∀ x ∈ xs, ∀ s, callK (D__law_same (n + 1)) [x, x] s = .ok (.bl true) s := fun x hx s => by
        have px := plainL_mem hp.1 x hx
        obtain ⟨g, hg⟩ := ih x [] px (by have := depL_mem x hx; omega)
        refine callK_val ?_ hg rfl
        show (x.pure && (x.pure && true)) = true
        rw [plain_pure px]; rfl
      have key := same_items (self := D__law_same (n + 1)) (told := .tup xs) (due := .tup xs) (xs := xs) (s := s) hlen rfl (fun _ => rfl) (fun _ => rfl) (by simp) (by simp) hx
      refine ⟨s ++ [.lst []] ++ [.lst []], ?_⟩
      simp [key]
    | _ => exact absurd hp (by unfold plainD; exact Bool.false_ne_true)
/-- one value twice -/
theorem same_k {n : Nat} {d : D} {s : S} (hp : plainD d = true) (hd : dep d ≤ n) : callK (D__law_same (n + 1)) [d, d] s = .ok (.bl true) s := by
  obtain ⟨g, hg⟩ := same_n n d [] hp hd
  refine callK_val ?_ hg rfl
  show (d.pure && (d.pure && true)) = true
  rw [plain_pure hp]; rfl
/-- two lists of the same -/
theorem same_list {n : Nat} {xs : List D} {s : S} {a b : Nat} (hab : a ≠ b) (ha : s[a]? = some (.lst xs)) (hb : s[b]? = some (.lst xs)) (hl : xs.length ≤ 1000000) (hp : plainL xs = true) (hd : depL xs ≤ n) : callK (D__law_same (n + 2)) [.ref a, .ref b] s = .ok (.bl true) s := by
  have hx : ∀ x ∈ xs, ∀ s, callK (D__law_same (n + 1)) [x, x] s = .ok (.bl true) s := fun x hx s => same_k (plainL_mem hp x hx) (by have := depL_mem x hx; omega)
  have key := same_items (self := D__law_same (n + 1)) (told := .ref 0) (due := .ref 1) (xs := xs) (s := [.lst xs, .lst xs]) hl (by simp) (fun _ => by simp) (fun _ => by simp) (by simp) (by simp) hx
  have run : D__law_same (n + 2) [.ref 0, .ref 1] [.lst xs, .lst xs] = .ok (.bl true) [.lst xs, .lst xs, .lst [], .lst []] := by
    show mkFn 3 2 (b__law_same (D__law_same (n + 1))) [.ref 0, .ref 1] _ = _
    rw [ap_mkFn (k := 2) (ds := [.ref 0, .ref 1]) rfl]
    unfold b__law_same
    simp [key, oIsI, isTy]
  have pu : (O.lst xs).pure = true := plainL_pure hp
  unfold callK
  simp [refsOf, renum, argOk, nodupN, hab, getAll, ha, hb, pu, run, putAll, D.pure]
  rw [set_same ha, set_same hb]
/-! ### plain values compared -/
mutual
def pyP : D → PyData
  | .bl b => .bool b
  | .int i => .int i
  | .tup xs => .tuple (pyPL xs)
  | _ => .none
def pyPL : List D → List PyData
  | [] => []
  | x :: xs => pyP x :: pyPL xs
end
theorem mapO_plain {s : S} {k : Nat} (h : ∀ d, plainD d = true → dep d ≤ k → D.py s k d = some (pyP d)) : ∀ xs : List D, plainL xs = true → depL xs ≤ k → mapO (D.py s k) xs = some (pyPL xs)
  | [], _, _ => rfl
  | x :: xs, hp, hd => by
    unfold plainL at hp
    rw [Bool.and_eq_true] at hp
    unfold depL at hd
    unfold mapO
    rw [h x hp.1 (by omega), mapO_plain h xs hp.2 (by omega)]
    rfl
theorem py_plain {s : S} : ∀ (k : Nat) (d : D), plainD d = true → dep d ≤ k → D.py s k d = some (pyP d)
  | 0, d, hp, hd => by
    cases d with
    | non => rfl
    | bl b => rfl
    | int i => rfl
    | tup xs => unfold dep at hd; omega
    | _ => exact absurd hp (by unfold plainD; exact Bool.false_ne_true)
  | k + 1, d, hp, hd => by
    cases d with
    | non => rfl
    | bl b => rfl
    | int i => rfl
    | tup xs =>
      unfold plainD at hp
      rw [Bool.and_eq_true] at hp
      unfold dep at hd
      show (mapO (D.py s k) xs).map PyData.tuple = _
      rw [mapO_plain (fun d => py_plain k d) xs hp.1 (by omega)]
      rfl
    | _ => exact absurd hp (by unfold plainD; exact Bool.false_ne_true)
mutual
theorem lay_plain : ∀ d : D, plainD d = true → (pyP d).canLay0 = true ∧ (pyP d).depth = dep d
  | .non, _ => ⟨rfl, rfl⟩
  | .bl _, _ => ⟨rfl, rfl⟩
  | .int _, _ => ⟨rfl, rfl⟩
  | .tup xs, h => by
    unfold plainD at h
    rw [Bool.and_eq_true] at h
    obtain ⟨h1, h2⟩ := layL_plain xs h.1
    refine ⟨?_, ?_⟩
    · show PyData.canLayAll0 (pyPL xs) = true
      exact h1
    · show PyData.depthAll (pyPL xs) + 1 = depL xs + 1
      rw [h2]
  | .undef, h => absurd h (by unfold plainD; exact Bool.false_ne_true)
  | .str _, h => absurd h (by unfold plainD; exact Bool.false_ne_true)
  | .ref _, h => absurd h (by unfold plainD; exact Bool.false_ne_true)
  | .fn _, h => absurd h (by unfold plainD; exact Bool.false_ne_true)
  | .frl _, h => absurd h (by unfold plainD; exact Bool.false_ne_true)
theorem layL_plain : ∀ xs : List D, plainL xs = true → PyData.canLayAll0 (pyPL xs) = true ∧ PyData.depthAll (pyPL xs) = depL xs
  | [], _ => ⟨rfl, rfl⟩
  | x :: xs, h => by
    unfold plainL at h
    rw [Bool.and_eq_true] at h
    obtain ⟨a1, a2⟩ := lay_plain x h.1
    obtain ⟨b1, b2⟩ := layL_plain xs h.2
    refine ⟨?_, ?_⟩
    · show ((pyP x).canLay0 && PyData.canLayAll0 (pyPL xs)) = true
      rw [a1, b1]; rfl
    · show max (pyP x).depth (PyData.depthAll (pyPL xs)) = max (dep x) (depL xs)
      rw [a2, b2]
end
theorem shaped_plain {d : D} (h : plainD d = true) (hd : dep d ≤ 64) : PySem.SeqAt.shaped (pyP d) = true := by
  obtain ⟨a, b⟩ := lay_plain d h
  unfold PySem.SeqAt.shaped
  rw [a, b]
  simpa using hd
theorem eq_plain {x y : D} {s : S} (hx : plainD x = true) (hy : plainD y = true) (dx : dep x ≤ 20) (dy : dep y ≤ 20) : oEq x y s = .ok (.bl (PyData.eqv (pyP x) (pyP y))) s := by
  unfold oEq eqD
  rw [py_plain 20 x hx dx, py_plain 20 y hy dy]
  simp [shaped_plain hx (by omega), shaped_plain hy (by omega)]
theorem ne_plain {x y : D} {s : S} (hx : plainD x = true) (hy : plainD y = true) (dx : dep x ≤ 20) (dy : dep y ≤ 20) : oNe x y s = .ok (.bl (!PyData.eqv (pyP x) (pyP y))) s := by
  unfold oNe eqD
  rw [py_plain 20 x hx dx, py_plain 20 y hy dy]
  simp [shaped_plain hx (by omega), shaped_plain hy (by omega)]
theorem py_lst {s : S} {a : Nat} {xs : List D} (ha : s[a]? = some (.lst xs)) (hp : plainL xs = true) (hd : depL xs ≤ 19) : D.py s 20 (.ref a) = some (.list (pyPL xs)) ∧ PySem.SeqAt.shaped (.list (pyPL xs)) = true := by
  obtain ⟨b1, b2⟩ := layL_plain xs hp
  refine ⟨?_, ?_⟩
  · show (match s[a]? with
      | some (.lst xs) => (mapO (D.py s 19) xs).map PyData.list
      | _ => none) = _
    rw [ha]
    simp only
    rw [mapO_plain (fun d => py_plain 19 d) xs hp hd]
    rfl
  · unfold PySem.SeqAt.shaped
    show (PyData.canLayAll0 (pyPL xs) && decide (PyData.depthAll (pyPL xs) + 1 ≤ 64)) = true
    rw [b1, b2]
    simp; omega
theorem eq_lists {s : S} {a b : Nat} {xs ys : List D} (ha : s[a]? = some (.lst xs)) (hb : s[b]? = some (.lst ys)) (hp : plainL xs = true) (hq : plainL ys = true) (hd : depL xs ≤ 19) (he : depL ys ≤ 19) :
    oEq (.ref a) (.ref b) s = .ok (.bl (PyData.eqvAll (pyPL xs) (pyPL ys))) s := by
  obtain ⟨a1, a2⟩ := py_lst ha hp hd
  obtain ⟨b1, b2⟩ := py_lst hb hq he
  unfold oEq eqD
  rw [a1, b1]
  simp [a2, b2, PyData.eqv]
theorem ne_lists {s : S} {a b : Nat} {xs ys : List D} (ha : s[a]? = some (.lst xs)) (hb : s[b]? = some (.lst ys)) (hp : plainL xs = true) (hq : plainL ys = true) (hd : depL xs ≤ 19) (he : depL ys ≤ 19) :
    oNe (.ref a) (.ref b) s = .ok (.bl (!PyData.eqvAll (pyPL xs) (pyPL ys))) s := by
  obtain ⟨a1, a2⟩ := py_lst ha hp hd
  obtain ⟨b1, b2⟩ := py_lst hb hq he
  unfold oNe eqD
  rw [a1, b1]
  simp [a2, b2, PyData.eqv]
@[simp] theorem eqvAll_nil (xs : List D) : PyData.eqvAll (pyPL xs) [] = xs.isEmpty := by cases xs <;> rfl
@[simp] theorem eqvAll_00 : PyData.eqvAll [] [] = true := rfl
@[simp] theorem eqvAll_c0 (x : PyData) (xs : List PyData) : PyData.eqvAll (x :: xs) [] = false := rfl
@[simp] theorem pyPL_nil : pyPL [] = [] := rfl
@[simp] theorem pyPL_cons (x : D) (xs : List D) : pyPL (x :: xs) = pyP x :: pyPL xs := rfl
/-! ### whole roots -/
def isqN : Nat → Nat
  | 0 => 0
  | n + 1 => if (isqN n + 1) * (isqN n + 1) ≤ n + 1 then isqN n + 1 else isqN n
theorem isqN_spec : ∀ n : Nat, isqN n * isqN n ≤ n ∧ n < (isqN n + 1) * (isqN n + 1)
  | 0 => by simp [isqN]
  | n + 1 => by
    obtain ⟨h1, h2⟩ := isqN_spec n
    unfold isqN
    split
    · rename_i h
      refine ⟨h, ?_⟩
      have : (isqN n + 1 + 1) * (isqN n + 1 + 1) = (isqN n + 1) * (isqN n + 1) + 2 * (isqN n + 1) + 1 := by
        generalize isqN n + 1 = k
        rw [Nat.add_mul, Nat.mul_add]; omega
      omega
    · omega
def isq (n : Int) : Int := isqN n.toNat
theorem isq_spec {n : Int} (h : 0 ≤ n) : 0 ≤ isq n ∧ isq n * isq n ≤ n ∧ n < (isq n + 1) * (isq n + 1) := by
  obtain ⟨h1, h2⟩ := isqN_spec n.toNat
  unfold isq
  refine ⟨by omega, ?_, ?_⟩
  · have : ((isqN n.toNat * isqN n.toNat : Nat) : Int) ≤ (n.toNat : Int) := by exact_mod_cast h1
    rw [Int.natCast_mul] at this; omega
  · have : (n.toNat : Int) < (((isqN n.toNat + 1) * (isqN n.toNat + 1) : Nat) : Int) := by exact_mod_cast h2
    rw [Int.natCast_mul] at this; push_cast at this; omega
theorem sq_lt {a b : Int} (ha : 0 ≤ a) (hb : 0 ≤ b) (h : a * a < b * b) : a < b := by
  by_cases hlt : a < b
  · exact hlt
  · exact absurd (Int.mul_le_mul (show b ≤ a by omega) (show b ≤ a by omega) hb ha) (by omega)
theorem isq_eq {n r : Int} (h0 : 0 ≤ r) (h1 : r * r ≤ n) (h2 : n < (r + 1) * (r + 1)) : isq n = r := by
  have hn : 0 ≤ n := Int.le_trans (Int.mul_nonneg h0 h0) h1
  obtain ⟨a, b, c⟩ := isq_spec hn
  have l1 := sq_lt h0 (show 0 ≤ isq n + 1 by omega) (by omega)
  have l2 := sq_lt a (show 0 ≤ r + 1 by omega) (by omega)
  omega
theorem isq_sq {r : Int} (h0 : 0 ≤ r) : isq (r * r) = r := isq_eq h0 (Int.le_refl _) (by
  have : (r + 1) * (r + 1) = r * r + 2 * r + 1 := by rw [Int.add_mul, Int.mul_add]; omega
  omega)
theorem root_in_ok {n : Int} {s : S} (h : 0 ≤ n) (hb : n < B0) : ∃ g, D_root_in [.int n] s = .ok (.int (isq n)) g := by
  unfold D_root_in
  rw [ap_mkFn (k := 1) (ds := [.int n]) rfl]
  unfold b_root_in
  by_cases h0 : n = 0
  · subst h0
    exact ⟨s, by simp [show isq 0 = 0 from rfl]⟩
  · have b01 := B01
    -- the first loop: some power of two lies above
    obtain ⟨r1, s1, e1, hi, hz, hq, rfl, rfl⟩ := zWhile_invB (c := tst (e2 oLe (e2 oMul (eV 2) (eV 2)) (eV 0))) (b := zSet (gV 2) (e2 oMul (eC (.int 2)) (eV 2)))
      (fun r t => ∃ hi : Int, 1 ≤ hi ∧ hi ≤ 2 * n ∧ r = [.int n, .int 1, .int hi, .undef] ∧ t = s) (fun r t => ∃ hi : Int, (1 ≤ hi ∧ hi ≤ 2 * n) ∧ n < hi * hi ∧ r = [.int n, .int 1, .int hi, .undef] ∧ t = s)
      (fun r _ => match r with | [_, _, .int hi, _] => (2 * n + 1 - hi).toNat | _ => 0) (by
        rintro r t ⟨hi, h1, h2, rfl, rfl⟩
        have m1 := mul_big (i := hi) (j := hi) (s := t) (by omega) (by omega)
        refine ⟨decide (hi * hi ≤ n), t, by simp [m1], fun q => ⟨hi, ⟨h1, h2⟩, by simpa using q, rfl, rfl⟩, fun q => ?_⟩
        have q : hi * hi ≤ n := by simpa using q
        have hle : hi ≤ n := Int.le_trans (by have := Int.mul_le_mul_of_nonneg_left h1 (show 0 ≤ hi by omega); omega) q
        refine ⟨[.int n, .int 1, .int (2 * hi), .undef], t, .inl (by simp [v_mul64 (i := 2) (by decide)]), ⟨2 * hi, by omega, by omega, rfl, rfl⟩, ?_⟩
        show (2 * n + 1 - 2 * hi).toNat < (2 * n + 1 - hi).toNat
        omega) (r := [.int n, .int 1, .int 1, .undef]) (s := s) ⟨1, by omega, by omega, rfl, rfl⟩ (by
        show (2 * n + 1 - 1).toNat < B1
        omega)
    -- the second loop: both come together
    obtain ⟨r2, s2, e2, lo, h3, h4, h5, ⟨hi2, md, rfl⟩, rfl⟩ := zWhile_invB (c := tst (e2 oGt (e2 oSub (eV 2) (eV 1)) (eC (.int 1))))
      (b := zCons (zSet (gV 3) (e2 oDiv (e2 oAdd (eV 1) (eV 2)) (eC (.int 2)))) (zSet (gT (gsC (gV 1) (gsC (gV 2) gsN))) (eIf (tst (e2 oLe (e2 oMul (eV 3) (eV 3)) (eV 0))) (eTup (aC (eV 3) (aC (eV 2) aN))) (eTup (aC (eV 1) (aC (eV 3) aN))))))
      (fun r t => ∃ lo hi : Int, 0 ≤ lo ∧ lo < hi ∧ hi ≤ 2 * n ∧ lo * lo ≤ n ∧ n < hi * hi ∧ (∃ md, r = [.int n, .int lo, .int hi, md]) ∧ t = s1)
      (fun r t => ∃ lo : Int, 0 ≤ lo ∧ lo * lo ≤ n ∧ n < (lo + 1) * (lo + 1) ∧ (∃ hi md, r = [.int n, .int lo, hi, md]) ∧ t = s1)
      (fun r _ => match r with | [_, .int lo, .int hi, _] => (hi - lo).toNat | _ => 0) (by
        rintro r t ⟨lo, hi, h1, h2, h3, h4, h5, ⟨md, rfl⟩, rfl⟩
        refine ⟨decide (1 < hi - lo), t, by simp, fun q => ?_, fun q => ?_⟩
        · have q : ¬ 1 < hi - lo := by simpa using q
          have e : hi = lo + 1 := by omega
          subst e
          exact ⟨lo, h1, h4, h5, ⟨_, _, rfl⟩, rfl⟩
        · have q : 1 < hi - lo := by simpa using q
          have m1 := mul_big (i := (lo + hi) / 2) (j := (lo + hi) / 2) (s := t) (by omega) (by omega)
          have d1 := v_div64 (i := lo + hi) (j := 2) (s := t) (by decide) (by decide)
          by_cases hm : (lo + hi) / 2 * ((lo + hi) / 2) ≤ n
          · refine ⟨[.int n, .int ((lo + hi) / 2), .int hi, .int ((lo + hi) / 2)], t, .inl (by simp [m1, d1, hm]), ⟨(lo + hi) / 2, hi, by omega, by omega, h3, hm, h5, ⟨_, rfl⟩, rfl⟩, ?_⟩
            show (hi - (lo + hi) / 2).toNat < (hi - lo).toNat
            omega
          · refine ⟨[.int n, .int lo, .int ((lo + hi) / 2), .int ((lo + hi) / 2)], t, .inl (by simp [m1, d1, hm]), ⟨lo, (lo + hi) / 2, by omega, by omega, by omega, h4, by omega, ⟨_, rfl⟩, rfl⟩, ?_⟩
            show ((lo + hi) / 2 - lo).toNat < (hi - lo).toNat
            omega) (r := [.int n, .int 1, .int hi, .undef]) (s := s1) (by
        by_cases h1 : hi = 1
        · subst h1; omega
        · exact ⟨1, hi, by omega, by omega, by omega, by omega, hq, ⟨_, rfl⟩, rfl⟩) (by
        show (hi - 1).toNat < B1
        omega)
    refine ⟨s2, ?_⟩
    simp [h0, e1, e2, isq_eq h3 h4 h5]
theorem root_in_k {n : Int} {s : S} (h : 0 ≤ n) (hb : n < B0) : callK D_root_in [.int n] s = .ok (.int (isq n)) s := by
  obtain ⟨g, hg⟩ := root_in_ok (s := []) h hb
  exact callK_val rfl hg rfl
/-! ### powers -/
theorem power_ok {b : Int} {k : Int} {s : S} (hb : b.natAbs < 18446744073709551616) (h0 : 0 ≤ k) (hk : k < 4611686018427387904) : D_power_in [.int b, .int k] s = .ok (.int (b ^ k.toNat)) s := by
  unfold D_power_in
  rw [ap_mkFn (k := 2) (ds := [.int b, .int k]) rfl]
  unfold b_power_in
  obtain ⟨r', s', e, x, rfl, rfl⟩ := forM_inv (g := gV 3) (b := zSet (gV 2) (e2 oMul (eV 2) (eV 0))) (fun i r t => ∃ x, r = [.int b, .int k, .int (b ^ i), x] ∧ t = s) (range2 0 k) 0 [.int b, .int k, .int 1, .undef] s ⟨.undef, by simp, rfl⟩ (by
    rintro j x r t hx ⟨y, rfl, rfl⟩
    exact ⟨_, _, [.int b, .int k, .int (b ^ (0 + j + 1)), x], t, by simp; exact ⟨rfl, rfl⟩, .inl (by simp [v_mul64r hb, Int.pow_succ]), x, rfl, rfl⟩)
  rw [range2_len] at e
  simp [show k.natAbs < 4611686018427387904 by omega, e]
theorem power_k {b : Int} {k : Int} {s : S} (hb : b.natAbs < 18446744073709551616) (h0 : 0 ≤ k) (hk : k < 4611686018427387904) : callK D_power_in [.int b, .int k] s = .ok (.int (b ^ k.toNat)) s := callK_val rfl (power_ok hb h0 hk) rfl
theorem law_power_k {b : Int} {k : Int} {s : S} (hb : b.natAbs < 18446744073709551616) (h0 : 0 ≤ k) (hk : k < 4611686018427387904) : callK D__law_power [.int b, .int k] s = .ok (.int (b ^ k.toNat)) s := power_k hb h0 hk
/-! ### Newton's roots -/
def B2 : Nat := 2 ^ 1900
theorem B2_lt : B2 < 10 ^ 600 := by decide +kernel
theorem B2_B0 : B2 ≤ B0 := by decide +kernel
/-- a number's text, by its length -/
theorem text_len {n : Int} (h : 0 ≤ n) (hb : n < B2) : ∃ L : Nat, (Str.ofString (toString n)).length = L ∧ 1 ≤ L ∧ L ≤ 600 ∧ n < 10 ^ L := by
  obtain ⟨m, rfl⟩ := Int.eq_ofNat_of_zero_le h
  have e : toString ((m : Nat) : Int) = Nat.repr m := rfl
  rw [e, PySem.ofString_length]
  have hm : m < 10 ^ 600 := Nat.lt_trans (by omega) B2_lt
  have h1 : (Nat.repr m).length ≤ 600 := (Nat.length_repr_le_iff (by decide)).mpr hm
  have h0 : 0 < (Nat.repr m).length := Nat.length_repr_pos
  refine ⟨_, rfl, h0, h1, ?_⟩
  have := (Nat.length_repr_le_iff h0).mp (Nat.le_refl (Nat.repr m).length)
  exact_mod_cast this
theorem newton {n h : Int} (hn : 1 ≤ n) (h1 : 1 ≤ h) (hr : isq n ≤ h) (hlt : n < h * h) : isq n ≤ (h + n / h) / 2 ∧ (h + n / h) / 2 < h ∧ 1 ≤ (h + n / h) / 2 := by
  obtain ⟨a, b, c⟩ := isq_spec (show 0 ≤ n by omega)
  have hq : n / h < h := Int.ediv_lt_of_lt_mul (by omega) hlt
  have hq1 : n < (n / h + 1) * h := Int.lt_ediv_add_one_mul_self n (by omega)
  generalize n / h = q at hq hq1
  generalize isq n = r at a b c hr
  have r1 : 1 ≤ r := by
    by_cases h0 : r = 0
    · subst h0; omega
    · omega
  have key : r ≤ (h + q) / 2 := by
    by_cases hk : r ≤ (h + q) / 2
    · exact hk
    · exfalso
      have h2 : q + 1 ≤ 2 * r - h := by omega
      have h3 : (q + 1) * h ≤ (2 * r - h) * h := Int.mul_le_mul_of_nonneg_right h2 (by omega)
      have h4 : (2 * r - h) * h = r * r - (r - h) * (r - h) := by
        rw [Int.sub_mul, Int.sub_mul, Int.mul_sub, Int.mul_sub, Int.mul_comm h r, Int.mul_assoc]
        omega
      have h5 : 0 ≤ (r - h) * (r - h) := by
        rcases Int.le_total 0 (r - h) with z | z
        · exact Int.mul_nonneg z z
        · exact Int.mul_nonneg_of_nonpos_of_nonpos z z
      omega
  omega
theorem law_root_ok {n : Int} {s : S} (h : 0 ≤ n) (hb : n < B2) : ∃ g, D__law_root [.int n] s = .ok (.int (isq n)) g := by
  unfold D__law_root
  rw [ap_mkFn (k := 1) (ds := [.int n]) rfl]
  unfold b__law_root
  by_cases h0 : n = 0
  · subst h0
    exact ⟨s, by simp [show isq 0 = 0 from rfl]⟩
  · obtain ⟨L, e1, l1, l2, l3⟩ := text_len h hb
    have b01 := B01
    have b00 := B0_big
    have b20 := B2_B0
    have hlog : n.natAbs.log2 < 1920 := Nat.lt_of_lt_of_le (log2_lt (k := 1900) (by decide) (show n.natAbs < B2 by omega)) (by decide)
    have hp : (2 : Int) ^ ((L : Int) * 2).toNat = ((4 ^ L : Nat) : Int) := by
      rw [show ((L : Int) * 2).toNat = 2 * L by omega, Int.pow_mul]
      exact_mod_cast rfl
    have hbig : 4 ^ L < B1 := Nat.lt_of_le_of_lt (Nat.pow_le_pow_right (by decide) l2) (by decide +kernel)
    have hsq : (n : Int) < ((4 ^ L : Nat) : Int) * ((4 ^ L : Nat) : Int) := by
      have : 10 ^ L ≤ 4 ^ L * 4 ^ L := by
        rw [← Nat.mul_pow]
        exact Nat.pow_le_pow_left (by decide) L
      have e : (((10 ^ L : Nat)) : Int) ≤ ((4 ^ L * 4 ^ L : Nat) : Int) := by exact_mod_cast this
      rw [Int.natCast_mul] at e
      have l3' : n < ((10 ^ L : Nat) : Int) := by exact_mod_cast l3
      omega
    have hpos : 1 ≤ 4 ^ L := Nat.pow_pos (by decide)
    generalize hx : 4 ^ L = x at hp hbig hsq hpos
    obtain ⟨i1, i2, i3⟩ := isq_spec h
    obtain ⟨r2, s2, e2, y, z1, z2, rfl, rfl⟩ := zWhile_invB (c := tst (e2 oGt (e2 oMul (eV 1) (eV 1)) (eV 0))) (b := zSet (gV 1) (eN bInt (aC (e2 oDiv (e2 oAdd (eV 1) (e2 oDiv (eV 0) (eV 1))) (eC (.int 2))) aN)))
      (fun r t => ∃ y : Int, isq n ≤ y ∧ 1 ≤ y ∧ y ≤ x ∧ r = [.int n, .int y] ∧ t = s) (fun r t => ∃ y : Int, isq n ≤ y ∧ y * y ≤ n ∧ r = [.int n, .int y] ∧ t = s)
      (fun r _ => match r with | [_, .int y] => y.toNat | _ => 0) (by
        rintro r t ⟨y, h1, h2, h3, rfl, rfl⟩
        have m1 := mul_big (i := y) (j := y) (s := t) (by omega) (by omega)
        refine ⟨decide (n < y * y), t, by simp [m1], fun q => ⟨y, h1, by simpa using q, rfl, rfl⟩, fun q => ?_⟩
        have q : n < y * y := by simpa using q
        obtain ⟨n1, n2, n3⟩ := newton (show 1 ≤ n by omega) h2 h1 q
        have d1 := div_big (i := n) (j := y) (s := t) (by omega) (by omega)
        have d2 := v_div64 (i := y + n / y) (j := 2) (s := t) (by decide) (by decide)
        refine ⟨[.int n, .int ((y + n / y) / 2)], t, .inl (by simp [d1, d2]), ⟨_, n1, n3, by omega, rfl, rfl⟩, ?_⟩
        show ((y + n / y) / 2).toNat < y.toNat
        omega) (r := [.int n, .int x]) (s := s) ⟨x, by
          have := sq_lt i1 (show (0 : Int) ≤ x by omega) (by omega)
          omega, by omega, by omega, rfl, rfl⟩ (by
        show (x : Int).toNat < B1
        omega)
    have y0 : isq n = y := by
      have := sq_lt (show 0 ≤ y by omega) (show 0 ≤ isq n + 1 by omega) (by omega)
      omega
    refine ⟨s2, ?_⟩
    have lp := law_power_k (b := 2) (k := (L : Int) * 2) (s := s2) (by decide) (by omega) (by omega)
    rw [hp] at lp
    have mm := v_mul64r (i := (L : Int)) (j := 2) (s := s2) (by decide)
    have e1 : (Str.ofString n.repr).length = L := e1
    have sl : L ≤ LINE := by unfold LINE; omega
    simp [h0, bStr, hlog, bLen, sl, e1, mm, lp, e2, y0]
theorem law_root_k {n : Int} {s : S} (h : 0 ≤ n) (hb : n < B2) : callK D__law_root [.int n] s = .ok (.int (isq n)) s := by
  obtain ⟨g, hg⟩ := law_root_ok (s := []) h hb
  exact callK_val rfl hg rfl
end YN

/-! YQ: more reckoning: dicts, ranges down, targets by place. -/
namespace Y
open PySem (Str PyData)
section
variable {g : Tg} {b : Sm} {r : Env} {s : S} {a c o i k e : E} {d : D}
@[simp] theorem zFor_rngD : zFor (iRngD a c) g b r s = (a r s).then r fun x s1 => (c r s1).then r fun y s2 => NI x fun i => NI y fun j => if i.natAbs < 4611686018427387904 ∧ j.natAbs < 4611686018427387904 then forM g b (rangeD i j) r s2 else .stk := by
  unfold zFor iRngD
  cases a r s with
  | ok x s1 =>
    simp only [bind_ok, then_ok]
    cases c r s1 with
    | ok y s2 =>
      simp only [bind_ok, then_ok]
      cases x with
      | int i =>
        cases y with
        | int j =>
          simp only [NI_int]
          by_cases h : i.natAbs < 4611686018427387904 ∧ j.natAbs < 4611686018427387904
          · simp only [h, and_self, if_true, then_ok]
          · simp only [h, if_false, then_stk]
        | _ => rfl
      | _ => rfl
    | exc => rfl
    | stk => rfl
  | exc => rfl
  | stk => rfl
theorem rangeD_get {i j : Int} {k : Nat} {x : D} (h : (rangeD i j)[k]? = some x) : x = .int (i - k) ∧ k < (i - j).toNat := by
  unfold rangeD at h
  rw [List.getElem?_map] at h
  cases e : (List.range (i - j).toNat)[k]? with
  | none => rw [e] at h; cases h
  | some n =>
    rw [e] at h
    obtain ⟨hl, hv⟩ := List.getElem?_eq_some_iff.mp e
    rw [List.getElem_range] at hv
    rw [List.length_range] at hl
    subst hv
    cases h
    exact ⟨by rw [show (i - (k : Int)) = i + (k : Int) * -1 by omega], hl⟩
theorem rangeD_len (i j : Int) : (rangeD i j).length = (i - j).toNat := by unfold rangeD; simp
/-- the parts of a target told -/
def Tk (x : Rs D) (f : D → S → Option (Env × S)) : Option (Env × S) := match x with
  | .ok x s => f x s
  | _ => none
@[simp] theorem Tk_ok (x : D) (s : S) (f : D → S → Option (Env × S)) : Tk (.ok x s) f = f x s := rfl
@[simp] theorem ap_gS : gS o i d r s = Tk (o r s) fun x s1 => Tk (i r s1) fun k s2 => (putL x k d s2).map fun s3 => (r, s3) := by
  unfold gS Tk
  cases o r s with
  | ok x s1 =>
    simp only
    all_goals (cases i r s1 <;> rfl)
  | _ => rfl
/-! ### dicts -/
@[simp] theorem dctD_ref {n : Nat} : dctD (.ref n) s = dctO s[n]? := rfl
@[simp] theorem dctO_dct {tk : Bool} {kvs : List (D × D)} : dctO (some (.dct tk kvs)) = some (tk, kvs) := rfl
@[simp] theorem keyEq_int {i j : Int} : keyEq (.int i) (.int j) = decide (i = j) := by
  unfold keyEq keyD
  simp
@[simp] theorem keyOk_int {i : Int} : keyOk false (.int i) = true := rfl
/-- a dict told -/
def Dc (x : Option (Bool × List (D × D))) (f : Bool → List (D × D) → Rs D) : Rs D := match x with
  | some (tk, kvs) => f tk kvs
  | none => .stk
@[simp] theorem Dc_some {tk : Bool} {kvs : List (D × D)} {f : Bool → List (D × D) → Rs D} : Dc (some (tk, kvs)) f = f tk kvs := rfl
@[simp] theorem ap_oDIx {x y : D} : oDIx x y s = Dc (dctD x s) fun tk kvs => if keyOk tk y = true then OkO (fndD kvs y) s else .stk := by
  unfold oDIx Dc OkO
  cases dctD x s with
  | none => rfl
  | some p =>
    obtain ⟨tk, kvs⟩ := p
    simp only
    all_goals (cases fndD kvs y <;> rfl)
@[simp] theorem ap_oDIn {x y : D} : oDIn y x s = Dc (dctD x s) fun tk kvs => if keyOk tk y = true then .ok (.bl (fndD kvs y).isSome) s else .stk := by
  unfold oDIn Dc
  cases dctD x s <;> rfl
@[simp] theorem ap_oDNotIn {x y : D} : oDNotIn y x s = Dc (dctD x s) fun tk kvs => if keyOk tk y = true then .ok (.bl (!(fndD kvs y).isSome)) s else .stk := by
  unfold oDNotIn Dc
  cases dctD x s <;> rfl
@[simp] theorem ap_eGet2 : eGet2 a o c r s = (a r s).bind fun x s1 => if (dctD x s1).isSome = true then (o r s1).bind fun y s2 => (c r s2).bind fun z s3 => Dc (dctD x s3) fun tk kvs => if keyOk tk y = true then .ok ((fndD kvs y).getD z) s3 else .stk else .stk := rfl
@[simp] theorem ap_eGet1 : eGet1 a o r s = (a r s).bind fun x s1 => if (dctD x s1).isSome = true then (o r s1).bind fun y s2 => Dc (dctD x s2) fun tk kvs => if keyOk tk y = true then .ok ((fndD kvs y).getD .non) s2 else .stk else .stk := rfl
@[simp] theorem putDct_ref {n : Nat} {y v : D} : putDct (.ref n) y v s = (dctO s[n]?).bind fun p => if keyOk p.1 y = true ∧ p.2.length < LINE then some (s.set n (.dct p.1 (putD p.2 y v))) else none := by
  unfold putDct
  simp only
  cases dctO s[n]? <;> rfl
@[simp] theorem ap_zPutD : zPutD o i e r s = (e r s).then r fun v s1 => (o r s1).then r fun x s2 => (i r s2).then r fun k s3 => Pu (putDct x k v s3) r := rfl
@[simp] theorem ap_eDNew {tk : Bool} : eDNew tk r s = .ok (.ref s.length) (s ++ [.dct tk []]) := rfl
@[simp] theorem dict_seq (d : D) : bDict [d] s = match (seqL d s).bind pairsD with | some ps => .ok (.ref s.length) (s ++ [.dct false (mergeD [] ps)]) | none => .stk := by
  unfold bDict
  simp only
  cases seqL d s with
  | none => rfl
  | some xs =>
    simp only [Option.bind_some]
    all_goals (cases pairsD xs <;> rfl)
end
/-! ### comprehensions whose parts may leave things behind in the store -/
def CStep (g : Tg) (t : T) (e : E) (r : Env) (s : S) (rr : D → Env) (p : D → Bool) (f : D → D) (x : D) : Prop :=
  ∀ acc G, ∃ G1, g x r (s ++ .lst acc :: G) = some (rr x, s ++ .lst acc :: G) ∧ t (rr x) (s ++ .lst acc :: G) = .ok (p x) (s ++ .lst acc :: (G ++ G1)) ∧
    (p x = true → ∃ G2, e (rr x) (s ++ .lst acc :: (G ++ G1)) = .ok (f x) (s ++ .lst acc :: (G ++ G1 ++ G2)))
theorem appendAt_mid {s G : S} {acc : List D} {d : D} (h : acc.length < 1000000) : appendAt s.length d (s ++ .lst acc :: G) = some (s ++ .lst (acc ++ [d]) :: G) := by
  unfold appendAt
  rw [List.getElem?_append_right (Nat.le_refl _), Nat.sub_self]
  simp only [List.getElem?_cons_zero]
  rw [if_pos (show acc.length < LINE from h)]
  simp
theorem compM_gen {g : Tg} {t : T} {e : E} {n : Nat} {r : Env} {s : S} (hn : n = s.length) (rr : D → Env) (p : D → Bool) (f : D → D) : ∀ (xs acc : List D) (G : S),
    (∀ x ∈ xs, CStep g t e r s rr p f x) → acc.length + xs.length ≤ 1000000 → ∃ G', compM g t e n xs r (s ++ .lst acc :: G) = .ok (.ref n) (s ++ .lst (acc ++ (xs.filter p).map f) :: G')
  | [], acc, G, _, _ => ⟨G, by unfold compM; simp⟩
  | x :: xs, acc, G, h, hl => by
    obtain ⟨G1, h1, h2, h3⟩ := h x List.mem_cons_self acc G
    rw [List.length_cons] at hl
    have ih := fun acc' G' hl' => compM_gen hn rr p f xs acc' G' (fun y hy => h y (List.mem_cons_of_mem _ hy)) hl'
    unfold compM
    simp only [h1, h2]
    cases hp : p x with
    | false =>
      simp only
      obtain ⟨G', e'⟩ := ih acc (G ++ G1) (by omega)
      exact ⟨G', by rw [e', List.filter_cons, hp]; simp⟩
    | true =>
      obtain ⟨G2, h4⟩ := h3 hp
      simp only [h4]
      subst hn
      simp only [appendAt_mid (G := G ++ G1 ++ G2) (d := f x) (show acc.length < 1000000 by omega)]
      obtain ⟨G', e'⟩ := ih (acc ++ [f x]) (G ++ G1 ++ G2) (by rw [List.length_append, List.length_singleton]; omega)
      exact ⟨G', by rw [e', List.filter_cons, hp]; simp⟩
theorem compR_gen {g : Tg} {t : T} {e : E} {n m : Nat} {r : Env} {s : S} {xs : List D} (hn : n = s.length) (hm : s[m]? = some (.lst xs)) (rr : D → Env) (p : D → Bool) (f : D → D) (h : ∀ x ∈ xs, CStep g t e r s rr p f x) : ∀ (k i : Nat) (acc : List D) (G : S),
    xs.length < k + i → i ≤ xs.length → acc.length + (xs.length - i) ≤ 1000000 → ∃ G', compR g t e n m k i r (s ++ .lst acc :: G) = .ok (.ref n) (s ++ .lst (acc ++ ((xs.drop i).filter p).map f) :: G')
  | 0, i, acc, G, hk, hi, _ => by omega
  | k + 1, i, acc, G, hk, hi, hl => by
    have hml := (List.getElem?_eq_some_iff.mp hm).1
    have hm' : ∀ acc G, (s ++ O.lst acc :: G)[m]? = some (.lst xs) := fun acc G => by rw [List.getElem?_append_left hml]; exact hm
    unfold compR
    rw [hm']
    simp only
    by_cases hx : i < xs.length
    · rw [List.getElem?_eq_getElem hx]
      simp only
      obtain ⟨G1, h1, h2, h3⟩ := h xs[i] (List.getElem_mem hx) acc G
      simp only [h1, h2]
      rw [List.drop_eq_getElem_cons hx]
      cases hp : p xs[i] with
      | false =>
        simp only
        obtain ⟨G', e'⟩ := compR_gen hn hm rr p f h k (i + 1) acc (G ++ G1) (by omega) hx (by omega)
        exact ⟨G', by rw [e', List.filter_cons, hp]; simp⟩
      | true =>
        obtain ⟨G2, h4⟩ := h3 hp
        simp only [h4]
        subst hn
        simp only [appendAt_mid (G := G ++ G1 ++ G2) (d := f xs[i]) (show acc.length < 1000000 by omega)]
        obtain ⟨G', e'⟩ := compR_gen rfl hm rr p f h k (i + 1) (acc ++ [f xs[i]]) (G ++ G1 ++ G2) (by omega) hx (by rw [List.length_append, List.length_singleton]; omega)
        exact ⟨G', by rw [e', List.filter_cons, hp]; simp⟩
    · have e' : i = xs.length := by omega
      subst e'
      rw [List.getElem?_eq_none (Nat.le_refl _)]
      exact ⟨G, by simp⟩
theorem fuel_big {n : Nat} (h : n ≤ 1000000) : n < FUEL + 0 := by have h1 := B1_fuel; have h2 := B01; have h3 := B0_big; omega
/-- over what is told ahead -/
theorem eLc_gen {it : IW} {g : Tg} {t : T} {e : E} {own : List Nat} {r : Env} {s s1 : S} {xs : List D} (hit : it r s = .ok (.items xs) s1) (rr : D → Env) (p : D → Bool) (f : D → D)
    (h : ∀ x ∈ xs, CStep g t e (wipeD r own) s1 rr p f x) (hl : xs.length ≤ 1000000) :
    ∃ G, eLc it g t e own r s = .ok (.ref s1.length) (s1 ++ .lst ((xs.filter p).map f) :: G) := by
  obtain ⟨G', e'⟩ := compM_gen (n := s1.length) rfl rr p f xs [] [] h (by simpa using hl)
  refine ⟨G', ?_⟩
  unfold eLc
  rw [hit]
  show compM g t e s1.length xs (wipeD r own) (s1 ++ [.lst []]) = _
  rw [e', List.nil_append]
/-- over a list of the store -/
theorem eLc_lst {it : IW} {g : Tg} {t : T} {e : E} {own : List Nat} {r : Env} {s s1 : S} {m : Nat} {xs : List D} (hit : it r s = .ok (.list m) s1) (hm : s1[m]? = some (.lst xs)) (rr : D → Env) (p : D → Bool) (f : D → D)
    (h : ∀ x ∈ xs, CStep g t e (wipeD r own) s1 rr p f x) (hl : xs.length ≤ 1000000) :
    ∃ G, eLc it g t e own r s = .ok (.ref s1.length) (s1 ++ .lst ((xs.filter p).map f) :: G) := by
  obtain ⟨G', e'⟩ := compR_gen (n := s1.length) rfl hm rr p f h FUEL 0 [] [] (fuel_big hl) (Nat.zero_le _) (by simpa using hl)
  refine ⟨G', ?_⟩
  unfold eLc
  rw [hit]
  show compR g t e s1.length m FUEL 0 (wipeD r own) (s1 ++ [.lst []]) = _
  rw [e', List.nil_append, List.drop_zero]
/-- parts that leave nothing behind -/
theorem CStep.of {g : Tg} {t : T} {e : E} {r : Env} {s : S} {rr : D → Env} {p : D → Bool} {f : D → D} {x : D}
    (h1 : ∀ s', g x r s' = some (rr x, s')) (h2 : ∀ acc G, t (rr x) (s ++ .lst acc :: G) = .ok (p x) (s ++ .lst acc :: G)) (h3 : p x = true → ∀ acc G, e (rr x) (s ++ .lst acc :: G) = .ok (f x) (s ++ .lst acc :: G)) : CStep g t e r s rr p f x := fun acc G =>
  ⟨[], h1 _, by rw [List.append_nil]; exact h2 acc G, fun hp => ⟨[], by simp only [List.append_nil]; exact h3 hp acc G⟩⟩
theorem ap_iLst {a : E} {r : Env} {s s1 : S} {n : Nat} {xs : List D} (h : a r s = .ok (.ref n) s1) (hn : s1[n]? = some (.lst xs)) : iLst a r s = .ok (.list n) s1 := by
  unfold iLst
  rw [h]
  simp [hn]
theorem ap_iLstF {a : E} {r : Env} {s s1 : S} {xs : List D} (h : a r s = .ok (.frl xs) s1) : iLst a r s = .ok (.items xs) s1 := by
  unfold iLst
  rw [h]
  simp
theorem ap_iTup {a : E} {r : Env} {s s1 : S} {xs : List D} (h : a r s = .ok (.tup xs) s1) : iTup a r s = .ok (.items xs) s1 := by
  unfold iTup
  rw [h]
  simp
@[simp] theorem ap_tYes {r : Env} {s : S} : tYes r s = .ok true s := rfl
@[simp] theorem intsOf_map : ∀ is : List Int, intsOf (is.map D.int) = some is
  | [] => rfl
  | i :: is => by simp [intsOf, intsOf_map is]
/-- what sum takes -/
@[simp] theorem sum_ref {n : Nat} {s : S} : bSum [.ref n] s = match (lstO s[n]?).bind intsOf with | some is => .ok (.int is.sum) s | none => .stk := by
  unfold bSum
  simp only [seqL_ref]
  cases lstO s[n]? with
  | none => rfl
  | some xs =>
    simp only [Option.bind_some]
    all_goals (cases intsOf xs <;> rfl)
@[simp] theorem boolsOf_map : ∀ is : List Bool, boolsOf (is.map D.bl) = some is
  | [] => rfl
  | i :: is => by simp [boolsOf, boolsOf_map is]
@[simp] theorem all_ref {n : Nat} {s : S} : bAll [.ref n] s = match (lstO s[n]?).bind boolsOf with | some is => .ok (.bl (is.all id)) s | none => .stk := by
  unfold bAll
  simp only [seqL_ref]
  cases lstO s[n]? with
  | none => rfl
  | some xs =>
    simp only [Option.bind_some]
    all_goals (cases boolsOf xs <;> rfl)
@[simp] theorem any_ref {n : Nat} {s : S} : bAny [.ref n] s = match (lstO s[n]?).bind boolsOf with | some is => .ok (.bl (is.any id)) s | none => .stk := by
  unfold bAny
  simp only [seqL_ref]
  cases lstO s[n]? with
  | none => rfl
  | some xs =>
    simp only [Option.bind_some]
    all_goals (cases boolsOf xs <;> rfl)
theorem while_out {c : T} {b : Sm} {r : Env} {s : S} {k : Env → S → F} {d : D} (P : Env → S → Prop) (Z : Env → S → Prop) (μ : Env → S → Nat) (h : P r s) (hm : μ r s < 1000000000000)
    (step : ∀ r s, P r s → ∃ k s1, c r s = .ok k s1 ∧ (k = false → Z r s1) ∧ (k = true → ∀ Q : Env → S → Prop, (∀ r2 s2, P r2 s2 → μ r2 s2 < μ r s → Q r2 s2) → Nx Q (b r s1)))
    (fin : ∀ r' s', Z r' s' → ∃ s2, (k r' s').out = .ok d s2) : ∃ s2, ((zWhile c b r s).andThen k).out = .ok d s2 := by
  obtain ⟨r', s', e, z⟩ := zWhile_inv (c := c) (b := b) P Z μ (fun r s hp => by
    obtain ⟨k, s1, e, h1, h2⟩ := step r s hp
    exact ⟨k, s1, e, h1, fun hk => by
      obtain ⟨r2, s2, e2, p2, m2⟩ := h2 hk (fun r2 s2 => P r2 s2 ∧ μ r2 s2 < μ r s) fun _ _ a b => ⟨a, b⟩
      exact ⟨r2, s2, e2, p2, m2⟩⟩) h hm
  rw [e]; exact fin r' s' z
/-- what a run says, checked -/
def isInt (x : Rs D) (i : Int) : Bool := match x with
  | .ok (.int j) _ => j == i
  | _ => false
theorem isInt_sp {x : Rs D} {i : Int} (h : isInt x i = true) : ∃ g, x = .ok (.int i) g := by
  unfold isInt at h
  split at h
  · rename_i j s
    have : j = i := by simpa using h
    exact ⟨s, by rw [this]⟩
  · cases h
theorem told_int {f : Fn} {ds : List D} {i : Int} (hp : D.pureL ds = true) (h : isInt (f ds []) i = true) (s : S) : callK f ds s = .ok (.int i) s := by
  obtain ⟨g, e⟩ := isInt_sp h
  exact callK_val hp e rfl
/-- the last statement of a block -/
theorem for_last {g : Tg} {b : Sm} {xs : List D} {r : Env} {s : S} {Q : Env → S → Prop} (P : Nat → Env → S → Prop) (h0 : P 0 r s)
    (step : ∀ j x r s, xs[j]? = some x → P j r s → ∃ r1 s1, g x r s = some (r1, s1) ∧ ∀ Q : Env → S → Prop, (∀ r s, P (j + 1) r s → Q r s) → Nx Q (b r1 s1))
    (fin : ∀ r' s', P xs.length r' s' → Q r' s') : Nx Q (forM g b xs r s) := by
  obtain ⟨r', s', e, p⟩ := forM_nx P h0 step
  rw [e]; exact Nx_nx (fin r' s' p)
/-! ### dicts by numbers -/
def toKD (p : Int × D) : D × D := (.int p.1, p.2)
def fndK (l : List (Int × D)) (k : Int) : Option D := (l.find? fun p => decide (p.1 = k)).map (·.2)
def putK (l : List (Int × D)) (k : Int) (v : D) : List (Int × D) := if (fndK l k).isSome = true then l.map (fun p => if p.1 = k then (p.1, v) else p) else l ++ [(k, v)]
def mergeK (l more : List (Int × D)) : List (Int × D) := more.foldl (fun acc p => putK acc p.1 p.2) l
theorem fnd_toKD (k : Int) : ∀ l : List (Int × D), fndD (l.map toKD) (.int k) = fndK l k
  | [] => rfl
  | p :: l => by
    have ih := fnd_toKD k l
    unfold fndD fndK at ih ⊢
    rw [List.map_cons, List.find?_cons, List.find?_cons]
    show Option.map _ (match keyEq (.int p.1) (.int k) with | true => some (toKD p) | false => _) = _
    rw [keyEq_int]
    by_cases h : p.1 = k
    · simp [h, toKD]
    · simp only [h, decide_false]
      exact ih
theorem put_toKD (l : List (Int × D)) (k : Int) (v : D) : putD (l.map toKD) (.int k) v = (putK l k v).map toKD := by
  unfold putD putK
  rw [fnd_toKD]
  split
  · rw [List.map_map, List.map_map]
    refine List.map_congr_left fun p _ => ?_
    show (if keyEq (.int p.1) (.int k) = true then _ else _) = _
    rw [keyEq_int]
    by_cases h : p.1 = k
    · simp [h, toKD]
    · simp [h, toKD]
  · simp [toKD]
theorem merge_toKD : ∀ (more l : List (Int × D)), mergeD (l.map toKD) (more.map toKD) = (mergeK l more).map toKD
  | [], l => rfl
  | p :: more, l => by
    show mergeD (putD (l.map toKD) (.int p.1) p.2) (more.map toKD) = _
    rw [put_toKD, merge_toKD more]
    rfl
theorem pairsD_ints : ∀ l : List (Int × D), pairsD (l.map fun p => .tup [.int p.1, p.2]) = some (l.map toKD)
  | [] => rfl
  | p :: l => by
    have ih := pairsD_ints l
    rw [List.map_cons]
    unfold pairsD
    rw [ih]
    rfl
/-- a comprehension over a range, all ints -/
theorem range_comp {i j : Int} (p : D → Bool) (f : D → D) (q : Nat → Bool) (h : Nat → Int) (h1 : ∀ k : Nat, k < (j - i).toNat → p (.int (i + k)) = q k) (h2 : ∀ k : Nat, k < (j - i).toNat → q k = true → f (.int (i + k)) = .int (h k)) :
    ((range2 i j).filter p).map f = (((List.range (j - i).toNat).filter q).map h).map D.int := by
  unfold range2
  generalize (j - i).toNat = n at h1 h2
  have key : ∀ l : List Nat, (∀ k ∈ l, k < n) → ((l.map fun (k : Nat) => D.int (i + k)).filter p).map f = ((l.filter q).map h).map D.int := by
    intro l
    induction l with
    | nil => intro _; rfl
    | cons k l ih =>
      intro hl
      have ih := ih fun x hx => hl x (List.mem_cons_of_mem _ hx)
      have hk := hl k List.mem_cons_self
      rw [List.map_cons, List.filter_cons, List.filter_cons, h1 k hk]
      cases e : q k with
      | false => simpa using ih
      | true =>
        simp only [if_true, List.map_cons]
        rw [h2 k hk e, ih]
  exact key _ fun k hk => List.mem_range.mp hk
end Y

namespace K94
open Y
open PySem (Str)
abbrev b_fits_whole : Sm := YN.b_fits_whole
abbrev D_fits_whole : Fn := YN.D_fits_whole
def b_is_tuple_of : Sm :=
  (zRet (eAnd (e1 (oIsI .tuple) (eV 0)) (eCh oLe oLe (eV 1) (eN bLen (aC (eV 0) aN)) (eV 2))))
def D_is_tuple_of : Fn := mkFn 3 3 b_is_tuple_of
theorem r_is_tuple_of {a0 a1 a2 : D} {s : S} : D_is_tuple_of [a0, a1, a2] s = (b_is_tuple_of [a0, a1, a2] s).out := ap_mkFn rfl
abbrev b_need_whole : Sm := YN.b_need_whole
abbrev D_need_whole : Fn := YN.D_need_whole
def b_factors_in : Sm :=
  (zCons (zPar 1 2 (eLst aN) (eC (.int 2)))
    (zCons (zWhile (tst (e2 oLe (e2 oMul (eV 2) (eV 2)) (eV 0)))
     (zCons (zSet (gV 3) (eC (.int 0)))
    (zCons (zWhile (tst (e2 oEq (e2 oMul (e2 oDiv (eV 0) (eV 2)) (eV 2)) (eV 0)))
     (zPar 0 3 (e2 oDiv (eV 0) (eV 2)) (e2 oAdd (eV 3) (eC (.int 1)))))
    (zCons (zAug 1 oIAdd (eIf (tst (e2 oGt (eV 3) (eC (.int 0)))) (eLst (aC (eTup (aC (eV 2) (aC (eV 3) aN))) aN)) (eLst aN)))
    (zSet (gV 2) (e2 oAdd (eV 2) (eC (.int 1))))))))
    (zRet (e2 oAdd (eV 1) (eIf (tst (e2 oGt (eV 0) (eC (.int 1)))) (eLst (aC (eTup (aC (eV 0) (aC (eC (.int 1)) aN))) aN)) (eLst aN))))))
def D_factors_in : Fn := mkFn 4 1 b_factors_in
theorem r_factors_in {a0 : D} {s : S} : D_factors_in [a0] s = (b_factors_in [a0, .undef, .undef, .undef] s).out := ap_mkFn rfl
abbrev b_root_in : Sm := YN.b_root_in
abbrev D_root_in : Fn := YN.D_root_in
def b_figure_in : Sm :=
  (zRet (e2 oDiv (e2 oSub (e2 oMul (e2 oMul (e2 oSub (eV 0) (eC (.int 2))) (eV 1)) (eV 1)) (e2 oMul (e2 oSub (eV 0) (eC (.int 4))) (eV 1))) (eC (.int 2))))
def D_figure_in : Fn := mkFn 2 2 b_figure_in
theorem r_figure_in {a0 a1 : D} {s : S} : D_figure_in [a0, a1] s = (b_figure_in [a0, a1] s).out := ap_mkFn rfl
def b_place_in : Sm :=
  (zCons (zSet (gV 2) (e2 oAdd (e2 oMul (e2 oMul (eC (.int 8)) (e2 oSub (eV 0) (eC (.int 2)))) (eV 1)) (e2 oMul (e2 oSub (eV 0) (eC (.int 4))) (e2 oSub (eV 0) (eC (.int 4))))))
    (zCons (zSet (gV 3) (eCallK 1 D_root_in (aC (eV 2) aN)))
    (zCons (zSet (gV 4) (e2 oSub (e2 oAdd (eV 3) (eV 0)) (eC (.int 4))))
    (zCons (zSet (gV 5) (e2 oDiv (eV 4) (e2 oMul (eC (.int 2)) (e2 oSub (eV 0) (eC (.int 2))))))
    (zRet (eIf (tAnd (tst (e2 oEq (e2 oMul (eV 3) (eV 3)) (eV 2))) (tAnd (tst (e2 oEq (e2 oMul (e2 oMul (eV 5) (eC (.int 2))) (e2 oSub (eV 0) (eC (.int 2)))) (eV 4))) (tst (e2 oGt (eV 5) (eC (.int 0)))))) (eV 5) (eC .non)))))))
def D_place_in : Fn := mkFn 6 2 b_place_in
theorem r_place_in {a0 a1 : D} {s : S} : D_place_in [a0, a1] s = (b_place_in [a0, a1, .undef, .undef, .undef, .undef] s).out := ap_mkFn rfl
def b_central_in : Sm :=
  (zRet (e2 oAdd (eC (.int 1)) (e2 oDiv (e2 oMul (e2 oMul (eV 0) (eV 1)) (e2 oSub (eV 1) (eC (.int 1)))) (eC (.int 2)))))
def D_central_in : Fn := mkFn 2 2 b_central_in
theorem r_central_in {a0 a1 : D} {s : S} : D_central_in [a0, a1] s = (b_central_in [a0, a1] s).out := ap_mkFn rfl
def b_pentagons_to : Sm :=
  (zCons (zPar 1 2 (eLst aN) (eC (.int 1)))
    (zCons (zWhile (tst (e2 oLe (e2 oDiv (e2 oMul (eV 2) (e2 oSub (e2 oMul (eC (.int 3)) (eV 2)) (eC (.int 1)))) (eC (.int 2))) (eV 0)))
     (zCons (zSet (gV 3) (eIf (tst (e2 oNe (e2 oMul (e2 oDiv (eV 2) (eC (.int 2))) (eC (.int 2))) (eV 2))) (eC (.int 1)) (e1 oNeg (eC (.int 1)))))
    (zCons (zEx (eMe isL mApp (eV 1) (aC (eTup (aC (e2 oDiv (e2 oMul (eV 2) (e2 oSub (e2 oMul (eC (.int 3)) (eV 2)) (eC (.int 1)))) (eC (.int 2))) (aC (eV 3) aN))) aN)))
    (zCons (zEx (eMe isL mApp (eV 1) (aC (eTup (aC (e2 oDiv (e2 oMul (eV 2) (e2 oAdd (e2 oMul (eC (.int 3)) (eV 2)) (eC (.int 1)))) (eC (.int 2))) (aC (eV 3) aN))) aN)))
    (zSet (gV 2) (e2 oAdd (eV 2) (eC (.int 1))))))))
    (zRet (eV 1))))
def D_pentagons_to : Fn := mkFn 4 1 b_pentagons_to
theorem r_pentagons_to {a0 : D} {s : S} : D_pentagons_to [a0] s = (b_pentagons_to [a0, .undef, .undef, .undef] s).out := ap_mkFn rfl
def b_parted_to : Sm :=
  (zCons (zSet (gV 1) (eLst (aC (eC (.int 1)) aN)))
    (zCons (zFor (iRng2 (eC (.int 1)) (e2 oAdd (eV 0) (eC (.int 1)))) (gV 2)
     (zEx (eMe isL mApp (eV 1) (aC (eN bSum (aC (eLc (iLst (eCallK 1 D_pentagons_to (aC (eV 2) aN))) (gT (gsC (gV 3) (gsC (gV 4) gsN))) (tst (e2 oLe (eV 3) (eV 2))) (e2 oMul (eV 4) (e2 oIx (eV 1) (e2 oSub (eV 2) (eV 3)))) [3, 4]) aN)) aN))))
    (zRet (eV 1))))
def D_parted_to : Fn := mkFn 5 1 b_parted_to
theorem r_parted_to {a0 : D} {s : S} : D_parted_to [a0] s = (b_parted_to [a0, .undef, .undef, .undef, .undef] s).out := ap_mkFn rfl
def b_divided_to : Sm :=
  (zCons (zSet (gV 1) (eLst (aC (eC (.int 0)) aN)))
    (zCons (zFor (iRng2 (eC (.int 1)) (e2 oAdd (eV 0) (eC (.int 1)))) (gV 2)
     (zCons (zSet (gV 3) (eLc (iLst (eCallK 1 D_pentagons_to (aC (eV 2) aN))) (gV 4) (tst (e2 oLe (e2 oIx (eV 4) (eC (.int 0))) (eV 2))) (eV 4) [4]))
    (zEx (eMe isL mApp (eV 1) (aC (eN bSum (aC (eLc (iLst (eV 3)) (gT (gsC (gV 5) (gsC (gV 6) gsN))) tYes (e2 oMul (eV 6) (eIf (tst (e2 oLt (eV 5) (eV 2))) (e2 oIx (eV 1) (e2 oSub (eV 2) (eV 5))) (eV 2))) [5, 6]) aN)) aN)))))
    (zRet (eV 1))))
def D_divided_to : Fn := mkFn 7 1 b_divided_to
theorem r_divided_to {a0 : D} {s : S} : D_divided_to [a0] s = (b_divided_to [a0, .undef, .undef, .undef, .undef, .undef, .undef] s).out := ap_mkFn rfl
def b_row_sum : Sm :=
  (zRet (e2 oDiv (e2 oMul (e2 oAdd (eV 0) (eV 1)) (e2 oAdd (e2 oSub (eV 1) (eV 0)) (eC (.int 1)))) (eC (.int 2))))
def D_row_sum : Fn := mkFn 2 2 b_row_sum
theorem r_row_sum {a0 a1 : D} {s : S} : D_row_sum [a0, a1] s = (b_row_sum [a0, a1] s).out := ap_mkFn rfl
def b_rows_in : Sm :=
  (zCons (zPar 1 2 (eLst aN) (eC (.int 1)))
    (zCons (zWhile (tst (e2 oLe (e2 oDiv (e2 oMul (eV 2) (e2 oAdd (eV 2) (eC (.int 1)))) (eC (.int 2))) (eV 0)))
     (zCons (zSet (gV 3) (e2 oSub (eV 0) (e2 oDiv (e2 oMul (eV 2) (e2 oSub (eV 2) (eC (.int 1)))) (eC (.int 2)))))
    (zCons (zIf (tst (e2 oEq (e2 oMul (e2 oDiv (eV 3) (eV 2)) (eV 2)) (eV 3)))
     (zEx (eMe isL mApp (eV 1) (aC (eTup (aC (e2 oDiv (eV 3) (eV 2)) (aC (e2 oSub (e2 oAdd (e2 oDiv (eV 3) (eV 2)) (eV 2)) (eC (.int 1))) aN))) aN)))
     zNil)
    (zSet (gV 2) (e2 oAdd (eV 2) (eC (.int 1)))))))
    (zRet (eN bSortP (aC (eV 1) aN)))))
def D_rows_in : Fn := mkFn 4 1 b_rows_in
theorem r_rows_in {a0 : D} {s : S} : D_rows_in [a0] s = (b_rows_in [a0, .undef, .undef, .undef] s).out := ap_mkFn rfl
def b_need_sides : Sm :=
  (zEx (eCallK 3 D_need_whole (aC (eV 0) (aC (eC (.int 3)) (aC (eC (.int 100)) aN)))))
def D_need_sides : Fn := mkFn 1 1 b_need_sides
theorem r_need_sides {a0 : D} {s : S} : D_need_sides [a0] s = (b_need_sides [a0] s).out := ap_mkFn rfl
def b_figure : Sm :=
  (zCons (zEx (eCallK 1 D_need_sides (aC (eV 0) aN)))
    (zCons (zEx (eCallK 3 D_need_whole (aC (eV 1) (aC (eC (.int 0)) (aC (eC (.int 1000000)) aN)))))
    (zRet (eCallK 2 D_figure_in (aC (eV 0) (aC (eV 1) aN))))))
def D_figure : Fn := mkFn 2 2 b_figure
theorem r_figure {a0 a1 : D} {s : S} : D_figure [a0, a1] s = (b_figure [a0, a1] s).out := ap_mkFn rfl
def b_place_of : Sm :=
  (zCons (zEx (eCallK 1 D_need_sides (aC (eV 0) aN)))
    (zCons (zEx (eCallK 3 D_need_whole (aC (eV 1) (aC (eC (.int 1)) (aC (eC (.int 1000000000000)) aN)))))
    (zRet (eCallK 2 D_place_in (aC (eV 0) (aC (eV 1) aN))))))
def D_place_of : Fn := mkFn 2 2 b_place_of
theorem r_place_of {a0 a1 : D} {s : S} : D_place_of [a0, a1] s = (b_place_of [a0, a1] s).out := ap_mkFn rfl
def b_kinds_of : Sm :=
  (zCons (zEx (eCallK 3 D_need_whole (aC (eV 0) (aC (eC (.int 1)) (aC (eC (.int 1000000000000)) aN)))))
    (zCons (zSet (gV 1) (eLst aN))
    (zCons (zFor (iRng2 (eC (.int 3)) (e2 oAdd (eC (.int 100)) (eC (.int 1)))) (gV 2)
     (zCons (zSet (gV 3) (eCallK 2 D_place_in (aC (eV 2) (aC (eV 0) aN))))
    (zIf (tAnd (tst (e1 oNotN (eV 3))) (tst (e2 oGt (eV 3) (eC (.int 2)))))
     (zEx (eMe isL mApp (eV 1) (aC (eTup (aC (eV 2) (aC (eV 3) aN))) aN)))
     zNil)))
    (zRet (eN bTuple (aC (eV 1) aN))))))
def D_kinds_of : Fn := mkFn 4 1 b_kinds_of
theorem r_kinds_of {a0 : D} {s : S} : D_kinds_of [a0] s = (b_kinds_of [a0, .undef, .undef, .undef] s).out := ap_mkFn rfl
def b_central : Sm :=
  (zCons (zEx (eCallK 1 D_need_sides (aC (eV 0) aN)))
    (zCons (zEx (eCallK 3 D_need_whole (aC (eV 1) (aC (eC (.int 1)) (aC (eC (.int 1000000)) aN)))))
    (zRet (eCallK 2 D_central_in (aC (eV 0) (aC (eV 1) aN))))))
def D_central : Fn := mkFn 2 2 b_central
theorem r_central {a0 a1 : D} {s : S} : D_central [a0, a1] s = (b_central [a0, a1] s).out := ap_mkFn rfl
def b_central_place : Sm :=
  (zCons (zEx (eCallK 1 D_need_sides (aC (eV 0) aN)))
    (zCons (zEx (eCallK 3 D_need_whole (aC (eV 1) (aC (eC (.int 1)) (aC (eC (.int 1000000000000)) aN)))))
    (zCons (zSet (gV 2) (e2 oAdd (e2 oMul (eV 0) (eV 0)) (e2 oMul (e2 oMul (eC (.int 8)) (eV 0)) (e2 oSub (eV 1) (eC (.int 1))))))
    (zCons (zSet (gV 3) (eCallK 1 D_root_in (aC (eV 2) aN)))
    (zCons (zSet (gV 4) (e2 oDiv (e2 oAdd (eV 3) (eV 0)) (e2 oMul (eC (.int 2)) (eV 0))))
    (zRet (eIf (tAnd (tst (e2 oGt (eV 4) (eC (.int 0)))) (tst (e2 oEq (eCallK 2 D_central_in (aC (eV 0) (aC (eV 4) aN))) (eV 1)))) (eV 4) (eC .non))))))))
def D_central_place : Fn := mkFn 5 2 b_central_place
theorem r_central_place {a0 a1 : D} {s : S} : D_central_place [a0, a1] s = (b_central_place [a0, a1, .undef, .undef, .undef] s).out := ap_mkFn rfl
def b_fewest_figures : Sm :=
  (zCons (zEx (eCallK 1 D_need_sides (aC (eV 0) aN)))
    (zCons (zEx (eCallK 3 D_need_whole (aC (eV 1) (aC (eC (.int 1)) (aC (eC (.int 2000)) aN)))))
    (zCons (zSet (gT (gsC (gV 2) (gsC (gV 3) gsN))) (eTup (aC (eLst aN) (aC (e2 oMul (eLst (aC (eC (.int 0)) aN)) (e2 oAdd (eV 1) (eC (.int 1)))) aN))))
    (zCons (zWhile (tst (e2 oLe (eCallK 2 D_figure_in (aC (eV 0) (aC (e2 oAdd (eN bLen (aC (eV 2) aN)) (eC (.int 1))) aN))) (eV 1)))
     (zEx (eMe isL mApp (eV 2) (aC (eCallK 2 D_figure_in (aC (eV 0) (aC (e2 oAdd (eN bLen (aC (eV 2) aN)) (eC (.int 1))) aN))) aN))))
    (zCons (zFor (iRng2 (eC (.int 1)) (e2 oAdd (eV 1) (eC (.int 1)))) (gV 4)
     (zPutL (eV 3) (eV 4) (e2 oAdd (eC (.int 1)) (eN bMinL (aC (eLc (iLst (eV 2)) (gV 5) (tst (e2 oLe (eV 5) (eV 4))) (e2 oIx (eV 3) (e2 oSub (eV 4) (eV 5))) [5]) aN)))))
    (zRet (e2 oIx (eV 3) (eV 1))))))))
def D_fewest_figures : Fn := mkFn 6 2 b_fewest_figures
theorem r_fewest_figures {a0 a1 : D} {s : S} : D_fewest_figures [a0, a1] s = (b_fewest_figures [a0, a1, .undef, .undef, .undef, .undef] s).out := ap_mkFn rfl
def b_rows_with : Sm :=
  (zCons (zEx (eCallK 3 D_need_whole (aC (eV 0) (aC (eC (.int 1)) (aC (eC (.int 1000000)) aN)))))
    (zRet (eN bTuple (aC (eCallK 1 D_rows_in (aC (eV 0) aN)) aN))))
def D_rows_with : Fn := mkFn 1 1 b_rows_with
theorem r_rows_with {a0 : D} {s : S} : D_rows_with [a0] s = (b_rows_with [a0] s).out := ap_mkFn rfl
def b_count_rows : Sm :=
  (zCons (zEx (eCallK 3 D_need_whole (aC (eV 0) (aC (eC (.int 1)) (aC (eC (.int 1000000)) aN)))))
    (zCons (zSet (gV 1) (eC (.int 1)))
    (zCons (zFor (iLst (eCallK 1 D_factors_in (aC (eV 0) aN))) (gT (gsC (gV 2) (gsC (gV 3) gsN)))
     (zSet (gV 1) (e2 oMul (eV 1) (eIf (tst (e2 oGt (eV 2) (eC (.int 2)))) (e2 oAdd (eV 3) (eC (.int 1))) (eC (.int 1))))))
    (zRet (eV 1)))))
def D_count_rows : Fn := mkFn 4 1 b_count_rows
theorem r_count_rows {a0 : D} {s : S} : D_count_rows [a0] s = (b_count_rows [a0, .undef, .undef, .undef] s).out := ap_mkFn rfl
def b_is_row_of : Sm :=
  (zCons (zEx (eCallK 3 D_need_whole (aC (eV 0) (aC (eC (.int 1)) (aC (eC (.int 1000000000000)) aN)))))
    (zCons (zIf (tOr (tNot (tst (eCallK 3 D_is_tuple_of (aC (eV 1) (aC (eC (.int 2)) (aC (eC (.int 2)) aN)))))) (tNot (tst (eN bAll (aC (eLc (iTup (eV 1)) (gV 2) tYes (eCallK 3 D_fits_whole (aC (eV 2) (aC (eC (.int 1)) (aC (eC (.int 1000000000000)) aN)))) [2]) aN)))))
     (zRet (eC (.bl false)))
     zNil)
    (zRet (eAnd (e2 oLe (e2 oIx (eV 1) (eC (.int 0))) (e2 oIx (eV 1) (eC (.int 1)))) (e2 oEq (eCallK 2 D_row_sum (aC (e2 oIx (eV 1) (eC (.int 0))) (aC (e2 oIx (eV 1) (eC (.int 1))) aN))) (eV 0))))))
def D_is_row_of : Fn := mkFn 3 2 b_is_row_of
theorem r_is_row_of {a0 a1 : D} {s : S} : D_is_row_of [a0, a1] s = (b_is_row_of [a0, a1, .undef] s).out := ap_mkFn rfl
def b_pentagon_signs : Sm :=
  (zCons (zEx (eCallK 3 D_need_whole (aC (eV 0) (aC (eC (.int 1)) (aC (eC (.int 1000000)) aN)))))
    (zRet (eN bTuple (aC (eLc (iLst (eCallK 1 D_pentagons_to (aC (eV 0) aN))) (gV 1) (tst (e2 oLe (e2 oIx (eV 1) (eC (.int 0))) (eV 0))) (eV 1) [1]) aN))))
def D_pentagon_signs : Fn := mkFn 2 1 b_pentagon_signs
theorem r_pentagon_signs {a0 : D} {s : S} : D_pentagon_signs [a0] s = (b_pentagon_signs [a0, .undef] s).out := ap_mkFn rfl
def b_ways_to_part : Sm :=
  (zCons (zEx (eCallK 3 D_need_whole (aC (eV 0) (aC (eC (.int 0)) (aC (eC (.int 600)) aN)))))
    (zRet (e2 oIx (eCallK 1 D_parted_to (aC (eV 0) aN)) (eV 0))))
def D_ways_to_part : Fn := mkFn 1 1 b_ways_to_part
theorem r_ways_to_part {a0 : D} {s : S} : D_ways_to_part [a0] s = (b_ways_to_part [a0] s).out := ap_mkFn rfl
def b_divisor_sum : Sm :=
  (zCons (zEx (eCallK 3 D_need_whole (aC (eV 0) (aC (eC (.int 1)) (aC (eC (.int 600)) aN)))))
    (zRet (e2 oIx (eCallK 1 D_divided_to (aC (eV 0) aN)) (eV 0))))
def D_divisor_sum : Fn := mkFn 1 1 b_divisor_sum
theorem r_divisor_sum {a0 : D} {s : S} : D_divisor_sum [a0] s = (b_divisor_sum [a0] s).out := ap_mkFn rfl
def b_pyramid : Sm :=
  (zCons (zEx (eCallK 1 D_need_sides (aC (eV 0) aN)))
    (zCons (zEx (eCallK 3 D_need_whole (aC (eV 1) (aC (eC (.int 0)) (aC (eC (.int 1000000)) aN)))))
    (zRet (e2 oDiv (e2 oMul (e2 oMul (eV 1) (e2 oAdd (eV 1) (eC (.int 1)))) (e2 oSub (e2 oMul (e2 oSub (eV 0) (eC (.int 2))) (eV 1)) (e2 oSub (eV 0) (eC (.int 5))))) (eC (.int 6))))))
def D_pyramid : Fn := mkFn 2 2 b_pyramid
theorem r_pyramid {a0 a1 : D} {s : S} : D_pyramid [a0, a1] s = (b_pyramid [a0, a1] s).out := ap_mkFn rfl
abbrev b__law_cup : Sm := YN.b__law_cup 1759 1867 10423 2077510823 1201
abbrev D__law_cup : Fn := YN.D__law_cup 1759 1867 10423 2077510823 1201
abbrev b__law_roll : Sm := YN.b__law_roll 38253 12717 1785 2285
abbrev D__law_roll : Fn := YN.D__law_roll 38253 12717 1785 2285
abbrev b__law_some : Sm := YN.b_someG D__law_roll
abbrev D__law_some : Fn := YN.D_someG D__law_roll
abbrev b__law_same : Fn → Sm := YN.b__law_same
abbrev D__law_same : Nat → Fn := YN.D__law_same
def b__law_figure : Sm :=
  (zCons (zSet (gT (gsC (gV 2) (gsC (gV 3) gsN))) (eTup (aC (eC (.int 0)) (aC (eC (.int 1)) aN))))
    (zCons (zFor (iRng1 (eV 1)) (gV 4)
     (zPar 2 3 (e2 oAdd (eV 2) (eV 3)) (e2 oSub (e2 oAdd (eV 3) (eV 0)) (eC (.int 2)))))
    (zRet (eV 2))))
def D__law_figure : Fn := mkFn 5 2 b__law_figure
theorem r__law_figure {a0 a1 : D} {s : S} : D__law_figure [a0, a1] s = (b__law_figure [a0, a1, .undef, .undef, .undef] s).out := ap_mkFn rfl
def wfE : Nat → List D → Option Str := fun c fs => if c = 1 ∧ fs.isEmpty = true then some (Str.ofString "number") else none
def b__law_levels : Sm :=
  (zCons (zPar 2 3 (eLst aN) (eC (.int 1)))
    (zCons (zWhile (tst (e2 oLe (eCallK 2 D__law_figure (aC (eV 0) (aC (eV 3) aN))) (eV 1)))
     (zCons (zEx (eMe isL mApp (eV 2) (aC (eCallK 2 D__law_figure (aC (eV 0) (aC (eV 3) aN))) aN)))
    (zSet (gV 3) (e2 oAdd (eV 3) (eC (.int 1))))))
    (zCons (zPar3 4 5 6 (eDisp1 0 0) (eLst (aC (eC (.int 0)) aN)) (eC (.int 0)))
    (zCons (zWhile (tst (e2 oLe (eN bLenD (aC (eV 4) aN)) (eV 1)))
     (zCons (zPar 7 6 (eLst aN) (e2 oAdd (eV 6) (eC (.int 1))))
    (zCons (zFor (iLst (eV 5)) (gV 8)
     (zFor (iLst (eV 2)) (gV 9)
     (zIf (tAnd (tst (e2 oLe (e2 oAdd (eV 8) (eV 9)) (eV 1))) (tst (e2 oDNotIn (e2 oAdd (eV 8) (eV 9)) (eV 4))))
     (zCons (zPutD (eV 4) (e2 oAdd (eV 8) (eV 9)) (eV 6))
    (zEx (eMe isL mApp (eV 7) (aC (e2 oAdd (eV 8) (eV 9)) aN))))
     zNil)))
    (zSet (gV 5) (eV 7)))))
    (zRet (eV 4))))))
def D__law_levels : Fn := mkFn 10 2 b__law_levels
theorem r__law_levels {a0 a1 : D} {s : S} : D__law_levels [a0, a1] s = (b__law_levels [a0, a1, .undef, .undef, .undef, .undef, .undef, .undef, .undef, .undef] s).out := ap_mkFn rfl
def tb1 : Nat → Option Fn
  | 20 => some D_rows_with
  | 21 => some D_count_rows
  | 23 => some D_pentagon_signs
  | 24 => some D_ways_to_part
  | 25 => some D_divisor_sum
  | _ => none
def tb2 : Nat → Option Fn
  | 14 => some D_figure
  | 15 => some D_place_of
  | 17 => some D_central
  | 18 => some D_central_place
  | 19 => some D_fewest_figures
  | 26 => some D_pyramid
  | _ => none
def b_law : Sm :=
  (zCons (zSet (gV 1) (eCallK 1 D__law_cup (aC (eV 0) aN)))
    (zCons (zFor (iRng1 (eC (.int 2))) (gV 2)
     (zCons (zPar 3 4 (e2 oAdd (eC (.int 3)) (eCallK 2 D__law_roll (aC (eV 1) (aC (eCallK 2 D__law_some (aC (eV 1) (aC (eLst (aC (eC (.int 5)) (aC (eC (.int 98)) aN))) aN))) aN)))) (e2 oAdd (eC (.int 30)) (eCallK 2 D__law_roll (aC (eV 1) (aC (eC (.int 170)) aN)))))
    (zCons (zSet (gV 5) (eCallK 2 D__law_levels (aC (eV 3) (aC (eV 4) aN))))
    (zCons (zIf (tst (e2 oGt (eN bMaxL (aC (e1 oListVals (eV 5)) aN)) (eV 3)))
     (zRet (eC (.bl false)))
     zNil)
    (zFor (iTup (eTup (aC (eC (.int 1)) (aC (eV 4) (aC (e2 oAdd (eC (.int 1)) (eCallK 2 D__law_roll (aC (eV 1) (aC (eV 4) aN)))) (aC (e2 oAdd (eC (.int 1)) (eCallK 2 D__law_roll (aC (eV 1) (aC (eV 4) aN)))) (aC (eN bMin2 (aC (eV 4) (aC (e2 oSub (e2 oMul (eC (.int 2)) (eV 3)) (eC (.int 1))) aN))) aN))))))) (gV 6)
     (zIf (tNot (tst (eCallK 2 (D__law_same 10) (aC (eCallK 2 D_fewest_figures (aC (eV 3) (aC (eV 6) aN))) (aC (e2 oDIx (eV 5) (eV 6)) aN)))))
     (zRet (eC (.bl false)))
     zNil))))))
    (zCons (zSet (gV 7) (e2 oAdd (eLc (iTup (eTup (aC (eC (.int 7)) (aC (eC (.int 1999)) (aC (eC (.int 2000)) (aC (eC (.int 1936)) aN)))))) (gV 6) tYes (eCallK 2 D_fewest_figures (aC (eC (.int 4)) (aC (eV 6) aN))) [6]) (eLst (aC (eCallK 2 D_fewest_figures (aC (eC (.int 3)) (aC (eC (.int 2000)) aN))) (aC (eCallK 2 D_fewest_figures (aC (eC (.int 100)) (aC (eC (.int 199)) aN))) aN)))))
    (zCons (zIf (tNot (tst (eCallK 2 (D__law_same 10) (aC (eV 7) (aC (eLst (aC (eC (.int 4)) (aC (eC (.int 4)) (aC (eC (.int 2)) (aC (eC (.int 1)) (aC (eC (.int 3)) (aC (eC (.int 100)) aN))))))) aN)))))
     (zRet (eC (.bl false)))
     zNil)
    (zCons (zSet (gT (gsC (gV 8) (gsC (gV 9) gsN))) (eTup (aC (eCall 2 D__law_some (aC (eV 1) (aC (eLst (aC (eC .non) (aC (eC (.str (Str.ofString "odd"))) (aC (eLst aN) (aC (eC (.str (Str.ofString ""))) (aC (eTup (aC (eC .non) aN)) aN)))))) aN))) (aC (eLst aN) aN))))
    (zCons (zFor (iTup (eTup (aC (eC .non) (aC (eC (.int 2)) (aC (eC (.int 101)) (aC (eC (.bl true)) (aC (eC (.str (Str.ofString "3"))) (aC (eTup (aC (eC (.int 3)) aN)) aN)))))))) (gV 10)
     (zSet (gV 9) (e2 oAdd (eV 9) (eLc (iTup (eTup (aC (eC (.fn 14)) (aC (eC (.fn 15)) (aC (eC (.fn 26)) (aC (eC (.fn 17)) (aC (eC (.fn 18)) (aC (eC (.fn 19)) aN)))))))) (gV 11) tYes (eLam (errH wfE) (eCallV 11 2 tb2 (aC (eV 10) (aC (eV 8) aN)))) [11]))))
    (zCons (zFor (iTup (eTup (aC (eC .non) (aC (e1 oNeg (eC (.int 1))) (aC (eC (.int 1000001)) (aC (eC (.bl true)) (aC (eC (.str (Str.ofString "3"))) (aC (eTup (aC (eC (.int 3)) aN)) aN)))))))) (gV 10)
     (zCons (zSet (gV 9) (e2 oAdd (eV 9) (eLc (iTup (eTup (aC (eC (.fn 14)) (aC (eC (.fn 26)) (aC (eC (.fn 17)) aN))))) (gV 11) tYes (eLam (errH wfE) (eCallV 11 2 tb2 (aC (eC (.int 3)) (aC (eV 10) aN)))) [11])))
    (zEx (eMe isL mApp (eV 9) (aC (eLam (errH wfE) (eCallK 1 D_ways_to_part (aC (eIf (tst (e2 oEq (eV 10) (eC (.int 1000001)))) (eC (.int 601)) (eV 10)) aN))) aN)))))
    (zCons (zFor (iTup (eTup (aC (eC .non) (aC (eC (.int 0)) (aC (e2 oAdd (e2 oPow (eC (.int 10)) (eC (.int 12))) (eC (.int 1))) (aC (eC (.bl true)) (aC (eC (.str (Str.ofString "3"))) (aC (eTup (aC (eC (.int 3)) aN)) aN)))))))) (gV 10)
     (zCons (zSet (gV 9) (e2 oAdd (eV 9) (eLc (iTup (eTup (aC (eC (.fn 15)) (aC (eC (.fn 18)) aN)))) (gV 11) tYes (eLam (errH wfE) (eCallV 11 2 tb2 (aC (eC (.int 3)) (aC (eV 10) aN)))) [11])))
    (zCons (zEx (eMe isL mApp (eV 9) (aC (eLam (errH wfE) (eCallK 1 D_kinds_of (aC (eV 10) aN))) aN)))
    (zEx (eMe isL mApp (eV 9) (aC (eLam (errH wfE) (eCallK 2 D_is_row_of (aC (eV 10) (aC (eV 8) aN)))) aN))))))
    (zCons (zFor (iTup (eTup (aC (eC .non) (aC (eC (.int 0)) (aC (eC (.int 1000001)) (aC (eC (.bl true)) (aC (eC (.str (Str.ofString "3"))) (aC (eTup (aC (eC (.int 3)) aN)) aN)))))))) (gV 10)
     (zCons (zSet (gV 9) (e2 oAdd (eV 9) (eLc (iTup (eTup (aC (eC (.fn 20)) (aC (eC (.fn 21)) (aC (eC (.fn 23)) aN))))) (gV 11) tYes (eLam (errH wfE) (eCallV 11 1 tb1 (aC (eV 10) aN))) [11])))
    (zCons (zEx (eMe isL mApp (eV 9) (aC (eLam (errH wfE) (eCallK 1 D_divisor_sum (aC (eIf (tst (e2 oEq (eV 10) (eC (.int 1000001)))) (eC (.int 601)) (eV 10)) aN))) aN)))
    (zEx (eMe isL mApp (eV 9) (aC (eLam (errH wfE) (eCallK 2 D_fewest_figures (aC (eC (.int 3)) (aC (eIf (tst (e2 oEq (eV 10) (eC (.int 1000001)))) (eC (.int 2001)) (eV 10)) aN)))) aN))))))
    (zCons (zEx (eMe isL mApp (eV 9) (aC (eLam (errH wfE) (eCallK 2 D_central (aC (eC (.int 3)) (aC (eC (.int 0)) aN)))) aN)))
    (zCons (zIf (tst (e2 oNe (eV 9) (e2 oMul (eLst (aC (eC (.str (Str.ofString "number"))) aN)) (e2 oAdd (e2 oAdd (e2 oAdd (e2 oAdd (eC (.int 36)) (eC (.int 24))) (eC (.int 24))) (eC (.int 30))) (eC (.int 1))))))
     (zRet (eC (.bl false)))
     zNil)
    (zCons (zSet (gV 9) (eLc (iTup (eTup (aC (eC (.fn 14)) (aC (eC (.fn 26)) (aC (eC (.fn 17)) aN))))) (gV 11) tYes (eLam (errH wfE) (eCallV 11 2 tb2 (aC (eC (.int 100)) (aC (eC (.int 1000000)) aN)))) [11]))
    (zCons (zSet (gV 9) (e2 oAdd (eV 9) (eLc (iTup (eTup (aC (eC (.fn 15)) (aC (eC (.fn 18)) aN)))) (gV 11) tYes (eLam (errH wfE) (eCallV 11 2 tb2 (aC (eC (.int 100)) (aC (e2 oPow (eC (.int 10)) (eC (.int 12))) aN)))) [11])))
    (zCons (zSet (gV 9) (e2 oAdd (eV 9) (eLc (iTup (eTup (aC (eC (.fn 20)) (aC (eC (.fn 21)) (aC (eC (.fn 23)) aN))))) (gV 11) tYes (eLam (errH wfE) (eCallV 11 1 tb1 (aC (eC (.int 1000000)) aN))) [11])))
    (zRet (e2 oEq (e2 oAdd (eV 9) (eLc (iTup (eTup (aC (eC (.fn 24)) (aC (eC (.fn 25)) aN)))) (gV 11) tYes (eLam (errH wfE) (eCallV 11 1 tb1 (aC (eC (.int 600)) aN))) [11])) (e2 oMul (eLst (aC (eC (.str (Str.ofString ""))) aN)) (eC (.int 10)))))))))))))))))))
def D_law : Fn := mkFn 12 1 b_law
theorem r_law {a0 : D} {s : S} : D_law [a0] s = (b_law [a0, .undef, .undef, .undef, .undef, .undef, .undef, .undef, .undef, .undef, .undef, .undef] s).out := ap_mkFn rfl
end K94

namespace K94
open Y YN
open PySem (Str PyData)
theorem even_nn (n : Int) : ∃ t, n * (n - 1) = 2 * t := by
  obtain ⟨q, h⟩ : ∃ q, n = 2 * q ∨ n = 2 * q + 1 := ⟨n / 2, by omega⟩
  rcases h with rfl | rfl
  · exact ⟨q * (2 * q - 1), by grind⟩
  · exact ⟨(2 * q + 1) * q, by grind⟩
/-- a figure -/
def F (s n : Int) : Int := ((s - 2) * n * n - (s - 4) * n) / 2
theorem F2 (s n : Int) : 2 * F s n = (s - 2) * n * n - (s - 4) * n := by
  obtain ⟨t, ht⟩ := even_nn n
  have h : (s - 2) * n * n - (s - 4) * n = 2 * ((s - 2) * t + n) := by grind
  unfold F
  omega
theorem F_succ (s n : Int) : F s (n + 1) = F s n + (1 + n * (s - 2)) := by
  have a := F2 s n
  have b := F2 s (n + 1)
  have : 2 * F s (n + 1) = 2 * (F s n + (1 + n * (s - 2))) := by grind
  omega
theorem F_0 (s : Int) : F s 0 = 0 := by have := F2 s 0; simp at this; omega
theorem F_gap {s k m : Int} (hs : 3 ≤ s) (hk : 0 ≤ k) (h : k < m) : F s k + (m - k) ≤ F s m := by
  have h1 : 2 * (F s m - F s k) = (s - 2) * ((m - k) * (m + k - 1)) + 2 * (m - k) := by
    have a := F2 s m
    have b := F2 s k
    grind
  have h2 : 0 ≤ (s - 2) * ((m - k) * (m + k - 1)) := Int.mul_nonneg (by omega) (Int.mul_nonneg (by omega) (by omega))
  omega
theorem F_ge {s n : Int} (hs : 3 ≤ s) (hn : 0 ≤ n) : n ≤ F s n := by
  by_cases h : n = 0
  · rw [h, F_0]; omega
  · have := F_gap hs (Int.le_refl 0) (show 0 < n by omega)
    rw [F_0] at this; omega
theorem F_inj {s k m : Int} (hs : 3 ≤ s) (hk : 0 ≤ k) (hm : 0 ≤ m) (h : F s k = F s m) : k = m := by
  rcases Int.lt_trichotomy k m with h1 | h1 | h1
  · have := F_gap hs hk h1; omega
  · exact h1
  · have := F_gap hs hm h1; omega
theorem F_up {s n : Int} (hs : s ≤ 101) (hs3 : 3 ≤ s) (h0 : 0 ≤ n) (hn : n ≤ 1000000) : F s n ≤ 49500500000000 := by
  have h1 := F2 s n
  have h2 : (s - 2) * n * n - (s - 4) * n = (s - 2) * (n * (n - 1)) + 2 * n := by grind
  by_cases h : n = 0
  · rw [h, F_0]; omega
  have h3 : n * (n - 1) ≤ 1000000 * 1000000 := Int.mul_le_mul hn (by omega) (by omega) (by omega)
  have h4 : (s - 2) * (n * (n - 1)) ≤ 99 * (1000000 * 1000000) := Int.mul_le_mul (by omega) h3 (Int.mul_nonneg (by omega) (by omega)) (by omega)
  omega
/-- the place told -/
def cIn (s N : Int) : Int := 8 * (s - 2) * N + (s - 4) * (s - 4)
def pC (s N : Int) : Int := (isq (cIn s N) + s - 4) / (2 * (s - 2))
def pl (s N : Int) : D := if isq (cIn s N) * isq (cIn s N) = cIn s N ∧ pC s N * 2 * (s - 2) = isq (cIn s N) + s - 4 ∧ 0 < pC s N then .int (pC s N) else .non
theorem cIn_F (s n : Int) : cIn s (F s n) = (2 * (s - 2) * n - (s - 4)) * (2 * (s - 2) * n - (s - 4)) := by
  have a := F2 s n
  unfold cIn
  grind
theorem pl_F {s n : Int} (hs : 3 ≤ s) (hn : 1 ≤ n) : pl s (F s n) = .int n := by
  have h1 : 0 ≤ (s - 2) * (n - 1) := Int.mul_nonneg (by omega) (by omega)
  have h2 : 2 * (s - 2) * n - (s - 4) = 2 * ((s - 2) * (n - 1)) + s := by grind
  have hr : isq (cIn s (F s n)) = 2 * (s - 2) * n - (s - 4) := by rw [cIn_F]; exact isq_sq (by omega)
  have hp : pC s (F s n) = n := by
    unfold pC
    rw [hr, show 2 * (s - 2) * n - (s - 4) + s - 4 = n * (2 * (s - 2)) by grind]
    exact Int.mul_ediv_cancel _ (by omega)
  unfold pl
  rw [hp, hr, if_pos ⟨(cIn_F s n).symm, by grind, by omega⟩]
theorem pl_int {s N n : Int} (hs : 3 ≤ s) (h : pl s N = .int n) : 1 ≤ n ∧ F s n = N := by
  unfold pl at h
  split at h
  · rename_i hh
    obtain ⟨h1, h2, h3⟩ := hh
    injection h with h
    rw [h] at h2 h3
    refine ⟨by omega, ?_⟩
    have a := F2 s n
    have e : isq (cIn s N) = 2 * (s - 2) * n - (s - 4) := by grind
    rw [e] at h1
    unfold cIn at h1
    have : (8 * (s - 2)) * F s n = (8 * (s - 2)) * N := by grind
    exact Int.eq_of_mul_eq_mul_left (by omega) this
  · cases h
theorem pl_or (s N : Int) : pl s N = .non ∨ ∃ n, pl s N = .int n := by
  unfold pl; split
  · exact .inr ⟨_, rfl⟩
  · exact .inl rfl
theorem pl_non {s N : Int} (hs : 3 ≤ s) (h : ∀ n, 1 ≤ n → F s n ≠ N) : pl s N = .non := by
  rcases pl_or s N with e | ⟨n, e⟩
  · exact e
  · exact absurd (pl_int hs e).2 (h n (pl_int hs e).1)
/-- what a search upward says of it -/
theorem pl_look {s N m : Int} (hs : 3 ≤ s) (h1 : 1 ≤ m) (h2 : ¬ F s m < N) (h3 : ∀ k, 1 ≤ k → k < m → F s k < N) : pl s N = if F s m = N then .int m else .non := by
  split
  · rename_i e; rw [← e]; exact pl_F hs h1
  · rename_i e
    refine pl_non hs fun n hn => ?_
    by_cases hk : n < m
    · have := h3 n hn hk; omega
    · by_cases e2 : n = m
      · rw [e2]; exact e
      · have := F_gap hs (show 0 ≤ m by omega) (show m < n by omega); omega
/-- a ring of rings -/
def C (s p : Int) : Int := 1 + s * p * (p - 1) / 2
theorem C2 (s p : Int) : 2 * (C s p - 1) = s * p * (p - 1) := by
  obtain ⟨t, ht⟩ := even_nn p
  have h : s * p * (p - 1) = 2 * (s * t) := by grind
  unfold C
  omega
theorem C_ring (s p : Int) : 1 + s * (p * (p - 1) / 2) = C s p := by
  obtain ⟨t, ht⟩ := even_nn p
  have := C2 s p
  have h : s * p * (p - 1) = 2 * (s * t) := by grind
  rw [ht, Int.mul_ediv_cancel_left _ (by decide)]
  omega
def cPl (s N : Int) : Int := (isq (s * s + 8 * s * (N - 1)) + s) / (2 * s)
def cp (s N : Int) : D := if 0 < cPl s N ∧ C s (cPl s N) = N then .int (cPl s N) else .non
theorem cPl_C {s p : Int} (hs : 3 ≤ s) (hp : 1 ≤ p) : cPl s (C s p) = p := by
  have a := C2 s p
  have e : s * s + 8 * s * (C s p - 1) = (s * (2 * p - 1)) * (s * (2 * p - 1)) := by grind
  unfold cPl
  rw [e, isq_sq (Int.mul_nonneg (by omega) (by omega)), show s * (2 * p - 1) + s = p * (2 * s) by grind]
  exact Int.mul_ediv_cancel _ (by omega)
theorem cp_C {s p : Int} (hs : 3 ≤ s) (hp : 1 ≤ p) : cp s (C s p) = .int p := by
  unfold cp; rw [cPl_C hs hp, if_pos ⟨by omega, rfl⟩]
theorem C_gap {s k m : Int} (hs : 3 ≤ s) (hk : 1 ≤ k) (h : k < m) : C s k + (m - k) ≤ C s m := by
  have h1 : 2 * (C s m - C s k) = s * ((m - k) * (m + k - 1)) := by
    have a := C2 s m
    have b := C2 s k
    grind
  have h2 : 2 * ((m - k) * 1) ≤ s * ((m - k) * (m + k - 1)) := Int.mul_le_mul (by omega) (Int.mul_le_mul (Int.le_refl _) (by omega) (by omega) (by omega)) (by omega) (by omega)
  omega
theorem C_1 (s : Int) : C s 1 = 1 := by have := C2 s 1; simp at this; omega
theorem C_ge {s n : Int} (hs : 3 ≤ s) (hn : 1 ≤ n) : n ≤ C s n := by
  by_cases h : n = 1
  · rw [h, C_1]; omega
  · have := C_gap hs (Int.le_refl 1) (show 1 < n by omega)
    rw [C_1] at this; omega
theorem cp_look {s N m : Int} (hs : 3 ≤ s) (h1 : 1 ≤ m) (h2 : ¬ C s m < N) (h3 : ∀ k, 1 ≤ k → k < m → C s k < N) : cp s N = if C s m = N then .int m else .non := by
  split
  · rename_i e; rw [← e]; exact cp_C hs h1
  · rename_i e
    unfold cp
    rw [if_neg]
    rintro ⟨n1, n2⟩
    by_cases hk : cPl s N < m
    · have := h3 _ (by omega) hk; omega
    · by_cases e2 : cPl s N = m
      · rw [e2] at n2; exact e n2
      · have := C_gap hs (show 1 ≤ m by omega) (show m < cPl s N by omega); omega
def Py (s n : Int) : Int := n * (n + 1) * ((s - 2) * n - (s - 5)) / 6
/-- a sum of figures -/
def Sg (s : Int) : Nat → Int
  | 0 => 0
  | n + 1 => Sg s n + F s (n + 1)
theorem Sg6 (s : Int) : ∀ n : Nat, 6 * Sg s n = (n : Int) * (n + 1) * ((s - 2) * n - (s - 5))
  | 0 => by simp [Sg]
  | n + 1 => by
    have a := Sg6 s n
    have b := F2 s (n + 1)
    unfold Sg
    have : ((n + 1 : Nat) : Int) = (n : Int) + 1 := by omega
    rw [this]
    generalize (n : Int) = x at *
    grind
theorem Py_Sg (s : Int) (n : Nat) : Py s n = Sg s n := by
  have := Sg6 s n
  unfold Py
  omega
end K94

namespace K94
open Y YN
open PySem (Str PyData)
theorem mul_le3 {a b c x y z : Int} (ha : 0 ≤ a) (hb : 0 ≤ b) (hc : 0 ≤ c) (h1 : a ≤ x) (h2 : b ≤ y) (h3 : c ≤ z) : 0 ≤ a * b * c ∧ a * b * c ≤ x * y * z :=
  ⟨Int.mul_nonneg (Int.mul_nonneg ha hb) hc, Int.mul_le_mul (Int.mul_le_mul h1 h2 hb (by omega)) h3 hc (Int.mul_nonneg (by omega) (by omega))⟩
theorem figure_in_k {s n : Int} {st : S} (hs : 3 ≤ s) (hs2 : s ≤ 101) (h0 : 0 ≤ n) (hn : n ≤ 1000000) : callK D_figure_in [.int s, .int n] st = .ok (.int (F s n)) st := by
  refine callK_val rfl (g := []) ?_ rfl
  rw [r_figure_in]
  unfold b_figure_in
  have m1 := fun i st => v_mul64r (i := i) (j := n) (s := st) (by omega)
  have d2 := fun i st => v_div64 (i := i) (j := 2) (s := st) (by decide) (by decide)
  simp [m1, d2, F]
theorem need_sides_k {s : Int} {st : S} (hs : 3 ≤ s) (hs2 : s ≤ 100) : callK D_need_sides [.int s] st = .ok .non st := by
  refine callK_val rfl (g := []) ?_ rfl
  rw [r_need_sides]
  unfold b_need_sides
  simp [need_whole_k hs hs2]
theorem figure_k {s n : Int} {st : S} (hs : 3 ≤ s) (hs2 : s ≤ 100) (h0 : 0 ≤ n) (hn : n ≤ 1000000) : callK D_figure [.int s, .int n] st = .ok (.int (F s n)) st := by
  refine callK_val rfl (g := []) ?_ rfl
  rw [r_figure]
  unfold b_figure
  simp [need_sides_k hs hs2, need_whole_k h0 hn, figure_in_k hs (show s ≤ 101 by omega) h0 hn]
theorem place_in_k {s N : Int} {st : S} (hs : 3 ≤ s) (hs2 : s ≤ 100) (h0 : 0 ≤ N) (hn : N ≤ 10000000000000) : callK D_place_in [.int s, .int N] st = .ok (pl s N) st := by
  have hpp : (pl s N).pure = true := by rcases pl_or s N with e | ⟨n, e⟩ <;> rw [e] <;> rfl
  refine callK_val rfl (g := []) ?_ hpp
  rw [r_place_in]
  unfold b_place_in
  have m1 := fun j st => v_mul64 (i := 8) (j := j) (s := st) (by decide)
  have m2 := fun st => v_mul64r (i := 8 * (s - 2)) (j := N) (s := st) (by omega)
  have m3 := fun st => v_mul64 (i := s - 4) (j := s - 4) (s := st) (by omega)
  have m4 := fun j st => v_mul64 (i := 2) (j := j) (s := st) (by decide)
  have p1 : 0 ≤ (s - 2) * N := Int.mul_nonneg (by omega) h0
  have p2 : (s - 2) * N ≤ 98 * 10000000000000 := Int.mul_le_mul (by omega) hn h0 (by decide)
  have p3 : 8 * (s - 2) * N = 8 * ((s - 2) * N) := Int.mul_assoc ..
  have q1 : (s - 4) * (s - 4) = (s - 3) * (s - 5) + 1 := by grind
  have q2 : 0 ≤ (s - 4) * (s - 4) := by
    rcases Int.le_total (s - 4) 0 with h | h
    · exact Int.mul_nonneg_of_nonpos_of_nonpos h h
    · exact Int.mul_nonneg h h
  have q3 : (s - 4) * (s - 4) ≤ 10000 := by
    by_cases h : s = 3
    · subst h; decide
    · have := Int.mul_le_mul (show s - 4 ≤ 96 by omega) (show s - 4 ≤ 96 by omega) (by omega) (by decide); omega
  have b0 := B0_big
  have hc : 8 * (s - 2) * N + (s - 4) * (s - 4) = cIn s N := rfl
  have rt := fun st => root_in_k (n := cIn s N) (s := st) (by omega) (by omega)
  obtain ⟨i1, i2, i3⟩ := isq_spec (show 0 ≤ cIn s N by omega)
  have i4 : isq (cIn s N) < 1000000000 := sq_lt i1 (by omega) (by omega)
  have hdiv := fun st => v_div64 (i := isq (cIn s N) + s - 4) (j := 2 * (s - 2)) (s := st) (by omega) (by omega)
  have hpc : (isq (cIn s N) + s - 4) / (2 * (s - 2)) = pC s N := rfl
  have m5 := fun st => v_mul64 (i := isq (cIn s N)) (j := isq (cIn s N)) (s := st) (by omega)
  have m6 := fun st => v_mul64r (i := pC s N) (j := 2) (s := st) (by decide)
  have m7 := fun st => v_mul64r (i := pC s N * 2) (j := s - 2) (s := st) (by omega)
  unfold pl
  by_cases c1 : isq (cIn s N) * isq (cIn s N) = cIn s N <;> by_cases c2 : pC s N * 2 * (s - 2) = isq (cIn s N) + s - 4 <;> by_cases c3 : 0 < pC s N <;> simp [m1, m2, m3, m4, hc, rt, hdiv, hpc, m5, m6, m7, c1, c2, c3]
theorem place_of_k {s N : Int} {st : S} (hs : 3 ≤ s) (hs2 : s ≤ 100) (h0 : 1 ≤ N) (hn : N ≤ 1000000000000) : callK D_place_of [.int s, .int N] st = .ok (pl s N) st := by
  have hpp : (pl s N).pure = true := by rcases pl_or s N with e | ⟨n, e⟩ <;> rw [e] <;> rfl
  refine callK_val rfl (g := []) ?_ hpp
  rw [r_place_of]
  unfold b_place_of
  simp [need_sides_k hs hs2, need_whole_k h0 hn, place_in_k hs hs2 (show 0 ≤ N by omega) (show N ≤ 10000000000000 by omega)]
theorem central_in_k {s p : Int} {st : S} (hs : 0 ≤ s) (hs2 : s ≤ 100) (h0 : 0 ≤ p) (hn : p ≤ 1000000000000) : callK D_central_in [.int s, .int p] st = .ok (.int (C s p)) st := by
  refine callK_val rfl (g := []) ?_ rfl
  rw [r_central_in]
  unfold b_central_in
  have m1 := fun st => v_mul64 (i := s) (j := p) (s := st) (by omega)
  have m2 := fun i st => v_mul64r (i := i) (j := p - 1) (s := st) (by omega)
  have d2 := fun i st => v_div64 (i := i) (j := 2) (s := st) (by decide) (by decide)
  simp [m1, m2, d2, C]
theorem central_k {s p : Int} {st : S} (hs : 3 ≤ s) (hs2 : s ≤ 100) (h0 : 1 ≤ p) (hn : p ≤ 1000000) : callK D_central [.int s, .int p] st = .ok (.int (C s p)) st := by
  refine callK_val rfl (g := []) ?_ rfl
  rw [r_central]
  unfold b_central
  simp [need_sides_k hs hs2, need_whole_k h0 hn, central_in_k (show 0 ≤ s by omega) hs2 (show 0 ≤ p by omega) (show p ≤ 1000000000000 by omega)]
theorem cp_or (s N : Int) : cp s N = .non ∨ ∃ n, cp s N = .int n := by
  unfold cp; split
  · exact .inr ⟨_, rfl⟩
  · exact .inl rfl
theorem central_place_k {s N : Int} {st : S} (hs : 3 ≤ s) (hs2 : s ≤ 100) (h0 : 1 ≤ N) (hn : N ≤ 1000000000000) : callK D_central_place [.int s, .int N] st = .ok (cp s N) st := by
  have hpp : (cp s N).pure = true := by rcases cp_or s N with e | ⟨n, e⟩ <;> rw [e] <;> rfl
  refine callK_val rfl (g := []) ?_ hpp
  rw [r_central_place]
  unfold b_central_place
  have m1 := fun j st => v_mul64 (i := 8) (j := j) (s := st) (by decide)
  have m2 := fun st => v_mul64 (i := s) (j := s) (s := st) (by omega)
  have m3 := fun st => v_mul64r (i := 8 * s) (j := N - 1) (s := st) (by omega)
  have m4 := fun j st => v_mul64 (i := 2) (j := j) (s := st) (by decide)
  have p1 : 0 ≤ s * (N - 1) := Int.mul_nonneg (by omega) (by omega)
  have p2 : s * (N - 1) ≤ 100 * 1000000000000 := Int.mul_le_mul (by omega) (by omega) (by omega) (by decide)
  have p3 : 8 * s * (N - 1) = 8 * (s * (N - 1)) := Int.mul_assoc ..
  have q1 : 0 ≤ s * s := Int.mul_nonneg (by omega) (by omega)
  have q2 : s * s ≤ 100 * 100 := Int.mul_le_mul hs2 hs2 (by omega) (by decide)
  have b0 := B0_big
  have rt := fun st => root_in_k (n := s * s + 8 * s * (N - 1)) (s := st) (by omega) (by omega)
  obtain ⟨i1, i2, i3⟩ := isq_spec (show 0 ≤ s * s + 8 * s * (N - 1) by omega)
  have i4 : isq (s * s + 8 * s * (N - 1)) < 1000000000 := sq_lt i1 (by omega) (by omega)
  have hdiv := fun st => v_div64 (i := isq (s * s + 8 * s * (N - 1)) + s) (j := 2 * s) (s := st) (by omega) (by omega)
  have hpc : (isq (s * s + 8 * s * (N - 1)) + s) / (2 * s) = cPl s N := rfl
  have hu : cPl s N ≤ 1000000000000 := by
    have : cPl s N ≤ isq (s * s + 8 * s * (N - 1)) + s := Int.ediv_le_self _ (by omega)
    omega
  unfold cp
  by_cases c1 : 0 < cPl s N
  · have ck := fun st => central_in_k (s := s) (p := cPl s N) (st := st) (by omega) hs2 (by omega) hu
    by_cases c2 : C s (cPl s N) = N <;> simp [need_sides_k hs hs2, need_whole_k h0 hn, m1, m2, m3, m4, rt, hdiv, hpc, c1, c2, ck]
  · simp [need_sides_k hs hs2, need_whole_k h0 hn, m1, m2, m3, m4, rt, hdiv, hpc, c1]
theorem pyramid_k {s n : Int} {st : S} (hs : 3 ≤ s) (hs2 : s ≤ 100) (h0 : 0 ≤ n) (hn : n ≤ 1000000) : callK D_pyramid [.int s, .int n] st = .ok (.int (Py s n)) st := by
  refine callK_val rfl (g := []) ?_ rfl
  rw [r_pyramid]
  unfold b_pyramid
  have m1 := fun j st => v_mul64 (i := n) (j := j) (s := st) (by omega)
  have m2 := fun i st => v_mul64r (i := i) (j := n) (s := st) (by omega)
  have p1 : 0 ≤ (s - 2) * n := Int.mul_nonneg (by omega) h0
  have p2 : (s - 2) * n ≤ 98 * 1000000 := Int.mul_le_mul (by omega) hn h0 (by decide)
  have m3 := fun i st => v_mul64r (i := i) (j := (s - 2) * n - (s - 5)) (s := st) (by omega)
  have d2 := fun i st => v_div64 (i := i) (j := 6) (s := st) (by decide) (by decide)
  simp [need_sides_k hs hs2, need_whole_k h0 hn, m1, m2, m3, d2, Py]
theorem law_figure_k {s n : Int} {st : S} (hs : 3 ≤ s) (hs2 : s ≤ 101) (h0 : 0 ≤ n) (hn : n ≤ 1000000) : callK D__law_figure [.int s, .int n] st = .ok (.int (F s n)) st := by
  refine callK_val rfl (g := []) ?_ rfl
  rw [r__law_figure]
  unfold b__law_figure
  obtain ⟨r', s', e, x, rfl, rfl⟩ := forM_nx (g := gV 4) (b := zPar 2 3 (e2 oAdd (eV 2) (eV 3)) (e2 oSub (e2 oAdd (eV 3) (eV 0)) (eC (.int 2)))) (fun i r t => ∃ x, r = [.int s, .int n, .int (F s i), .int (1 + i * (s - 2)), x] ∧ t = []) (xs := range2 0 n) (r := [.int s, .int n, .int 0, .int 1, .undef]) (s := []) ⟨.undef, by simp [F_0], rfl⟩ (by
    rintro j x r t hx ⟨y, rfl, rfl⟩
    refine ⟨_, _, by simp; exact ⟨rfl, rfl⟩, fun Q hQ => ?_⟩
    simp
    refine Nx_nx (hQ _ _ ?_)
    have e1 : F s ((j : Int) + 1) = F s j + (1 + j * (s - 2)) := F_succ s j
    have e2 : 1 + (j : Int) * (s - 2) + s - 2 = 1 + ((j : Int) + 1) * (s - 2) := by grind
    exact ⟨_, by rw [show ((j + 1 : Nat) : Int) = (j : Int) + 1 by omega, e1, e2], rfl⟩)
  rw [range2_len] at e
  rw [show ((n - 0).toNat : Int) = n by omega] at e
  simp [show n.natAbs < 4611686018427387904 by omega, e]
/-! ### kinds -/
def kd (N s : Int) : List D := match pl s N with
  | .int n => if 2 < n then [.tup [.int s, .int n]] else []
  | _ => []
def kdX (N : Int) (x : D) : List D := match x with
  | .int s => kd N s
  | _ => []
theorem kd_plain (N s : Int) : plainL (kd N s) = true ∧ depL (kd N s) ≤ 1 := by
  unfold kd
  split
  · split
    · exact ⟨rfl, Nat.le_refl 1⟩
    · exact ⟨rfl, Nat.zero_le 1⟩
  · exact ⟨rfl, Nat.zero_le 1⟩
theorem kd_len (N s : Int) : (kd N s).length ≤ 1 := by
  unfold kd
  split
  · split <;> simp
  · simp
/-- kinds of the sides below -/
def kdN (N : Int) : Nat → List D
  | 0 => []
  | k + 1 => kdN N k ++ kd N (3 + k)
theorem kdN_len (N : Int) : ∀ k, (kdN N k).length ≤ k
  | 0 => Nat.le_refl 0
  | k + 1 => by
    have a := kdN_len N k
    have b := kd_len N (3 + k)
    unfold kdN
    rw [List.length_append]; omega
theorem plainL_app : ∀ xs ys : List D, plainL (xs ++ ys) = (plainL xs && plainL ys)
  | [], _ => rfl
  | x :: xs, ys => by
    show (plainD x && plainL (xs ++ ys)) = ((plainD x && plainL xs) && plainL ys)
    rw [plainL_app xs ys, Bool.and_assoc]
theorem depL_app : ∀ (xs ys : List D) (n : Nat), depL xs ≤ n → depL ys ≤ n → depL (xs ++ ys) ≤ n
  | [], _, _, _, h => h
  | x :: xs, ys, n, h1, h2 => by
    unfold depL at h1
    show max (dep x) (depL (xs ++ ys)) ≤ n
    have := depL_app xs ys n (by omega) h2
    omega
theorem kdN_plain (N : Int) : ∀ k, plainL (kdN N k) = true ∧ depL (kdN N k) ≤ 1
  | 0 => ⟨rfl, Nat.zero_le 1⟩
  | k + 1 => by
    obtain ⟨a1, a2⟩ := kdN_plain N k
    obtain ⟨b1, b2⟩ := kd_plain N (3 + k)
    exact ⟨by unfold kdN; rw [plainL_app, a1, b1]; rfl, depL_app _ _ _ a2 b2⟩
theorem kinds_of_k {N : Int} {st : S} (h0 : 1 ≤ N) (hn : N ≤ 1000000000000) : callK D_kinds_of [.int N] st = .ok (.tup (kdN N 98)) st := by
  have pp := kdN_plain N 98
  obtain ⟨g, e⟩ : ∃ g, D_kinds_of [.int N] [] = .ok (.tup (kdN N 98)) g := by
    rw [r_kinds_of]
    unfold b_kinds_of
    simp [need_whole_k h0 hn]
    refine for_out (fun k r s => ∃ x y, r = [.int N, .ref 0, x, y] ∧ s = [.lst (kdN N k)]) ⟨_, _, rfl, rfl⟩ ?_ ?_
    · rintro j x _ _ hx ⟨y, z, rfl, rfl⟩
      obtain ⟨rfl, hj⟩ := range2_get hx
      refine ⟨_, _, by simp; exact ⟨rfl, rfl⟩, fun Q hQ => ?_⟩
      have pk := fun st => place_in_k (s := 3 + (j : Int)) (N := N) (st := st) (by omega) (by omega) (by omega) (by omega)
      have hlen := kdN_len N j
      have hlen2 : (kdN N j).length < LINE := by unfold LINE; omega
      rcases pl_or (3 + j) N with e | ⟨n, e⟩
      · rw [e] at pk
        have ek : kd N (3 + j) = [] := by unfold kd; rw [e]
        simp [pk]
        refine Nx_nx (hQ _ _ ⟨_, _, rfl, ?_⟩)
        rw [kdN, ek, List.append_nil]
      · rw [e] at pk
        by_cases h2 : 2 < n
        · have ek : kd N (3 + j) = [.tup [.int (3 + j), .int n]] := by unfold kd; rw [e]; simp [h2]
          simp [pk, h2, hlen2]
          refine Nx_nx (hQ _ _ ⟨_, _, rfl, ?_⟩)
          rw [kdN, ek]
        · have ek : kd N (3 + j) = [] := by unfold kd; rw [e]; simp [h2]
          simp [pk, h2]
          refine Nx_nx (hQ _ _ ⟨_, _, rfl, ?_⟩)
          rw [kdN, ek, List.append_nil]
    · rintro _ _ ⟨y, z, rfl, rfl⟩
      rw [range2_len]
      simp
  exact callK_tup rfl e (plainL_pure pp.1)
/-- kinds by a search -/
theorem kd_look {s N m : Int} (hs : 3 ≤ s) (h1 : 3 ≤ m) (h2 : ¬ F s m < N) (h3 : ∀ k, 3 ≤ k → k < m → F s k < N) : kd N s = if F s m = N then [.tup [.int s, .int m]] else [] := by
  split
  · rename_i e
    unfold kd
    rw [← e, pl_F hs (by omega)]
    exact if_pos (by omega)
  · rename_i e
    unfold kd
    rcases pl_or s N with e2 | ⟨n, e2⟩
    · rw [e2]
    · rw [e2]
      obtain ⟨n1, n2⟩ := pl_int hs e2
      refine if_neg ?_
      intro n3
      by_cases hk : n < m
      · have := h3 n (by omega) hk; omega
      · by_cases e3 : n = m
        · rw [e3] at n2; exact e n2
        · have := F_gap hs (show 0 ≤ m by omega) (show m < n by omega); omega
/-- the search, reckoned -/
def look (s N : Int) : Nat → Int → Int
  | 0, h => h
  | f + 1, h => if F s h < N then look s N f (h + 1) else h
theorem look_spec {s N : Int} (hs : 3 ≤ s) : ∀ (f : Nat) (h : Int), 3 ≤ h → N ≤ h + f → h ≤ look s N f h ∧ ¬ F s (look s N f h) < N ∧ ∀ k, h ≤ k → k < look s N f h → F s k < N
  | 0, h, h3, hf => by
    have := F_ge hs (show 0 ≤ h by omega)
    unfold look
    exact ⟨Int.le_refl _, by omega, fun k a b => by omega⟩
  | f + 1, h, h3, hf => by
    unfold look
    by_cases hh : F s h < N
    · rw [if_pos hh]
      obtain ⟨a, b, c⟩ := look_spec (N := N) hs f (h + 1) (by omega) (by omega)
      refine ⟨by omega, b, fun k k1 k2 => ?_⟩
      by_cases e : k = h
      · rw [e]; exact hh
      · exact c k (by omega) k2
    · rw [if_neg hh]
      exact ⟨Int.le_refl _, hh, fun k a b => by omega⟩
def kdP (N s : Int) : List (Int × Int) := if F s (look s N N.toNat 3) = N then [(s, look s N N.toNat 3)] else []
def mkD (p : Int × Int) : D := .tup [.int p.1, .int p.2]
def kdL (N s : Int) : List D := (kdP N s).map mkD
theorem kd_kdL {N s : Int} (hs : 3 ≤ s) : kd N s = kdL N s := by
  obtain ⟨a, b, c⟩ := look_spec (N := N) hs N.toNat 3 (by decide) (by omega)
  rw [kd_look hs a b c]
  unfold kdL kdP
  split <;> rfl
def kdPN (N : Int) : Nat → List (Int × Int)
  | 0 => []
  | k + 1 => kdPN N k ++ kdP N (3 + k)
theorem kdN_kdPN (N : Int) : ∀ k, kdN N k = (kdPN N k).map mkD
  | 0 => rfl
  | k + 1 => by
    unfold kdN kdPN
    rw [kdN_kdPN N k, kd_kdL (by omega), List.map_append]; rfl
theorem kinds36P : kdPN 36 98 = [(3, 8), (4, 6), (13, 3)] := by decide +kernel
theorem kinds36 : kdN 36 98 = [.tup [.int 3, .int 8], .tup [.int 4, .int 6], .tup [.int 13, .int 3]] := by rw [kdN_kdPN, kinds36P]; rfl
end K94

namespace K94
open Y YN
open PySem (Str PyData)
def pe (p : Int) : Int := p * (3 * p - 1) / 2
def pf (p : Int) : Int := p * (3 * p + 1) / 2
def sg (p : Int) : Int := if p % 2 = 1 then 1 else -1
def penL : Nat → List (Int × Int)
  | 0 => []
  | k + 1 => penL k ++ [(pe (k + 1), sg (k + 1)), (pf (k + 1), sg (k + 1))]
def pairD (p : Int × Int) : D := .tup [.int p.1, .int p.2]
def pmF : Nat → Int → Nat → Nat
  | 0, _, k => k
  | f + 1, n, k => if pe (k + 1) ≤ n then pmF f n (k + 1) else k
def pm (n : Int) : Nat := pmF n.toNat n 0
theorem even_pe (p : Int) : ∃ t, p * (3 * p - 1) = 2 * t := by
  obtain ⟨q, h⟩ : ∃ q, p = 2 * q ∨ p = 2 * q + 1 := ⟨p / 2, by omega⟩
  rcases h with rfl | rfl
  · exact ⟨q * (3 * (2 * q) - 1), by grind⟩
  · exact ⟨(2 * q + 1) * (3 * q + 1), by grind⟩
theorem pe2 (p : Int) : 2 * pe p = p * (3 * p - 1) := by
  obtain ⟨t, h⟩ := even_pe p
  unfold pe; omega
theorem pf_pe (p : Int) : pf p = pe p + p := by
  have h := pe2 p
  have h2 : p * (3 * p + 1) = 2 * (pe p + p) := by grind
  unfold pf; omega
theorem pe_ge {p : Int} (h : 1 ≤ p) : p ≤ pe p := by
  have h2 := pe2 p
  have h3 : p * 2 ≤ p * (3 * p - 1) := Int.mul_le_mul_of_nonneg_left (by omega) (by omega)
  omega
theorem pe_small {p : Int} (h : 1 ≤ p) (h2 : pe p ≤ 1000000) : p ≤ 1000 := by
  by_cases hp : p ≤ 1000
  · exact hp
  · have h3 := pe2 p
    have h4 : 1001 * (3 * p - 1) ≤ p * (3 * p - 1) := Int.mul_le_mul_of_nonneg_right (by omega) (by omega)
    omega
theorem pmF_eq {n : Int} {k : Nat} (h1 : n < pe (k + 1)) (h2 : ∀ j : Nat, j < k → pe (j + 1) ≤ n) : ∀ f j : Nat, j ≤ k → k ≤ f + j → pmF f n j = k
  | 0, j, a, b => by unfold pmF; omega
  | f + 1, j, a, b => by
    unfold pmF
    by_cases hj : j = k
    · subst hj; rw [if_neg (by omega)]
    · rw [if_pos (h2 j (by omega))]
      exact pmF_eq h1 h2 f (j + 1) (by omega) (by omega)
theorem pm_eq {n : Int} {k : Nat} (h0 : 0 ≤ n) (h1 : n < pe (k + 1)) (h2 : ∀ j : Nat, j < k → pe (j + 1) ≤ n) : pm n = k := by
  refine pmF_eq h1 h2 _ 0 (Nat.zero_le _) ?_
  by_cases hk : k = 0
  · omega
  · have a := h2 (k - 1) (by omega)
    have b := pe_ge (p := ((k - 1 : Nat) : Int) + 1) (by omega)
    omega
theorem pure_pairs : ∀ l : List (Int × Int), D.pureL (l.map pairD) = true
  | [] => rfl
  | p :: l => by
    show (D.pure (pairD p) && D.pureL (l.map pairD)) = true
    rw [pure_pairs l]; rfl
theorem plain_pairs : ∀ l : List (Int × Int), plainL (l.map pairD) = true ∧ depL (l.map pairD) ≤ 1
  | [] => ⟨rfl, by simp [depL]⟩
  | p :: l => by
    obtain ⟨a, b⟩ := plain_pairs l
    refine ⟨?_, ?_⟩
    · show (plainD (pairD p) && plainL (l.map pairD)) = true
      rw [a]; rfl
    · show max (dep (pairD p)) (depL (l.map pairD)) ≤ 1
      have : dep (pairD p) = 1 := rfl
      omega
theorem penL_len : ∀ k, (penL k).length = 2 * k
  | 0 => rfl
  | k + 1 => by simp [penL, penL_len k]; omega
theorem sg_neg (p : Int) : (if p / 2 * 2 = p then -1 else (1 : Int)) = sg p := by
  unfold sg
  split <;> split <;> omega
theorem pentagons_ok {n : Int} (h0 : 0 ≤ n) (h1 : n ≤ 1000000) : D_pentagons_to [.int n] [] = .ok (.ref 0) [.lst ((penL (pm n)).map pairD)] := by
  rw [r_pentagons_to]
  unfold b_pentagons_to
  have key := zWhile_inv (c := tst (e2 oLe (e2 oDiv (e2 oMul (eV 2) (e2 oSub (e2 oMul (eC (.int 3)) (eV 2)) (eC (.int 1)))) (eC (.int 2))) (eV 0)))
    (b := (zCons (zSet (gV 3) (eIf (tst (e2 oNe (e2 oMul (e2 oDiv (eV 2) (eC (.int 2))) (eC (.int 2))) (eV 2))) (eC (.int 1)) (e1 oNeg (eC (.int 1)))))
    (zCons (zEx (eMe isL mApp (eV 1) (aC (eTup (aC (e2 oDiv (e2 oMul (eV 2) (e2 oSub (e2 oMul (eC (.int 3)) (eV 2)) (eC (.int 1)))) (eC (.int 2))) (aC (eV 3) aN))) aN)))
    (zCons (zEx (eMe isL mApp (eV 1) (aC (eTup (aC (e2 oDiv (e2 oMul (eV 2) (e2 oAdd (e2 oMul (eC (.int 3)) (eV 2)) (eC (.int 1)))) (eC (.int 2))) (aC (eV 3) aN))) aN)))
    (zSet (gV 2) (e2 oAdd (eV 2) (eC (.int 1))))))))
    (fun r s => ∃ (k : Nat) (x : D), r = [.int n, .ref 0, .int (k + 1), x] ∧ s = [.lst ((penL k).map pairD)] ∧ (∀ j : Nat, j < k → pe (j + 1) ≤ n))
    (fun r s => ∃ (k : Nat) (x : D), r = [.int n, .ref 0, .int (k + 1), x] ∧ s = [.lst ((penL k).map pairD)] ∧ (∀ j : Nat, j < k → pe (j + 1) ≤ n) ∧ n < pe (k + 1))
    (fun r _ => match r with | [_, _, .int p, _] => (n + 1 - p).toNat | _ => 0) (by
      rintro r s ⟨k, x, rfl, rfl, hk⟩
      have hkn : k ≤ n.toNat := by
        by_cases hz : k = 0
        · omega
        · have a := hk (k - 1) (by omega)
          have b := pe_ge (p := ((k - 1 : Nat) : Int) + 1) (by omega)
          omega
      have m1 := fun i st => v_mul64 (i := ((k : Int) + 1)) (j := i) (s := st) (by omega)
      have m3 := fun i st => v_mul64 (i := 3) (j := i) (s := st) (by omega)
      have m2 := fun i st => v_mul64r (i := i) (j := 2) (s := st) (by omega)
      have d2 := fun i st => v_div64 (i := i) (j := 2) (s := st) (by omega) (by omega)
      have e1 : ((k : Int) + 1) * (3 * ((k : Int) + 1) - 1) / 2 = pe (k + 1) := rfl
      have e2 : ((k : Int) + 1) * (3 * ((k : Int) + 1) + 1) / 2 = pf (k + 1) := rfl
      refine ⟨decide (pe (k + 1) ≤ n), [.lst ((penL k).map pairD)], by simp [m1, m3, d2, e1], fun q => ⟨k, x, rfl, rfl, hk, by simpa using q⟩, fun q => ?_⟩
      have q : pe (k + 1) ≤ n := by simpa using q
      refine ⟨[.int n, .ref 0, .int (((k + 1 : Nat) : Int) + 1), .int (sg (k + 1))], [.lst ((penL (k + 1)).map pairD)], .inl ?_, ⟨k + 1, _, rfl, rfl, fun j hj => ?_⟩, ?_⟩
      · have hsm := pe_small (p := (k : Int) + 1) (by omega) (by omega)
        have hl : (penL k).length + 1 < 1000000 := by rw [penL_len]; omega
        have hs := sg_neg ((k : Int) + 1)
        by_cases hh : ((k : Int) + 1) / 2 * 2 = (k : Int) + 1
        · rw [if_pos hh] at hs
          simp [m1, m3, m2, d2, e1, e2, hh, LINE, show (penL k).length < 1000000 by omega, hl, penL, pairD, ← hs]
        · rw [if_neg hh] at hs
          simp [m1, m3, m2, d2, e1, e2, hh, LINE, show (penL k).length < 1000000 by omega, hl, penL, pairD, ← hs]
      · by_cases hjk : j = k
        · subst hjk; exact q
        · exact hk j (by omega)
      · have := pe_ge (p := (k : Int) + 1) (by omega)
        show (n + 1 - (((k + 1 : Nat) : Int) + 1)).toNat < (n + 1 - ((k : Int) + 1)).toNat
        omega) (r := [.int n, .ref 0, .int 1, .undef]) (s := [.lst []]) ⟨0, .undef, rfl, rfl, fun j hj => by omega⟩ (by
      show (n + 1 - 1).toNat < 1000000000000
      omega)
  obtain ⟨r', s', e, k, x, rfl, rfl, hk, hlt⟩ := key
  have hpm := pm_eq h0 hlt hk
  simp [e, hpm]
theorem pentagons_k {n : Int} {s : S} (h0 : 0 ≤ n) (h1 : n ≤ 1000000) : callK D_pentagons_to [.int n] s = .ok (.ref s.length) (s ++ [.lst ((penL (pm n)).map pairD)]) := callK_new rfl (pentagons_ok h0 h1) rfl (pure_pairs _)
/-- the ways, by pentagons -/
def qs (t : Int) (l : List Int) : Int := (((penL (pm t)).filter fun p => decide (p.1 ≤ t)).map fun p => p.2 * l.getD (t - p.1).toNat 0).sum
def PL : Nat → List Int
  | 0 => [1]
  | n + 1 => PL n ++ [qs (n + 1) (PL n)]
theorem PL_len : ∀ n, (PL n).length = n + 1
  | 0 => rfl
  | n + 1 => by simp [PL, PL_len n]
def Pr (p : D → Bool) (x : Int × Int) : Bool := p (pairD x)
theorem pen_pos : ∀ {k : Nat} {p : Int × Int}, p ∈ penL k → 1 ≤ p.1 ∧ (p.2 = 1 ∨ p.2 = -1)
  | 0, p, h => by simp [penL] at h
  | k + 1, p, h => by
    unfold penL at h
    rw [List.mem_append] at h
    rcases h with h | h
    · exact pen_pos h
    · have a := pe_ge (p := (k : Int) + 1) (by omega)
      have b := pf_pe ((k : Int) + 1)
      have c : sg ((k : Int) + 1) = 1 ∨ sg ((k : Int) + 1) = -1 := by unfold sg; split <;> simp
      simp at h
      rcases h with rfl | rfl
      · exact ⟨by simp; omega, c⟩
      · exact ⟨by simp; omega, c⟩
theorem map_filter_pairs (l : List (Int × Int)) (p : D → Bool) (f : D → D) (q : Int × Int → Bool) (h : Int × Int → Int) (h1 : ∀ x ∈ l, p (pairD x) = q x) (h2 : ∀ x ∈ l, q x = true → f (pairD x) = .int (h x)) : ((l.map pairD).filter p).map f = ((l.filter q).map h).map D.int := by
  induction l with
  | nil => rfl
  | cons x l ih =>
    have ih := ih (fun y hy => h1 y (List.mem_cons_of_mem _ hy)) (fun y hy => h2 y (List.mem_cons_of_mem _ hy))
    rw [List.map_cons, List.filter_cons, List.filter_cons, h1 x List.mem_cons_self]
    cases e : q x with
    | false => simpa using ih
    | true =>
      simp only [if_true, List.map_cons]
      rw [h2 x List.mem_cons_self e, ih]
def qI (f : Int → Int → Int) (d : D) : D := match d with
  | .tup [.int a, .int b] => .int (f a b)
  | _ => .non
def qB (f : Int → Int → Bool) (d : D) : Bool := match d with
  | .tup [.int a, .int b] => f a b
  | _ => false
def un2 (d : D) : List D := match d with
  | .tup [a, b] => [a, b]
  | _ => []
theorem parted_ok {n : Int} (h0 : 0 ≤ n) (h1 : n ≤ 600) : ∃ G, D_parted_to [.int n] [] = .ok (.ref 0) (.lst ((PL n.toNat).map D.int) :: G) := by
  rw [r_parted_to]
  unfold b_parted_to
  obtain ⟨r', s', e, ⟨x, y, z, G, rfl, rfl⟩⟩ := forM_inv (g := gV 2)
    (b := (zEx (eMe isL mApp (eV 1) (aC (eN bSum (aC (eLc (iLst (eCallK 1 D_pentagons_to (aC (eV 2) aN))) (gT (gsC (gV 3) (gsC (gV 4) gsN))) (tst (e2 oLe (eV 3) (eV 2))) (e2 oMul (eV 4) (e2 oIx (eV 1) (e2 oSub (eV 2) (eV 3)))) [3, 4]) aN)) aN))))
    (fun i r s => ∃ x y z G, r = [.int n, .ref 0, x, y, z] ∧ s = .lst ((PL i).map D.int) :: G) (range2 1 (n + 1)) 0 [.int n, .ref 0, .undef, .undef, .undef] [.lst [.int 1]] ⟨_, _, _, [], rfl, rfl⟩ (by
    rintro j x r s hx ⟨x', y', z', G, rfl, rfl⟩
    obtain ⟨rfl, hj⟩ := range2_get hx
    rw [Nat.zero_add]
    have hj2 : (j : Int) + 1 ≤ n := by omega
    generalize ht : (1 : Int) + (j : Int) = t at hx
    have pk := fun st => pentagons_k (n := t) (s := st) (by omega) (by omega)
    have hit : iLst (eCallK 1 D_pentagons_to (aC (eV 2) aN)) [.int n, .ref 0, .int t, y', z'] (.lst ((PL j).map D.int) :: G) = .ok (.list (G.length + 1)) (.lst ((PL j).map D.int) :: G ++ [.lst ((penL (pm t)).map pairD)]) :=
      ap_iLst (xs := (penL (pm t)).map pairD) (by simp [pk]) (by simp)
    obtain ⟨G2, ec⟩ := eLc_lst (g := gT (gsC (gV 3) (gsC (gV 4) gsN))) (t := tst (e2 oLe (eV 3) (eV 2))) (e := e2 oMul (eV 4) (e2 oIx (eV 1) (e2 oSub (eV 2) (eV 3)))) (own := [3, 4]) hit (xs := (penL (pm t)).map pairD) (by simp)
      (fun x => [.int n, .ref 0, .int t] ++ un2 x) (qB fun a b => decide (a ≤ t)) (qI fun a b => b * (PL j).getD (t - a).toNat 0) (fun x hx => by
        obtain ⟨⟨a, b⟩, hab, rfl⟩ := List.mem_map.mp hx
        obtain ⟨a1, a2⟩ := pen_pos hab
        simp only at a1 a2
        refine CStep.of (fun s' => by simp [pairD, un2, wipeD]) (fun acc G => by simp [pairD, un2, qB]) fun hp acc G => ?_
        have hp : a ≤ t := by simpa [pairD, qB] using hp
        have hg : atD ((PL j).map D.int) (t - a) = some (.int ((PL j).getD (t - a).toNat 0)) := by
          have hl : (t - a).toNat < (PL j).length := by rw [PL_len]; omega
          have := atD_nat (xs := (PL j).map D.int) (k := (t - a).toNat) (d := .int ((PL j).getD (t - a).toNat 0)) (by
            rw [List.getElem?_map, List.getElem?_eq_getElem hl, Option.map_some, List.getD_eq_getElem?_getD, List.getElem?_eq_getElem hl]; rfl)
          rwa [Int.toNat_of_nonneg (by omega)] at this
        have mm := fun i st => v_mul64 (i := b) (j := i) (s := st) (by omega)
        simp [pairD, un2, qI, hg, mm]) (by
          rw [List.length_map, penL_len]
          have : pm t ≤ t.toNat := by
            have key : ∀ f (j : Nat), pmF f t j ≤ f + j := by
              intro f
              induction f with
              | zero => intro j; unfold pmF; omega
              | succ f ih =>
                intro j
                unfold pmF
                split
                · have := ih (j + 1); omega
                · omega
            exact key t.toNat 0
          omega)
    rw [map_filter_pairs _ _ _ (fun p => decide (p.1 ≤ t)) (fun p => p.2 * (PL j).getD (t - p.1).toNat 0) (fun x _ => rfl) (fun x _ _ => rfl)] at ec
    refine ⟨[.int n, .ref 0, .int t, y', z'], .lst ((PL j).map D.int) :: G, [.int n, .ref 0, .int t, y', z'], .lst ((PL (j + 1)).map D.int) :: (G ++ (.lst ((penL (pm t)).map pairD) :: (.lst ((((penL (pm t)).filter fun p => decide (p.1 ≤ t)).map fun p => p.2 * (PL j).getD (t - p.1).toNat 0).map D.int)) :: G2)), by simp, .inl ?_, _, _, _, _, rfl, rfl⟩
    have hq : (((penL (pm t)).filter fun p => decide (p.1 ≤ t)).map fun p => p.2 * (PL j).getD (t - p.1).toNat 0).sum = qs (j + 1) (PL j) := by
      unfold qs
      rw [show ((j : Int) + 1) = t by omega]
    have hlen : (PL j).length < 1000000 := by rw [PL_len]; omega
    generalize hL : (((penL (pm t)).filter fun p => decide (p.1 ≤ t)).map fun p => p.2 * (PL j).getD (t - p.1).toNat 0) = L at ec hq
    simp [ec, LINE, hlen, hq, PL])
  rw [range2_len] at e
  refine ⟨G, ?_⟩
  simp [show (n + 1).natAbs < 4611686018427387904 by omega, e, range2_len]
theorem ints_pureL (l : List Int) : (O.lst (l.map D.int)).pure = true := ints_pure l
theorem parted_k {n : Int} {s : S} (h0 : 0 ≤ n) (h1 : n ≤ 600) : callK D_parted_to [.int n] s = .ok (.ref s.length) (s ++ [.lst ((PL n.toNat).map D.int)]) := by
  obtain ⟨G, e⟩ := parted_ok h0 h1
  exact callK_new rfl e rfl (ints_pureL _)
end K94

namespace K94
open Y YN
open PySem (Str PyData)
def ds (t : Int) (l : List Int) : Int := (((penL (pm t)).filter fun p => decide (p.1 ≤ t)).map fun p => p.2 * (if p.1 < t then l.getD (t - p.1).toNat 0 else t)).sum
def SL : Nat → List Int
  | 0 => [0]
  | n + 1 => SL n ++ [ds (n + 1) (SL n)]
theorem SL_len : ∀ n, (SL n).length = n + 1
  | 0 => rfl
  | n + 1 => by simp [SL, SL_len n]
theorem pm_le (t : Int) : pm t ≤ t.toNat := by
  have key : ∀ f (j : Nat), pmF f t j ≤ f + j := by
    intro f
    induction f with
    | zero => intro j; unfold pmF; omega
    | succ f ih =>
      intro j
      unfold pmF
      split
      · have := ih (j + 1); omega
      · omega
  exact key t.toNat 0
theorem atD_int {l : List Int} {i : Int} (h0 : 0 ≤ i) (h1 : i < l.length) : atD (l.map D.int) i = some (.int (l.getD i.toNat 0)) := by
  have hl : i.toNat < l.length := by omega
  have := atD_nat (xs := l.map D.int) (k := i.toNat) (d := .int (l.getD i.toNat 0)) (by
    rw [List.getElem?_map, List.getElem?_eq_getElem hl, Option.map_some, List.getD_eq_getElem?_getD, List.getElem?_eq_getElem hl]; rfl)
  rwa [Int.toNat_of_nonneg h0] at this
theorem filter_pairs (l : List (Int × Int)) (p : D → Bool) (q : Int × Int → Bool) (h1 : ∀ x ∈ l, p (pairD x) = q x) : ((l.map pairD).filter p).map id = (l.filter q).map pairD := by
  induction l with
  | nil => rfl
  | cons x l ih =>
    have ih := ih (fun y hy => h1 y (List.mem_cons_of_mem _ hy))
    rw [List.map_cons, List.filter_cons, List.filter_cons, h1 x List.mem_cons_self]
    cases e : q x with
    | false => simpa using ih
    | true =>
      simp only [if_true, List.map_cons]
      rw [ih]; rfl
theorem divided_ok {n : Int} (h0 : 0 ≤ n) (h1 : n ≤ 600) : ∃ G, D_divided_to [.int n] [] = .ok (.ref 0) (.lst ((SL n.toNat).map D.int) :: G) := by
  rw [r_divided_to]
  unfold b_divided_to
  obtain ⟨r', s', e, ⟨x, y, z, u, v, G, rfl, rfl⟩⟩ := forM_inv (g := gV 2)
    (b := (zCons (zSet (gV 3) (eLc (iLst (eCallK 1 D_pentagons_to (aC (eV 2) aN))) (gV 4) (tst (e2 oLe (e2 oIx (eV 4) (eC (.int 0))) (eV 2))) (eV 4) [4]))
    (zEx (eMe isL mApp (eV 1) (aC (eN bSum (aC (eLc (iLst (eV 3)) (gT (gsC (gV 5) (gsC (gV 6) gsN))) tYes (e2 oMul (eV 6) (eIf (tst (e2 oLt (eV 5) (eV 2))) (e2 oIx (eV 1) (e2 oSub (eV 2) (eV 5))) (eV 2))) [5, 6]) aN)) aN)))))
    (fun i r s => ∃ x y z u v G, r = [.int n, .ref 0, x, y, z, u, v] ∧ s = .lst ((SL i).map D.int) :: G) (range2 1 (n + 1)) 0 [.int n, .ref 0, .undef, .undef, .undef, .undef, .undef] [.lst [.int 0]] ⟨_, _, _, _, _, [], rfl, rfl⟩ (by
    rintro j x r s hx ⟨x', y', z', u', v', G, rfl, rfl⟩
    obtain ⟨rfl, hj⟩ := range2_get hx
    rw [Nat.zero_add]
    have hj2 : (j : Int) + 1 ≤ n := by omega
    generalize ht : (1 : Int) + (j : Int) = t at hx
    have pk := fun st => pentagons_k (n := t) (s := st) (by omega) (by omega)
    have hpl := pm_le t
    have hit : iLst (eCallK 1 D_pentagons_to (aC (eV 2) aN)) [.int n, .ref 0, .int t, y', z', u', v'] (.lst ((SL j).map D.int) :: G) = .ok (.list (G.length + 1)) (.lst ((SL j).map D.int) :: G ++ [.lst ((penL (pm t)).map pairD)]) :=
      ap_iLst (xs := (penL (pm t)).map pairD) (by simp [pk]) (by simp)
    obtain ⟨G2, ec⟩ := eLc_lst (g := gV 4) (t := tst (e2 oLe (e2 oIx (eV 4) (eC (.int 0))) (eV 2))) (e := eV 4) (own := [4]) hit (xs := (penL (pm t)).map pairD) (by simp)
      (fun x => [.int n, .ref 0, .int t, y', x, u', v']) (qB fun a b => decide (a ≤ t)) id (fun x hx => by
        obtain ⟨⟨a, b⟩, hab, rfl⟩ := List.mem_map.mp hx
        exact CStep.of (fun s' => by simp [wipeD]) (fun acc G => by simp [pairD, qB]) fun hp acc G => by simp [pairD]) (by rw [List.length_map, penL_len]; omega)
    rw [filter_pairs _ _ (fun p => decide (p.1 ≤ t)) (fun x _ => rfl)] at ec
    generalize hL : ((penL (pm t)).filter fun p => decide (p.1 ≤ t)) = L at ec
    have hLm : ∀ p ∈ L, 1 ≤ p.1 ∧ (p.2 = 1 ∨ p.2 = -1) ∧ p.1 ≤ t := fun p hp => by
      rw [← hL, List.mem_filter] at hp
      exact ⟨(pen_pos hp.1).1, (pen_pos hp.1).2, by simpa using hp.2⟩
    have hLl : L.length ≤ 1200 := by
      rw [← hL]
      exact Nat.le_trans (List.length_filter_le _ _) (by rw [penL_len]; omega)
    simp only [List.cons_append] at ec
    generalize hS : (G ++ [O.lst ((penL (pm t)).map pairD)] ++ O.lst (L.map pairD) :: G2) = S3 at ec
    have hSn : (O.lst ((SL j).map D.int) :: S3)[G.length + 2]? = some (.lst (L.map pairD)) := by rw [← hS]; simp
    have hS0 : (O.lst ((SL j).map D.int) :: S3)[0]? = some (.lst ((SL j).map D.int)) := rfl
    have hSp : 0 < (O.lst ((SL j).map D.int) :: S3).length := by simp
    have hit2 : iLst (eV 3) [.int n, .ref 0, .int t, .ref (G.length + 2), z', u', v'] (O.lst ((SL j).map D.int) :: S3) = .ok (.list (G.length + 2)) (O.lst ((SL j).map D.int) :: S3) := ap_iLst (xs := L.map pairD) (by simp) hSn
    obtain ⟨G3, ec2⟩ := eLc_lst (g := gT (gsC (gV 5) (gsC (gV 6) gsN))) (t := tYes) (e := e2 oMul (eV 6) (eIf (tst (e2 oLt (eV 5) (eV 2))) (e2 oIx (eV 1) (e2 oSub (eV 2) (eV 5))) (eV 2))) (own := [5, 6]) hit2 hSn
      (fun x => [.int n, .ref 0, .int t, .ref (G.length + 2), z'] ++ un2 x) (fun _ => true) (qI fun a b => b * (if a < t then (SL j).getD (t - a).toNat 0 else t)) (fun x hx => by
        obtain ⟨⟨a, b⟩, hab, rfl⟩ := List.mem_map.mp hx
        obtain ⟨a1, a2, a3⟩ := hLm _ hab
        simp only at a1 a2 a3
        refine CStep.of (fun s' => by simp [pairD, un2, wipeD]) (fun acc G => by simp) fun hp acc G4 => ?_
        have mm := fun i st => v_mul64 (i := b) (j := i) (s := st) (by omega)
        have h0' : (O.lst ((SL j).map D.int) :: S3 ++ O.lst acc :: G4)[0]? = some (.lst ((SL j).map D.int)) := by rw [List.getElem?_append_left hSp]; exact hS0
        by_cases hat : a < t
        · have hg := atD_int (l := SL j) (i := t - a) (by omega) (by rw [SL_len]; omega)
          simp [pairD, un2, qI, hat, hg, mm, h0']
        · simp [pairD, un2, qI, hat, mm]) (by rw [List.length_map]; omega)
    rw [map_filter_pairs _ _ _ (fun p => true) (fun p => p.2 * (if p.1 < t then (SL j).getD (t - p.1).toNat 0 else t)) (fun x _ => rfl) (fun x _ _ => rfl)] at ec2
    have hft : L.filter (fun _ => true) = L := List.filter_eq_self.mpr fun _ _ => rfl
    rw [hft] at ec2
    have hq : (L.map fun p => p.2 * (if p.1 < t then (SL j).getD (t - p.1).toNat 0 else t)).sum = Int.ofNat 0 + ds (j + 1) (SL j) := by
      unfold ds
      rw [show ((j : Int) + 1) = t by omega, hL]
      simp
    have hlen : (SL j).length < 1000000 := by rw [SL_len]; omega
    generalize hL2 : (L.map fun p => p.2 * (if p.1 < t then (SL j).getD (t - p.1).toNat 0 else t)) = L2 at ec2 hq
    have hq' : L2.sum = ds (j + 1) (SL j) := by rw [hq]; simp
    refine ⟨[.int n, .ref 0, .int t, y', z', u', v'], .lst ((SL j).map D.int) :: G, [.int n, .ref 0, .int t, .ref (G.length + 2), z', u', v'], .lst ((SL (j + 1)).map D.int) :: (S3 ++ O.lst (L2.map D.int) :: G3), by simp, .inl ?_, _, _, _, _, _, _, rfl, rfl⟩
    simp [ec, ec2, LINE, hlen, hq', SL]
    )
  rw [range2_len] at e
  refine ⟨G, ?_⟩
  simp [show (n + 1).natAbs < 4611686018427387904 by omega, e, range2_len]
theorem divided_k {n : Int} {s : S} (h0 : 0 ≤ n) (h1 : n ≤ 600) : callK D_divided_to [.int n] s = .ok (.ref s.length) (s ++ [.lst ((SL n.toNat).map D.int)]) := by
  obtain ⟨G, e⟩ := divided_ok h0 h1
  exact callK_new rfl e rfl (ints_pureL _)
/-! ### the asked ones -/
def Wy (n : Int) : Int := (PL n.toNat).getD n.toNat 0
def Dv (n : Int) : Int := (SL n.toNat).getD n.toNat 0
theorem ways_k {n : Int} {s : S} (h0 : 0 ≤ n) (h1 : n ≤ 600) : callK D_ways_to_part [.int n] s = .ok (.int (Wy n)) s := by
  have nk := fun st => need_whole_k (i := n) (lo := 0) (hi := 600) (s := st) h0 h1
  have dk := fun st => parted_k (n := n) (s := st) h0 h1
  have hg := atD_int (l := PL n.toNat) (i := n) h0 (by rw [PL_len]; omega)
  refine callK_val rfl (g := [.lst ((PL n.toNat).map D.int)]) ?_ rfl
  rw [r_ways_to_part]
  unfold b_ways_to_part
  simp [nk, dk, hg, Wy]
theorem divsum_k {n : Int} {s : S} (h0 : 1 ≤ n) (h1 : n ≤ 600) : callK D_divisor_sum [.int n] s = .ok (.int (Dv n)) s := by
  have nk := fun st => need_whole_k (i := n) (lo := 1) (hi := 600) (s := st) h0 h1
  have dk := fun st => divided_k (n := n) (s := st) (by omega) h1
  have hg := atD_int (l := SL n.toNat) (i := n) (by omega) (by rw [SL_len]; omega)
  refine callK_val rfl (g := [.lst ((SL n.toNat).map D.int)]) ?_ rfl
  rw [r_divisor_sum]
  unfold b_divisor_sum
  simp [nk, dk, hg, Dv]
def pens (n : Int) : List (Int × Int) := (penL (pm n)).filter fun p => decide (p.1 ≤ n)
theorem signs_k {n : Int} {s : S} (h0 : 1 ≤ n) (h1 : n ≤ 300000) : callK D_pentagon_signs [.int n] s = .ok (.tup ((pens n).map pairD)) s := by
  have nk := fun st => need_whole_k (i := n) (lo := 1) (hi := 1000000) (s := st) h0 (by omega)
  have pk := fun st => pentagons_k (n := n) (s := st) (by omega) (by omega)
  have hpl := pm_le n
  have hit : iLst (eCallK 1 D_pentagons_to (aC (eV 0) aN)) [.int n, .undef] [] = .ok (.list 0) [.lst ((penL (pm n)).map pairD)] := ap_iLst (xs := (penL (pm n)).map pairD) (by simp [pk]) (by simp)
  obtain ⟨G2, ec⟩ := eLc_lst (g := gV 1) (t := tst (e2 oLe (e2 oIx (eV 1) (eC (.int 0))) (eV 0))) (e := eV 1) (own := [1]) hit (xs := (penL (pm n)).map pairD) (by simp)
    (fun x => [.int n, x]) (qB fun a b => decide (a ≤ n)) id (fun x hx => by
      obtain ⟨⟨a, b⟩, hab, rfl⟩ := List.mem_map.mp hx
      exact CStep.of (fun s' => by simp [wipeD]) (fun acc G => by simp [pairD, qB]) fun hp acc G => by simp [pairD]) (by rw [List.length_map, penL_len]; omega)
  rw [filter_pairs _ _ (fun p => decide (p.1 ≤ n)) (fun x _ => rfl)] at ec
  refine callK_tup rfl (g := .lst ((penL (pm n)).map pairD) :: .lst ((pens n).map pairD) :: G2) ?_ (pure_pairs _)
  rw [r_pentagon_signs]
  unfold b_pentagon_signs
  simp [nk, ec, pens]
theorem law_figure5_k {p : Int} {s : S} (h0 : 0 ≤ p) (h1 : p ≤ 1000000) : callK D__law_figure [.int 5, .int p] s = .ok (.int (pe p)) s := by
  obtain ⟨r', s', e, ⟨x, rfl, rfl⟩⟩ := forM_inv (g := gV 4) (b := (zPar 2 3 (e2 oAdd (eV 2) (eV 3)) (e2 oSub (e2 oAdd (eV 3) (eV 0)) (eC (.int 2)))))
    (fun i r s => ∃ x, r = [.int 5, .int p, .int (pe i), .int (3 * i + 1), x] ∧ s = []) (range2 0 p) 0 [.int 5, .int p, .int 0, .int 1, .undef] [] ⟨_, rfl, rfl⟩ (by
      rintro j x r s hx ⟨y, rfl, rfl⟩
      rw [Nat.zero_add]
      refine ⟨[.int 5, .int p, .int (pe j), .int (3 * j + 1), x], [], [.int 5, .int p, .int (pe ((j + 1 : Nat) : Int)), .int (3 * ((j + 1 : Nat) : Int) + 1), x], [], by simp, .inl ?_, _, rfl, rfl⟩
      have a := pe2 j
      have b := pe2 ((j + 1 : Nat) : Int)
      have c : pe j + (3 * j + 1) = pe ((j + 1 : Nat) : Int) := by
        have : 2 * (pe j + (3 * j + 1)) = 2 * pe ((j + 1 : Nat) : Int) := by
          have hj : ((j + 1 : Nat) : Int) = (j : Int) + 1 := by omega
          rw [b, Int.mul_add, a, hj]
          generalize (j : Int) = q
          grind
        omega
      simp [c]
      omega)
  rw [range2_len] at e
  refine callK_val rfl (g := []) ?_ rfl
  rw [r__law_figure]
  unfold b__law_figure
  have hp : ((p - 0).toNat : Int) = p := by omega
  rw [Nat.zero_add, hp] at e
  simp [show p.natAbs < 4611686018427387904 by omega, e]
end K94

namespace K94
open Y YN
open PySem (Str PyData)
/-! what the law's words come to -/
def numW : D := .str (Str.ofString "number")
def noW : D := .str (Str.ofString "")
def nofit (lo hi : Int) : D → Bool
  | .int i => !decide (lo ≤ i ∧ i ≤ hi)
  | .non => true
  | .bl _ => true
  | .str _ => true
  | .tup _ => true
  | _ => false
theorem fits_bad {lo hi : Int} {d : D} {s : S} (h : nofit lo hi d = true) (hp : d.pure = true) : callK D_fits_whole [d, .int lo, .int hi] s = .ok (.bl false) s := by
  refine callK_val (g := []) (by show (d.pure && _) = true; rw [hp]; rfl) ?_ rfl
  unfold D_fits_whole
  unfold YN.D_fits_whole
  rw [ap_mkFn (k := 3) (ds := [d, .int lo, .int hi]) rfl]
  unfold YN.b_fits_whole
  cases d with
  | int i =>
    have h : ¬ (lo ≤ i ∧ i ≤ hi) := by
      intro c
      have h : (!decide (lo ≤ i ∧ i ≤ hi)) = true := h
      rw [decide_eq_true c] at h
      cases h
    have e : decide (lo ≤ i ∧ i ≤ hi) = false := decide_eq_false h
    have := YN.fits_whole_ok (i := i) (lo := lo) (hi := hi) (s := [])
    unfold YN.D_fits_whole at this
    rw [ap_mkFn (k := 3) (ds := [.int i, .int lo, .int hi]) rfl, e] at this
    exact this
  | non => rfl
  | bl b => cases b <;> rfl
  | str x => rfl
  | tup xs => rfl
  | undef => cases h
  | ref n => cases h
  | fn i => cases h
  | frl xs => cases h
theorem need_bad {lo hi : Int} {d : D} {s : S} (h : nofit lo hi d = true) (hp : d.pure = true) : callK D_need_whole [d, .int lo, .int hi] s = .exc 1 [] s := by
  refine callK_exc (g := []) (by show (d.pure && _) = true; rw [hp]; rfl) ?_ rfl
  unfold D_need_whole
  unfold YN.D_need_whole
  rw [ap_mkFn (k := 3) (ds := [d, .int lo, .int hi]) rfl]
  unfold YN.b_need_whole
  have f := fun st => fits_bad (s := st) h hp
  have hd : ∀ (r : Env) (st : S), eV 0 (d :: r) st = .ok d st := fun r st => eV_any (by intro z; subst z; cases hp)
  simp [hd, f, Rs.then, F.out]
theorem sides_bad {d : D} {s : S} (h : nofit 3 100 d = true) (hp : d.pure = true) : callK D_need_sides [d] s = .exc 1 [] s := by
  refine callK_exc (g := []) (by show (d.pure && _) = true; rw [hp]; rfl) ?_ rfl
  rw [r_need_sides]
  unfold b_need_sides
  have f := fun st => need_bad (s := st) h hp
  have hd : ∀ (r : Env) (st : S), eV 0 (d :: r) st = .ok d st := fun r st => eV_any (by intro z; subst z; cases hp)
  simp [hd, f, F.out]
/-- the second argument that no one looks at -/
def Odd (s : S) (e : D) : Prop := (e.pure = true ∧ e ≠ .undef) ∨ ∃ k, e = .ref k ∧ s[k]? = some (.lst [])
theorem callK_odd {f : Fn} {d e : D} {s : S} (hp : d.pure = true) (he : Odd s e) (h : ∀ e' os, e' ≠ .undef → f [d, e'] os = .exc 1 [] os) : callK f [d, e] s = .exc 1 [] s := by
  rcases he with ⟨he, hu⟩ | ⟨k, rfl, hk⟩
  · exact callK_exc (g := []) (by show (d.pure && (e.pure && true)) = true; rw [hp, he]; rfl) (h e [] hu) rfl
  · have hr : refsOf [d, .ref k] = [k] := by
      cases d <;> first | rfl | cases hp
    have hn : renum 0 [d, .ref k] = [d, .ref 0] := by
      cases d <;> first | rfl | cases hp
    have ha : [d, .ref k].all argOk = true := by
      show (argOk d && (true && true)) = true
      have : argOk d = true := by cases d <;> first | rfl | exact hp
      rw [this]; rfl
    have es : s.set k (.lst []) = s := by
      refine List.ext_getElem? fun j => ?_
      by_cases c : k = j
      · subst c
        rw [List.getElem?_set_self (List.getElem?_eq_some_iff.mp hk).1, hk]
      · rw [List.getElem?_set_ne c]
    unfold callK
    rw [hr, ha, if_pos ⟨rfl, rfl⟩, hn]
    simp [getAll, hk, h _ _ (show D.ref 0 ≠ .undef from fun z => by cases z), putAll, es, O.pure, D.pureL]
theorem hdV {d : D} (hp : d ≠ .undef) : ∀ (r : Env) (st : S), eV 0 (d :: r) st = .ok d st := fun r st => eV_any hp
theorem pure_ne {d : D} (hp : d.pure = true) : d ≠ .undef := by intro z; subst z; cases hp
/-- by the sides -/
theorem bad_sides {d e : D} {s : S} (h : nofit 3 100 d = true) (hp : d.pure = true) (he : Odd s e) : callK D_figure [d, e] s = .exc 1 [] s ∧ callK D_place_of [d, e] s = .exc 1 [] s ∧ callK D_pyramid [d, e] s = .exc 1 [] s ∧ callK D_central [d, e] s = .exc 1 [] s ∧ callK D_central_place [d, e] s = .exc 1 [] s ∧ callK D_fewest_figures [d, e] s = .exc 1 [] s := by
  have f := fun st => sides_bad (s := st) h hp
  have hd := hdV (pure_ne hp)
  refine ⟨callK_odd hp he fun e' os he' => ?_, callK_odd hp he fun e' os he' => ?_, callK_odd hp he fun e' os he' => ?_, callK_odd hp he fun e' os he' => ?_, callK_odd hp he fun e' os he' => ?_, callK_odd hp he fun e' os he' => ?_⟩
  · rw [r_figure]; unfold b_figure; simp [hd, f, F.out]
  · rw [r_place_of]; unfold b_place_of; simp [hd, f, F.out]
  · rw [r_pyramid]; unfold b_pyramid; simp [hd, f, F.out]
  · rw [r_central]; unfold b_central; simp [hd, f, F.out]
  · rw [r_central_place]; unfold b_central_place; simp [hd, f, F.out]
  · rw [r_fewest_figures]; unfold b_fewest_figures; simp [hd, f, F.out]
theorem sides3 (s : S) : callK D_need_sides [.int 3] s = .ok .non s := need_sides_k (by decide) (by decide)
theorem callK_two {f : Fn} {i : Int} {d : D} {s : S} (hp : d.pure = true) (h : f [.int i, d] [] = .exc 1 [] []) : callK f [.int i, d] s = .exc 1 [] s :=
  callK_exc (g := []) (by show (true && (d.pure && true)) = true; rw [hp]; rfl) h rfl
theorem bad_place {d : D} {s : S} (h : nofit 0 1000000 d = true) (hp : d.pure = true) : callK D_figure [.int 3, d] s = .exc 1 [] s ∧ callK D_pyramid [.int 3, d] s = .exc 1 [] s := by
  have f := fun st => need_bad (s := st) h hp
  have hd := hdV (pure_ne hp)
  refine ⟨callK_two hp ?_, callK_two hp ?_⟩
  · rw [r_figure]; unfold b_figure; simp [hd, f, F.out, sides3]
  · rw [r_pyramid]; unfold b_pyramid; simp [hd, f, F.out, sides3]
theorem bad_central {d : D} {s : S} (h : nofit 1 1000000 d = true) (hp : d.pure = true) : callK D_central [.int 3, d] s = .exc 1 [] s := by
  have f := fun st => need_bad (s := st) h hp
  have hd := hdV (pure_ne hp)
  refine callK_two hp ?_
  rw [r_central]; unfold b_central; simp [hd, f, F.out, sides3]
theorem bad_number {d : D} {s : S} (h : nofit 1 1000000000000 d = true) (hp : d.pure = true) : callK D_place_of [.int 3, d] s = .exc 1 [] s ∧ callK D_central_place [.int 3, d] s = .exc 1 [] s := by
  have f := fun st => need_bad (s := st) h hp
  have hd := hdV (pure_ne hp)
  refine ⟨callK_two hp ?_, callK_two hp ?_⟩
  · rw [r_place_of]; unfold b_place_of; simp [hd, f, F.out, sides3]
  · rw [r_central_place]; unfold b_central_place; simp [hd, f, F.out, sides3]
theorem bad_few {d : D} {s : S} (h : nofit 1 2000 d = true) (hp : d.pure = true) : callK D_fewest_figures [.int 3, d] s = .exc 1 [] s := by
  have f := fun st => need_bad (s := st) h hp
  have hd := hdV (pure_ne hp)
  refine callK_two hp ?_
  rw [r_fewest_figures]; unfold b_fewest_figures; simp [hd, f, F.out, sides3]
theorem callK_1 {f : Fn} {d : D} {s : S} (hp : d.pure = true) (h : f [d] [] = .exc 1 [] []) : callK f [d] s = .exc 1 [] s :=
  callK_exc (g := []) (by show (d.pure && true) = true; rw [hp]; rfl) h rfl
theorem bad_kinds {d : D} {s : S} (h : nofit 1 1000000000000 d = true) (hp : d.pure = true) : callK D_kinds_of [d] s = .exc 1 [] s := by
  have f := fun st => need_bad (s := st) h hp
  have hd := hdV (pure_ne hp)
  refine callK_1 hp ?_
  rw [r_kinds_of]; unfold b_kinds_of; simp [hd, f, F.out]
theorem bad_row {d e : D} {s : S} (h : nofit 1 1000000000000 d = true) (hp : d.pure = true) (he : Odd s e) : callK D_is_row_of [d, e] s = .exc 1 [] s := by
  have f := fun st => need_bad (s := st) h hp
  have hd := hdV (pure_ne hp)
  refine callK_odd hp he fun e' os he' => ?_
  rw [r_is_row_of]; unfold b_is_row_of; simp [hd, f, F.out]
theorem bad_rows {d : D} {s : S} (h : nofit 1 1000000 d = true) (hp : d.pure = true) : callK D_rows_with [d] s = .exc 1 [] s ∧ callK D_count_rows [d] s = .exc 1 [] s ∧ callK D_pentagon_signs [d] s = .exc 1 [] s := by
  have f := fun st => need_bad (s := st) h hp
  have hd := hdV (pure_ne hp)
  refine ⟨callK_1 hp ?_, callK_1 hp ?_, callK_1 hp ?_⟩
  · rw [r_rows_with]; unfold b_rows_with; simp [hd, f, F.out]
  · rw [r_count_rows]; unfold b_count_rows; simp [hd, f, F.out]
  · rw [r_pentagon_signs]; unfold b_pentagon_signs; simp [hd, f, F.out]
theorem bad_ways {d : D} {s : S} (h : nofit 0 600 d = true) (hp : d.pure = true) : callK D_ways_to_part [d] s = .exc 1 [] s := by
  have f := fun st => need_bad (s := st) h hp
  have hd := hdV (pure_ne hp)
  refine callK_1 hp ?_
  rw [r_ways_to_part]; unfold b_ways_to_part; simp [hd, f, F.out]
theorem bad_divs {d : D} {s : S} (h : nofit 1 600 d = true) (hp : d.pure = true) : callK D_divisor_sum [d] s = .exc 1 [] s := by
  have f := fun st => need_bad (s := st) h hp
  have hd := hdV (pure_ne hp)
  refine callK_1 hp ?_
  rw [r_divisor_sum]; unfold b_divisor_sum; simp [hd, f, F.out]
/-! the words -/
theorem word_num {m : E} {r : Env} {s s1 : S} (h : m r s = .exc 1 [] s1) : eLam (errH wfE) m r s = .ok numW s1 := by
  show errH wfE (fun s => m r s) s = _
  unfold errH
  simp only [h]
  rfl
theorem word_no {m : E} {r : Env} {s s1 : S} {d : D} (h : m r s = .ok d s1) : eLam (errH wfE) m r s = .ok noW s1 := by
  show errH wfE (fun s => m r s) s = _
  unfold errH
  simp only [h]
  rfl
theorem ap_callV {i k j : Nat} {tbl : Nat → Option Fn} {ms : A} {r : Env} {s s1 : S} {g : Fn} {ds : List D} (h1 : r[i]? = some (.fn j)) (h2 : tbl j = some g) (h3 : ms r s = .ok ds s1) (h4 : ds.length = k) : eCallV i k tbl ms r s = callK g ds s1 := by
  unfold eCallV
  rw [h1]
  simp only [h2, h3]
  show nArgs k (callK g) ds s1 = _
  unfold nArgs
  rw [if_pos h4]
end K94

namespace K94
open Y YN
open PySem (Str PyData)
/-! fewest figurate numbers: exact sums -/
inductive Ex (s : Int) : Nat → Nat → Prop
  | zero : Ex s 0 0
  | succ {k n f : Nat} : (∃ j : Nat, 1 ≤ j ∧ F s j = f) → Ex s k n → Ex s (k + 1) (n + f)
def Mn (s : Int) (n v : Nat) : Prop := Ex s v n ∧ ∀ k, Ex s k n → v ≤ k
theorem F_1 (s : Int) : F s 1 = 1 := by
  have := F_succ s 0
  rw [F_0] at this
  simpa using this
theorem fig_pos {s : Int} (hs : 3 ≤ s) {j f : Nat} (h1 : 1 ≤ j) (h : F s j = f) : 1 ≤ f := by
  have := F_ge hs (n := j) (by omega)
  omega
theorem Ex_le {s : Int} (hs : 3 ≤ s) {k n : Nat} (h : Ex s k n) : k ≤ n := by
  induction h with
  | zero => exact Nat.le_refl _
  | succ hj _ ih =>
    obtain ⟨j, j1, e⟩ := hj
    have := fig_pos hs j1 e
    omega
theorem Ex_ones (s : Int) : ∀ n, Ex s n n
  | 0 => .zero
  | n + 1 => .succ ⟨1, Nat.le_refl _, by have := F_1 s; exact_mod_cast this⟩ (Ex_ones s n)
theorem Mn_uniq {s : Int} {n v w : Nat} (h1 : Mn s n v) (h2 : Mn s n w) : v = w := Nat.le_antisymm (h1.2 _ h2.1) (h2.2 _ h1.1)
theorem least (P : Nat → Prop) : ∀ n, P n → ∃ v, P v ∧ ∀ k, P k → v ≤ k := by
  intro n
  induction n using Nat.strongRecOn with
  | _ n ih =>
    intro h
    by_cases c : ∃ m, m < n ∧ P m
    · obtain ⟨m, h1, h2⟩ := c
      exact ih m h1 h2
    · exact ⟨n, h, fun k hk => Nat.le_of_not_lt fun hl => c ⟨k, hl, hk⟩⟩
theorem Mn_ex (s : Int) (n : Nat) : ∃ v, Mn s n v := least (fun k => Ex s k n) n (Ex_ones s n)
theorem Mn_0 (s : Int) : Mn s 0 0 := ⟨.zero, fun _ _ => Nat.zero_le _⟩
/-- one figure less -/
theorem Ex_pre {s : Int} {k n : Nat} (h : Ex s (k + 1) n) : ∃ f m : Nat, (∃ j : Nat, 1 ≤ j ∧ F s j = f) ∧ Ex s k m ∧ n = m + f := by
  cases h with
  | succ hj h => exact ⟨_, _, hj, h, rfl⟩
theorem Mn_pre {s : Int} {k n : Nat} (h : Mn s n (k + 1)) : ∃ f m : Nat, (∃ j : Nat, 1 ≤ j ∧ F s j = f) ∧ Mn s m k ∧ n = m + f := by
  obtain ⟨f, m, hj, hm, e⟩ := Ex_pre h.1
  refine ⟨f, m, hj, ⟨hm, fun j hjm => ?_⟩, e⟩
  have := h.2 (j + 1) (by rw [e]; exact .succ hj hjm)
  omega
/-- a number with few below one with many -/
theorem Mn_below {s : Int} (k : Nat) : ∀ (v n : Nat), Mn s n v → k ≤ v → ∃ m, m ≤ n ∧ Mn s m k
  | 0, n, h, hk => ⟨n, Nat.le_refl _, by have : k = 0 := by omega
                                         rw [this]; exact h⟩
  | v + 1, n, h, hk => by
    by_cases c : k = v + 1
    · exact ⟨n, Nat.le_refl _, by rw [c]; exact h⟩
    · obtain ⟨f, m, _, hm, e⟩ := Mn_pre h
      obtain ⟨m', h1, h2⟩ := Mn_below k v m hm (by omega)
      exact ⟨m', by omega, h2⟩
/-- the least of what one figure less tells -/
theorem Mn_step {s : Int} {n m : Nat} (hn : 1 ≤ n) (h1 : ∃ f t : Nat, (∃ j : Nat, 1 ≤ j ∧ F s j = f) ∧ n = t + f ∧ Mn s t m) (h2 : ∀ f t v : Nat, (∃ j : Nat, 1 ≤ j ∧ F s j = f) → n = t + f → Mn s t v → m ≤ v) : Mn s n (m + 1) := by
  obtain ⟨f, t, hj, e, ht⟩ := h1
  refine ⟨by rw [e]; exact .succ hj ht.1, fun k hk => ?_⟩
  cases k with
  | zero => cases hk; omega
  | succ k =>
    obtain ⟨f', t', hj', ht', e'⟩ := Ex_pre hk
    obtain ⟨v, hv⟩ := Mn_ex s t'
    have := h2 f' t' v hj' e' hv
    have := hv.2 k ht'
    omega
/-! by bits -/
def fgN (s : Int) (m : Nat) : List Nat := ((List.range m).map fun k => (F s ((k + 1 : Nat) : Int)).toNat).filter fun f => decide (f ≤ m)
def orS (b : Nat) : List Nat → Nat
  | [] => 0
  | f :: r => (b <<< f) ||| orS b r
def Bs (fs : List Nat) (m : Nat) : Nat → Nat
  | 0 => 1
  | k + 1 => orS (Bs fs m k) fs % 2 ^ (m + 1)
theorem orS_bit (b n : Nat) : ∀ fs : List Nat, (orS b fs).testBit n = true ↔ ∃ f ∈ fs, f ≤ n ∧ b.testBit (n - f) = true
  | [] => by simp [orS]
  | f :: r => by
    unfold orS
    rw [Nat.testBit_or, Bool.or_eq_true, orS_bit b n r, Nat.testBit_shiftLeft]
    simp
theorem fg_mem {s : Int} (hs : 3 ≤ s) {m f : Nat} : f ∈ fgN s m ↔ (∃ j : Nat, 1 ≤ j ∧ F s j = f) ∧ f ≤ m := by
  unfold fgN
  rw [List.mem_filter, List.mem_map, decide_eq_true_eq]
  constructor
  · rintro ⟨⟨k, hk, e⟩, h⟩
    have := F_ge hs (n := ((k + 1 : Nat) : Int)) (by omega)
    exact ⟨⟨k + 1, by omega, by omega⟩, h⟩
  · rintro ⟨⟨j, j1, e⟩, h⟩
    have := F_ge hs (n := (j : Int)) (by omega)
    refine ⟨⟨j - 1, by rw [List.mem_range]; omega, ?_⟩, h⟩
    rw [show j - 1 + 1 = j by omega, e]; rfl
theorem Bs_bit {s : Int} (hs : 3 ≤ s) {m : Nat} : ∀ k n, n ≤ m → ((Bs (fgN s m) m k).testBit n = true ↔ Ex s k n)
  | 0, n, _ => by
    show Nat.testBit 1 n = true ↔ _
    cases n with
    | zero => exact ⟨fun _ => .zero, fun _ => rfl⟩
    | succ n =>
      rw [Nat.testBit_succ]
      constructor
      · intro h; simp at h
      · intro h; cases h
  | k + 1, n, hn => by
    unfold Bs
    rw [Nat.testBit_mod_two_pow, Bool.and_eq_true, decide_eq_true_eq, orS_bit]
    constructor
    · rintro ⟨_, f, hf, hl, hb⟩
      have := (Bs_bit hs k (n - f) (by omega)).mp hb
      have e : n = n - f + f := by omega
      rw [e]
      exact .succ ((fg_mem hs).mp hf).1 this
    · intro h
      obtain ⟨f, t, hj, ht, e⟩ := Ex_pre h
      exact ⟨by omega, f, (fg_mem hs).mpr ⟨hj, by omega⟩, by omega, (Bs_bit hs k (n - f) (by omega)).mpr (by rw [e, Nat.add_sub_cancel]; exact ht)⟩
def least? (fs : List Nat) (m n : Nat) (v : Nat) : Bool := (Bs fs m v).testBit n && (List.range v).all fun k => !(Bs fs m k).testBit n
theorem Mn_bits {s : Int} (hs : 3 ≤ s) {m n v : Nat} (hn : n ≤ m) (h : least? (fgN s m) m n v = true) : Mn s n v := by
  unfold least? at h
  rw [Bool.and_eq_true, List.all_eq_true] at h
  refine ⟨(Bs_bit hs v n hn).mp h.1, fun k hk => Nat.le_of_not_lt fun hl => ?_⟩
  have := h.2 k (List.mem_range.mpr hl)
  rw [(Bs_bit hs k n hn).mpr hk] at this
  cases this
theorem m7 : Mn 4 7 4 := Mn_bits (m := 7) (by decide) (by decide) (by decide +kernel)
theorem m1999 : Mn 4 1999 4 := Mn_bits (m := 2000) (by decide) (by decide) (by decide +kernel)
theorem m2000 : Mn 4 2000 2 := Mn_bits (m := 2000) (by decide) (by decide) (by decide +kernel)
theorem m1936 : Mn 4 1936 1 := Mn_bits (m := 2000) (by decide) (by decide) (by decide +kernel)
theorem m3 : Mn 3 2000 3 := Mn_bits (m := 2000) (by decide) (by decide) (by decide +kernel)
theorem m199 : Mn 100 199 100 := Mn_bits (m := 199) (by decide) (by decide) (by decide +kernel)
/-- all up to 199 by as many as sides -/
def allB (fs : List Nat) : Nat → Nat × Nat
  | 0 => (1, 1)
  | k + 1 => let p := allB fs k; let b := orS p.1 fs % 2 ^ 200; (b, p.2 ||| b)
theorem allB_1 (fs : List Nat) : ∀ k, (allB fs k).1 = Bs fs 199 k
  | 0 => rfl
  | k + 1 => by
    show orS (allB fs k).1 fs % 2 ^ 200 = _
    rw [allB_1 fs k]; rfl
theorem allB_2 (fs : List Nat) (n : Nat) : ∀ k, (allB fs k).2.testBit n = true → ∃ j, j ≤ k ∧ (Bs fs 199 j).testBit n = true
  | 0, h => ⟨0, Nat.le_refl _, h⟩
  | k + 1, h => by
    have h : ((allB fs k).2 ||| (allB fs (k + 1)).1).testBit n = true := h
    rw [Nat.testBit_or, Bool.or_eq_true] at h
    rcases h with h | h
    · obtain ⟨j, h1, h2⟩ := allB_2 fs n k h
      exact ⟨j, by omega, h2⟩
    · rw [allB_1] at h
      exact ⟨k + 1, Nat.le_refl _, h⟩
theorem chkS : ((List.range 98).all fun i => (allB (fgN ((i : Int) + 3) 199) (i + 3)).2 == 2 ^ 200 - 1) = true := by decide +kernel
theorem sides_do {s : Int} (hs : 3 ≤ s) (hs2 : s ≤ 100) {n v : Nat} (hn : n ≤ 199) (h : Mn s n v) : (v : Int) ≤ s := by
  have c := List.all_eq_true.mp chkS (s - 3).toNat (List.mem_range.mpr (by omega))
  have e1 : (((s - 3).toNat : Int) + 3) = s := by omega
  have e2 : (s - 3).toNat + 3 = s.toNat := by omega
  rw [e1, e2] at c
  have c : (allB (fgN s 199) s.toNat).2 = 2 ^ 200 - 1 := by simpa using c
  have b : (allB (fgN s 199) s.toNat).2.testBit n = true := by
    rw [c, Nat.testBit_two_pow_sub_one]
    simp; omega
  obtain ⟨j, h1, h2⟩ := allB_2 _ _ _ b
  have := h.2 j ((Bs_bit hs j n hn).mp h2)
  omega
end K94

namespace K94
open Y YN
open PySem (Str PyData)
noncomputable def mv (s : Int) (n : Nat) : Nat := Classical.choose (Mn_ex s n)
theorem mv_is (s : Int) (n : Nat) : Mn s n (mv s n) := Classical.choose_spec (Mn_ex s n)
theorem mv_eq {s : Int} {n v : Nat} (h : Mn s n v) : mv s n = v := Mn_uniq (mv_is s n) h
def figI (s : Int) (K : Nat) : List Int := (List.range K).map fun (k : Nat) => F s ((k : Int) + 1)
theorem figI_succ (s : Int) (K : Nat) : figI s (K + 1) = figI s K ++ [F s ((K : Int) + 1)] := by
  unfold figI
  rw [List.range_succ, List.map_append]; rfl
theorem figI_len (s : Int) (K : Nat) : (figI s K).length = K := by unfold figI; simp
theorem figI_mem {s : Int} {K : Nat} {f : Int} : f ∈ figI s K ↔ ∃ k : Nat, k < K ∧ f = F s ((k : Int) + 1) := by
  unfold figI
  rw [List.mem_map]
  constructor
  · rintro ⟨k, hk, e⟩; exact ⟨k, List.mem_range.mp hk, e.symm⟩
  · rintro ⟨k, hk, e⟩; exact ⟨k, List.mem_range.mpr hk, e.symm⟩
/-- all figures up to a number -/
def All (s : Int) (K : Nat) (n : Int) : Prop := (∀ k : Nat, k < K → F s ((k : Int) + 1) ≤ n) ∧ n < F s ((K : Int) + 1)
theorem all_mem {s : Int} (hs : 3 ≤ s) {K : Nat} {n : Int} (h : All s K n) {j : Nat} (j1 : 1 ≤ j) (hj : F s j ≤ n) : F s j ∈ figI s K := by
  refine figI_mem.mpr ⟨j - 1, ?_, by rw [show ((j - 1 : Nat) : Int) + 1 = j by omega]⟩
  refine Nat.lt_of_not_le fun c => ?_
  have h2 := h.2
  by_cases e : (K : Int) + 1 = j
  · rw [e] at h2; omega
  · have := F_gap hs (k := (K : Int) + 1) (m := j) (by omega) (by omega)
    omega
theorem fig_ge {s : Int} (hs : 3 ≤ s) {K : Nat} {f : Int} (h : f ∈ figI s K) : 1 ≤ f ∧ ∃ j : Nat, 1 ≤ j ∧ F s j = (f.toNat : Int) := by
  obtain ⟨k, _, rfl⟩ := figI_mem.mp h
  have := F_ge hs (n := (k : Int) + 1) (by omega)
  refine ⟨by omega, k + 1, by omega, ?_⟩
  rw [show ((k + 1 : Nat) : Int) = (k : Int) + 1 by omega]
  omega
/-- the found ones -/
noncomputable def fv (s : Int) (t i : Nat) : Int := if i < t then (mv s i : Int) else 0
noncomputable def fl (s : Int) (m t : Nat) : List D := (List.range m).map fun i => .int (fv s t i)
theorem fl_len (s : Int) (m t : Nat) : (fl s m t).length = m := by unfold fl; simp
theorem fl_at {s : Int} {m t i : Nat} (hi : i < m) (ht : i < t) : (fl s m t)[i]? = some (.int (mv s i)) := by
  unfold fl
  rw [List.getElem?_map, List.getElem?_range hi]
  show some (D.int (fv s t i)) = _
  unfold fv
  rw [if_pos ht]
theorem fl_set {s : Int} {m t : Nat} (ht : t < m) : (fl s m t).set t (.int (mv s t)) = fl s m (t + 1) := by
  refine List.ext_getElem? fun j => ?_
  unfold fl
  by_cases c : t = j
  · subst c
    rw [List.getElem?_set_self (by simpa using ht), List.getElem?_map, List.getElem?_range ht]
    show _ = some (D.int (fv s (t + 1) t))
    unfold fv
    rw [if_pos (by omega)]
  · rw [List.getElem?_set_ne c, List.getElem?_map, List.getElem?_map]
    by_cases hj : j < m
    · rw [List.getElem?_range hj]
      show some (D.int (fv s t j)) = some (D.int (fv s (t + 1) j))
      unfold fv
      by_cases h1 : j < t
      · rw [if_pos h1, if_pos (by omega)]
      · rw [if_neg h1, if_neg (by omega)]
    · rw [List.getElem?_eq_none (by simpa using hj)]; rfl
theorem minI_spec : ∀ (l : List Int), l ≠ [] → minI l ∈ l ∧ ∀ x ∈ l, minI l ≤ x := by
  intro l hl
  cases l with
  | nil => exact absurd rfl hl
  | cons x r => exact minI_sp r x
theorem maxI_spec : ∀ (l : List Int), l ≠ [] → maxI l ∈ l ∧ ∀ x ∈ l, x ≤ maxI l := by
  intro l hl
  cases l with
  | nil => exact absurd rfl hl
  | cons x r => exact maxI_sp r x
/-- the list that one step looks at -/
noncomputable def seen (s : Int) (K t : Nat) : List Int := ((figI s K).filter fun f => decide (f ≤ (t : Int))).map fun f => ((mv s ((t : Int) - f).toNat : Nat) : Int)
theorem seen_min {s : Int} (hs : 3 ≤ s) {K t : Nat} {n : Int} (h : All s K n) (t1 : 1 ≤ t) (tn : (t : Int) ≤ n) : seen s K t ≠ [] ∧ 1 + minI (seen s K t) = mv s t := by
  have one : (1 : Int) ∈ figI s K := by
    have e := F_1 s
    have := all_mem hs h (j := 1) (Nat.le_refl _) (by rw [show ((1 : Nat) : Int) = 1 from rfl, e]; omega)
    rw [show ((1 : Nat) : Int) = 1 from rfl, e] at this
    exact this
  have ne : seen s K t ≠ [] := by
    intro z
    have : ((mv s ((t : Int) - 1).toNat : Nat) : Int) ∈ seen s K t := by
      unfold seen
      exact List.mem_map.mpr ⟨1, List.mem_filter.mpr ⟨one, by simp; omega⟩, rfl⟩
    rw [z] at this
    cases this
  refine ⟨ne, ?_⟩
  obtain ⟨m1, m2⟩ := minI_spec _ ne
  obtain ⟨f, hf, e⟩ := List.mem_map.mp m1
  rw [List.mem_filter, decide_eq_true_eq] at hf
  obtain ⟨f1, hj⟩ := fig_ge hs hf.1
  have st : Mn s t (mv s ((t : Int) - f).toNat + 1) := by
    refine Mn_step t1 ⟨f.toNat, ((t : Int) - f).toNat, hj, by omega, mv_is _ _⟩ fun f' t' v hj' e' hv => ?_
    obtain ⟨j, j1, ej⟩ := hj'
    have hm := all_mem hs h j1 (by omega)
    have := m2 _ (List.mem_map.mpr ⟨F s j, List.mem_filter.mpr ⟨hm, by simp; omega⟩, rfl⟩)
    rw [show ((t : Int) - F s j).toNat = t' by omega, mv_eq hv] at this
    rw [← e] at this
    omega
  rw [← e, mv_eq st]
  omega
end K94

namespace K94
open Y YN
open PySem (Str PyData)
theorem ints_of : ∀ l : List Int, intsOf (l.map D.int) = some l
  | [] => rfl
  | i :: l => by
    show (match intsOf (l.map D.int) with | some is => some (i :: is) | none => none) = _
    rw [ints_of l]
theorem minL_ref {n : Nat} {l : List Int} {s : S} (h : s[n]? = some (.lst (l.map D.int))) (hl : l ≠ []) : bMinL [.ref n] s = .ok (.int (minI l)) s := by
  unfold bMinL
  simp only [seqL_ref, h, lstO_some, ints_of]
  cases l with
  | nil => exact absurd rfl hl
  | cons i r => rfl
theorem maxL_ref {n : Nat} {l : List Int} {s : S} (h : s[n]? = some (.lst (l.map D.int))) (hl : l ≠ []) : bMaxL [.ref n] s = .ok (.int (maxI l)) s := by
  unfold bMaxL
  simp only [seqL_ref, h, lstO_some, ints_of]
  cases l with
  | nil => exact absurd rfl hl
  | cons i r => rfl
theorem zero_fl (s : Int) : ∀ m : Nat, (List.replicate m [D.int 0]).flatten = fl s m 0 := by
  intro m
  refine List.ext_getElem? fun j => ?_
  have e : (List.replicate m [D.int 0]).flatten = List.replicate m (D.int 0) := by
    induction m with
    | zero => rfl
    | succ m ih => rw [List.replicate_succ, List.flatten_cons, ih, List.replicate_succ]; rfl
  rw [e]
  unfold fl
  rw [List.getElem?_map]
  by_cases c : j < m
  · rw [List.getElem?_range c, List.getElem?_replicate, if_pos c]
    show _ = some (D.int (fv s 0 j))
    unfold fv
    rw [if_neg (by omega)]
  · rw [List.getElem?_eq_none (by simpa using c), List.getElem?_eq_none (by simpa using c)]; rfl
theorem fl_1 (s : Int) (m : Nat) : fl s m 0 = fl s m 1 := by
  unfold fl
  refine List.map_congr_left fun i _ => ?_
  show D.int (fv s 0 i) = D.int (fv s 1 i)
  unfold fv
  rw [if_neg (by omega)]
  by_cases c : i < 1
  · rw [if_pos c, show i = 0 by omega, mv_eq (Mn_0 s)]; rfl
  · rw [if_neg c]
def fwC : T := tst (e2 oLe (eCallK 2 D_figure_in (aC (eV 0) (aC (e2 oAdd (eN bLen (aC (eV 2) aN)) (eC (.int 1))) aN))) (eV 1))
def fwB : Sm := zEx (eMe isL mApp (eV 2) (aC (eCallK 2 D_figure_in (aC (eV 0) (aC (e2 oAdd (eN bLen (aC (eV 2) aN)) (eC (.int 1))) aN))) aN))
def lenO : S → Nat
  | .lst xs :: _ => xs.length
  | _ => 0
theorem fw_loop {s n : Int} (hs : 3 ≤ s) (hs2 : s ≤ 100) (n1 : 1 ≤ n) (n2 : n ≤ 2000) {o1 o2 : O} : ∃ K : Nat, All s K n ∧ K ≤ 2000 ∧ zWhile fwC fwB [.int s, .int n, .ref 0, .ref 2, .undef, .undef] [.lst [], o1, o2] = .nx [.int s, .int n, .ref 0, .ref 2, .undef, .undef] [.lst ((figI s K).map D.int), o1, o2] := by
  obtain ⟨r', s', e, K, hK, k2, rfl, rfl⟩ := zWhile_inv (c := fwC) (b := fwB)
    (fun r st => ∃ K : Nat, (∀ k : Nat, k < K → F s ((k : Int) + 1) ≤ n) ∧ r = [.int s, .int n, .ref 0, .ref 2, .undef, .undef] ∧ st = [.lst ((figI s K).map D.int), o1, o2])
    (fun r st => ∃ K : Nat, All s K n ∧ K ≤ 2000 ∧ r = [.int s, .int n, .ref 0, .ref 2, .undef, .undef] ∧ st = [.lst ((figI s K).map D.int), o1, o2])
    (fun r st => n.toNat + 1 - lenO st) (by
    rintro r st ⟨K, hK, rfl, rfl⟩
    have kn : (K : Int) ≤ n := by
      cases K with
      | zero => omega
      | succ K =>
        have := hK K (by omega)
        have := F_ge hs (n := (K : Int) + 1) (by omega)
        omega
    have fk := fun st => figure_in_k (s := s) (n := (K : Int) + 1) (st := st) hs (by omega) (by omega) (by omega)
    have e1 : fwC [.int s, .int n, .ref 0, .ref 2, .undef, .undef] [.lst ((figI s K).map D.int), o1, o2] = .ok (decide (F s ((K : Int) + 1) ≤ n)) [.lst ((figI s K).map D.int), o1, o2] := by
      unfold fwC
      simp [figI_len, fk]
    refine ⟨_, _, e1, fun h => ⟨K, ⟨hK, by have := of_decide_eq_false h; omega⟩, by omega, rfl, rfl⟩, fun h => ?_⟩
    have h := of_decide_eq_true h
    refine ⟨[.int s, .int n, .ref 0, .ref 2, .undef, .undef], [.lst ((figI s (K + 1)).map D.int), o1, o2], .inl ?_, ⟨K + 1, fun k hk => ?_, rfl, rfl⟩, ?_⟩
    · unfold fwB
      have hL : K < LINE := by unfold LINE; omega
      simp [figI_len, fk, isL, hL, figI_succ]
    · by_cases c : k = K
      · rw [c]; exact h
      · exact hK k (by omega)
    · show n.toNat + 1 - ((figI s (K + 1)).map D.int).length < n.toNat + 1 - ((figI s K).map D.int).length
      rw [List.length_map, List.length_map, figI_len, figI_len]
      omega)
    (r := [.int s, .int n, .ref 0, .ref 2, .undef, .undef]) (s := [.lst [], o1, o2]) ⟨0, fun k hk => by omega, rfl, rfl⟩ (by show n.toNat + 1 - 0 < _; omega)
  exact ⟨K, hK, k2, e⟩
def fI (f : Int → D) : D → D
  | .int i => f i
  | _ => .non
def pI (f : Int → Bool) : D → Bool
  | .int i => f i
  | _ => false
def fwS : Sm := zPutL (eV 3) (eV 4) (e2 oAdd (eC (.int 1)) (eN bMinL (aC (eLc (iLst (eV 2)) (gV 5) (tst (e2 oLe (eV 5) (eV 4))) (e2 oIx (eV 3) (e2 oSub (eV 4) (eV 5))) [5]) aN)))
theorem filt_I (l : List Int) (p : Int → Bool) (f : Int → D) : ((l.map D.int).filter (pI p)).map (fI f) = (l.filter p).map f := by
  rw [List.filter_map, List.map_map]; rfl
theorem fw_step {s n : Int} (hs : 3 ≤ s) {K : Nat} (hK : All s K n) (k2 : K ≤ 2000) {t : Nat} (t1 : 1 ≤ t) (tn : (t : Int) ≤ n) (n2 : n ≤ 2000) {o1 : O} {G : S} {x5 : D} :
    ∃ G', fwS [.int s, .int n, .ref 0, .ref 2, .int t, x5] ([.lst ((figI s K).map D.int), o1, .lst (fl s (n.toNat + 1) t)] ++ G) = .nx [.int s, .int n, .ref 0, .ref 2, .int t, x5] ([.lst ((figI s K).map D.int), o1, .lst (fl s (n.toNat + 1) (t + 1))] ++ G') := by
  obtain ⟨ne, me⟩ := seen_min hs hK t1 tn
  have hit : iLst (eV 2) [.int s, .int n, .ref 0, .ref 2, .int t, x5] ([.lst ((figI s K).map D.int), o1, .lst (fl s (n.toNat + 1) t)] ++ G) = .ok (.list 0) ([.lst ((figI s K).map D.int), o1, .lst (fl s (n.toNat + 1) t)] ++ G) := ap_iLst (xs := (figI s K).map D.int) rfl rfl
  obtain ⟨G2, ec⟩ := eLc_lst (g := gV 5) (t := tst (e2 oLe (eV 5) (eV 4))) (e := e2 oIx (eV 3) (e2 oSub (eV 4) (eV 5))) (own := [5]) hit (xs := (figI s K).map D.int) rfl
    (fun x => [.int s, .int n, .ref 0, .ref 2, .int t, x]) (pI fun f => decide (f ≤ (t : Int))) (fI fun f => .int (mv s ((t : Int) - f).toNat)) (fun x hx => by
      obtain ⟨f, hf, rfl⟩ := List.mem_map.mp hx
      obtain ⟨f1, _⟩ := fig_ge hs hf
      refine CStep.of (fun s' => rfl) (fun acc G => rfl) fun hp acc G' => ?_
      have hp : f ≤ (t : Int) := of_decide_eq_true hp
      have i1 : atD (fl s (n.toNat + 1) t) ((t : Int) - f) = some (.int (mv s ((t : Int) - f).toNat)) := by
        have e : (t : Int) - f = ((((t : Int) - f).toNat : Nat) : Int) := by omega
        rw [e]
        exact atD_nat (fl_at (by omega) (by omega))
      have g2 : ([O.lst ((figI s K).map D.int), o1, .lst (fl s (n.toNat + 1) t)] ++ G ++ .lst acc :: G')[2]? = some (.lst (fl s (n.toNat + 1) t)) := rfl
      simp only [ap_e2, eV_succ, eV_ref, eV_int, bind_ok, v_subI, ix_ref, g2, lstO_some]
      simp [i1, fI]) (by rw [List.length_map, figI_len]; omega)
  rw [filt_I] at ec
  have es : ((figI s K).filter fun f => decide (f ≤ (t : Int))).map (fun f => D.int (mv s ((t : Int) - f).toNat)) = (seen s K t).map D.int := by
    unfold seen
    rw [List.map_map]; rfl
  rw [es] at ec
  have mn : bMinL [.ref ([O.lst ((figI s K).map D.int), o1, .lst (fl s (n.toNat + 1) t)] ++ G).length] ([.lst ((figI s K).map D.int), o1, .lst (fl s (n.toNat + 1) t)] ++ G ++ .lst ((seen s K t).map D.int) :: G2) = .ok (.int (minI (seen s K t))) ([.lst ((figI s K).map D.int), o1, .lst (fl s (n.toNat + 1) t)] ++ G ++ .lst ((seen s K t).map D.int) :: G2) :=
    minL_ref (by rw [List.getElem?_append_right (Nat.le_refl _), Nat.sub_self]; rfl) ne
  refine ⟨G ++ .lst ((seen s K t).map D.int) :: G2, ?_⟩
  unfold fwS
  rw [ap_zPutL, ap_e2, ap_eC, bind_ok, ap_eN, ap_aC, ec]
  simp only [bind_ok, ap_aN]
  rw [mn]
  simp only [bind_ok, v_addI, then_ok, eV_succ, eV_ref, eV_int, me]
  have ix : ixN (fl s (n.toNat + 1) t).length (t : Int) = some t := by
    rw [fl_len]
    unfold ixN
    rw [if_pos (by omega), if_pos (by omega)]
    simp
  have pl : putL (.ref 2) (.int (t : Int)) (.int (mv s t)) ([O.lst ((figI s K).map D.int), o1, .lst (fl s (n.toNat + 1) t)] ++ G ++ .lst ((seen s K t).map D.int) :: G2) = some ([O.lst ((figI s K).map D.int), o1, .lst (fl s (n.toNat + 1) (t + 1))] ++ (G ++ .lst ((seen s K t).map D.int) :: G2)) := by
    have g2 : ([O.lst ((figI s K).map D.int), o1, .lst (fl s (n.toNat + 1) t)] ++ G ++ .lst ((seen s K t).map D.int) :: G2)[2]? = some (.lst (fl s (n.toNat + 1) t)) := rfl
    rw [putL_ref, g2, lstO_some, Option.bind_some, ix, Option.map_some, fl_set (by omega)]
    simp
  rw [pl]; rfl
theorem fewest_ok {s n : Int} (hs : 3 ≤ s) (hs2 : s ≤ 100) (n1 : 1 ≤ n) (n2 : n ≤ 2000) : ∃ g, D_fewest_figures [.int s, .int n] [] = .ok (.int (mv s n.toNat)) g := by
  rw [r_fewest_figures]
  rw [show b_fewest_figures = zCons (zEx (eCallK 1 D_need_sides (aC (eV 0) aN))) (zCons (zEx (eCallK 3 D_need_whole (aC (eV 1) (aC (eC (.int 1)) (aC (eC (.int 2000)) aN))))) (zCons (zSet (gT (gsC (gV 2) (gsC (gV 3) gsN))) (eTup (aC (eLst aN) (aC (e2 oMul (eLst (aC (eC (.int 0)) aN)) (e2 oAdd (eV 1) (eC (.int 1)))) aN)))) (zCons (zWhile fwC fwB) (zCons (zFor (iRng2 (eC (.int 1)) (e2 oAdd (eV 1) (eC (.int 1)))) (gV 4) fwS) (zRet (e2 oIx (eV 3) (eV 1))))))) from rfl]
  have ns := fun st => need_sides_k (s := s) (st := st) hs hs2
  have nw := fun st => need_whole_k (i := n) (lo := 1) (hi := 2000) (s := st) n1 n2
  have mz : oMul (.ref 1) (.int (n + 1)) [O.lst [], .lst [.int 0]] = .ok (.ref 2) [O.lst [], .lst [.int 0], .lst (fl s (n.toNat + 1) 0)] := by
    unfold oMul
    have e : (n + 1).toNat = n.toNat + 1 := by omega
    have c : (n + 1).natAbs < 1000000000 ∧ ([D.int 0]).length * (n + 1).toNat ≤ LINE := by unfold LINE; simp; omega
    simp only [List.getElem?_cons_succ, List.getElem?_cons_zero]
    rw [if_pos c, e, zero_fl s]
    rfl
  have z3 : zSet (gT (gsC (gV 2) (gsC (gV 3) gsN))) (eTup (aC (eLst aN) (aC (e2 oMul (eLst (aC (eC (.int 0)) aN)) (e2 oAdd (eV 1) (eC (.int 1)))) aN))) [.int s, .int n, .undef, .undef, .undef, .undef] [] = .nx [.int s, .int n, .ref 0, .ref 2, .undef, .undef] [O.lst [], .lst [.int 0], .lst (fl s (n.toNat + 1) 0)] := by
    simp [mz]
  obtain ⟨K, hK, k2, ew⟩ := fw_loop hs hs2 n1 n2 (o1 := .lst [.int 0]) (o2 := .lst (fl s (n.toNat + 1) 0))
  rw [ap_zCons, show zEx (eCallK 1 D_need_sides (aC (eV 0) aN)) [.int s, .int n, .undef, .undef, .undef, .undef] [] = .nx [.int s, .int n, .undef, .undef, .undef, .undef] [] by simp [ns], andThen_nx, ap_zCons,
    show zEx (eCallK 3 D_need_whole (aC (eV 1) (aC (eC (.int 1)) (aC (eC (.int 2000)) aN)))) [.int s, .int n, .undef, .undef, .undef, .undef] [] = .nx [.int s, .int n, .undef, .undef, .undef, .undef] [] by simp [nw], andThen_nx, ap_zCons, z3, andThen_nx, ap_zCons, ew, andThen_nx]
  have n3 : (e2 oAdd (eV 1) (eC (.int 1))) [.int s, .int n, .ref 0, .ref 2, .undef, .undef] [.lst ((figI s K).map D.int), .lst [.int 0], .lst (fl s (n.toNat + 1) 0)] = .ok (.int (n + 1)) [.lst ((figI s K).map D.int), .lst [.int 0], .lst (fl s (n.toNat + 1) 0)] := by simp
  rw [ap_zCons, zFor_rng2, ap_eC, then_ok, n3, then_ok, NI_int, NI_int, if_pos (by omega), fl_1]
  refine for_out (fun j r st => ∃ x4 x5 G, r = [.int s, .int n, .ref 0, .ref 2, x4, x5] ∧ st = [.lst ((figI s K).map D.int), .lst [.int 0], .lst (fl s (n.toNat + 1) (j + 1))] ++ G) ⟨_, _, [], rfl, rfl⟩ ?_ ?_
  · rintro j d r st hd ⟨x4, x5, G, rfl, rfl⟩
    obtain ⟨rfl, hj⟩ := range2_get hd
    refine ⟨_, _, rfl, fun Q hQ => ?_⟩
    obtain ⟨G', e⟩ := fw_step hs hK k2 (t := j + 1) (by omega) (by omega) n2 (o1 := .lst [.int 0]) (G := G) (x5 := x5)
    rw [show ([.int s, .int n, .ref 0, .ref 2, x4, x5] : Env).set 4 (.int (1 + (j : Int))) = [.int s, .int n, .ref 0, .ref 2, .int ((j + 1 : Nat) : Int), x5] by
      rw [show (1 : Int) + (j : Int) = ((j + 1 : Nat) : Int) by omega]; rfl, e]
    exact Nx_nx (hQ _ _ ⟨_, _, _, rfl, rfl⟩)
  · rintro r st ⟨x4, x5, G, rfl, rfl⟩
    rw [range2_len, show (n + 1 - 1).toNat = n.toNat by omega]
    have i1 : atD (fl s (n.toNat + 1) (n.toNat + 1)) n = some (.int (mv s n.toNat)) := by
      have e : n = ((n.toNat : Nat) : Int) := by omega
      have := atD_nat (fl_at (s := s) (m := n.toNat + 1) (t := n.toNat + 1) (i := n.toNat) (by omega) (by omega))
      rwa [← e] at this
    exact ⟨[.lst ((figI s K).map D.int), .lst [.int 0], .lst (fl s (n.toNat + 1) (n.toNat + 1))] ++ G, by simp [i1, F.out]⟩
theorem fewest_k {s n : Int} (hs : 3 ≤ s) (hs2 : s ≤ 100) (n1 : 1 ≤ n) (n2 : n ≤ 2000) {st : S} : callK D_fewest_figures [.int s, .int n] st = .ok (.int (mv s n.toNat)) st := by
  obtain ⟨g, e⟩ := fewest_ok hs hs2 n1 n2
  exact callK_val rfl e rfl
end K94

namespace K94
open Y YN
open PySem (Str PyData)
theorem nodup_leN {a b : List Nat} : a.Nodup → (∀ x ∈ a, x ∈ b) → a.length ≤ b.length := by
  induction a generalizing b with
  | nil => intro _ _; simp
  | cons x a ih =>
    intro hn hs
    obtain ⟨h1, h2⟩ := List.nodup_cons.mp hn
    have := ih (b := b.erase x) h2 fun y hy => (List.mem_erase_of_ne (by rintro rfl; exact h1 hy)).mpr (hs y (List.mem_cons_of_mem _ hy))
    have hl := List.length_erase_of_mem (hs x List.mem_cons_self)
    have : 0 < b.length := List.length_pos_of_mem (hs x List.mem_cons_self)
    rw [List.length_cons]; omega
noncomputable def kvO (s : Int) (n : Nat) : D × D := (.int n, .int (mv s n))
def iN (n : Nat) : D := .int n
theorem fnd_kv (s : Int) (i : Nat) : ∀ Ks : List Nat, fndD (Ks.map (kvO s)) (.int i) = if i ∈ Ks then some (.int (mv s i)) else none
  | [] => rfl
  | n :: Ks => by
    have ih := fnd_kv s i Ks
    unfold fndD at ih ⊢
    rw [List.map_cons, List.find?_cons]
    have ke : keyEq (kvO s n).1 (.int i) = decide ((n : Int) = i) := keyEq_int
    rw [ke]
    by_cases c : n = i
    · subst c
      simp [kvO]
    · rw [decide_eq_false (by omega)]
      simp only
      rw [ih]
      by_cases d : i ∈ Ks
      · rw [if_pos d, if_pos (List.mem_cons_of_mem _ d)]
      · rw [if_neg d, if_neg (by simp [d]; omega)]
theorem put_kv (s : Int) {i : Nat} {Ks : List Nat} (h : i ∉ Ks) : putD (Ks.map (kvO s)) (.int i) (.int (mv s i)) = (Ks ++ [i]).map (kvO s) := by
  unfold putD
  rw [fnd_kv, if_neg h]
  simp [kvO]
/-- the store of the levels -/
structure Lt (s : Int) (K : Nat) (st : S) (q p : Nat) (Ks last later : List Nat) : Prop where
  f : st[0]? = some (.lst ((figI s K).map D.int))
  d : st[1]? = some (.dct false (Ks.map (kvO s)))
  l : st[q]? = some (.lst (last.map iN))
  r : st[p]? = some (.lst (later.map iN))
  q2 : 2 ≤ q
  p2 : 2 ≤ p
  qp : q ≠ p
/-- what a level knows -/
structure Lv (s : Int) (M k : Nat) (Ks last : List Nat) : Prop where
  nd : Ks.Nodup
  le : ∀ n ∈ Ks, n ≤ M
  io : ∀ n, n ≤ M → (n ∈ Ks ↔ mv s n ≤ k)
  la : ∀ n, n ∈ last ↔ n ≤ M ∧ mv s n = k
/-- .. while the next one comes -/
structure Lw (s : Int) (M k : Nat) (Ks later : List Nat) : Prop where
  nd : (Ks ++ later).Nodup
  la : ∀ n ∈ later, n ≤ M ∧ mv s n = k + 1
def lvS : Sm := (zIf (tAnd (tst (e2 oLe (e2 oAdd (eV 8) (eV 9)) (eV 1))) (tst (e2 oDNotIn (e2 oAdd (eV 8) (eV 9)) (eV 4))))
     (zCons (zPutD (eV 4) (e2 oAdd (eV 8) (eV 9)) (eV 6))
    (zEx (eMe isL mApp (eV 7) (aC (e2 oAdd (eV 8) (eV 9)) aN))))
     zNil)
theorem one_step {s most : Int} (hs : 3 ≤ s) {M K k : Nat} (hM : most = M) (m199 : M ≤ 199) {Ks last later : List Nat} (L : Lv s M k Ks last) (Wk : Lw s M k Ks later) {h : Nat} (hh : h ∈ last) {f : Int} (hf : f ∈ figI s K)
    {st : S} {q p : Nat} {x3 : D} (T : Lt s K st q p (Ks ++ later) last later) :
    ∃ later' st', lvS [.int s, .int most, .ref 0, x3, .ref 1, .ref q, .int ((k + 1 : Nat) : Int), .ref p, .int h, .int f] st = .nx [.int s, .int most, .ref 0, x3, .ref 1, .ref q, .int ((k + 1 : Nat) : Int), .ref p, .int h, .int f] st' ∧ Lw s M k Ks later' ∧ Lt s K st' q p (Ks ++ later') last later' ∧ (∀ n ∈ later, n ∈ later') ∧ (h + f.toNat ≤ M → h + f.toNat ∈ Ks ++ later') := by
  obtain ⟨f1, hj⟩ := fig_ge hs hf
  have e : (h : Int) + f = ((h + f.toNat : Nat) : Int) := by omega
  have t1 : tAnd (tst (e2 oLe (e2 oAdd (eV 8) (eV 9)) (eV 1))) (tst (e2 oDNotIn (e2 oAdd (eV 8) (eV 9)) (eV 4))) [.int s, .int most, .ref 0, x3, .ref 1, .ref q, .int ((k + 1 : Nat) : Int), .ref p, .int h, .int f] st = .ok (decide (h + f.toNat ≤ M) && !decide (h + f.toNat ∈ Ks ++ later)) st := by
    have cm : ((h : Int) + f ≤ most) ↔ h + f.toNat ≤ M := by omega
    have fk := fnd_kv s (h + f.toNat) (Ks ++ later)
    rw [← e] at fk
    by_cases c : h + f.toNat ≤ M <;> by_cases d : h + f.toNat ∈ Ks ++ later
    all_goals
      simp only [ap_tAnd, ap_tst, ap_e2, eV_succ, eV_int, eV_ref, bind_ok, v_addI, v_le, Bl_bl, ap_oDNotIn, dctD_ref, T.d, dctO_dct, Dc_some, keyOk_int, if_true, fk, cm, c, d, decide_true, decide_false, if_false, Option.isSome_some, Option.isSome_none, Bool.not_true, Bool.not_false, Bool.true_and, Bool.false_and] <;> try rfl
  unfold lvS
  rw [ap_zIf, t1, then_ok]
  by_cases c : h + f.toNat ≤ M ∧ h + f.toNat ∉ Ks ++ later
  · rw [if_pos (by simp [c.1, c.2])]
    have h1 := (L.la h).mp hh
    have mk : mv s (h + f.toNat) = k + 1 := by
      have a1 : mv s (h + f.toNat) ≤ k + 1 := by
        have := (mv_is s h).1
        rw [h1.2] at this
        exact (mv_is s (h + f.toNat)).2 _ (.succ hj this)
      have a2 : ¬ mv s (h + f.toNat) ≤ k := fun z => c.2 (List.mem_append_left _ ((L.io _ c.1).mpr z))
      omega
    have kl : (Ks ++ later).length < LINE := by
      have := nodup_leN (b := List.range 200) Wk.nd fun x hx => by
        rw [List.mem_range]
        rcases List.mem_append.mp hx with hx | hx
        · have := L.le x hx; omega
        · have := (Wk.la x hx).1; omega
      rw [List.length_range] at this
      unfold LINE; omega
    have ll : later.length < LINE := by rw [List.length_append] at kl; omega
    have pe := put_kv s c.2
    rw [mk] at pe
    have z1 : zPutD (eV 4) (e2 oAdd (eV 8) (eV 9)) (eV 6) [.int s, .int most, .ref 0, x3, .ref 1, .ref q, .int ((k + 1 : Nat) : Int), .ref p, .int h, .int f] st = .nx [.int s, .int most, .ref 0, x3, .ref 1, .ref q, .int ((k + 1 : Nat) : Int), .ref p, .int h, .int f] (st.set 1 (.dct false ((Ks ++ later ++ [h + f.toNat]).map (kvO s)))) := by
      simp only [ap_zPutD, ap_e2, eV_succ, eV_int, eV_ref, bind_ok, then_ok, v_addI, putDct_ref, T.d, dctO_dct, Option.bind_some, keyOk_int, true_and, List.length_map, kl, if_true, e, pe, Pu_some]
    have g1 : (st.set 1 (.dct false ((Ks ++ later ++ [h + f.toNat]).map (kvO s))))[p]? = some (.lst (later.map iN)) := by
      rw [List.getElem?_set_ne (by have := T.p2; omega)]; exact T.r
    have z2 : zEx (eMe isL mApp (eV 7) (aC (e2 oAdd (eV 8) (eV 9)) aN)) [.int s, .int most, .ref 0, x3, .ref 1, .ref q, .int ((k + 1 : Nat) : Int), .ref p, .int h, .int f] (st.set 1 (.dct false ((Ks ++ later ++ [h + f.toNat]).map (kvO s)))) = .nx [.int s, .int most, .ref 0, x3, .ref 1, .ref q, .int ((k + 1 : Nat) : Int), .ref p, .int h, .int f] ((st.set 1 (.dct false ((Ks ++ later ++ [h + f.toNat]).map (kvO s)))).set p (.lst ((later ++ [h + f.toNat]).map iN))) := by
      generalize st.set 1 (.dct false ((Ks ++ later ++ [h + f.toNat]).map (kvO s))) = st1 at *
      simp [isL, g1, ll, e, iN]
    refine ⟨later ++ [h + f.toNat], _, by rw [ap_zCons, z1, andThen_nx, z2], ⟨?_, fun n hn => ?_⟩, ⟨?_, ?_, ?_, ?_, T.q2, T.p2, T.qp⟩, fun n hn => List.mem_append_left _ hn, fun _ => by simp⟩
    · rw [← List.append_assoc, List.nodup_append]
      refine ⟨Wk.nd, by simp, fun a ha b hb => ?_⟩
      rw [List.mem_singleton] at hb
      rintro rfl
      rw [hb] at ha
      exact c.2 ha
    · rcases List.mem_append.mp hn with hn | hn
      · exact Wk.la n hn
      · rw [List.mem_singleton] at hn
        rw [hn]; exact ⟨c.1, mk⟩
    · rw [List.getElem?_set_ne (by have := T.p2; omega), List.getElem?_set_ne (by decide)]; exact T.f
    · rw [List.getElem?_set_ne (by have := T.p2; omega), List.getElem?_set_self (List.getElem?_eq_some_iff.mp T.d).1, List.append_assoc]
    · rw [List.getElem?_set_ne (by have := T.qp; omega), List.getElem?_set_ne (by have := T.q2; omega)]; exact T.l
    · rw [List.getElem?_set_self (by rw [List.length_set]; exact (List.getElem?_eq_some_iff.mp T.r).1)]
  · refine ⟨later, st, ?_, Wk, T, fun n hn => hn, fun hm => ?_⟩
    · rw [if_neg, ap_zNil]
      intro z
      simp at z
      exact c ⟨z.1, by simpa using z.2⟩
    · exact Classical.byContradiction fun z => c ⟨hm, z⟩
end K94

namespace K94
open Y YN
open PySem (Str PyData)
theorem inner_loop {s most : Int} (hs : 3 ≤ s) {M K k : Nat} (hM : most = M) (m199 : M ≤ 199) (k2 : K ≤ 2000) {Ks last : List Nat} (L : Lv s M k Ks last) {h : Nat} (hh : h ∈ last) {q p : Nat} {x3 x9 : D} {later : List Nat} {st : S} (Wk : Lw s M k Ks later) (T : Lt s K st q p (Ks ++ later) last later) :
    ∃ later' st' x9', zFor (iLst (eV 2)) (gV 9) lvS [.int s, .int most, .ref 0, x3, .ref 1, .ref q, .int ((k + 1 : Nat) : Int), .ref p, .int h, x9] st = .nx [.int s, .int most, .ref 0, x3, .ref 1, .ref q, .int ((k + 1 : Nat) : Int), .ref p, .int h, x9'] st' ∧ Lw s M k Ks later' ∧ Lt s K st' q p (Ks ++ later') last later' ∧ (∀ n ∈ later, n ∈ later') ∧ ∀ f ∈ figI s K, h + f.toNat ≤ M → h + f.toNat ∈ Ks ++ later' := by
  have e0 : zFor (iLst (eV 2)) (gV 9) lvS [.int s, .int most, .ref 0, x3, .ref 1, .ref q, .int ((k + 1 : Nat) : Int), .ref p, .int h, x9] st = forR (gV 9) lvS 0 FUEL 0 [.int s, .int most, .ref 0, x3, .ref 1, .ref q, .int ((k + 1 : Nat) : Int), .ref p, .int h, x9] st := by
    rw [zFor_lst]
    simp only [eV_succ, eV_ref, then_ok, NL_ref, T.f, lstO_some, Option.isSome_some, if_true]
  rw [e0]
  obtain ⟨r', s', er, later', x9', r1, W1, T1, I1, C1⟩ := forR_forM (g := gV 9) (b := lvS) (n := 0) (xs := (figI s K).map D.int) FUEL 0 _ st
    (fun j r st => ∃ later' x9', r = [.int s, .int most, .ref 0, x3, .ref 1, .ref q, .int ((k + 1 : Nat) : Int), .ref p, .int h, x9'] ∧ Lw s M k Ks later' ∧ Lt s K st q p (Ks ++ later') last later' ∧ (∀ n ∈ later, n ∈ later') ∧ ∀ i, i < j → ∀ f, (figI s K)[i]? = some f → h + f.toNat ≤ M → h + f.toNat ∈ Ks ++ later')
    (fuel_big (by rw [List.length_map, figI_len]; omega)) ⟨later, x9, rfl, Wk, T, fun n hn => hn, fun i hi => by omega⟩ (fun j r st ⟨_, _, _, _, T, _, _⟩ => T.f) (by
    rintro j x r st hx ⟨later1, x9, rfl, W1, T1, I1, C1⟩
    rw [List.getElem?_map] at hx
    cases hf : (figI s K)[j]? with
    | none => rw [hf] at hx; cases hx
    | some f =>
      rw [hf] at hx
      cases hx
      obtain ⟨later2, st2, e2', W2, T2, I2, C2⟩ := one_step hs hM m199 L W1 hh (List.mem_of_getElem? hf) (x3 := x3) T1
      refine ⟨_, _, _, _, rfl, .inl e2', later2, _, rfl, W2, T2, fun n hn => I2 n (I1 n hn), fun i hi g hg hle => ?_⟩
      by_cases c : i = j
      · subst c
        rw [hf] at hg; cases hg
        exact C2 hle
      · rcases List.mem_append.mp (C1 i (by omega) g hg hle) with z | z
        · exact List.mem_append_left _ z
        · exact List.mem_append_right _ (I2 _ z)) (Nat.zero_le _)
  refine ⟨later', s', x9', by rw [er, r1], W1, T1, I1, fun f hf hle => ?_⟩
  obtain ⟨i, hi⟩ := List.getElem?_of_mem hf
  exact C1 i (by rw [List.length_map]; exact (List.getElem?_eq_some_iff.mp hi).1) f hi hle
theorem last_small {s : Int} {M k : Nat} {Ks last : List Nat} (L : Lv s M k Ks last) (nd : last.Nodup) (m199 : M ≤ 199) : last.length ≤ 200 := by
  have := nodup_leN (b := List.range 200) nd fun x hx => by
    rw [List.mem_range]
    have := (L.la x).mp hx; omega
  rwa [List.length_range] at this
theorem outer_loop {s most : Int} (hs : 3 ≤ s) {M K k : Nat} (hM : most = M) (m199 : M ≤ 199) (k2 : K ≤ 2000) {Ks last : List Nat} (L : Lv s M k Ks last) (nl : last.Nodup) {q p : Nat} {x3 x8 x9 : D} {st : S} (T : Lt s K st q p (Ks ++ []) last []) :
    ∃ later' st' x8' x9', zFor (iLst (eV 5)) (gV 8) (zFor (iLst (eV 2)) (gV 9) lvS) [.int s, .int most, .ref 0, x3, .ref 1, .ref q, .int ((k + 1 : Nat) : Int), .ref p, x8, x9] st = .nx [.int s, .int most, .ref 0, x3, .ref 1, .ref q, .int ((k + 1 : Nat) : Int), .ref p, x8', x9'] st' ∧ Lw s M k Ks later' ∧ Lt s K st' q p (Ks ++ later') last later' ∧ ∀ h ∈ last, ∀ f ∈ figI s K, h + f.toNat ≤ M → h + f.toNat ∈ Ks ++ later' := by
  have e0 : zFor (iLst (eV 5)) (gV 8) (zFor (iLst (eV 2)) (gV 9) lvS) [.int s, .int most, .ref 0, x3, .ref 1, .ref q, .int ((k + 1 : Nat) : Int), .ref p, x8, x9] st = forR (gV 8) (zFor (iLst (eV 2)) (gV 9) lvS) q FUEL 0 [.int s, .int most, .ref 0, x3, .ref 1, .ref q, .int ((k + 1 : Nat) : Int), .ref p, x8, x9] st := by
    rw [zFor_lst]
    simp only [eV_succ, eV_ref, then_ok, NL_ref, T.l, lstO_some, Option.isSome_some, if_true]
  rw [e0]
  have sm := last_small L nl m199
  obtain ⟨r', s', er, later', x8', x9', r1, W1, T1, C1⟩ := forR_forM (g := gV 8) (b := zFor (iLst (eV 2)) (gV 9) lvS) (n := q) (xs := last.map iN) FUEL 0 _ st
    (fun j r st => ∃ later' x8' x9', r = [.int s, .int most, .ref 0, x3, .ref 1, .ref q, .int ((k + 1 : Nat) : Int), .ref p, x8', x9'] ∧ Lw s M k Ks later' ∧ Lt s K st q p (Ks ++ later') last later' ∧ ∀ i, i < j → ∀ h, last[i]? = some h → ∀ f ∈ figI s K, h + f.toNat ≤ M → h + f.toNat ∈ Ks ++ later')
    (fuel_big (by rw [List.length_map]; omega)) ⟨[], x8, x9, rfl, ⟨by rw [List.append_nil]; exact L.nd, fun n hn => by cases hn⟩, T, fun i hi => by omega⟩ (fun j r st ⟨_, _, _, _, _, T, _⟩ => T.l) (by
    rintro j x r st hx ⟨later1, x8, x9, rfl, W1, T1, C1⟩
    rw [List.getElem?_map] at hx
    cases hf : last[j]? with
    | none => rw [hf] at hx; cases hx
    | some h =>
      rw [hf] at hx
      cases hx
      obtain ⟨later2, st2, x92, e2', W2, T2, I2, C2⟩ := inner_loop hs hM m199 k2 L (List.mem_of_getElem? hf) (x3 := x3) (x9 := x9) W1 T1
      refine ⟨_, _, _, _, rfl, .inl e2', later2, _, _, rfl, W2, T2, fun i hi g hg f hff hle => ?_⟩
      by_cases c : i = j
      · subst c
        rw [hf] at hg; cases hg
        exact C2 f hff hle
      · rcases List.mem_append.mp (C1 i (by omega) g hg f hff hle) with z | z
        · exact List.mem_append_left _ z
        · exact List.mem_append_right _ (I2 _ z)) (Nat.zero_le _)
  refine ⟨later', s', x8', x9', by rw [er, r1], W1, T1, fun h hh f hf hle => ?_⟩
  obtain ⟨i, hi⟩ := List.getElem?_of_mem hh
  exact C1 i (by rw [List.length_map]; exact (List.getElem?_eq_some_iff.mp hi).1) h hi f hf hle
/-- the next level is known -/
theorem level_next {s : Int} (hs : 3 ≤ s) {M K k : Nat} (hK : All s K (M : Int)) {Ks last later : List Nat} (L : Lv s M k Ks last) (W1 : Lw s M k Ks later) (C : ∀ h ∈ last, ∀ f ∈ figI s K, h + f.toNat ≤ M → h + f.toNat ∈ Ks ++ later) : Lv s M (k + 1) (Ks ++ later) later := by
  have la : ∀ n, n ∈ later ↔ n ≤ M ∧ mv s n = k + 1 := fun n => by
    refine ⟨W1.la n, fun ⟨h1, h2⟩ => ?_⟩
    have hn := mv_is s n
    rw [h2] at hn
    obtain ⟨f, m, ⟨j, j1, ej⟩, hm, e⟩ := Mn_pre hn
    have hl : m ∈ last := (L.la m).mpr ⟨by omega, mv_eq hm⟩
    have hf := all_mem hs hK j1 (by omega)
    have := C m hl _ hf (by rw [ej]; omega)
    rw [ej, show m + ((f : Nat) : Int).toNat = n by omega] at this
    rcases List.mem_append.mp this with z | z
    · have := (L.io n h1).mp z
      omega
    · exact z
  refine ⟨W1.nd, fun n hn => ?_, fun n hn => ?_, la⟩
  · rcases List.mem_append.mp hn with z | z
    · exact L.le n z
    · exact (W1.la n z).1
  · rw [List.mem_append, L.io n hn, la n]
    omega
/-- it is not empty -/
theorem level_more {s : Int} {M k : Nat} {Ks last later : List Nat} (L : Lv s M k Ks last) (L2 : Lv s M (k + 1) (Ks ++ later) later) (h : Ks.length ≤ M) : later ≠ [] := by
  have : ∃ n, n ≤ M ∧ n ∉ Ks := Classical.byContradiction fun z => by
    have := nodup_leN (a := List.range (M + 1)) (b := Ks) List.nodup_range fun x hx => Classical.byContradiction fun c => z ⟨x, by rw [List.mem_range] at hx; omega, c⟩
    rw [List.length_range] at this
    omega
  obtain ⟨n, hn, hx⟩ := this
  have hv : ¬ mv s n ≤ k := fun z => hx ((L.io n hn).mpr z)
  obtain ⟨m, h1, h2⟩ := Mn_below (k + 1) _ n (mv_is s n) (by omega)
  have := (L2.la m).mpr ⟨by omega, mv_eq h2⟩
  intro z
  rw [z] at this
  cases this
theorem level_all {s : Int} {M k : Nat} {Ks last : List Nat} (L : Lv s M k Ks last) (h : ¬ Ks.length ≤ M) (n : Nat) : n ∈ Ks ↔ n ≤ M := by
  refine ⟨L.le n, fun hn => Classical.byContradiction fun c => ?_⟩
  have := nodup_leN (b := (List.range (M + 1)).erase n) L.nd fun x hx => by
    refine (List.mem_erase_of_ne ?_).mpr (List.mem_range.mpr (by have := L.le x hx; omega))
    rintro rfl; exact c hx
  rw [List.length_erase_of_mem (List.mem_range.mpr (by omega)), List.length_range] at this
  omega
end K94

namespace K94
open Y YN
open PySem (Str PyData)
def c1T : T := tst (e2 oLe (eCallK 2 D__law_figure (aC (eV 0) (aC (eV 3) aN))) (eV 1))
def b1S : Sm := (zCons (zEx (eMe isL mApp (eV 2) (aC (eCallK 2 D__law_figure (aC (eV 0) (aC (eV 3) aN))) aN)))
    (zSet (gV 3) (e2 oAdd (eV 3) (eC (.int 1)))))
theorem l1_loop {s n : Int} (hs : 3 ≤ s) (hs2 : s ≤ 100) (n1 : 1 ≤ n) (n2 : n ≤ 199) : ∃ K : Nat, All s K n ∧ K ≤ 2000 ∧ zWhile c1T b1S [.int s, .int n, .ref 0, .int 1, .undef, .undef, .undef, .undef, .undef, .undef] [.lst []] = .nx [.int s, .int n, .ref 0, .int ((K : Int) + 1), .undef, .undef, .undef, .undef, .undef, .undef] [.lst ((figI s K).map D.int)] := by
  obtain ⟨r', s', e, K, hK, k2, rfl, rfl⟩ := zWhile_inv (c := c1T) (b := b1S)
    (fun r st => ∃ K : Nat, (∀ k : Nat, k < K → F s ((k : Int) + 1) ≤ n) ∧ r = [.int s, .int n, .ref 0, .int ((K : Int) + 1), .undef, .undef, .undef, .undef, .undef, .undef] ∧ st = [.lst ((figI s K).map D.int)])
    (fun r st => ∃ K : Nat, All s K n ∧ K ≤ 2000 ∧ r = [.int s, .int n, .ref 0, .int ((K : Int) + 1), .undef, .undef, .undef, .undef, .undef, .undef] ∧ st = [.lst ((figI s K).map D.int)])
    (fun r st => n.toNat + 1 - lenO st) (by
    rintro r st ⟨K, hK, rfl, rfl⟩
    have kn : (K : Int) ≤ n := by
      cases K with
      | zero => omega
      | succ K =>
        have := hK K (by omega)
        have := F_ge hs (n := (K : Int) + 1) (by omega)
        omega
    have fk := fun st => law_figure_k (s := s) (n := (K : Int) + 1) (st := st) hs (by omega) (by omega) (by omega)
    have e1 : c1T [.int s, .int n, .ref 0, .int ((K : Int) + 1), .undef, .undef, .undef, .undef, .undef, .undef] [.lst ((figI s K).map D.int)] = .ok (decide (F s ((K : Int) + 1) ≤ n)) [.lst ((figI s K).map D.int)] := by
      unfold c1T
      simp [fk]
    refine ⟨_, _, e1, fun h => ⟨K, ⟨hK, by have := of_decide_eq_false h; omega⟩, by omega, rfl, rfl⟩, fun h => ?_⟩
    have h := of_decide_eq_true h
    refine ⟨[.int s, .int n, .ref 0, .int (((K + 1 : Nat) : Int) + 1), .undef, .undef, .undef, .undef, .undef, .undef], [.lst ((figI s (K + 1)).map D.int)], .inl ?_, ⟨K + 1, fun k hk => ?_, rfl, rfl⟩, ?_⟩
    · unfold b1S
      have hL : K < LINE := by unfold LINE; omega
      simp [figI_len, fk, isL, hL, figI_succ]
    · by_cases c : k = K
      · rw [c]; exact h
      · exact hK k (by omega)
    · show n.toNat + 1 - ((figI s (K + 1)).map D.int).length < n.toNat + 1 - ((figI s K).map D.int).length
      rw [List.length_map, List.length_map, figI_len, figI_len]
      omega)
    (r := [.int s, .int n, .ref 0, .int 1, .undef, .undef, .undef, .undef, .undef, .undef]) (s := [.lst []]) ⟨0, fun k hk => by omega, rfl, rfl⟩ (by show n.toNat + 1 - 0 < _; omega)
  exact ⟨K, hK, k2, e⟩
def c2T : T := tst (e2 oLe (eN bLenD (aC (eV 4) aN)) (eV 1))
def b2S : Sm := (zCons (zPar 7 6 (eLst aN) (e2 oAdd (eV 6) (eC (.int 1))))
    (zCons (zFor (iLst (eV 5)) (gV 8) (zFor (iLst (eV 2)) (gV 9) lvS))
    (zSet (gV 5) (eV 7))))
def lenD2 : S → Nat
  | _ :: .dct _ kvs :: _ => kvs.length
  | _ => 0
theorem lenD_at {st : S} {kvs : List (D × D)} (h : st[1]? = some (.dct false kvs)) : lenD2 st = kvs.length := by
  match st, h with
  | _ :: .dct _ l :: _, h => cases h; rfl
theorem len_dct {n : Nat} {st : S} {kvs : List (D × D)} (h : st[n]? = some (.dct false kvs)) : bLenD [.ref n] st = .ok (.int kvs.length) st := by
  unfold bLenD
  simp [h]
theorem later_nodup {s : Int} {M k : Nat} {Ks later : List Nat} (W1 : Lw s M k Ks later) : later.Nodup := (List.nodup_append.mp W1.nd).2.1
theorem Lt.app {s : Int} {K : Nat} {st : S} {q : Nat} {Ks last : List Nat} (f : st[0]? = some (.lst ((figI s K).map D.int))) (d : st[1]? = some (.dct false (Ks.map (kvO s)))) (l : st[q]? = some (.lst (last.map iN))) (q2 : 2 ≤ q) : Lt s K (st ++ [.lst []]) q st.length (Ks ++ []) last [] := by
  have l0 := (List.getElem?_eq_some_iff.mp f).1
  have l1 := (List.getElem?_eq_some_iff.mp d).1
  have lq := (List.getElem?_eq_some_iff.mp l).1
  exact ⟨by rw [List.getElem?_append_left l0]; exact f, by rw [List.getElem?_append_left l1, List.append_nil]; exact d, by rw [List.getElem?_append_left lq]; exact l, by simp, q2, by omega, by omega⟩
theorem lv_0 (s : Int) (M : Nat) : Lv s M 0 [0] [0] := by
  refine ⟨by simp, by simp, fun n _ => ?_, fun n => ?_⟩
  · rw [List.mem_singleton]
    constructor
    · rintro rfl; rw [mv_eq (Mn_0 s)]; exact Nat.le_refl _
    · intro h
      have := (mv_is s n).1
      rw [show mv s n = 0 by omega] at this
      cases this; rfl
  · rw [List.mem_singleton]
    constructor
    · rintro rfl; exact ⟨Nat.zero_le _, mv_eq (Mn_0 s)⟩
    · rintro ⟨_, h⟩
      have := (mv_is s n).1
      rw [h] at this
      cases this; rfl
theorem l2_loop {s most : Int} (hs : 3 ≤ s) {M K : Nat} (hM : most = M) (m199 : M ≤ 199) (k2 : K ≤ 2000) (hK : All s K (M : Int)) {x3 : D} {st0 : S} (f0 : st0[0]? = some (.lst ((figI s K).map D.int))) (d0 : st0[1]? = some (.dct false [(.int 0, .int 0)])) (l0 : st0[2]? = some (.lst [.int 0])) {x7 x8 x9 : D} :
    ∃ (r' : Env) (st' : S) (Ks : List Nat), zWhile c2T b2S [.int s, .int most, .ref 0, x3, .ref 1, .ref 2, .int 0, x7, x8, x9] st0 = .nx r' st' ∧ r'[4]? = some (.ref 1) ∧ st'[1]? = some (.dct false (Ks.map (kvO s))) ∧ Ks.Nodup ∧ ∀ n, n ∈ Ks ↔ n ≤ M := by
  obtain ⟨r', s', e, Ks, h1, h2, h3, h4⟩ := zWhile_inv (c := c2T) (b := b2S)
    (fun r st => ∃ (k q : Nat) (Ks last : List Nat) (x7 x8 x9 : D), r = [.int s, .int most, .ref 0, x3, .ref 1, .ref q, .int (k : Int), x7, x8, x9] ∧ st[0]? = some (.lst ((figI s K).map D.int)) ∧ st[1]? = some (.dct false (Ks.map (kvO s))) ∧ st[q]? = some (.lst (last.map iN)) ∧ 2 ≤ q ∧ Lv s M k Ks last ∧ last.Nodup)
    (fun r st => ∃ Ks : List Nat, r[4]? = some (.ref 1) ∧ st[1]? = some (.dct false (Ks.map (kvO s))) ∧ Ks.Nodup ∧ ∀ n, n ∈ Ks ↔ n ≤ M)
    (fun r st => M + 1 - lenD2 st) (by
    rintro r st ⟨k, q, Ks, last, x7, x8, x9, rfl, f, d, l, q2, L, nl⟩
    have e1 : c2T [.int s, .int most, .ref 0, x3, .ref 1, .ref q, .int (k : Int), x7, x8, x9] st = .ok (decide ((Ks.length : Int) ≤ most)) st := by
      unfold c2T
      simp [len_dct d]
    refine ⟨_, _, e1, fun h => ⟨Ks, rfl, d, L.nd, level_all L (by have := of_decide_eq_false h; omega)⟩, fun h => ?_⟩
    have h : Ks.length ≤ M := by have := of_decide_eq_true h; omega
    have T := Lt.app f d l q2
    obtain ⟨later, st1, x8', x9', el, W1, T1, C1⟩ := outer_loop hs hM m199 k2 L nl (x3 := x3) (x8 := x8) (x9 := x9) T
    have L2 := level_next hs hK L W1 C1
    have ne := level_more L L2 h
    have z1 : zPar 7 6 (eLst aN) (e2 oAdd (eV 6) (eC (.int 1))) [.int s, .int most, .ref 0, x3, .ref 1, .ref q, .int (k : Int), x7, x8, x9] st = .nx [.int s, .int most, .ref 0, x3, .ref 1, .ref q, .int ((k + 1 : Nat) : Int), .ref st.length, x8, x9] (st ++ [.lst []]) := by
      simp
    refine ⟨[.int s, .int most, .ref 0, x3, .ref 1, .ref st.length, .int ((k + 1 : Nat) : Int), .ref st.length, x8', x9'], st1, .inl ?_, ⟨k + 1, st.length, Ks ++ later, later, _, _, _, rfl, T1.f, T1.d, T1.r, T1.p2, L2, later_nodup W1⟩, ?_⟩
    · unfold b2S
      rw [ap_zCons, z1, andThen_nx, ap_zCons, el, andThen_nx]
      simp
    · rw [lenD_at d, lenD_at T1.d, List.length_map, List.length_map, List.length_append]
      have : 0 < later.length := List.length_pos_iff.mpr ne
      omega)
    (r := [.int s, .int most, .ref 0, x3, .ref 1, .ref 2, .int 0, x7, x8, x9]) (s := st0)
    ⟨0, 2, [0], [0], x7, x8, x9, rfl, f0, by rw [d0]; simp [kvO, mv_eq (Mn_0 s)], l0, by decide, lv_0 s M, by simp⟩ (by omega)
  exact ⟨r', s', Ks, e, h1, h2, h3, h4⟩
theorem kv_pure (s : Int) : ∀ Ks : List Nat, D.pureKV (Ks.map (kvO s)) = true
  | [] => rfl
  | n :: Ks => by
    show (true && true && D.pureKV (Ks.map (kvO s))) = true
    rw [kv_pure s Ks]; rfl
theorem levels_k {s most : Int} (hs : 3 ≤ s) (hs2 : s ≤ 100) (m1 : 1 ≤ most) (m2 : most ≤ 199) {st : S} : ∃ Ks : List Nat, Ks.Nodup ∧ (∀ n, n ∈ Ks ↔ n ≤ most.toNat) ∧ callK D__law_levels [.int s, .int most] st = .ok (.ref st.length) (st ++ [.dct false (Ks.map (kvO s))]) := by
  obtain ⟨K, hK, k2, ew⟩ := l1_loop hs hs2 m1 m2
  have hM : most = (most.toNat : Int) := by omega
  rw [hM] at hK
  obtain ⟨r', st', Ks, e2', h4, h5, h6, h7⟩ := l2_loop hs hM (by omega) k2 hK (x3 := .int ((K : Int) + 1)) (st0 := [.lst ((figI s K).map D.int), .dct false [(.int 0, .int 0)], .lst [.int 0]]) (x7 := .undef) (x8 := .undef) (x9 := .undef) rfl rfl rfl
  refine ⟨Ks, h6, h7, callK_new rfl (j := 1) (g := st') ?_ h5 (kv_pure s Ks)⟩
  rw [r__law_levels]
  rw [show b__law_levels = zCons (zPar 2 3 (eLst aN) (eC (.int 1))) (zCons (zWhile c1T b1S) (zCons (zPar3 4 5 6 (eDisp1 0 0) (eLst (aC (eC (.int 0)) aN)) (eC (.int 0))) (zCons (zWhile c2T b2S) (zRet (eV 4))))) from rfl]
  have z1 : zPar 2 3 (eLst aN) (eC (.int 1)) [.int s, .int most, .undef, .undef, .undef, .undef, .undef, .undef, .undef, .undef] [] = .nx [.int s, .int most, .ref 0, .int 1, .undef, .undef, .undef, .undef, .undef, .undef] [.lst []] := by simp
  have z3 : zPar3 4 5 6 (eDisp1 0 0) (eLst (aC (eC (.int 0)) aN)) (eC (.int 0)) [.int s, .int most, .ref 0, .int ((K : Int) + 1), .undef, .undef, .undef, .undef, .undef, .undef] [.lst ((figI s K).map D.int)] = .nx [.int s, .int most, .ref 0, .int ((K : Int) + 1), .ref 1, .ref 2, .int 0, .undef, .undef, .undef] [.lst ((figI s K).map D.int), .dct false [(.int 0, .int 0)], .lst [.int 0]] := by
    simp [eDisp1]
  rw [ap_zCons, z1, andThen_nx, ap_zCons, ew, andThen_nx, ap_zCons, z3, andThen_nx, ap_zCons, e2', andThen_nx, ap_zRet, ap_eV h4 (by intro z; cases z)]
  rfl
end K94

namespace K94
open Y YN
open PySem (Str PyData)
/-! what goes without an error -/
theorem add_refs' {a b : Nat} {xs ys : List D} {s : S} (ha : s[a]? = some (.lst xs)) (hb : s[b]? = some (.lst ys)) (h : xs.length + ys.length ≤ 1000000) : oAdd (.ref a) (.ref b) s = .ok (.ref s.length) (s ++ [.lst (xs ++ ys)]) := by
  unfold oAdd
  simp only [ha, hb]
  rw [if_pos (show xs.length + ys.length ≤ LINE from h)]
def fiC : T := tst (e2 oEq (e2 oMul (e2 oDiv (eV 0) (eV 2)) (eV 2)) (eV 0))
def fiB : Sm := zPar 0 3 (e2 oDiv (eV 0) (eV 2)) (e2 oAdd (eV 3) (eC (.int 1)))
theorem fi_loop {n p : Int} (n1 : 1 ≤ n) (n2 : n ≤ 1000000) (p1 : 2 ≤ p) (p2 : p ≤ 1001) {x1 : D} {st : S} : ∃ n' k : Int, 1 ≤ n' ∧ n' ≤ n ∧ 0 ≤ k ∧ k ≤ 1000000 ∧ zWhile fiC fiB [.int n, x1, .int p, .int 0] st = .nx [.int n', x1, .int p, .int k] st := by
  obtain ⟨r', s', e, m, k, m1, m2, k0, k1, rfl, rfl⟩ := zWhile_inv (c := fiC) (b := fiB)
    (fun r s => ∃ m k : Int, 1 ≤ m ∧ m ≤ n ∧ 0 ≤ k ∧ k + m ≤ n ∧ r = [.int m, x1, .int p, .int k] ∧ s = st)
    (fun r s => ∃ m k : Int, 1 ≤ m ∧ m ≤ n ∧ 0 ≤ k ∧ k + m ≤ n ∧ r = [.int m, x1, .int p, .int k] ∧ s = st)
    (fun r _ => match r with | .int m :: _ => m.toNat | _ => 0) (by
    rintro r s ⟨m, k, m1, m2, k0, k1, rfl, rfl⟩
    have d1 := fun st => v_div64 (i := m) (j := p) (s := st) (by omega) (by omega)
    have a1 : 0 ≤ m / p := Int.ediv_nonneg (by omega) (by omega)
    have a2 : m / p * p ≤ m := Int.ediv_mul_le m (by omega)
    have a3 : m / p < m := Int.ediv_lt_of_lt_mul (by omega) (by have := Int.mul_le_mul_of_nonneg_left (show (2 : Int) ≤ p from p1) (show 0 ≤ m by omega); omega)
    have q1 := fun st => v_mul64 (i := m / p) (j := p) (s := st) (by omega)
    have e1 : fiC [.int m, x1, .int p, .int k] s = .ok (decide (m / p * p = m)) s := by
      unfold fiC
      simp [d1, q1]
    refine ⟨_, _, e1, fun _ => ⟨m, k, m1, m2, k0, k1, rfl, rfl⟩, fun h => ?_⟩
    have h := of_decide_eq_true h
    have a4 : 1 ≤ m / p := Classical.byContradiction fun z => by
      have : m / p = 0 := by omega
      rw [this] at h; omega
    refine ⟨[.int (m / p), x1, .int p, .int (k + 1)], s, .inl ?_, ⟨m / p, k + 1, a4, by omega, by omega, by omega, rfl, rfl⟩, ?_⟩
    · unfold fiB
      simp [d1]
    · show (m / p).toNat < m.toNat
      omega)
    (r := [.int n, x1, .int p, .int 0]) (s := st) ⟨n, 0, n1, Int.le_refl _, by decide, by omega, rfl, rfl⟩ (by show n.toNat < _; omega)
  exact ⟨m, k, m1, m2, k0, by omega, e⟩
def foC : T := tst (e2 oLe (e2 oMul (eV 2) (eV 2)) (eV 0))
def foB : Sm := (zCons (zSet (gV 3) (eC (.int 0)))
    (zCons (zWhile fiC fiB)
    (zCons (zAug 1 oIAdd (eIf (tst (e2 oGt (eV 3) (eC (.int 0)))) (eLst (aC (eTup (aC (eV 2) (aC (eV 3) aN))) aN)) (eLst aN)))
    (zSet (gV 2) (e2 oAdd (eV 2) (eC (.int 1)))))))
theorem iadd_refs {a b : Nat} {xs ys : List D} {s : S} (ha : s[a]? = some (.lst xs)) (hb : s[b]? = some (.lst ys)) (h : xs.length + ys.length ≤ 1000000) : oIAdd (.ref a) (.ref b) s = .ok (.ref a) (s.set a (.lst (xs ++ ys))) := by
  unfold oIAdd
  simp only [ha, hb]
  rw [if_pos (show xs.length + ys.length ≤ LINE from h)]
/-- the pairs' bounds -/
def Fc (ps : List (Int × Int)) : Prop := ∀ p ∈ ps, 0 ≤ p.2 ∧ p.2 ≤ 1000000
theorem fo_loop {n : Int} (n1 : 1 ≤ n) (n2 : n ≤ 1000000) : ∃ (n' : Int) (ps : List (Int × Int)) (x2 x3 : D) (G : S), 1 ≤ n' ∧ Fc ps ∧ ps.length ≤ 1000 ∧ zWhile foC foB [.int n, .ref 0, .int 2, .undef] [.lst []] = .nx [.int n', .ref 0, x2, x3] (.lst (ps.map pairD) :: G) := by
  obtain ⟨r', s', e, m, ps, p, x3, G, m1, m2, p1, p2, hf, hl, rfl, rfl⟩ := zWhile_inv (c := foC) (b := foB)
    (fun r s => ∃ (m : Int) (ps : List (Int × Int)) (p : Int) (x3 : D) (G : S), 1 ≤ m ∧ m ≤ n ∧ 2 ≤ p ∧ p ≤ 1001 ∧ Fc ps ∧ (ps.length : Int) ≤ p - 2 ∧ r = [.int m, .ref 0, .int p, x3] ∧ s = .lst (ps.map pairD) :: G)
    (fun r s => ∃ (m : Int) (ps : List (Int × Int)) (p : Int) (x3 : D) (G : S), 1 ≤ m ∧ m ≤ n ∧ 2 ≤ p ∧ p ≤ 1001 ∧ Fc ps ∧ (ps.length : Int) ≤ p - 2 ∧ r = [.int m, .ref 0, .int p, x3] ∧ s = .lst (ps.map pairD) :: G)
    (fun r _ => match r with | _ :: _ :: .int p :: _ => (1002 - p).toNat | _ => 0) (by
    rintro r s ⟨m, ps, p, x3, G, m1, m2, p1, p2, hf, hl, rfl, rfl⟩
    have q1 := fun st => v_mul64 (i := p) (j := p) (s := st) (by omega)
    have e1 : foC [.int m, .ref 0, .int p, x3] (.lst (ps.map pairD) :: G) = .ok (decide (p * p ≤ m)) (.lst (ps.map pairD) :: G) := by
      unfold foC
      simp [q1]
    refine ⟨_, _, e1, fun _ => ⟨m, ps, p, x3, G, m1, m2, p1, p2, hf, hl, rfl, rfl⟩, fun h => ?_⟩
    have h := of_decide_eq_true h
    have p3 : p ≤ 1000 := Classical.byContradiction fun z => by
      have := Int.mul_le_mul (show (1001 : Int) ≤ p by omega) (show (1001 : Int) ≤ p by omega) (by decide) (by omega)
      omega
    obtain ⟨m', k, a1, a2, a3, a4, ei⟩ := fi_loop (n := m) (p := p) m1 (by omega) p1 p2 (x1 := .ref 0) (st := .lst (ps.map pairD) :: G)
    have z1 : zSet (gV 3) (eC (.int 0)) [.int m, .ref 0, .int p, x3] (.lst (ps.map pairD) :: G) = .nx [.int m, .ref 0, .int p, .int 0] (.lst (ps.map pairD) :: G) := by simp
    by_cases c : 0 < k
    · have ia := iadd_refs (a := 0) (b := G.length + 1) (xs := ps.map pairD) (ys := [pairD (p, k)]) (s := .lst (ps.map pairD) :: (G ++ [.lst [pairD (p, k)]])) rfl (by simp) (by rw [List.length_map]; simp; omega)
      refine ⟨[.int m', .ref 0, .int (p + 1), .int k], .lst ((ps ++ [(p, k)]).map pairD) :: (G ++ [.lst [pairD (p, k)]]), .inl ?_, ⟨m', ps ++ [(p, k)], p + 1, _, _, a1, by omega, by omega, by omega, fun q hq => ?_, by rw [List.length_append]; simp; omega, rfl, rfl⟩, by show (1002 - (p + 1)).toNat < (1002 - p).toNat; omega⟩
      · unfold foB
        rw [ap_zCons, z1, andThen_nx, ap_zCons, ei, andThen_nx]
        simp only [pairD] at ia
        have c' : k > 0 := c
        simp [zAug, c, ia, pairD]
      · rcases List.mem_append.mp hq with hq | hq
        · exact hf q hq
        · rw [List.mem_singleton] at hq
          rw [hq]; exact ⟨a3, a4⟩
    · have ia := iadd_refs (a := 0) (b := G.length + 1) (xs := ps.map pairD) (ys := []) (s := .lst (ps.map pairD) :: (G ++ [.lst []])) rfl (by simp) (by rw [List.length_map]; simp; omega)
      refine ⟨[.int m', .ref 0, .int (p + 1), .int k], .lst (ps.map pairD) :: (G ++ [.lst []]), .inl ?_, ⟨m', ps, p + 1, _, _, a1, by omega, by omega, by omega, hf, by omega, rfl, rfl⟩, by show (1002 - (p + 1)).toNat < (1002 - p).toNat; omega⟩
      unfold foB
      rw [ap_zCons, z1, andThen_nx, ap_zCons, ei, andThen_nx]
      simp [zAug, c, ia])
    (r := [.int n, .ref 0, .int 2, .undef]) (s := [.lst []]) ⟨n, [], 2, _, [], n1, Int.le_refl _, by decide, by decide, fun q hq => (by cases hq), by decide, rfl, rfl⟩ (by show (1002 - 2 : Int).toNat < _; decide)
  exact ⟨m, ps, _, _, _, m1, hf, by omega, e⟩
theorem factors_ex {n : Int} (n1 : 1 ≤ n) (n2 : n ≤ 1000000) (s : S) : ∃ ps : List (Int × Int), Fc ps ∧ ps.length ≤ 1001 ∧ callK D_factors_in [.int n] s = .ok (.ref s.length) (s ++ [.lst (ps.map pairD)]) := by
  obtain ⟨n', ps, x2, x3, G, m1, hf, hl, e⟩ := fo_loop n1 n2
  have e0 : D_factors_in [.int n] [] = (zRet (e2 oAdd (eV 1) (eIf (tst (e2 oGt (eV 0) (eC (.int 1)))) (eLst (aC (eTup (aC (eV 0) (aC (eC (.int 1)) aN))) aN)) (eLst aN))) [.int n', .ref 0, x2, x3] (.lst (ps.map pairD) :: G)).out := by
    rw [r_factors_in]
    rw [show b_factors_in = zCons (zPar 1 2 (eLst aN) (eC (.int 2))) (zCons (zWhile foC foB) (zRet (e2 oAdd (eV 1) (eIf (tst (e2 oGt (eV 0) (eC (.int 1)))) (eLst (aC (eTup (aC (eV 0) (aC (eC (.int 1)) aN))) aN)) (eLst aN))))) from rfl]
    have z1 : zPar 1 2 (eLst aN) (eC (.int 2)) [.int n, .undef, .undef, .undef] [] = .nx [.int n, .ref 0, .int 2, .undef] [.lst []] := by simp
    rw [ap_zCons, z1, andThen_nx, ap_zCons, e, andThen_nx]
  by_cases c : 1 < n'
  · have ad := add_refs' (a := 0) (b := G.length + 1) (xs := ps.map pairD) (ys := [pairD (n', 1)]) (s := .lst (ps.map pairD) :: (G ++ [.lst [pairD (n', 1)]])) rfl (by simp) (by rw [List.length_map]; simp; omega)
    refine ⟨ps ++ [(n', 1)], fun q hq => ?_, by rw [List.length_append]; simp; omega, callK_new rfl (j := G.length + 2) (g := .lst (ps.map pairD) :: (G ++ [.lst [pairD (n', 1)]]) ++ [.lst ((ps ++ [(n', 1)]).map pairD)]) ?_ (by simp) (pure_pairs _)⟩
    · rcases List.mem_append.mp hq with hq | hq
      · exact hf q hq
      · rw [List.mem_singleton] at hq
        rw [hq]; exact ⟨show (0 : Int) ≤ 1 by decide, show (1 : Int) ≤ 1000000 by decide⟩
    · rw [e0]
      simp only [pairD] at ad
      have c' : n' > 1 := c
      simp [c, ad, pairD, F.out]
  · have ad := add_refs' (a := 0) (b := G.length + 1) (xs := ps.map pairD) (ys := []) (s := .lst (ps.map pairD) :: (G ++ [.lst []])) rfl (by simp) (by rw [List.length_map]; simp; omega)
    refine ⟨ps, hf, by omega, callK_new rfl (j := G.length + 2) (g := .lst (ps.map pairD) :: (G ++ [.lst []]) ++ [.lst (ps.map pairD)]) ?_ (by simp) (pure_pairs _)⟩
    rw [e0]
    simp [c, ad, F.out]
def crB : Sm := zSet (gV 1) (e2 oMul (eV 1) (eIf (tst (e2 oGt (eV 2) (eC (.int 2)))) (e2 oAdd (eV 3) (eC (.int 1))) (eC (.int 1))))
theorem count_ex {n : Int} (n1 : 1 ≤ n) (n2 : n ≤ 1000000) (s : S) : ∃ v : Int, callK D_count_rows [.int n] s = .ok (.int v) s := by
  have nk := fun st => need_whole_k (i := n) (lo := 1) (hi := 1000000) (s := st) n1 n2
  obtain ⟨ps, hf, hl, e⟩ := factors_ex n1 n2 []
  have e1 : zFor (iLst (eCallK 1 D_factors_in (aC (eV 0) aN))) (gT (gsC (gV 2) (gsC (gV 3) gsN))) crB [.int n, .int 1, .undef, .undef] [] = forR (gT (gsC (gV 2) (gsC (gV 3) gsN))) crB 0 FUEL 0 [.int n, .int 1, .undef, .undef] [.lst (ps.map pairD)] := by
    rw [zFor_lst]
    simp [e]
  obtain ⟨r', s', er, v, x2, x3, r1, r2⟩ := forR_forM (g := gT (gsC (gV 2) (gsC (gV 3) gsN))) (b := crB) (n := 0) (xs := ps.map pairD) FUEL 0 [.int n, .int 1, .undef, .undef] [.lst (ps.map pairD)]
    (fun j r s => ∃ (v : Int) (x2 x3 : D), r = [.int n, .int v, x2, x3] ∧ s = [.lst (ps.map pairD)]) (fuel_big (by rw [List.length_map]; omega)) ⟨1, _, _, rfl, rfl⟩ (fun j r s ⟨_, _, _, _, hs⟩ => by rw [hs]; rfl) (by
    rintro j x r s hx ⟨v, x2, x3, rfl, rfl⟩
    rw [List.getElem?_map] at hx
    cases hp : ps[j]? with
    | none => rw [hp] at hx; cases hx
    | some p =>
      rw [hp] at hx
      cases hx
      obtain ⟨b1, b2⟩ := hf p (List.mem_of_getElem? hp)
      have q1 := fun st => v_mul64r (i := v) (j := p.2 + 1) (s := st) (by omega)
      have q2 := fun st => v_mul64r (i := v) (j := 1) (s := st) (by decide)
      by_cases c : p.1 > 2
      · refine ⟨_, _, [.int n, .int (v * (p.2 + 1)), .int p.1, .int p.2], _, rfl, .inl ?_, _, _, _, rfl, rfl⟩
        unfold crB
        have c' : 2 < p.1 := c
        simp [c', q1]
      · refine ⟨_, _, [.int n, .int (v * 1), .int p.1, .int p.2], _, rfl, .inl ?_, _, _, _, rfl, rfl⟩
        unfold crB
        have c' : ¬ 2 < p.1 := c
        simp [c', q2]) (Nat.zero_le _)
  refine ⟨v, callK_val rfl (g := s') ?_ rfl⟩
  rw [r_count_rows]
  rw [show b_count_rows = zCons (zEx (eCallK 3 D_need_whole (aC (eV 0) (aC (eC (.int 1)) (aC (eC (.int 1000000)) aN))))) (zCons (zSet (gV 1) (eC (.int 1))) (zCons (zFor (iLst (eCallK 1 D_factors_in (aC (eV 0) aN))) (gT (gsC (gV 2) (gsC (gV 3) gsN))) crB) (zRet (eV 1)))) from rfl]
  have z1 : zEx (eCallK 3 D_need_whole (aC (eV 0) (aC (eC (.int 1)) (aC (eC (.int 1000000)) aN)))) [.int n, .undef, .undef, .undef] [] = .nx [.int n, .undef, .undef, .undef] [] := by simp [nk]
  have z2 : zSet (gV 1) (eC (.int 1)) [.int n, .undef, .undef, .undef] [] = .nx [.int n, .int 1, .undef, .undef] [] := by simp
  rw [ap_zCons, z1, andThen_nx, ap_zCons, z2, andThen_nx, ap_zCons, e1, er, andThen_nx, r1]
  simp [F.out]
theorem pm_1M : pm 1000000 = 816 := by decide +kernel
theorem signs_ex {n : Int} (n1 : 1 ≤ n) (n2 : n ≤ 1000000) (hpl : pm n ≤ 1000) (s : S) : ∃ d, callK D_pentagon_signs [.int n] s = .ok d s := by
  have nk := fun st => need_whole_k (i := n) (lo := 1) (hi := 1000000) (s := st) n1 n2
  have pk := fun st => pentagons_k (n := n) (s := st) (by omega) n2
  have hit : iLst (eCallK 1 D_pentagons_to (aC (eV 0) aN)) [.int n, .undef] [] = .ok (.list 0) [.lst ((penL (pm n)).map pairD)] := ap_iLst (xs := (penL (pm n)).map pairD) (by simp [pk]) (by simp)
  obtain ⟨G2, ec⟩ := eLc_lst (g := gV 1) (t := tst (e2 oLe (e2 oIx (eV 1) (eC (.int 0))) (eV 0))) (e := eV 1) (own := [1]) hit (xs := (penL (pm n)).map pairD) (by simp)
    (fun x => [.int n, x]) (qB fun a b => decide (a ≤ n)) id (fun x hx => by
      obtain ⟨⟨a, b⟩, hab, rfl⟩ := List.mem_map.mp hx
      exact CStep.of (fun s' => by simp [wipeD]) (fun acc G => by simp [pairD, qB]) fun hp acc G => by simp [pairD]) (by rw [List.length_map, penL_len]; omega)
  rw [filter_pairs _ _ (fun p => decide (p.1 ≤ n)) (fun x _ => rfl)] at ec
  refine ⟨.tup ((((penL (pm n)).filter fun p => decide (p.1 ≤ n))).map pairD), callK_tup rfl (g := .lst ((penL (pm n)).map pairD) :: .lst ((((penL (pm n)).filter fun p => decide (p.1 ≤ n))).map pairD) :: G2) ?_ (pure_pairs ((penL (pm n)).filter fun p => decide (p.1 ≤ n)))⟩
  rw [r_pentagon_signs]
  unfold b_pentagon_signs
  simp [nk, ec]
theorem signs_1M (s : S) : ∃ d, callK D_pentagon_signs [.int 1000000] s = .ok d s := signs_ex (by decide) (by decide) (by rw [pm_1M]; decide) s
end K94

namespace K94
open Y YN
open PySem (Str PyData)
/-! rows, and all ten calls without an error -/
theorem pairs_prO : ∀ ps : List (Int × Int), pairsOf (ps.map prO) = some ps
  | [] => rfl
  | p :: r => by
    show (match pairsOf (r.map prO) with | some ps => some ((p.1, p.2) :: ps) | none => none) = _
    rw [pairs_prO r]
theorem prO_pairD : prO = pairD := rfl
def rwC : T := tst (e2 oLe (e2 oDiv (e2 oMul (eV 2) (e2 oAdd (eV 2) (eC (.int 1)))) (eC (.int 2))) (eV 0))
def rwB : Sm := (zCons (zSet (gV 3) (e2 oSub (eV 0) (e2 oDiv (e2 oMul (eV 2) (e2 oSub (eV 2) (eC (.int 1)))) (eC (.int 2)))))
    (zCons (zIf (tst (e2 oEq (e2 oMul (e2 oDiv (eV 3) (eV 2)) (eV 2)) (eV 3)))
     (zEx (eMe isL mApp (eV 1) (aC (eTup (aC (e2 oDiv (eV 3) (eV 2)) (aC (e2 oSub (e2 oAdd (e2 oDiv (eV 3) (eV 2)) (eV 2)) (eC (.int 1))) aN))) aN)))
     zNil)
    (zSet (gV 2) (e2 oAdd (eV 2) (eC (.int 1))))))
theorem rw_loop {n : Int} (n1 : 1 ≤ n) (n2 : n ≤ 1000000) : ∃ (ps : List (Int × Int)) (x2 x3 : D), ps.length ≤ 2000 ∧ zWhile rwC rwB [.int n, .ref 0, .int 1, .undef] [.lst []] = .nx [.int n, .ref 0, x2, x3] [.lst (ps.map prO)] := by
  obtain ⟨r', s', e, ps, k, x3, k1, k2, hl, rfl, rfl⟩ := zWhile_inv (c := rwC) (b := rwB)
    (fun r s => ∃ (ps : List (Int × Int)) (k : Int) (x3 : D), 1 ≤ k ∧ k ≤ 1415 ∧ (ps.length : Int) ≤ k - 1 ∧ r = [.int n, .ref 0, .int k, x3] ∧ s = [.lst (ps.map prO)])
    (fun r s => ∃ (ps : List (Int × Int)) (k : Int) (x3 : D), 1 ≤ k ∧ k ≤ 1415 ∧ (ps.length : Int) ≤ k - 1 ∧ r = [.int n, .ref 0, .int k, x3] ∧ s = [.lst (ps.map prO)])
    (fun r _ => match r with | _ :: _ :: .int p :: _ => (1500 - p).toNat | _ => 0) (by
    rintro r s ⟨ps, k, x3, k1, k2, hl, rfl, rfl⟩
    have q1 := fun j st => v_mul64 (i := k) (j := j) (s := st) (by omega)
    have d2 := fun i st => v_div64 (i := i) (j := 2) (s := st) (by omega) (by omega)
    have e1 : rwC [.int n, .ref 0, .int k, x3] [.lst (ps.map prO)] = .ok (decide (k * (k + 1) / 2 ≤ n)) [.lst (ps.map prO)] := by
      unfold rwC
      simp [q1, d2]
    refine ⟨_, _, e1, fun _ => ⟨ps, k, x3, k1, k2, hl, rfl, rfl⟩, fun h => ?_⟩
    have h := of_decide_eq_true h
    have k3 : k ≤ 1413 := Classical.byContradiction fun z => by
      have := Int.mul_le_mul (show (1414 : Int) ≤ k by omega) (show (1415 : Int) ≤ k + 1 by omega) (by decide) (by omega)
      omega
    obtain ⟨d, hd⟩ : ∃ d, n - k * (k - 1) / 2 = d := ⟨_, rfl⟩
    have d3 := fun st => v_div64 (i := d) (j := k) (s := st) (by omega) (by omega)
    have q3 := fun st => v_mul64r (i := d / k) (j := k) (s := st) (by omega)
    have z1 : zSet (gV 3) (e2 oSub (eV 0) (e2 oDiv (e2 oMul (eV 2) (e2 oSub (eV 2) (eC (.int 1)))) (eC (.int 2)))) [.int n, .ref 0, .int k, x3] [.lst (ps.map prO)] = .nx [.int n, .ref 0, .int k, .int d] [.lst (ps.map prO)] := by
      simp [q1, d2, hd]
    have ll : (ps.map prO).length < LINE := by rw [List.length_map]; unfold LINE; omega
    by_cases c : d / k * k = d
    · refine ⟨[.int n, .ref 0, .int (k + 1), .int d], [.lst ((ps ++ [(d / k, d / k + k - 1)]).map prO)], .inl ?_, ⟨ps ++ [(d / k, d / k + k - 1)], k + 1, _, by omega, by omega, by rw [List.length_append]; simp; omega, rfl, rfl⟩, by show (1500 - (k + 1)).toNat < (1500 - k).toNat; omega⟩
      unfold rwB
      rw [ap_zCons, z1, andThen_nx]
      rw [List.length_map] at ll
      simp [d3, q3, c, ll, prO]
    · refine ⟨[.int n, .ref 0, .int (k + 1), .int d], [.lst (ps.map prO)], .inl ?_, ⟨ps, k + 1, _, by omega, by omega, by omega, rfl, rfl⟩, by show (1500 - (k + 1)).toNat < (1500 - k).toNat; omega⟩
      unfold rwB
      rw [ap_zCons, z1, andThen_nx]
      simp [d3, q3, c])
    (r := [.int n, .ref 0, .int 1, .undef]) (s := [.lst []]) ⟨[], 1, _, by decide, by decide, by decide, rfl, rfl⟩ (by show (1500 - 1 : Int).toNat < _; decide)
  exact ⟨ps, _, _, by omega, e⟩
theorem rows_ex {n : Int} (n1 : 1 ≤ n) (n2 : n ≤ 1000000) (s : S) : ∃ d, callK D_rows_with [.int n] s = .ok d s := by
  have nk := fun st => need_whole_k (i := n) (lo := 1) (hi := 1000000) (s := st) n1 n2
  obtain ⟨ps, x2, x3, hl, e⟩ := rw_loop n1 n2
  have eb : bSortP [.ref 0] [.lst (ps.map prO)] = .ok (.ref 1) ([.lst (ps.map prO)] ++ [.lst ((srtP ps).map prO)]) := by
    unfold bSortP
    simp only [List.getElem?_cons_zero, pairs_prO]
    rfl
  have er : callK D_rows_in [.int n] [] = .ok (.ref 0) [.lst ((srtP ps).map prO)] := by
    refine callK_new rfl (j := 1) (g := [.lst (ps.map prO)] ++ [.lst ((srtP ps).map prO)]) ?_ rfl (pure_pairs _)
    rw [r_rows_in]
    rw [show b_rows_in = zCons (zPar 1 2 (eLst aN) (eC (.int 1))) (zCons (zWhile rwC rwB) (zRet (eN bSortP (aC (eV 1) aN)))) from rfl]
    have z1 : zPar 1 2 (eLst aN) (eC (.int 1)) [.int n, .undef, .undef, .undef] [] = .nx [.int n, .ref 0, .int 1, .undef] [.lst []] := by simp
    rw [ap_zCons, z1, andThen_nx, ap_zCons, e, andThen_nx]
    simp [eb, F.out]
  refine ⟨.tup ((srtP ps).map prO), callK_tup rfl (g := [.lst ((srtP ps).map prO)]) ?_ (pure_pairs (srtP ps))⟩
  rw [r_rows_with]
  unfold b_rows_with
  simp [nk, er, F.out]
theorem go_two (s : S) : ∃ d1 d2 d3 d4 d5, callK D_figure [.int 100, .int 1000000] s = .ok d1 s ∧ callK D_pyramid [.int 100, .int 1000000] s = .ok d2 s ∧ callK D_central [.int 100, .int 1000000] s = .ok d3 s ∧ callK D_place_of [.int 100, .int 1000000000000] s = .ok d4 s ∧ callK D_central_place [.int 100, .int 1000000000000] s = .ok d5 s :=
  ⟨_, _, _, _, _, figure_k (by decide) (by decide) (by decide) (by decide), pyramid_k (by decide) (by decide) (by decide) (by decide), central_k (by decide) (by decide) (by decide) (by decide), place_of_k (by decide) (by decide) (by decide) (by decide), central_place_k (by decide) (by decide) (by decide) (by decide)⟩
theorem go_one (s : S) : ∃ d1 d2 d3 d4 d5, callK D_rows_with [.int 1000000] s = .ok d1 s ∧ callK D_count_rows [.int 1000000] s = .ok d2 s ∧ callK D_pentagon_signs [.int 1000000] s = .ok d3 s ∧ callK D_ways_to_part [.int 600] s = .ok d4 s ∧ callK D_divisor_sum [.int 600] s = .ok d5 s := by
  obtain ⟨d1, h1⟩ := rows_ex (n := 1000000) (by decide) (by decide) s
  obtain ⟨d2, h2⟩ := count_ex (n := 1000000) (by decide) (by decide) s
  obtain ⟨d3, h3⟩ := signs_1M s
  exact ⟨d1, .int d2, d3, _, _, h1, h2, h3, ways_k (by decide) (by decide), divsum_k (by decide) (by decide)⟩
end K94

namespace K94
open Y YN
open PySem (Str PyData)
/-! the rows of words -/
theorem mapO_rep {f : D → Option PyData} {v : D} {p : PyData} (h : f v = some p) : ∀ m, mapO f (List.replicate m v) = some (List.replicate m p)
  | 0 => rfl
  | m + 1 => by
    rw [List.replicate_succ, List.replicate_succ]
    unfold mapO
    rw [h, mapO_rep h m]
theorem can_rep {p : PyData} (h : p.canLay0 = true) : ∀ m, PyData.canLayAll0 (List.replicate m p) = true
  | 0 => rfl
  | m + 1 => by
    rw [List.replicate_succ]
    show (p.canLay0 && PyData.canLayAll0 (List.replicate m p)) = true
    rw [h, can_rep h m]; rfl
theorem dep_rep {p : PyData} (h : p.depth = 0) : ∀ m, PyData.depthAll (List.replicate m p) = 0
  | 0 => rfl
  | m + 1 => by
    rw [List.replicate_succ]
    show max p.depth (PyData.depthAll (List.replicate m p)) = 0
    rw [h, dep_rep h m]; rfl
theorem eqv_rep {p : PyData} (h : PyData.eqv p p = true) : ∀ m, PyData.eqvAll (List.replicate m p) (List.replicate m p) = true
  | 0 => rfl
  | m + 1 => by
    rw [List.replicate_succ]
    show (PyData.eqv p p && PyData.eqvAll (List.replicate m p) (List.replicate m p)) = true
    rw [h, eqv_rep h m]; rfl
theorem eq_reps {s : S} {a b m : Nat} {x : Str} (he : PyData.eqv (.str x) (.str x) = true) (hc : (PyData.str x).canLay0 = true) (ha : s[a]? = some (.lst (List.replicate m (.str x)))) (hb : s[b]? = some (.lst (List.replicate m (.str x)))) : eqD (.ref a) (.ref b) s = some true := by
  have h : ∀ a, s[a]? = some (.lst (List.replicate m (.str x))) → D.py s 20 (.ref a) = some (.list (List.replicate m (.str x))) := fun a ha => by
    show (match s[a]? with
      | some (.lst xs) => (mapO (D.py s 19) xs).map PyData.list
      | _ => none) = _
    rw [ha]
    simp only
    rw [mapO_rep (p := .str x) rfl]
    rfl
  have hs : PySem.SeqAt.shaped (.list (List.replicate m (.str x))) = true := by
    unfold PySem.SeqAt.shaped
    show (PyData.canLayAll0 (List.replicate m (.str x)) && decide (PyData.depthAll (List.replicate m (.str x)) + 1 ≤ 64)) = true
    rw [can_rep hc, dep_rep rfl]
    rfl
  unfold eqD
  rw [h a ha, h b hb]
  simp only [hs, and_self, if_true]
  show some (PyData.eqvAll _ _) = _
  rw [eqv_rep he]
theorem str_eqv (x : Str) : PyData.eqv (.str x) (.str x) = true := by
  show (x == x) = true
  exact beq_self_eq_true x
theorem mem_rep {α : Type} {a : α} {j : Nat} {xs : List α} (h : xs[j]? = some a) : a ∈ xs := List.mem_of_getElem? h
def Wd (s : S) (w m : Nat) (v : D) : Prop := s[w]? = some (.lst (List.replicate m v))
theorem wset {e : E} {r : Env} {s : S} {w m j : Nat} {v : D} (h9 : r[9]? = some (.ref w)) (hw : Wd s w m v) (he : e r s = .ok (.ref s.length) (s ++ [.lst (List.replicate j v)])) (hl : m + j ≤ 1000000) :
    zSet (gV 9) (e2 oAdd (eV 9) e) r s = .nx (r.set 9 (.ref (s.length + 1))) (s ++ [.lst (List.replicate j v), .lst (List.replicate (m + j) v)]) := by
  have hw' : (s ++ [O.lst (List.replicate j v)])[w]? = some (.lst (List.replicate m v)) := by
    rw [List.getElem?_append_left (List.getElem?_eq_some_iff.mp hw).1]; exact hw
  have a := add_refs' (a := w) (b := s.length) hw' (ys := List.replicate j v) (by simp) (by simp; omega)
  rw [List.replicate_append_replicate] at a
  have hlen := (List.getElem?_eq_some_iff.mp h9).1
  have ev : eV 9 r s = .ok (.ref w) s := ap_eV h9 (by intro z; cases z)
  simp [ev, he, a, hlen]
theorem wapp {e : E} {r : Env} {s : S} {w m : Nat} {v : D} (h9 : r[9]? = some (.ref w)) (hw : Wd s w m v) (he : e r s = .ok v s) (hl : m < 1000000) :
    zEx (eMe isL mApp (eV 9) (aC e aN)) r s = .nx r (s.set w (.lst (List.replicate (m + 1) v))) := by
  have ev : eV 9 r s = .ok (.ref w) s := ap_eV h9 (by intro z; cases z)
  have hw : s[w]? = some (.lst (List.replicate m v)) := hw
  have rs : List.replicate m v ++ [v] = List.replicate (m + 1) v := List.replicate_succ'.symm
  simp [ev, he, hw, LINE, hl, rs]
theorem words_n {fns : List Nat} {ms : A} {k : Nat} {tbl : Nat → Option Fn} {r : Env} {s : S} {v : D} {it : IW} (hit : it r s = .ok (.items (fns.map D.fn)) s) (hr : 11 < r.length) (hl : fns.length ≤ 1000000)
    (h : ∀ j ∈ fns, ∀ G, eLam (errH wfE) (eCallV 11 k tbl ms) (r.set 11 (.fn j)) (s ++ G) = .ok v (s ++ G)) :
    eLc it (gV 11) tYes (eLam (errH wfE) (eCallV 11 k tbl ms)) [11] r s = .ok (.ref s.length) (s ++ [.lst (List.replicate fns.length v)]) := by
  rw [eLc_items hit (fun x => r.set 11 x) (fun _ => true) (fun _ => v) (fun x hx acc => by
    obtain ⟨j, hj, rfl⟩ := List.mem_map.mp hx
    refine ⟨?_, rfl, fun _ => h j hj [.lst acc]⟩
    show gV 11 (.fn j) (r.set 11 .undef) _ = _
    simp [hr]) (by rw [List.length_map]; exact hl)]
  have : (((fns.map D.fn).filter fun _ => true).map fun _ => v) = List.replicate fns.length v := by
    rw [List.filter_eq_self.mpr (fun _ _ => rfl), List.map_const', List.length_map]
  rw [this]
/-- a word, by what the call does -/
theorem wd_bad {k j : Nat} {tbl : Nat → Option Fn} {ms : A} {r : Env} {s : S} {g : Fn} {ds : List D} (h2 : tbl j = some g) (hr : 11 < r.length) (h3 : ms (r.set 11 (.fn j)) s = .ok ds s) (h4 : ds.length = k) (hc : callK g ds s = .exc 1 [] s) :
    eLam (errH wfE) (eCallV 11 k tbl ms) (r.set 11 (.fn j)) s = .ok numW s := word_num (by rw [ap_callV (g := g) (by simp [hr]) h2 h3 h4]; exact hc)
theorem wd_good {k j : Nat} {tbl : Nat → Option Fn} {ms : A} {r : Env} {s : S} {g : Fn} {ds : List D} (h2 : tbl j = some g) (hr : 11 < r.length) (h3 : ms (r.set 11 (.fn j)) s = .ok ds s) (h4 : ds.length = k) (hc : ∃ d, callK g ds s = .ok d s) :
    eLam (errH wfE) (eCallV 11 k tbl ms) (r.set 11 (.fn j)) s = .ok noW s := by
  obtain ⟨d, hc⟩ := hc
  exact word_no (d := d) (by rw [ap_callV (g := g) (by simp [hr]) h2 h3 h4]; exact hc)
def OddW (s : S) (e : D) (w : Nat) : Prop := (e.pure = true ∧ e ≠ .undef) ∨ ∃ k, e = .ref k ∧ s[k]? = some (.lst []) ∧ k ≠ w ∧ k < s.length
theorem OddW.odd {s : S} {e : D} {w : Nat} (h : OddW s e w) (G : S) : Odd (s ++ G) e := by
  rcases h with h | ⟨k, h1, h2, _, h3⟩
  · exact .inl h
  · exact .inr ⟨k, h1, by rw [List.getElem?_append_left h3]; exact h2⟩
theorem OddW.ne {s : S} {e : D} {w : Nat} (h : OddW s e w) : e ≠ .undef := by
  rcases h with h | ⟨k, rfl, _⟩
  · exact h.2
  · intro z; cases z
theorem OddW.app {s : S} {e : D} {w : Nat} (h : OddW s e w) {x y : O} : OddW (s ++ [x, y]) e (s.length + 1) := by
  rcases h with h | ⟨k, h1, h2, _, h3⟩
  · exact .inl h
  · exact .inr ⟨k, h1, by rw [List.getElem?_append_left h3]; exact h2, by omega, by simp; omega⟩
theorem OddW.set {s : S} {e : D} {w : Nat} (h : OddW s e w) {x : O} : OddW (s.set w x) e w := by
  rcases h with h | ⟨k, h1, h2, h4, h3⟩
  · exact .inl h
  · exact .inr ⟨k, h1, by rw [List.getElem?_set_ne (Ne.symm h4)]; exact h2, h4, by simpa using h3⟩
theorem Wd.set {s : S} {w m n : Nat} {v : D} (h : Wd s w m v) : Wd (s.set w (.lst (List.replicate n v))) w n v := by
  unfold Wd
  rw [List.getElem?_set_self (List.getElem?_eq_some_iff.mp h).1]
theorem Wd.app {s : S} {m j : Nat} {v : D} : Wd (s ++ [.lst (List.replicate j v), .lst (List.replicate m v)]) (s.length + 1) m v := by
  unfold Wd
  simp
theorem can_num : (PyData.str (Str.ofString "number")).canLay0 = true := by decide +kernel
theorem can_no : (PyData.str (Str.ofString "")).canLay0 = true := by decide +kernel
theorem eq_numI (i : Int) (s : S) : oEq (.str (Str.ofString "3")) (.int i) s = .ok (.bl false) s := by
  unfold oEq eqD
  have : PySem.SeqAt.shaped (.str (Str.ofString "3")) = true := by decide +kernel
  show (match (if PySem.SeqAt.shaped (.str (Str.ofString "3")) = true ∧ PySem.SeqAt.shaped (.int i) = true then some (PyData.eqv (.str (Str.ofString "3")) (.int i)) else none) with | some b => Rs.ok (D.bl b) s | none => .stk) = _
  rw [if_pos ⟨this, rfl⟩]
  rfl
end K94

namespace K94
open Y YN
open PySem (Str PyData)
variable {x0 x1 x2 x3 x4 x5 x6 x7 x8 x9 x10 x11 : D} {s : S} {K : Sm} {a b : Int}
/-! the loops over what fits no argument -/
def Ends (k : Sm) (r : Env) (s : S) : Prop := ∃ s2, (k r s).out = .ok (.bl true) s2
theorem ends_of {z k : Sm} {r r1 : Env} {s s1 : S} (e : z r s = .nx r1 s1) (h : Ends k r1 s1) : Ends (zCons z k) r s := by
  unfold Ends
  rw [ap_zCons, e, andThen_nx]
  exact h
def bads (x y : Int) : List D := [.non, .int x, .int y, .bl true, .str (Str.ofString "3"), .tup [.int 3]]
theorem bads_pure {x y : Int} {d : D} (h : d ∈ bads x y) : d.pure = true := by
  unfold bads at h
  simp only [List.mem_cons, List.mem_nil_iff, or_false] at h
  rcases h with rfl | rfl | rfl | rfl | rfl | rfl <;> rfl
theorem bads_no {lo hi x y : Int} (hx : ¬ (lo ≤ x ∧ x ≤ hi)) (hy : ¬ (lo ≤ y ∧ y ≤ hi)) {d : D} (h : d ∈ bads x y) : nofit lo hi d = true := by
  unfold bads at h
  simp only [List.mem_cons, List.mem_nil_iff, or_false] at h
  rcases h with rfl | rfl | rfl | rfl | rfl | rfl <;> first | rfl | (show (!decide _) = true; rw [decide_eq_false (by assumption)]; rfl)
/-- what stands between two turns -/
def P94 (odd : D) (f : Nat → Nat) (x0 x1 x2 x3 x4 x5 x6 x7 : D) (j : Nat) (r : Env) (s : S) : Prop := ∃ (w : Nat) (x10 x11 : D), r = [x0, x1, x2, x3, x4, x5, x6, x7, odd, .ref w, x10, x11] ∧ Wd s w (f j) numW ∧ OddW s odd w
/-- one statement of words -/
theorem st_words {e : E} {w m j : Nat} {odd : D} (he : e [x0, x1, x2, x3, x4, x5, x6, x7, odd, .ref w, x10, x11] s = .ok (.ref s.length) (s ++ [.lst (List.replicate j numW)])) (hw : Wd s w m numW) (ho : OddW s odd w) (hl : m + j ≤ 1000000) {Q : Env → S → Prop}
    (h : ∀ w s, Wd s w (m + j) numW → OddW s odd w → Nx Q (K [x0, x1, x2, x3, x4, x5, x6, x7, odd, .ref w, x10, x11] s)) : Nx Q ((zCons (zSet (gV 9) (e2 oAdd (eV 9) e)) K) [x0, x1, x2, x3, x4, x5, x6, x7, odd, .ref w, x10, x11] s) := by
  rw [ap_zCons, wset rfl hw he hl, andThen_nx]
  exact h _ _ Wd.app ho.app
theorem st_app {e : E} {w m : Nat} {odd : D} (he : e [x0, x1, x2, x3, x4, x5, x6, x7, odd, .ref w, x10, x11] s = .ok numW s) (hw : Wd s w m numW) (ho : OddW s odd w) (hl : m < 1000000) {Q : Env → S → Prop}
    (h : ∀ s, Wd s w (m + 1) numW → OddW s odd w → Nx Q (K [x0, x1, x2, x3, x4, x5, x6, x7, odd, .ref w, x10, x11] s)) : Nx Q ((zCons (zEx (eMe isL mApp (eV 9) (aC e aN))) K) [x0, x1, x2, x3, x4, x5, x6, x7, odd, .ref w, x10, x11] s) := by
  rw [ap_zCons, wapp rfl hw he hl, andThen_nx]
  exact h _ hw.set ho.set
theorem st_lastw {e : E} {w m j : Nat} {odd : D} (he : e [x0, x1, x2, x3, x4, x5, x6, x7, odd, .ref w, x10, x11] s = .ok (.ref s.length) (s ++ [.lst (List.replicate j numW)])) (hw : Wd s w m numW) (ho : OddW s odd w) (hl : m + j ≤ 1000000) {Q : Env → S → Prop}
    (h : ∀ w s, Wd s w (m + j) numW → OddW s odd w → Q [x0, x1, x2, x3, x4, x5, x6, x7, odd, .ref w, x10, x11] s) : Nx Q ((zSet (gV 9) (e2 oAdd (eV 9) e)) [x0, x1, x2, x3, x4, x5, x6, x7, odd, .ref w, x10, x11] s) := by
  rw [wset rfl hw he hl]
  exact Nx_nx (h _ _ Wd.app ho.app)
theorem st_lasta {e : E} {w m : Nat} {odd : D} (he : e [x0, x1, x2, x3, x4, x5, x6, x7, odd, .ref w, x10, x11] s = .ok numW s) (hw : Wd s w m numW) (ho : OddW s odd w) (hl : m < 1000000) {Q : Env → S → Prop}
    (h : ∀ s, Wd s w (m + 1) numW → OddW s odd w → Q [x0, x1, x2, x3, x4, x5, x6, x7, odd, .ref w, x10, x11] s) : Nx Q ((zEx (eMe isL mApp (eV 9) (aC e aN))) [x0, x1, x2, x3, x4, x5, x6, x7, odd, .ref w, x10, x11] s) := by
  rw [wapp rfl hw he hl]
  exact Nx_nx (h _ hw.set ho.set)
/-- a loop over six -/
theorem st_for {it : IW} {B : Sm} {xs : List D} {odd : D} {w m c : Nat} (hit : ∀ r s, it r s = .ok (.items xs) s) (hw : Wd s w m numW) (ho : OddW s odd w)
    (step : ∀ x ∈ xs, ∀ w x11 s n, n ≤ m + c * xs.length → Wd s w n numW → OddW s odd w → ∀ Q : Env → S → Prop, (∀ w s, Wd s w (n + c) numW → OddW s odd w → Q [x0, x1, x2, x3, x4, x5, x6, x7, odd, .ref w, x, x11] s) → Nx Q (B [x0, x1, x2, x3, x4, x5, x6, x7, odd, .ref w, x, x11] s))
    (h : ∀ w x10 s, Wd s w (m + c * xs.length) numW → OddW s odd w → Ends K [x0, x1, x2, x3, x4, x5, x6, x7, odd, .ref w, x10, x11] s) : Ends (zCons (zFor it (gV 10) B) K) [x0, x1, x2, x3, x4, x5, x6, x7, odd, .ref w, x10, x11] s := by
  unfold Ends
  rw [ap_zCons, ap_zFor (hit _ _)]
  refine for_out (fun j r s => ∃ (w : Nat) (x10 : D), r = [x0, x1, x2, x3, x4, x5, x6, x7, odd, .ref w, x10, x11] ∧ Wd s w (m + c * j) numW ∧ OddW s odd w) ⟨w, x10, rfl, hw, ho⟩ ?_ ?_
  · rintro j x _ s hx ⟨w, x10, rfl, hw, ho⟩
    refine ⟨_, _, rfl, fun Q hQ => ?_⟩
    have hj := (List.getElem?_eq_some_iff.mp hx).1
    refine step x (List.mem_of_getElem? hx) w x11 s (m + c * j) (by have := Nat.mul_le_mul_left c (Nat.le_of_lt hj); omega) hw ho Q fun w s hw ho => ?_
    exact hQ _ _ ⟨w, x, rfl, by rw [Nat.mul_succ, ← Nat.add_assoc]; exact hw, ho⟩
  · rintro _ s ⟨w, x10, rfl, hw, ho⟩
    exact h w x10 s hw ho
end K94

namespace K94
open Y YN
open PySem (Str PyData)
variable {x0 x1 x2 x3 x4 x5 x6 x7 x8 x9 x10 x11 : D} {s : S} {K : Sm} {a b : Int}
theorem args_xo {k w : Nat} {x odd : D} (hp : x.pure = true) (ho : odd ≠ .undef) (s : S) : (aC (eV 10) (aC (eV 8) aN)) (([x0, x1, x2, x3, x4, x5, x6, x7, odd, .ref w, x, x11] : Env).set 11 (.fn k)) s = .ok [x, odd] s := by
  simp [hdV (pure_ne hp), hdV ho]
theorem args_3x {k w : Nat} {x odd : D} (hp : x.pure = true) (s : S) : (aC (eC (.int 3)) (aC (eV 10) aN)) (([x0, x1, x2, x3, x4, x5, x6, x7, odd, .ref w, x, x11] : Env).set 11 (.fn k)) s = .ok [.int 3, x] s := by
  simp [hdV (pure_ne hp)]
theorem args_x {k w : Nat} {x odd : D} (hp : x.pure = true) (s : S) : (aC (eV 10) aN) (([x0, x1, x2, x3, x4, x5, x6, x7, odd, .ref w, x, x11] : Env).set 11 (.fn k)) s = .ok [x] s := by
  simp [hdV (pure_ne hp)]
theorem st_5 {w m : Nat} {odd : D} (hw : Wd s w m numW) (ho : OddW s odd w) (hm : m ≤ 1000)
    (h : ∀ w x10 s, Wd s w (m + 36) numW → OddW s odd w → Ends K [x0, x1, x2, x3, x4, x5, x6, x7, odd, .ref w, x10, x11] s) : Ends (zCons (zFor (iTup (eTup (aC (eC .non) (aC (eC (.int 2)) (aC (eC (.int 101)) (aC (eC (.bl true)) (aC (eC (.str (Str.ofString "3"))) (aC (eTup (aC (eC (.int 3)) aN)) aN)))))))) (gV 10) (zSet (gV 9) (e2 oAdd (eV 9) (eLc (iTup (eTup (aC (eC (.fn 14)) (aC (eC (.fn 15)) (aC (eC (.fn 26)) (aC (eC (.fn 17)) (aC (eC (.fn 18)) (aC (eC (.fn 19)) aN)))))))) (gV 11) tYes (eLam (errH wfE) (eCallV 11 2 tb2 (aC (eV 10) (aC (eV 8) aN)))) [11])))) K) [x0, x1, x2, x3, x4, x5, x6, x7, odd, .ref w, x10, x11] s := by
  refine st_for (xs := bads 2 101) (c := 6) (m := m) (fun r s => rfl) hw ho ?_ h
  intro x hx w x11 s n hn hw ho Q hQ
  have hp := bads_pure hx
  have hf : nofit 3 100 x = true := bads_no (by omega) (by omega) hx
  have hl : (bads 2 101).length = 6 := rfl
  refine st_lastw (j := 6) ?_ hw ho (by omega) hQ
  refine words_n (fns := [14, 15, 26, 17, 18, 19]) rfl (by simp) (by decide) fun j hj G => ?_
  obtain ⟨b1, b2, b3, b4, b5, b6⟩ := bad_sides (s := s ++ G) hf hp (ho.odd G)
  simp only [List.mem_cons, List.mem_nil_iff, or_false] at hj
  rcases hj with rfl | rfl | rfl | rfl | rfl | rfl
  · exact wd_bad rfl (by simp) (args_xo hp ho.ne _) rfl b1
  · exact wd_bad rfl (by simp) (args_xo hp ho.ne _) rfl b2
  · exact wd_bad rfl (by simp) (args_xo hp ho.ne _) rfl b3
  · exact wd_bad rfl (by simp) (args_xo hp ho.ne _) rfl b4
  · exact wd_bad rfl (by simp) (args_xo hp ho.ne _) rfl b5
  · exact wd_bad rfl (by simp) (args_xo hp ho.ne _) rfl b6
/-- x, but another number for the one -/
def oth (v : Int) : D → D
  | .int i => if i = 1000001 then .int v else .int i
  | d => d
theorem oth_e {v : Int} {y : Int} {x odd : D} {w : Nat} (hx : x ∈ bads y 1000001) (s : S) : (eIf (tst (e2 oEq (eV 10) (eC (.int 1000001)))) (eC (.int v)) (eV 10)) [x0, x1, x2, x3, x4, x5, x6, x7, odd, .ref w, x, x11] s = .ok (oth v x) s := by
  unfold bads at hx
  simp only [List.mem_cons, List.mem_nil_iff, or_false] at hx
  have e1 : ∀ st, oEq .non (.int 1000001) st = .ok (.bl false) st := fun st => by rw [eq_plain rfl rfl (by decide) (by decide)]; rfl
  have e2 : ∀ st, oEq (.bl true) (.int 1000001) st = .ok (.bl false) st := fun st => by rw [eq_plain rfl rfl (by decide) (by decide)]; rfl
  have e3 : ∀ st, oEq (.tup [.int 3]) (.int 1000001) st = .ok (.bl false) st := fun st => by rw [eq_plain rfl rfl (by decide) (by decide)]; rfl
  rcases hx with rfl | rfl | rfl | rfl | rfl | rfl
  · simp [e1, oth]
  · by_cases c : y = 1000001
    · simp [c, oth]
    · simp [c, oth]
  · simp [oth]
  · simp [e2, oth]
  · simp [eq_numI, oth]
  · simp [e3, oth]
theorem oth_pure {v y : Int} {x : D} (hx : x ∈ bads y 1000001) : (oth v x).pure = true := by
  unfold bads at hx
  simp only [List.mem_cons, List.mem_nil_iff, or_false] at hx
  rcases hx with rfl | rfl | rfl | rfl | rfl | rfl
  · rfl
  · unfold oth; simp only; split <;> rfl
  · rfl
  · rfl
  · rfl
  · rfl
theorem oth_no {lo hi v y : Int} {x : D} (hv : ¬ (lo ≤ v ∧ v ≤ hi)) (hy : ¬ (lo ≤ y ∧ y ≤ hi)) (hx : x ∈ bads y 1000001) : nofit lo hi (oth v x) = true := by
  unfold bads at hx
  simp only [List.mem_cons, List.mem_nil_iff, or_false] at hx
  have k : ∀ i : Int, ¬ (lo ≤ i ∧ i ≤ hi) → nofit lo hi (.int i) = true := fun i h => by
    show (!decide _) = true
    rw [decide_eq_false h]; rfl
  rcases hx with rfl | rfl | rfl | rfl | rfl | rfl
  · rfl
  · unfold oth; simp only; split
    · exact k _ hv
    · exact k _ hy
  · exact k _ hv
  · rfl
  · rfl
  · rfl
theorem st_6 {w m : Nat} {odd : D} (hw : Wd s w m numW) (ho : OddW s odd w) (hm : m ≤ 1000)
    (h : ∀ w x10 s, Wd s w (m + 24) numW → OddW s odd w → Ends K [x0, x1, x2, x3, x4, x5, x6, x7, odd, .ref w, x10, x11] s) : Ends (zCons (zFor (iTup (eTup (aC (eC .non) (aC (e1 oNeg (eC (.int 1))) (aC (eC (.int 1000001)) (aC (eC (.bl true)) (aC (eC (.str (Str.ofString "3"))) (aC (eTup (aC (eC (.int 3)) aN)) aN)))))))) (gV 10) (zCons (zSet (gV 9) (e2 oAdd (eV 9) (eLc (iTup (eTup (aC (eC (.fn 14)) (aC (eC (.fn 26)) (aC (eC (.fn 17)) aN))))) (gV 11) tYes (eLam (errH wfE) (eCallV 11 2 tb2 (aC (eC (.int 3)) (aC (eV 10) aN)))) [11]))) (zEx (eMe isL mApp (eV 9) (aC (eLam (errH wfE) (eCallK 1 D_ways_to_part (aC (eIf (tst (e2 oEq (eV 10) (eC (.int 1000001)))) (eC (.int 601)) (eV 10)) aN))) aN))))) K) [x0, x1, x2, x3, x4, x5, x6, x7, odd, .ref w, x10, x11] s := by
  refine st_for (xs := bads (-1) 1000001) (c := 4) (m := m) (fun r s => rfl) hw ho ?_ h
  intro x hx w x11 s n hn hw ho Q hQ
  have hp := bads_pure hx
  have hf : nofit 0 1000000 x = true := bads_no (by omega) (by omega) hx
  have hf1 : nofit 1 1000000 x = true := bads_no (by omega) (by omega) hx
  have hf2 : nofit 0 600 (oth 601 x) = true := oth_no (by omega) (by omega) hx
  have hl : (bads (-1) 1000001).length = 6 := rfl
  refine st_words (j := 3) ?_ hw ho (by omega) fun w s hw ho => ?_
  · refine words_n (fns := [14, 26, 17]) rfl (by simp) (by decide) fun j hj G => ?_
    obtain ⟨b1, b2⟩ := bad_place (s := s ++ G) hf hp
    have b3 := bad_central (s := s ++ G) hf1 hp
    simp only [List.mem_cons, List.mem_nil_iff, or_false] at hj
    rcases hj with rfl | rfl | rfl
    · exact wd_bad rfl (by simp) (args_3x hp _) rfl b1
    · exact wd_bad rfl (by simp) (args_3x hp _) rfl b2
    · exact wd_bad rfl (by simp) (args_3x hp _) rfl b3
  · refine st_lasta ?_ hw ho (by omega) (hQ _)
    have bw := bad_ways (s := s) hf2 (oth_pure hx)
    refine word_num ?_
    rw [ap_eCallK, ap_aC, oth_e hx]
    simp [bw]
theorem pw12 (st : S) : oPow (.int 10) (.int 12) st = .ok (.int 1000000000000) st := rfl
theorem st_7 {w m : Nat} {odd : D} (hw : Wd s w m numW) (ho : OddW s odd w) (hm : m ≤ 1000)
    (h : ∀ w x10 s, Wd s w (m + 24) numW → OddW s odd w → Ends K [x0, x1, x2, x3, x4, x5, x6, x7, odd, .ref w, x10, x11] s) : Ends (zCons (zFor (iTup (eTup (aC (eC .non) (aC (eC (.int 0)) (aC (e2 oAdd (e2 oPow (eC (.int 10)) (eC (.int 12))) (eC (.int 1))) (aC (eC (.bl true)) (aC (eC (.str (Str.ofString "3"))) (aC (eTup (aC (eC (.int 3)) aN)) aN)))))))) (gV 10) (zCons (zSet (gV 9) (e2 oAdd (eV 9) (eLc (iTup (eTup (aC (eC (.fn 15)) (aC (eC (.fn 18)) aN)))) (gV 11) tYes (eLam (errH wfE) (eCallV 11 2 tb2 (aC (eC (.int 3)) (aC (eV 10) aN)))) [11]))) (zCons (zEx (eMe isL mApp (eV 9) (aC (eLam (errH wfE) (eCallK 1 D_kinds_of (aC (eV 10) aN))) aN))) (zEx (eMe isL mApp (eV 9) (aC (eLam (errH wfE) (eCallK 2 D_is_row_of (aC (eV 10) (aC (eV 8) aN)))) aN)))))) K) [x0, x1, x2, x3, x4, x5, x6, x7, odd, .ref w, x10, x11] s := by
  refine st_for (xs := bads 0 1000000000001) (c := 4) (m := m) (fun r s => rfl) hw ho ?_ h
  intro x hx w x11 s n hn hw ho Q hQ
  have hp := bads_pure hx
  have hf : nofit 1 1000000000000 x = true := bads_no (by omega) (by omega) hx
  have hl : (bads 0 1000000000001).length = 6 := rfl
  refine st_words (j := 2) ?_ hw ho (by omega) fun w s hw ho => ?_
  · refine words_n (fns := [15, 18]) rfl (by simp) (by decide) fun j hj G => ?_
    obtain ⟨b1, b2⟩ := bad_number (s := s ++ G) hf hp
    simp only [List.mem_cons, List.mem_nil_iff, or_false] at hj
    rcases hj with rfl | rfl
    · exact wd_bad rfl (by simp) (args_3x hp _) rfl b1
    · exact wd_bad rfl (by simp) (args_3x hp _) rfl b2
  · refine st_app ?_ hw ho (by omega) fun s hw ho => ?_
    · have bk := bad_kinds (s := s) hf hp
      refine word_num ?_
      simp [hdV (pure_ne hp), bk]
    · refine st_lasta ?_ hw ho (by omega) (hQ _)
      have bk := bad_row (s := s) hf hp (by simpa using ho.odd [])
      refine word_num ?_
      simp [hdV (pure_ne hp), hdV ho.ne, bk]
theorem st_8 {w m : Nat} {odd : D} (hw : Wd s w m numW) (ho : OddW s odd w) (hm : m ≤ 1000)
    (h : ∀ w x10 s, Wd s w (m + 30) numW → OddW s odd w → Ends K [x0, x1, x2, x3, x4, x5, x6, x7, odd, .ref w, x10, x11] s) : Ends (zCons (zFor (iTup (eTup (aC (eC .non) (aC (eC (.int 0)) (aC (eC (.int 1000001)) (aC (eC (.bl true)) (aC (eC (.str (Str.ofString "3"))) (aC (eTup (aC (eC (.int 3)) aN)) aN)))))))) (gV 10) (zCons (zSet (gV 9) (e2 oAdd (eV 9) (eLc (iTup (eTup (aC (eC (.fn 20)) (aC (eC (.fn 21)) (aC (eC (.fn 23)) aN))))) (gV 11) tYes (eLam (errH wfE) (eCallV 11 1 tb1 (aC (eV 10) aN))) [11]))) (zCons (zEx (eMe isL mApp (eV 9) (aC (eLam (errH wfE) (eCallK 1 D_divisor_sum (aC (eIf (tst (e2 oEq (eV 10) (eC (.int 1000001)))) (eC (.int 601)) (eV 10)) aN))) aN))) (zEx (eMe isL mApp (eV 9) (aC (eLam (errH wfE) (eCallK 2 D_fewest_figures (aC (eC (.int 3)) (aC (eIf (tst (e2 oEq (eV 10) (eC (.int 1000001)))) (eC (.int 2001)) (eV 10)) aN)))) aN)))))) K) [x0, x1, x2, x3, x4, x5, x6, x7, odd, .ref w, x10, x11] s := by
  refine st_for (xs := bads 0 1000001) (c := 5) (m := m) (fun r s => rfl) hw ho ?_ h
  intro x hx w x11 s n hn hw ho Q hQ
  have hp := bads_pure hx
  have hf : nofit 1 1000000 x = true := bads_no (by omega) (by omega) hx
  have hf2 : nofit 1 600 (oth 601 x) = true := oth_no (by omega) (by omega) hx
  have hf3 : nofit 1 2000 (oth 2001 x) = true := oth_no (by omega) (by omega) hx
  have hl : (bads 0 1000001).length = 6 := rfl
  refine st_words (j := 3) ?_ hw ho (by omega) fun w s hw ho => ?_
  · refine words_n (fns := [20, 21, 23]) rfl (by simp) (by decide) fun j hj G => ?_
    obtain ⟨b1, b2, b3⟩ := bad_rows (s := s ++ G) hf hp
    simp only [List.mem_cons, List.mem_nil_iff, or_false] at hj
    rcases hj with rfl | rfl | rfl
    · exact wd_bad rfl (by simp) (args_x hp _) rfl b1
    · exact wd_bad rfl (by simp) (args_x hp _) rfl b2
    · exact wd_bad rfl (by simp) (args_x hp _) rfl b3
  · refine st_app ?_ hw ho (by omega) fun s hw ho => ?_
    · have bk := bad_divs (s := s) hf2 (oth_pure hx)
      refine word_num ?_
      rw [ap_eCallK, ap_aC, oth_e hx]
      simp [bk]
    · refine st_lasta ?_ hw ho (by omega) (hQ _)
      have bk := bad_few (s := s) hf3 (oth_pure hx)
      refine word_num ?_
      rw [ap_eCallK, ap_aC, ap_eC, bind_ok, ap_aC, oth_e hx]
      simp [bk]
theorem st_9 {w m : Nat} {odd : D} (hw : Wd s w m numW) (ho : OddW s odd w) (hm : m ≤ 1000)
    (h : ∀ s, Wd s w (m + 1) numW → Ends K [x0, x1, x2, x3, x4, x5, x6, x7, odd, .ref w, x10, x11] s) : Ends (zCons (zEx (eMe isL mApp (eV 9) (aC (eLam (errH wfE) (eCallK 2 D_central (aC (eC (.int 3)) (aC (eC (.int 0)) aN)))) aN))) K) [x0, x1, x2, x3, x4, x5, x6, x7, odd, .ref w, x10, x11] s := by
  have bk : ∀ st, callK D_central [.int 3, .int 0] st = .exc 1 [] st := fun st => bad_central (by rfl) (by rfl)
  refine ends_of (wapp rfl hw (v := numW) ?_ (by omega)) (h _ hw.set)
  refine word_num ?_
  simp [bk]
end K94

namespace K94
open Y YN
open PySem (Str PyData)
variable {x0 x1 x2 x3 x4 x5 x6 x7 x8 x9 x10 x11 : D} {s : S} {K : Sm} {a b : Int}
theorem mul_ref {a : Nat} {xs : List D} {k : Int} {s : S} (ha : s[a]? = some (.lst xs)) (h0 : 0 ≤ k) (h : k ≤ 1000) (hx : xs.length ≤ 1) : oMul (.ref a) (.int k) s = .ok (.ref s.length) (s ++ [.lst (List.replicate k.toNat xs).flatten]) := by
  unfold oMul
  have : xs.length * k.toNat ≤ 1 * k.toNat := Nat.mul_le_mul_right _ hx
  simp [ha]
  unfold LINE; omega
theorem flat_rep (v : D) : ∀ m : Nat, (List.replicate m [v]).flatten = List.replicate m v
  | 0 => rfl
  | m + 1 => by rw [List.replicate_succ, List.flatten_cons, flat_rep v m, List.replicate_succ]; rfl
theorem st_10 {w : Nat} (hw : Wd s w 115 numW) (h : ∀ s, Ends K [x0, x1, x2, x3, x4, x5, x6, x7, x8, .ref w, x10, x11] s) : Ends (zCons (zIf (tst (e2 oNe (eV 9) (e2 oMul (eLst (aC (eC (.str (Str.ofString "number"))) aN)) (e2 oAdd (e2 oAdd (e2 oAdd (e2 oAdd (eC (.int 36)) (eC (.int 24))) (eC (.int 24))) (eC (.int 30))) (eC (.int 1)))))) (zRet (eC (.bl false))) zNil) K) [x0, x1, x2, x3, x4, x5, x6, x7, x8, .ref w, x10, x11] s := by
  have hl := (List.getElem?_eq_some_iff.mp hw).1
  have hw : s[w]? = some (.lst (List.replicate 115 numW)) := hw
  have hm : oMul (.ref s.length) (.int 115) (s ++ [.lst [numW]]) = .ok (.ref (s.length + 1)) (s ++ [.lst [numW], .lst (List.replicate 115 numW)]) := by
    rw [mul_ref (xs := [numW]) (by simp) (by omega) (by omega) (by decide), show (115 : Int).toNat = 115 from rfl, flat_rep]
    simp
  have hn : oNe (.ref w) (.ref (s.length + 1)) (s ++ [.lst [numW], .lst (List.replicate 115 numW)]) = .ok (.bl false) (s ++ [.lst [numW], .lst (List.replicate 115 numW)]) := by
    unfold oNe
    rw [eq_reps (m := 115) (x := Str.ofString "number") (str_eqv _) can_num (by rw [List.getElem?_append_left hl]; exact hw) (by simp; rfl)]
    rfl
  refine ends_of (r1 := [x0, x1, x2, x3, x4, x5, x6, x7, x8, .ref w, x10, x11]) (s1 := s ++ [.lst [numW], .lst (List.replicate 115 numW)]) ?_ (h _)
  generalize List.replicate 115 numW = L at hm hn ⊢
  unfold numW at hm hn ⊢
  simp [hm, hn]
theorem st_11 (h : ∀ w s, Wd s w 3 noW → Ends K [x0, x1, x2, x3, x4, x5, x6, x7, x8, .ref w, x10, x11] s) : Ends (zCons (zSet (gV 9) (eLc (iTup (eTup (aC (eC (.fn 14)) (aC (eC (.fn 26)) (aC (eC (.fn 17)) aN))))) (gV 11) tYes (eLam (errH wfE) (eCallV 11 2 tb2 (aC (eC (.int 100)) (aC (eC (.int 1000000)) aN)))) [11])) K) [x0, x1, x2, x3, x4, x5, x6, x7, x8, x9, x10, x11] s := by
  have he : (eLc (iTup (eTup (aC (eC (.fn 14)) (aC (eC (.fn 26)) (aC (eC (.fn 17)) aN))))) (gV 11) tYes (eLam (errH wfE) (eCallV 11 2 tb2 (aC (eC (.int 100)) (aC (eC (.int 1000000)) aN)))) [11]) [x0, x1, x2, x3, x4, x5, x6, x7, x8, x9, x10, x11] s = .ok (.ref s.length) (s ++ [.lst (List.replicate 3 noW)]) := by
    refine words_n (fns := [14, 26, 17]) rfl (by simp) (by decide) fun j hj G => ?_
    obtain ⟨d1, d2, d3, d4, d5, g1, g2, g3, g4, g5⟩ := go_two (s ++ G)
    simp only [List.mem_cons, List.mem_nil_iff, or_false] at hj
    rcases hj with rfl | rfl | rfl
    · exact wd_good (ds := [.int 100, .int 1000000]) rfl (by simp) (by simp) rfl ⟨_, g1⟩
    · exact wd_good (ds := [.int 100, .int 1000000]) rfl (by simp) (by simp) rfl ⟨_, g2⟩
    · exact wd_good (ds := [.int 100, .int 1000000]) rfl (by simp) (by simp) rfl ⟨_, g3⟩
  refine ends_of (r1 := [x0, x1, x2, x3, x4, x5, x6, x7, x8, .ref s.length, x10, x11]) (s1 := s ++ [.lst (List.replicate 3 noW)]) ?_ (h _ _ (by unfold Wd; simp))
  rw [ap_zSet, he]
  simp
theorem st_12 {w : Nat} (hw : Wd s w 3 noW) (h : ∀ w s, Wd s w 5 noW → Ends K [x0, x1, x2, x3, x4, x5, x6, x7, x8, .ref w, x10, x11] s) : Ends (zCons (zSet (gV 9) (e2 oAdd (eV 9) (eLc (iTup (eTup (aC (eC (.fn 15)) (aC (eC (.fn 18)) aN)))) (gV 11) tYes (eLam (errH wfE) (eCallV 11 2 tb2 (aC (eC (.int 100)) (aC (e2 oPow (eC (.int 10)) (eC (.int 12))) aN)))) [11]))) K) [x0, x1, x2, x3, x4, x5, x6, x7, x8, .ref w, x10, x11] s := by
  refine ends_of (wset (j := 2) rfl hw ?_ (by omega)) (h _ _ Wd.app)
  refine words_n (fns := [15, 18]) rfl (by simp) (by decide) fun j hj G => ?_
  obtain ⟨d1, d2, d3, d4, d5, g1, g2, g3, g4, g5⟩ := go_two (s ++ G)
  simp only [List.mem_cons, List.mem_nil_iff, or_false] at hj
  rcases hj with rfl | rfl
  · exact wd_good (ds := [.int 100, .int 1000000000000]) rfl (by simp) (by simp [pw12]) rfl ⟨_, g4⟩
  · exact wd_good (ds := [.int 100, .int 1000000000000]) rfl (by simp) (by simp [pw12]) rfl ⟨_, g5⟩
theorem st_13 {w : Nat} (hw : Wd s w 5 noW) (h : ∀ w s, Wd s w 8 noW → Ends K [x0, x1, x2, x3, x4, x5, x6, x7, x8, .ref w, x10, x11] s) : Ends (zCons (zSet (gV 9) (e2 oAdd (eV 9) (eLc (iTup (eTup (aC (eC (.fn 20)) (aC (eC (.fn 21)) (aC (eC (.fn 23)) aN))))) (gV 11) tYes (eLam (errH wfE) (eCallV 11 1 tb1 (aC (eC (.int 1000000)) aN))) [11]))) K) [x0, x1, x2, x3, x4, x5, x6, x7, x8, .ref w, x10, x11] s := by
  refine ends_of (wset (j := 3) rfl hw ?_ (by omega)) (h _ _ Wd.app)
  refine words_n (fns := [20, 21, 23]) rfl (by simp) (by decide) fun j hj G => ?_
  obtain ⟨d1, d2, d3, d4, d5, g1, g2, g3, g4, g5⟩ := go_one (s ++ G)
  simp only [List.mem_cons, List.mem_nil_iff, or_false] at hj
  rcases hj with rfl | rfl | rfl
  · exact wd_good (ds := [.int 1000000]) rfl (by simp) (by simp) rfl ⟨_, g1⟩
  · exact wd_good (ds := [.int 1000000]) rfl (by simp) (by simp) rfl ⟨_, g2⟩
  · exact wd_good (ds := [.int 1000000]) rfl (by simp) (by simp) rfl ⟨_, g3⟩
theorem st_14 {w : Nat} (hw : Wd s w 8 noW) : Ends (zRet (e2 oEq (e2 oAdd (eV 9) (eLc (iTup (eTup (aC (eC (.fn 24)) (aC (eC (.fn 25)) aN)))) (gV 11) tYes (eLam (errH wfE) (eCallV 11 1 tb1 (aC (eC (.int 600)) aN))) [11])) (e2 oMul (eLst (aC (eC (.str (Str.ofString ""))) aN)) (eC (.int 10))))) [x0, x1, x2, x3, x4, x5, x6, x7, x8, .ref w, x10, x11] s := by
  have hl := (List.getElem?_eq_some_iff.mp hw).1
  have hw : s[w]? = some (.lst (List.replicate 8 noW)) := hw
  have he : eLc (iTup (eTup (aC (eC (.fn 24)) (aC (eC (.fn 25)) aN)))) (gV 11) tYes (eLam (errH wfE) (eCallV 11 1 tb1 (aC (eC (.int 600)) aN))) [11] [x0, x1, x2, x3, x4, x5, x6, x7, x8, .ref w, x10, x11] s = .ok (.ref s.length) (s ++ [.lst (List.replicate 2 noW)]) := by
    refine words_n (fns := [24, 25]) rfl (by simp) (by decide) fun j hj G => ?_
    obtain ⟨d1, d2, d3, d4, d5, g1, g2, g3, g4, g5⟩ := go_one (s ++ G)
    simp only [List.mem_cons, List.mem_nil_iff, or_false] at hj
    rcases hj with rfl | rfl
    · exact wd_good (ds := [.int 600]) rfl (by simp) (by simp) rfl ⟨_, g4⟩
    · exact wd_good (ds := [.int 600]) rfl (by simp) (by simp) rfl ⟨_, g5⟩
  have ha : oAdd (.ref w) (.ref s.length) (s ++ [.lst (List.replicate 2 noW)]) = .ok (.ref (s.length + 1)) (s ++ [.lst (List.replicate 2 noW), .lst (List.replicate 10 noW)]) := by
    rw [add_refs' (xs := List.replicate 8 noW) (ys := List.replicate 2 noW) (by rw [List.getElem?_append_left hl]; exact hw) (by simp) (by simp), List.replicate_append_replicate]
    simp
  have hm : oMul (.ref (s.length + 2)) (.int 10) (s ++ [.lst (List.replicate 2 noW), .lst (List.replicate 10 noW), .lst [noW]]) = .ok (.ref (s.length + 3)) (s ++ [.lst (List.replicate 2 noW), .lst (List.replicate 10 noW), .lst [noW], .lst (List.replicate 10 noW)]) := by
    rw [mul_ref (xs := [noW]) (by simp) (by omega) (by omega) (by decide), show (10 : Int).toNat = 10 from rfl, flat_rep]
    simp
  have hq : oEq (.ref (s.length + 1)) (.ref (s.length + 3)) (s ++ [.lst (List.replicate 2 noW), .lst (List.replicate 10 noW), .lst [noW], .lst (List.replicate 10 noW)]) = .ok (.bl true) (s ++ [.lst (List.replicate 2 noW), .lst (List.replicate 10 noW), .lst [noW], .lst (List.replicate 10 noW)]) := by
    unfold oEq
    rw [eq_reps (m := 10) (x := Str.ofString "") (str_eqv _) can_no (by simp; rfl) (by simp; rfl)]
  refine ⟨s ++ [.lst (List.replicate 2 noW), .lst (List.replicate 10 noW), .lst [noW], .lst (List.replicate 10 noW)], ?_⟩
  have ev : eV 9 [x0, x1, x2, x3, x4, x5, x6, x7, x8, .ref w, x10, x11] s = .ok (.ref w) s := ap_eV rfl (by intro z; cases z)
  rw [ap_zRet, ap_e2, ap_e2, ev, bind_ok, he, bind_ok, ha, bind_ok]
  have z : (e2 oMul (eLst (aC (eC (.str (Str.ofString ""))) aN)) (eC (.int 10))) [x0, x1, x2, x3, x4, x5, x6, x7, x8, .ref w, x10, x11] (s ++ [.lst (List.replicate 2 noW), .lst (List.replicate 10 noW)]) = .ok (.ref (s.length + 3)) (s ++ [.lst (List.replicate 2 noW), .lst (List.replicate 10 noW), .lst [noW], .lst (List.replicate 10 noW)]) := by
    rw [← hm]
    simp only [noW]
    simp
  rw [z, bind_ok, hq]
  rfl
theorem st_tail {w : Nat} (hw : Wd s w 115 numW) : Ends (zCons (zIf (tst (e2 oNe (eV 9) (e2 oMul (eLst (aC (eC (.str (Str.ofString "number"))) aN)) (e2 oAdd (e2 oAdd (e2 oAdd (e2 oAdd (eC (.int 36)) (eC (.int 24))) (eC (.int 24))) (eC (.int 30))) (eC (.int 1)))))) (zRet (eC (.bl false))) zNil) (zCons (zSet (gV 9) (eLc (iTup (eTup (aC (eC (.fn 14)) (aC (eC (.fn 26)) (aC (eC (.fn 17)) aN))))) (gV 11) tYes (eLam (errH wfE) (eCallV 11 2 tb2 (aC (eC (.int 100)) (aC (eC (.int 1000000)) aN)))) [11])) (zCons (zSet (gV 9) (e2 oAdd (eV 9) (eLc (iTup (eTup (aC (eC (.fn 15)) (aC (eC (.fn 18)) aN)))) (gV 11) tYes (eLam (errH wfE) (eCallV 11 2 tb2 (aC (eC (.int 100)) (aC (e2 oPow (eC (.int 10)) (eC (.int 12))) aN)))) [11]))) (zCons (zSet (gV 9) (e2 oAdd (eV 9) (eLc (iTup (eTup (aC (eC (.fn 20)) (aC (eC (.fn 21)) (aC (eC (.fn 23)) aN))))) (gV 11) tYes (eLam (errH wfE) (eCallV 11 1 tb1 (aC (eC (.int 1000000)) aN))) [11]))) (zRet (e2 oEq (e2 oAdd (eV 9) (eLc (iTup (eTup (aC (eC (.fn 24)) (aC (eC (.fn 25)) aN)))) (gV 11) tYes (eLam (errH wfE) (eCallV 11 1 tb1 (aC (eC (.int 600)) aN))) [11])) (e2 oMul (eLst (aC (eC (.str (Str.ofString ""))) aN)) (eC (.int 10))))))))) [x0, x1, x2, x3, x4, x5, x6, x7, x8, .ref w, x10, x11] s :=
  st_10 hw fun s => st_11 fun w s hw => st_12 hw fun w s hw => st_13 hw fun w s hw => st_14 hw
end K94

namespace K94
open Y YN
open PySem (Str PyData)
variable {x0 x1 x2 x3 x4 x5 x6 x7 x8 x9 x10 x11 : D} {s : S} {K : Sm} {a b : Int} {c : Nat}
/-! told, odd -/
theorem few_is {sd n : Int} {v : Nat} (hs : 3 ≤ sd) (hs2 : sd ≤ 100) (n1 : 1 ≤ n) (n2 : n ≤ 2000) (h : Mn sd n.toNat v) (st : S) : callK D_fewest_figures [.int sd, .int n] st = .ok (.int v) st := by
  rw [fewest_k hs hs2 n1 n2, mv_eq h]
theorem f7 : ∀ st, callK D_fewest_figures [.int 4, .int 7] st = .ok (.int 4) st := few_is (v := 4) (by decide) (by decide) (by decide) (by decide) m7
theorem f1999 : ∀ st, callK D_fewest_figures [.int 4, .int 1999] st = .ok (.int 4) st := few_is (v := 4) (by decide) (by decide) (by decide) (by decide) m1999
theorem f2000 : ∀ st, callK D_fewest_figures [.int 4, .int 2000] st = .ok (.int 2) st := few_is (v := 2) (by decide) (by decide) (by decide) (by decide) m2000
theorem f1936 : ∀ st, callK D_fewest_figures [.int 4, .int 1936] st = .ok (.int 1) st := few_is (v := 1) (by decide) (by decide) (by decide) (by decide) m1936
theorem f3 : ∀ st, callK D_fewest_figures [.int 3, .int 2000] st = .ok (.int 3) st := few_is (v := 3) (by decide) (by decide) (by decide) (by decide) m3
theorem f100 : ∀ st, callK D_fewest_figures [.int 100, .int 199] st = .ok (.int 100) st := few_is (v := 100) (by decide) (by decide) (by decide) (by decide) m199
def fT : D → D
  | .int i => if i = 7 then .int 4 else if i = 1999 then .int 4 else if i = 2000 then .int 2 else .int 1
  | d => d
/-! over-F -/
theorem st_2_of {fF : Fn} (f7 : ∀ st, callK fF [.int 4, .int 7] st = .ok (.int 4) st) (f1999 : ∀ st, callK fF [.int 4, .int 1999] st = .ok (.int 4) st) (f2000 : ∀ st, callK fF [.int 4, .int 2000] st = .ok (.int 2) st) (f1936 : ∀ st, callK fF [.int 4, .int 1936] st = .ok (.int 1) st) (f3 : ∀ st, callK fF [.int 3, .int 2000] st = .ok (.int 3) st) (f100 : ∀ st, callK fF [.int 100, .int 199] st = .ok (.int 100) st) (hc : s[c]? = some (.lst [.int a, .int b])) (h : ∀ x7 s, s[c]? = some (.lst [.int a, .int b]) → Ends K [x0, x1, x2, x3, x4, x5, x6, x7, x8, x9, x10, x11] s) : Ends (zCons (zSet (gV 7) (e2 oAdd (eLc (iTup (eTup (aC (eC (.int 7)) (aC (eC (.int 1999)) (aC (eC (.int 2000)) (aC (eC (.int 1936)) aN)))))) (gV 6) tYes (eCallK 2 fF (aC (eC (.int 4)) (aC (eV 6) aN))) [6]) (eLst (aC (eCallK 2 fF (aC (eC (.int 3)) (aC (eC (.int 2000)) aN))) (aC (eCallK 2 fF (aC (eC (.int 100)) (aC (eC (.int 199)) aN))) aN))))) (zCons (zIf (tNot (tst (eCallK 2 (D__law_same 10) (aC (eV 7) (aC (eLst (aC (eC (.int 4)) (aC (eC (.int 4)) (aC (eC (.int 2)) (aC (eC (.int 1)) (aC (eC (.int 3)) (aC (eC (.int 100)) aN))))))) aN))))) (zRet (eC (.bl false))) zNil) K)) [x0, x1, x2, x3, x4, x5, x6, x7, x8, x9, x10, x11] s := by
  have he : eLc (iTup (eTup (aC (eC (.int 7)) (aC (eC (.int 1999)) (aC (eC (.int 2000)) (aC (eC (.int 1936)) aN)))))) (gV 6) tYes (eCallK 2 fF (aC (eC (.int 4)) (aC (eV 6) aN))) [6] [x0, x1, x2, x3, x4, x5, x6, x7, x8, x9, x10, x11] s = .ok (.ref s.length) (s ++ [.lst [.int 4, .int 4, .int 2, .int 1]]) := by
    have hit : iTup (eTup (aC (eC (.int 7)) (aC (eC (.int 1999)) (aC (eC (.int 2000)) (aC (eC (.int 1936)) aN))))) [x0, x1, x2, x3, x4, x5, x6, x7, x8, x9, x10, x11] s = .ok (.items [.int 7, .int 1999, .int 2000, .int 1936]) s := rfl
    refine Eq.trans (eLc_items hit (fun x6 => [x0, x1, x2, x3, x4, x5, x6, x7, x8, x9, x10, x11]) (fun _ => true) fT (fun x hx acc => ?_) (by simp)) ?_
    · refine ⟨rfl, rfl, fun _ => ?_⟩
      simp only [List.mem_cons, List.mem_nil_iff, or_false] at hx
      rcases hx with rfl | rfl | rfl | rfl
      · simp [f7, fT]
      · simp [f1999, fT]
      · simp [f2000, fT]
      · simp [f1936, fT]
    · simp [fT]
  have ha : oAdd (.ref s.length) (.ref (s.length + 1)) (s ++ [.lst [.int 4, .int 4, .int 2, .int 1], .lst [.int 3, .int 100]]) = .ok (.ref (s.length + 2)) (s ++ [.lst [.int 4, .int 4, .int 2, .int 1], .lst [.int 3, .int 100], .lst [.int 4, .int 4, .int 2, .int 1, .int 3, .int 100]]) := by
    rw [add_refs' (xs := [.int 4, .int 4, .int 2, .int 1]) (ys := [.int 3, .int 100]) (by simp) (by simp) (by simp)]
    simp
  have hcl := (List.getElem?_eq_some_iff.mp hc).1
  refine ends_of (r1 := [x0, x1, x2, x3, x4, x5, x6, .ref (s.length + 2), x8, x9, x10, x11]) (s1 := s ++ [.lst [.int 4, .int 4, .int 2, .int 1], .lst [.int 3, .int 100], .lst [.int 4, .int 4, .int 2, .int 1, .int 3, .int 100]]) ?_ ?_
  · rw [ap_zSet, ap_e2, he, bind_ok]
    simp [f3, f100, ha]
  have sl := same_list (n := 8) (a := s.length + 2) (b := s.length + 3) (xs := [.int 4, .int 4, .int 2, .int 1, .int 3, .int 100]) (s := s ++ [.lst [.int 4, .int 4, .int 2, .int 1], .lst [.int 3, .int 100], .lst [.int 4, .int 4, .int 2, .int 1, .int 3, .int 100], .lst [.int 4, .int 4, .int 2, .int 1, .int 3, .int 100]]) (by omega) (by simp) (by simp) (by simp) (by rfl) (by decide)
  refine ends_of (r1 := [x0, x1, x2, x3, x4, x5, x6, .ref (s.length + 2), x8, x9, x10, x11]) (s1 := s ++ [.lst [.int 4, .int 4, .int 2, .int 1], .lst [.int 3, .int 100], .lst [.int 4, .int 4, .int 2, .int 1, .int 3, .int 100], .lst [.int 4, .int 4, .int 2, .int 1, .int 3, .int 100]]) ?_ (h _ _ (by rw [List.getElem?_append_left hcl]; exact hc))
  simp [sl]
/-! end-F -/
theorem st_2 (hc : s[c]? = some (.lst [.int a, .int b])) (h : ∀ x7 s, s[c]? = some (.lst [.int a, .int b]) → Ends K [x0, x1, x2, x3, x4, x5, x6, x7, x8, x9, x10, x11] s) : Ends (zCons (zSet (gV 7) (e2 oAdd (eLc (iTup (eTup (aC (eC (.int 7)) (aC (eC (.int 1999)) (aC (eC (.int 2000)) (aC (eC (.int 1936)) aN)))))) (gV 6) tYes (eCallK 2 D_fewest_figures (aC (eC (.int 4)) (aC (eV 6) aN))) [6]) (eLst (aC (eCallK 2 D_fewest_figures (aC (eC (.int 3)) (aC (eC (.int 2000)) aN))) (aC (eCallK 2 D_fewest_figures (aC (eC (.int 100)) (aC (eC (.int 199)) aN))) aN))))) (zCons (zIf (tNot (tst (eCallK 2 (D__law_same 10) (aC (eV 7) (aC (eLst (aC (eC (.int 4)) (aC (eC (.int 4)) (aC (eC (.int 2)) (aC (eC (.int 1)) (aC (eC (.int 3)) (aC (eC (.int 100)) aN))))))) aN))))) (zRet (eC (.bl false))) zNil) K)) [x0, x1, x2, x3, x4, x5, x6, x7, x8, x9, x10, x11] s := st_2_of f7 f1999 f2000 f1936 f3 f100 hc h
def odds (k : Nat) : List D := [.non, .str (Str.ofString "odd"), .ref k, .str (Str.ofString ""), .tup [.non]]
theorem roll94 : RollOk D__law_roll := rollOk (by decide) (by decide) (by decide)
theorem st_4 (hc : Cup a b) (hs : s[c]? = some (.lst [.int a, .int b])) (h : ∀ odd w s, Wd s w 0 numW → OddW s odd w → Ends K [x0, .ref c, x2, x3, x4, x5, x6, x7, odd, .ref w, x10, x11] s) : Ends (zCons (zSet (gT (gsC (gV 8) (gsC (gV 9) gsN))) (eTup (aC (eCall 2 D__law_some (aC (eV 1) (aC (eLst (aC (eC .non) (aC (eC (.str (Str.ofString "odd"))) (aC (eLst aN) (aC (eC (.str (Str.ofString ""))) (aC (eTup (aC (eC .non) aN)) aN)))))) aN))) (aC (eLst aN) aN)))) K) [x0, .ref c, x2, x3, x4, x5, x6, x7, x8, x9, x10, x11] s := by
  obtain ⟨u, a1, b1, u0, u1, hc1, hr1⟩ := roll94 hc (show (0 : Int) < 5 by decide) (by decide)
  have hcl := (List.getElem?_eq_some_iff.mp hs).1
  have h1 := hr1 c (s ++ [O.lst [], O.lst (odds s.length)]) (by rw [List.getElem?_append_left hcl]; exact hs)
  generalize hS : (s ++ [O.lst [], O.lst (odds s.length)]).set c (.lst [.int a1, .int b1]) = S1 at h1
  have g0 : S1[s.length]? = some (.lst []) := by rw [← hS, List.getElem?_set_ne (by omega)]; simp
  have g1 : S1[s.length + 1]? = some (.lst (odds s.length)) := by rw [← hS, List.getElem?_set_ne (by omega)]; simp
  have gl : S1.length = s.length + 2 := by rw [← hS, List.length_set]; simp
  obtain ⟨d, hd, ho⟩ : ∃ d, atD (odds s.length) u = some d ∧ OddW (S1 ++ [.lst []]) d (s.length + 2) := by
    have hu : u = 0 ∨ u = 1 ∨ u = 2 ∨ u = 3 ∨ u = 4 := by omega
    rcases hu with rfl | rfl | rfl | rfl | rfl
    · exact ⟨_, rfl, .inl ⟨rfl, fun z => by cases z⟩⟩
    · exact ⟨_, rfl, .inl ⟨rfl, fun z => by cases z⟩⟩
    · exact ⟨_, rfl, .inr ⟨_, rfl, by rw [List.getElem?_append_left (by omega)]; exact g0, by omega, by simp; omega⟩⟩
    · exact ⟨_, rfl, .inl ⟨rfl, fun z => by cases z⟩⟩
    · exact ⟨_, rfl, .inl ⟨rfl, fun z => by cases z⟩⟩
  have hx : oIx (.ref (s.length + 1)) (.int u) S1 = .ok d S1 := by
    simp [ix_seq, g1, hd]
  have hf : D__law_some [.ref c, .ref (s.length + 1)] (s ++ [O.lst [], O.lst (odds s.length)]) = .ok d S1 := by
    show D_someG D__law_roll _ _ = _
    unfold D_someG
    rw [ap_mkFn (k := 2) (ds := [.ref c, .ref (s.length + 1)]) rfl]
    unfold b_someG
    have ol : ((odds s.length).length : Int) = 5 := rfl
    simp [ol, h1, hx, F.out]
  refine ends_of (r1 := [x0, .ref c, x2, x3, x4, x5, x6, x7, d, .ref (s.length + 2), x10, x11]) (s1 := S1 ++ [.lst []]) ?_ (h _ _ _ (by unfold Wd; rw [← gl]; simp) ho)
  have hl : (eLst (aC (eC .non) (aC (eC (.str (Str.ofString "odd"))) (aC (eLst aN) (aC (eC (.str (Str.ofString ""))) (aC (eTup (aC (eC .non) aN)) aN)))))) [x0, .ref c, x2, x3, x4, x5, x6, x7, x8, x9, x10, x11] s = .ok (.ref (s.length + 1)) (s ++ [O.lst [], O.lst (odds s.length)]) := by
    simp [odds]
  have hv : eV 1 [x0, .ref c, x2, x3, x4, x5, x6, x7, x8, x9, x10, x11] s = .ok (.ref c) s := ap_eV rfl (by intro z; cases z)
  have hcall : (eCall 2 D__law_some (aC (eV 1) (aC (eLst (aC (eC .non) (aC (eC (.str (Str.ofString "odd"))) (aC (eLst aN) (aC (eC (.str (Str.ofString ""))) (aC (eTup (aC (eC .non) aN)) aN)))))) aN))) [x0, .ref c, x2, x3, x4, x5, x6, x7, x8, x9, x10, x11] s = .ok d S1 := by
    rw [ap_eCall, ap_aC, hv, bind_ok, ap_aC, hl, bind_ok]
    simp [hf]
  rw [ap_zSet]
  have ht : (eTup (aC (eCall 2 D__law_some (aC (eV 1) (aC (eLst (aC (eC .non) (aC (eC (.str (Str.ofString "odd"))) (aC (eLst aN) (aC (eC (.str (Str.ofString ""))) (aC (eTup (aC (eC .non) aN)) aN)))))) aN))) (aC (eLst aN) aN))) [x0, .ref c, x2, x3, x4, x5, x6, x7, x8, x9, x10, x11] s = .ok (.tup [d, .ref (s.length + 2)]) (S1 ++ [.lst []]) := by
    rw [ap_eTup, ap_aC, hcall, bind_ok, ← gl]
    simp
  rw [ht]
  simp
end K94

namespace K94
open Y YN
open PySem (Str PyData)
variable {x0 x1 x2 x3 x4 x5 x6 x7 x8 x9 x10 x11 : D} {s : S} {K : Sm} {a b : Int} {c : Nat}
/-! the rounds -/
theorem r_0 (hc : Cup a b) (hs : s[c]? = some (.lst [.int a, .int b])) {Q : Env → S → Prop} (h : ∀ (sd ms a b : Int) s, 3 ≤ sd → sd ≤ 100 → 30 ≤ ms → ms ≤ 199 → Cup a b → s[c]? = some (.lst [.int a, .int b]) → Nx Q (K [x0, .ref c, x2, .int sd, .int ms, x5, x6, x7, x8, x9, x10, x11] s)) : Nx Q ((zCons (zPar 3 4 (e2 oAdd (eC (.int 3)) (eCallK 2 D__law_roll (aC (eV 1) (aC (eCallK 2 D__law_some (aC (eV 1) (aC (eLst (aC (eC (.int 5)) (aC (eC (.int 98)) aN))) aN))) aN)))) (e2 oAdd (eC (.int 30)) (eCallK 2 D__law_roll (aC (eV 1) (aC (eC (.int 170)) aN))))) K) [x0, .ref c, x2, x3, x4, x5, x6, x7, x8, x9, x10, x11] s) := by
  have hcl := (List.getElem?_eq_some_iff.mp hs).1
  obtain ⟨k, a1, b1, hk, hc1, h1⟩ := some_lst roll94 hc (xs := [.int 5, .int 98]) (by decide) (by decide) (by decide)
  obtain ⟨z, hz, z1, z2⟩ : ∃ z : Int, [D.int 5, D.int 98][k] = .int z ∧ 5 ≤ z ∧ z ≤ 98 := by
    match k, hk with
    | 0, _ => exact ⟨5, rfl, by decide, by decide⟩
    | 1, _ => exact ⟨98, rfl, by decide, by decide⟩
  rw [hz] at h1
  obtain ⟨u, a2, b2, u0, u1, hc2, h2⟩ := roll94 hc1 (show (0 : Int) < z by omega) (by omega)
  obtain ⟨v, a3, b3, v0, v1, hc3, h3⟩ := roll94 hc2 (show (0 : Int) < 170 by decide) (by decide)
  have g1 := h1 c s.length (s ++ [.lst [.int 5, .int 98]]) (by omega) (by rw [List.getElem?_append_left hcl]; exact hs) (by simp)
  generalize hS1 : (s ++ [O.lst [.int 5, .int 98]]).set c (.lst [.int a1, .int b1]) = S1 at g1
  have l1 : S1[c]? = some (.lst [.int a1, .int b1]) := by rw [← hS1]; exact List.getElem?_set_self (by simp; omega)
  have g2 := h2 c S1 l1
  generalize hS2 : S1.set c (.lst [.int a2, .int b2]) = S2 at g2
  have l2 : S2[c]? = some (.lst [.int a2, .int b2]) := by rw [← hS2]; exact List.getElem?_set_self (List.getElem?_eq_some_iff.mp l1).1
  have g3 := h3 c S2 l2
  generalize hS3 : S2.set c (.lst [.int a3, .int b3]) = S3 at g3
  have l3 : S3[c]? = some (.lst [.int a3, .int b3]) := by rw [← hS3]; exact List.getElem?_set_self (List.getElem?_eq_some_iff.mp l2).1
  have z0 : (zPar 3 4 (e2 oAdd (eC (.int 3)) (eCallK 2 D__law_roll (aC (eV 1) (aC (eCallK 2 D__law_some (aC (eV 1) (aC (eLst (aC (eC (.int 5)) (aC (eC (.int 98)) aN))) aN))) aN)))) (e2 oAdd (eC (.int 30)) (eCallK 2 D__law_roll (aC (eV 1) (aC (eC (.int 170)) aN))))) [x0, .ref c, x2, x3, x4, x5, x6, x7, x8, x9, x10, x11] s = .nx [x0, .ref c, x2, .int (3 + u), .int (30 + v), x5, x6, x7, x8, x9, x10, x11] S3 := by
    simp [g1, g2, g3]
  rw [ap_zCons, z0, andThen_nx]
  exact h _ _ _ _ _ (by omega) (by omega) (by omega) (by omega) hc3 l3
theorem r_1 {sd ms : Int} (s1 : 3 ≤ sd) (s2 : sd ≤ 100) (m1 : 30 ≤ ms) (m2 : ms ≤ 199) (hs : s[c]? = some (.lst [.int a, .int b])) {Q : Env → S → Prop} (h : ∀ (d : Nat) (Ks : List Nat) s, (∀ n, n ∈ Ks ↔ n ≤ ms.toNat) → s[d]? = some (.dct false (Ks.map (kvO sd))) → s[c]? = some (.lst [.int a, .int b]) → d ≠ c → Nx Q (K [x0, .ref c, x2, .int sd, .int ms, .ref d, x6, x7, x8, x9, x10, x11] s)) : Nx Q ((zCons (zSet (gV 5) (eCallK 2 D__law_levels (aC (eV 3) (aC (eV 4) aN)))) K) [x0, .ref c, x2, .int sd, .int ms, x5, x6, x7, x8, x9, x10, x11] s) := by
  have hcl := (List.getElem?_eq_some_iff.mp hs).1
  obtain ⟨Ks, k1, k2, e⟩ := levels_k s1 s2 (show 1 ≤ ms by omega) m2 (st := s)
  have z0 : (zSet (gV 5) (eCallK 2 D__law_levels (aC (eV 3) (aC (eV 4) aN)))) [x0, .ref c, x2, .int sd, .int ms, x5, x6, x7, x8, x9, x10, x11] s = .nx [x0, .ref c, x2, .int sd, .int ms, .ref s.length, x6, x7, x8, x9, x10, x11] (s ++ [.dct false (Ks.map (kvO sd))]) := by
    simp [e]
  rw [ap_zCons, z0, andThen_nx]
  exact h _ _ _ k2 (by simp) (by rw [List.getElem?_append_left hcl]; exact hs) (by omega)
theorem vals_kv (sd : Int) (Ks : List Nat) : (Ks.map (kvO sd)).map (·.2) = (Ks.map fun n => (mv sd n : Int)).map D.int := by
  rw [List.map_map, List.map_map]
  rfl
theorem r_2 {sd ms : Int} (s1 : 3 ≤ sd) (s2 : sd ≤ 100) (m1 : 30 ≤ ms) (m2 : ms ≤ 199) {d : Nat} {Ks : List Nat} (k2 : ∀ n, n ∈ Ks ↔ n ≤ ms.toNat) (hd : s[d]? = some (.dct false (Ks.map (kvO sd)))) (hs : s[c]? = some (.lst [.int a, .int b])) {Q : Env → S → Prop} (h : ∀ s, s[d]? = some (.dct false (Ks.map (kvO sd))) → s[c]? = some (.lst [.int a, .int b]) → Nx Q (K [x0, .ref c, x2, .int sd, .int ms, .ref d, x6, x7, x8, x9, x10, x11] s)) : Nx Q ((zCons (zIf (tst (e2 oGt (eN bMaxL (aC (e1 oListVals (eV 5)) aN)) (eV 3))) (zRet (eC (.bl false))) zNil) K) [x0, .ref c, x2, .int sd, .int ms, .ref d, x6, x7, x8, x9, x10, x11] s) := by
  have hcl := (List.getElem?_eq_some_iff.mp hs).1
  have hdl := (List.getElem?_eq_some_iff.mp hd).1
  have ne : (Ks.map fun n => (mv sd n : Int)) ≠ [] := by
    intro z
    have : (mv sd 0 : Int) ∈ (Ks.map fun n => (mv sd n : Int)) := List.mem_map.mpr ⟨0, (k2 0).mpr (Nat.zero_le _), rfl⟩
    rw [z] at this
    cases this
  obtain ⟨mem, _⟩ := maxI_spec _ ne
  obtain ⟨n, hn, en⟩ := List.mem_map.mp mem
  have le := sides_do s1 s2 (show n ≤ 199 by have := (k2 n).mp hn; omega) (mv_is sd n)
  rw [en] at le
  have ev : oListVals (.ref d) s = .ok (.ref s.length) (s ++ [.lst ((Ks.map fun n => (mv sd n : Int)).map D.int)]) := by
    unfold oListVals
    simp only [hd, vals_kv]
  have em := maxL_ref (n := s.length) (s := s ++ [.lst ((Ks.map fun n => (mv sd n : Int)).map D.int)]) (l := Ks.map fun n => (mv sd n : Int)) (by simp) ne
  generalize maxI (Ks.map fun n => (mv sd n : Int)) = mx at le em
  have g : ¬ mx > sd := by omega
  have z0 : (zIf (tst (e2 oGt (eN bMaxL (aC (e1 oListVals (eV 5)) aN)) (eV 3))) (zRet (eC (.bl false))) zNil) [x0, .ref c, x2, .int sd, .int ms, .ref d, x6, x7, x8, x9, x10, x11] s = .nx [x0, .ref c, x2, .int sd, .int ms, .ref d, x6, x7, x8, x9, x10, x11] (s ++ [.lst ((Ks.map fun n => (mv sd n : Int)).map D.int)]) := by
    generalize (Ks.map fun n => (mv sd n : Int)).map D.int = L at ev em
    simp [ev, em, g]
  rw [ap_zCons, z0, andThen_nx]
  exact h _ (by rw [List.getElem?_append_left hdl]; exact hd) (by rw [List.getElem?_append_left hcl]; exact hs)
theorem r_3 {sd ms : Int} (s1 : 3 ≤ sd) (s2 : sd ≤ 100) (m1 : 30 ≤ ms) (m2 : ms ≤ 199) {d : Nat} {Ks : List Nat} (k2 : ∀ n, n ∈ Ks ↔ n ≤ ms.toNat) (hd : s[d]? = some (.dct false (Ks.map (kvO sd)))) (hdc : d ≠ c) (hc : Cup a b) (hs : s[c]? = some (.lst [.int a, .int b])) {Q : Env → S → Prop} (h : ∀ a b x6 s, Cup a b → s[c]? = some (.lst [.int a, .int b]) → Q [x0, .ref c, x2, .int sd, .int ms, .ref d, x6, x7, x8, x9, x10, x11] s) : Nx Q ((zFor (iTup (eTup (aC (eC (.int 1)) (aC (eV 4) (aC (e2 oAdd (eC (.int 1)) (eCallK 2 D__law_roll (aC (eV 1) (aC (eV 4) aN)))) (aC (e2 oAdd (eC (.int 1)) (eCallK 2 D__law_roll (aC (eV 1) (aC (eV 4) aN)))) (aC (eN bMin2 (aC (eV 4) (aC (e2 oSub (e2 oMul (eC (.int 2)) (eV 3)) (eC (.int 1))) aN))) aN))))))) (gV 6) (zIf (tNot (tst (eCallK 2 (D__law_same 10) (aC (eCallK 2 D_fewest_figures (aC (eV 3) (aC (eV 6) aN))) (aC (e2 oDIx (eV 5) (eV 6)) aN))))) (zRet (eC (.bl false))) zNil)) [x0, .ref c, x2, .int sd, .int ms, .ref d, x6, x7, x8, x9, x10, x11] s) := by
  obtain ⟨u, a1, b1, u0, u1, hc1, h1⟩ := roll94 hc (show (0 : Int) < ms by omega) (by omega)
  obtain ⟨v, a2, b2, v0, v1, hc2, h2⟩ := roll94 hc1 (show (0 : Int) < ms by omega) (by omega)
  have g1 := h1 c s hs
  generalize hS1 : s.set c (.lst [.int a1, .int b1]) = S1 at g1
  have l1 : S1[c]? = some (.lst [.int a1, .int b1]) := by rw [← hS1]; exact List.getElem?_set_self (List.getElem?_eq_some_iff.mp hs).1
  have d1 : S1[d]? = some (.dct false (Ks.map (kvO sd))) := by rw [← hS1, List.getElem?_set_ne (Ne.symm hdc)]; exact hd
  have g2 := h2 c S1 l1
  generalize hS2 : S1.set c (.lst [.int a2, .int b2]) = S2 at g2
  have l2 : S2[c]? = some (.lst [.int a2, .int b2]) := by rw [← hS2]; exact List.getElem?_set_self (List.getElem?_eq_some_iff.mp l1).1
  have d2 : S2[d]? = some (.dct false (Ks.map (kvO sd))) := by rw [← hS2, List.getElem?_set_ne (Ne.symm hdc)]; exact d1
  have m := fun st => v_mul64 (i := 2) (j := sd) (s := st) (by omega)
  have it : (iTup (eTup (aC (eC (.int 1)) (aC (eV 4) (aC (e2 oAdd (eC (.int 1)) (eCallK 2 D__law_roll (aC (eV 1) (aC (eV 4) aN)))) (aC (e2 oAdd (eC (.int 1)) (eCallK 2 D__law_roll (aC (eV 1) (aC (eV 4) aN)))) (aC (eN bMin2 (aC (eV 4) (aC (e2 oSub (e2 oMul (eC (.int 2)) (eV 3)) (eC (.int 1))) aN))) aN))))))) [x0, .ref c, x2, .int sd, .int ms, .ref d, x6, x7, x8, x9, x10, x11] s = .ok (.items [.int 1, .int ms, .int (1 + u), .int (1 + v), .int (if 2 * sd - 1 < ms then 2 * sd - 1 else ms)]) S2 := by
    refine ap_iTup ?_
    simp [g1, g2, m]
  rw [ap_zFor it]
  refine for_last (fun j r s => ∃ x6, r = [x0, .ref c, x2, .int sd, .int ms, .ref d, x6, x7, x8, x9, x10, x11] ∧ s = S2) ⟨_, rfl, rfl⟩ ?_ ?_
  · rintro j x _ s' hx ⟨x6, rfl, es⟩
    rw [es]
    clear es
    refine ⟨_, _, rfl, fun Q hQ => ?_⟩
    obtain ⟨n, rfl, n1, n2⟩ : ∃ n : Nat, x = .int n ∧ 1 ≤ n ∧ (n : Int) ≤ ms := by
      have hx := List.mem_of_getElem? hx
      simp only [List.mem_cons, List.mem_nil_iff, or_false] at hx
      rcases hx with rfl | rfl | rfl | rfl | rfl
      · exact ⟨1, rfl, by omega, by omega⟩
      · exact ⟨ms.toNat, by congr 1; omega, by omega, by omega⟩
      · exact ⟨(1 + u).toNat, by congr 1; omega, by omega, by omega⟩
      · exact ⟨(1 + v).toNat, by congr 1; omega, by omega, by omega⟩
      · split
        · exact ⟨(2 * sd - 1).toNat, by congr 1; omega, by omega, by omega⟩
        · exact ⟨ms.toNat, by congr 1; omega, by omega, by omega⟩
    have fk := fun st => fewest_k (s := sd) (n := (n : Int)) s1 s2 (by omega) (by omega) (st := st)
    rw [Int.toNat_natCast] at fk
    have ff := fnd_kv sd n Ks
    rw [if_pos ((k2 n).mpr (by omega))] at ff
    have sk := fun st => same_k (n := 9) (d := .int (mv sd n)) (s := st) rfl (by simp [dep])
    generalize (mv sd n : Int) = val at fk ff sk
    have z0 : (zIf (tNot (tst (eCallK 2 (D__law_same 10) (aC (eCallK 2 D_fewest_figures (aC (eV 3) (aC (eV 6) aN))) (aC (e2 oDIx (eV 5) (eV 6)) aN))))) (zRet (eC (.bl false))) zNil) ([x0, .ref c, x2, .int sd, .int ms, .ref d, .int n, x7, x8, x9, x10, x11] : Env) S2 = .nx ([x0, .ref c, x2, .int sd, .int ms, .ref d, .int n, x7, x8, x9, x10, x11] : Env) S2 := by
      simp [fk, d2, ff, sk]
    exact ⟨_, _, .inl z0, hQ _ _ ⟨_, rfl, rfl⟩⟩
  · rintro _ s' ⟨x6, rfl, es⟩
    rw [es]
    exact h _ _ _ _ hc2 l2
end K94

namespace K94
open Y YN
open PySem (Str PyData)
variable {x0 x1 x2 x3 x4 x5 x6 x7 x8 x9 x10 x11 : D} {s : S} {K : Sm} {a b : Int} {c : Nat}
/-! the whole -/
theorem cup_r {k1 k2 k3 k4 k5 : Int} (g1 : 0 < k1 ∧ k1 < 1000000000) (g2 : k2.natAbs < 1000000000) (g4 : 0 < k4 ∧ k4 < 100000000000) (g5 : 0 ≤ k5 ∧ k5 < 100000000000) (ns : List Int) (hl : ns.length ≤ 63) :
    ∃ a b, Cup a b ∧ callK (YN.D__law_cup k1 k2 k3 k4 k5) [.ref 0] [.lst (ns.map D.int)] = .ok (.ref 1) [.lst (ns.map D.int), .lst [.int a, .int b]] := by
  have hx : ∃ i, ((ns.map D.int) ++ [D.int 0])[0]? = some (.int i) := by
    cases ns with
    | nil => exact ⟨0, rfl⟩
    | cons n r => exact ⟨n, rfl⟩
  obtain ⟨i, hi⟩ := hx
  have ha : atD ((ns.map D.int) ++ [D.int 0]) 0 = some (.int i) := atD_nat (k := 0) hi
  have hc : (0 : Int) ≤ if i < 0 then -i else i := by split <;> omega
  generalize hcell : (if i < 0 then -i else i) = cell at hc
  have hp : D.pureL (ns.map D.int) = true := ints_pure ns
  refine ⟨if (1000000000000000000 : Int) ≤ cell then cell / k1 else 0, (cell * k2 + k3) % k4 + k5, ⟨?_, ?_, ?_⟩, ?_⟩
  · split
    · exact Int.ediv_nonneg hc (by omega)
    · omega
  · have := Int.emod_nonneg (cell * k2 + k3) (show k4 ≠ 0 by omega); omega
  · have := Int.emod_lt_of_pos (cell * k2 + k3) g4.1; omega
  · have run : YN.D__law_cup k1 k2 k3 k4 k5 [.ref 0] [.lst (ns.map D.int)] = .ok (.ref 4) [.lst (ns.map D.int), .lst (ns.map D.int), .lst [.int 0], .lst (ns.map D.int ++ [.int 0]), .lst [.int (if (1000000000000000000 : Int) ≤ cell then cell / k1 else 0), .int ((cell * k2 + k3) % k4 + k5)]] := by
      unfold YN.D__law_cup
      rw [ap_mkFn (n := 2) (k := 1) (ds := [.ref 0]) rfl]
      unfold YN.b__law_cup
      have hadd : oAdd (.ref 1) (.ref 2) [.lst (ns.map D.int), .lst (ns.map D.int), .lst [.int 0]] = .ok (.ref 3) [.lst (ns.map D.int), .lst (ns.map D.int), .lst [.int 0], .lst (ns.map D.int ++ [.int 0])] := by
        unfold oAdd
        simp
        unfold LINE; omega
      have hpow : oPow (.int 10) (.int 18) = fun s => .ok (.int 1000000000000000000) s := rfl
      by_cases hge : (1000000000000000000 : Int) ≤ cell
      · simp [hadd, ha, hcell, hpow, hge, v_mul64r (j := k2) (by omega), v_modP g4.1, v_div64 g1.1 (show k1 < 18446744073709551616 by omega)]
      · simp [hadd, ha, hcell, hpow, hge, v_mul64r (j := k2) (by omega), v_modP g4.1, v_div64 g1.1 (show k1 < 18446744073709551616 by omega)]
    generalize (if (1000000000000000000 : Int) ≤ cell then cell / k1 else 0) = A at run ⊢
    generalize (cell * k2 + k3) % k4 + k5 = B at run ⊢
    generalize ns.map D.int = L at hp run ⊢
    unfold callK
    simp [refsOf, renum, nodupN, argOk, getAll, run, putAll, O.pure, hp, D.pureL, D.pure]
def P1 (x0 : D) (c : Nat) (r : Env) (s : S) : Prop := ∃ (x0 x1 x2 x3 x4 x5 x6 x7 x8 x9 x10 x11 : D) (a b : Int), r = [x0, .ref c, x2, x3, x4, x5, x6, x7, x8, x9, x10, x11] ∧ Cup a b ∧ s[c]? = some (.lst [.int a, .int b])
theorem st_rest (hc : Cup a b) (hs : s[c]? = some (.lst [.int a, .int b])) : Ends (zCons (zFor (iRng1 (eC (.int 2))) (gV 2) (zCons (zPar 3 4 (e2 oAdd (eC (.int 3)) (eCallK 2 D__law_roll (aC (eV 1) (aC (eCallK 2 D__law_some (aC (eV 1) (aC (eLst (aC (eC (.int 5)) (aC (eC (.int 98)) aN))) aN))) aN)))) (e2 oAdd (eC (.int 30)) (eCallK 2 D__law_roll (aC (eV 1) (aC (eC (.int 170)) aN))))) (zCons (zSet (gV 5) (eCallK 2 D__law_levels (aC (eV 3) (aC (eV 4) aN)))) (zCons (zIf (tst (e2 oGt (eN bMaxL (aC (e1 oListVals (eV 5)) aN)) (eV 3))) (zRet (eC (.bl false))) zNil) (zFor (iTup (eTup (aC (eC (.int 1)) (aC (eV 4) (aC (e2 oAdd (eC (.int 1)) (eCallK 2 D__law_roll (aC (eV 1) (aC (eV 4) aN)))) (aC (e2 oAdd (eC (.int 1)) (eCallK 2 D__law_roll (aC (eV 1) (aC (eV 4) aN)))) (aC (eN bMin2 (aC (eV 4) (aC (e2 oSub (e2 oMul (eC (.int 2)) (eV 3)) (eC (.int 1))) aN))) aN))))))) (gV 6) (zIf (tNot (tst (eCallK 2 (D__law_same 10) (aC (eCallK 2 D_fewest_figures (aC (eV 3) (aC (eV 6) aN))) (aC (e2 oDIx (eV 5) (eV 6)) aN))))) (zRet (eC (.bl false))) zNil)))))) (zCons (zSet (gV 7) (e2 oAdd (eLc (iTup (eTup (aC (eC (.int 7)) (aC (eC (.int 1999)) (aC (eC (.int 2000)) (aC (eC (.int 1936)) aN)))))) (gV 6) tYes (eCallK 2 D_fewest_figures (aC (eC (.int 4)) (aC (eV 6) aN))) [6]) (eLst (aC (eCallK 2 D_fewest_figures (aC (eC (.int 3)) (aC (eC (.int 2000)) aN))) (aC (eCallK 2 D_fewest_figures (aC (eC (.int 100)) (aC (eC (.int 199)) aN))) aN))))) (zCons (zIf (tNot (tst (eCallK 2 (D__law_same 10) (aC (eV 7) (aC (eLst (aC (eC (.int 4)) (aC (eC (.int 4)) (aC (eC (.int 2)) (aC (eC (.int 1)) (aC (eC (.int 3)) (aC (eC (.int 100)) aN))))))) aN))))) (zRet (eC (.bl false))) zNil) (zCons (zSet (gT (gsC (gV 8) (gsC (gV 9) gsN))) (eTup (aC (eCall 2 D__law_some (aC (eV 1) (aC (eLst (aC (eC .non) (aC (eC (.str (Str.ofString "odd"))) (aC (eLst aN) (aC (eC (.str (Str.ofString ""))) (aC (eTup (aC (eC .non) aN)) aN)))))) aN))) (aC (eLst aN) aN)))) (zCons (zFor (iTup (eTup (aC (eC .non) (aC (eC (.int 2)) (aC (eC (.int 101)) (aC (eC (.bl true)) (aC (eC (.str (Str.ofString "3"))) (aC (eTup (aC (eC (.int 3)) aN)) aN)))))))) (gV 10) (zSet (gV 9) (e2 oAdd (eV 9) (eLc (iTup (eTup (aC (eC (.fn 14)) (aC (eC (.fn 15)) (aC (eC (.fn 26)) (aC (eC (.fn 17)) (aC (eC (.fn 18)) (aC (eC (.fn 19)) aN)))))))) (gV 11) tYes (eLam (errH wfE) (eCallV 11 2 tb2 (aC (eV 10) (aC (eV 8) aN)))) [11])))) (zCons (zFor (iTup (eTup (aC (eC .non) (aC (e1 oNeg (eC (.int 1))) (aC (eC (.int 1000001)) (aC (eC (.bl true)) (aC (eC (.str (Str.ofString "3"))) (aC (eTup (aC (eC (.int 3)) aN)) aN)))))))) (gV 10) (zCons (zSet (gV 9) (e2 oAdd (eV 9) (eLc (iTup (eTup (aC (eC (.fn 14)) (aC (eC (.fn 26)) (aC (eC (.fn 17)) aN))))) (gV 11) tYes (eLam (errH wfE) (eCallV 11 2 tb2 (aC (eC (.int 3)) (aC (eV 10) aN)))) [11]))) (zEx (eMe isL mApp (eV 9) (aC (eLam (errH wfE) (eCallK 1 D_ways_to_part (aC (eIf (tst (e2 oEq (eV 10) (eC (.int 1000001)))) (eC (.int 601)) (eV 10)) aN))) aN))))) (zCons (zFor (iTup (eTup (aC (eC .non) (aC (eC (.int 0)) (aC (e2 oAdd (e2 oPow (eC (.int 10)) (eC (.int 12))) (eC (.int 1))) (aC (eC (.bl true)) (aC (eC (.str (Str.ofString "3"))) (aC (eTup (aC (eC (.int 3)) aN)) aN)))))))) (gV 10) (zCons (zSet (gV 9) (e2 oAdd (eV 9) (eLc (iTup (eTup (aC (eC (.fn 15)) (aC (eC (.fn 18)) aN)))) (gV 11) tYes (eLam (errH wfE) (eCallV 11 2 tb2 (aC (eC (.int 3)) (aC (eV 10) aN)))) [11]))) (zCons (zEx (eMe isL mApp (eV 9) (aC (eLam (errH wfE) (eCallK 1 D_kinds_of (aC (eV 10) aN))) aN))) (zEx (eMe isL mApp (eV 9) (aC (eLam (errH wfE) (eCallK 2 D_is_row_of (aC (eV 10) (aC (eV 8) aN)))) aN)))))) (zCons (zFor (iTup (eTup (aC (eC .non) (aC (eC (.int 0)) (aC (eC (.int 1000001)) (aC (eC (.bl true)) (aC (eC (.str (Str.ofString "3"))) (aC (eTup (aC (eC (.int 3)) aN)) aN)))))))) (gV 10) (zCons (zSet (gV 9) (e2 oAdd (eV 9) (eLc (iTup (eTup (aC (eC (.fn 20)) (aC (eC (.fn 21)) (aC (eC (.fn 23)) aN))))) (gV 11) tYes (eLam (errH wfE) (eCallV 11 1 tb1 (aC (eV 10) aN))) [11]))) (zCons (zEx (eMe isL mApp (eV 9) (aC (eLam (errH wfE) (eCallK 1 D_divisor_sum (aC (eIf (tst (e2 oEq (eV 10) (eC (.int 1000001)))) (eC (.int 601)) (eV 10)) aN))) aN))) (zEx (eMe isL mApp (eV 9) (aC (eLam (errH wfE) (eCallK 2 D_fewest_figures (aC (eC (.int 3)) (aC (eIf (tst (e2 oEq (eV 10) (eC (.int 1000001)))) (eC (.int 2001)) (eV 10)) aN)))) aN)))))) (zCons (zEx (eMe isL mApp (eV 9) (aC (eLam (errH wfE) (eCallK 2 D_central (aC (eC (.int 3)) (aC (eC (.int 0)) aN)))) aN))) (zCons (zIf (tst (e2 oNe (eV 9) (e2 oMul (eLst (aC (eC (.str (Str.ofString "number"))) aN)) (e2 oAdd (e2 oAdd (e2 oAdd (e2 oAdd (eC (.int 36)) (eC (.int 24))) (eC (.int 24))) (eC (.int 30))) (eC (.int 1)))))) (zRet (eC (.bl false))) zNil) (zCons (zSet (gV 9) (eLc (iTup (eTup (aC (eC (.fn 14)) (aC (eC (.fn 26)) (aC (eC (.fn 17)) aN))))) (gV 11) tYes (eLam (errH wfE) (eCallV 11 2 tb2 (aC (eC (.int 100)) (aC (eC (.int 1000000)) aN)))) [11])) (zCons (zSet (gV 9) (e2 oAdd (eV 9) (eLc (iTup (eTup (aC (eC (.fn 15)) (aC (eC (.fn 18)) aN)))) (gV 11) tYes (eLam (errH wfE) (eCallV 11 2 tb2 (aC (eC (.int 100)) (aC (e2 oPow (eC (.int 10)) (eC (.int 12))) aN)))) [11]))) (zCons (zSet (gV 9) (e2 oAdd (eV 9) (eLc (iTup (eTup (aC (eC (.fn 20)) (aC (eC (.fn 21)) (aC (eC (.fn 23)) aN))))) (gV 11) tYes (eLam (errH wfE) (eCallV 11 1 tb1 (aC (eC (.int 1000000)) aN))) [11]))) (zRet (e2 oEq (e2 oAdd (eV 9) (eLc (iTup (eTup (aC (eC (.fn 24)) (aC (eC (.fn 25)) aN)))) (gV 11) tYes (eLam (errH wfE) (eCallV 11 1 tb1 (aC (eC (.int 600)) aN))) [11])) (e2 oMul (eLst (aC (eC (.str (Str.ofString ""))) aN)) (eC (.int 10)))))))))))))))))) [x0, .ref c, x2, x3, x4, x5, x6, x7, x8, x9, x10, x11] s := by
  unfold Ends
  rw [ap_zCons, ap_zFor (it := iRng1 (eC (.int 2))) (xs := range2 0 2) (s1 := s) rfl]
  refine for_out (fun _ r s => ∃ (x2 x3 x4 x5 x6 : D) (a b : Int), r = [x0, .ref c, x2, x3, x4, x5, x6, x7, x8, x9, x10, x11] ∧ Cup a b ∧ s[c]? = some (.lst [.int a, .int b])) ⟨x2, x3, x4, x5, x6, a, b, rfl, hc, hs⟩ ?_ ?_
  · rintro j x _ s hx ⟨x2, x3, x4, x5, x6, a, b, rfl, hc, hs⟩
    refine ⟨_, _, rfl, fun Q hQ => ?_⟩
    refine r_0 hc hs fun sd ms a b s s1 s2 m1 m2 hc hs => ?_
    refine r_1 s1 s2 m1 m2 hs fun d Ks s k2 hd hs hdc => ?_
    refine r_2 s1 s2 m1 m2 k2 hd hs fun s hd hs => ?_
    refine r_3 s1 s2 m1 m2 k2 hd hdc hc hs fun a b x6 s hc hs => ?_
    exact hQ _ _ ⟨_, _, _, _, _, a, b, rfl, hc, hs⟩
  · rintro _ s ⟨x2, x3, x4, x5, x6, a, b, rfl, hc, hs⟩
    show Ends _ _ _
    refine st_2 hs fun x7 s hs => ?_
    refine st_4 hc hs fun odd w s hw ho => ?_
    refine st_5 hw ho (by decide) fun w x10 s hw ho => ?_
    refine st_6 hw ho (by decide) fun w x10 s hw ho => ?_
    refine st_7 hw ho (by decide) fun w x10 s hw ho => ?_
    refine st_8 hw ho (by decide) fun w x10 s hw ho => ?_
    refine st_9 hw ho (by decide) fun s hw => ?_
    exact st_tail hw
theorem law_true : ∀ ns : List Int, ns.length ≤ 63 → (∃ s', D_law [.frl (ns.map Y.D.int)] [] = .ok (.bl true) s') ∧ ∃ s', D_law [.ref 0] [.lst (ns.map Y.D.int)] = .ok (.bl true) s' := by
  intro ns hl
  obtain ⟨a, b, hc, hcup⟩ := cup_k (k1 := 1759) (k2 := 1867) (k3 := 10423) (k4 := 2077510823) (k5 := 1201) (by decide) (by decide) (by decide) (by decide) ns hl
  obtain ⟨a2, b2, hc2, hcup2⟩ := cup_r (k1 := 1759) (k2 := 1867) (k3 := 10423) (k4 := 2077510823) (k5 := 1201) (by decide) (by decide) (by decide) (by decide) ns hl
  generalize ns.map Y.D.int = ns' at *
  refine ⟨?_, ?_⟩
  · rw [r_law]
    unfold b_law
    refine ends_of (r1 := [.frl ns', .ref 0, .undef, .undef, .undef, .undef, .undef, .undef, .undef, .undef, .undef, .undef]) (s1 := [.lst [.int a, .int b]]) ?_ (st_rest hc rfl)
    simp [hcup]
  · rw [r_law]
    unfold b_law
    refine ends_of (r1 := [.ref 0, .ref 1, .undef, .undef, .undef, .undef, .undef, .undef, .undef, .undef, .undef, .undef]) (s1 := [.lst ns', .lst [.int a2, .int b2]]) ?_ (st_rest hc2 rfl)
    simp [hcup2]
end K94

namespace K94
open PySem L2 Y
abbrev topS (i : Nat) : Stmt := PySem.Challenge.pw_wholeyard_k94_whole_fewest_figures_and_e.main.body.getD i (.Pass ⟨0, 0, 0, 0⟩)
abbrev s_fits_whole : Stmt := topS 4
theorem sc_fits_whole : FnScope ["value", "low", "high"] ["value", "low", "high"] (defScope s_fits_whole) := ⟨rfl, rfl, rfl, by decide +kernel, rfl, by decide +kernel, by decide +kernel⟩
abbrev s_is_tuple_of : Stmt := topS 5
theorem sc_is_tuple_of : FnScope ["value", "least", "most"] ["value", "least", "most"] (defScope s_is_tuple_of) := ⟨rfl, rfl, rfl, by decide +kernel, rfl, by decide +kernel, by decide +kernel⟩
abbrev s_need_whole : Stmt := topS 6
theorem sc_need_whole : FnScope ["value", "low", "high"] ["value", "low", "high"] (defScope s_need_whole) := ⟨rfl, rfl, rfl, by decide +kernel, rfl, by decide +kernel, by decide +kernel⟩
abbrev s_factors_in : Stmt := topS 7
theorem sc_factors_in : FnScope ["number", "found", "prime", "power"] ["number"] (defScope s_factors_in) := ⟨rfl, rfl, rfl, by decide +kernel, rfl, by decide +kernel, by decide +kernel⟩
abbrev s_root_in : Stmt := topS 8
theorem sc_root_in : FnScope ["number", "low", "high", "middle"] ["number"] (defScope s_root_in) := ⟨rfl, rfl, rfl, by decide +kernel, rfl, by decide +kernel, by decide +kernel⟩
abbrev s_figure_in : Stmt := topS 15
theorem sc_figure_in : FnScope ["sides", "place"] ["sides", "place"] (defScope s_figure_in) := ⟨rfl, rfl, rfl, by decide +kernel, rfl, by decide +kernel, by decide +kernel⟩
abbrev s_place_in : Stmt := topS 16
theorem sc_place_in : FnScope ["sides", "number", "inside", "root", "above", "place"] ["sides", "number"] (defScope s_place_in) := ⟨rfl, rfl, rfl, by decide +kernel, rfl, by decide +kernel, by decide +kernel⟩
abbrev s_central_in : Stmt := topS 17
theorem sc_central_in : FnScope ["sides", "place"] ["sides", "place"] (defScope s_central_in) := ⟨rfl, rfl, rfl, by decide +kernel, rfl, by decide +kernel, by decide +kernel⟩
abbrev s_pentagons_to : Stmt := topS 18
theorem sc_pentagons_to : FnScope ["number", "found", "place", "sign"] ["number"] (defScope s_pentagons_to) := ⟨rfl, rfl, rfl, by decide +kernel, rfl, by decide +kernel, by decide +kernel⟩
abbrev s_parted_to : Stmt := topS 19
theorem sc_parted_to : FnScope ["number", "found", "total", "one", "sign"] ["number"] (defScope s_parted_to) := ⟨rfl, rfl, rfl, by decide +kernel, rfl, by decide +kernel, by decide +kernel⟩
abbrev s_divided_to : Stmt := topS 20
theorem sc_divided_to : FnScope ["number", "found", "total", "some", "pair", "one", "sign"] ["number"] (defScope s_divided_to) := ⟨rfl, rfl, rfl, by decide +kernel, rfl, by decide +kernel, by decide +kernel⟩
abbrev s_row_sum : Stmt := topS 21
theorem sc_row_sum : FnScope ["first", "last"] ["first", "last"] (defScope s_row_sum) := ⟨rfl, rfl, rfl, by decide +kernel, rfl, by decide +kernel, by decide +kernel⟩
abbrev s_rows_in : Stmt := topS 22
theorem sc_rows_in : FnScope ["number", "found", "many", "rest"] ["number"] (defScope s_rows_in) := ⟨rfl, rfl, rfl, by decide +kernel, rfl, by decide +kernel, by decide +kernel⟩
abbrev s_need_sides : Stmt := topS 23
theorem sc_need_sides : FnScope ["sides"] ["sides"] (defScope s_need_sides) := ⟨rfl, rfl, rfl, by decide +kernel, rfl, by decide +kernel, by decide +kernel⟩
abbrev s_figure : Stmt := topS 24
theorem sc_figure : FnScope ["sides", "place"] ["sides", "place"] (defScope s_figure) := ⟨rfl, rfl, rfl, by decide +kernel, rfl, by decide +kernel, by decide +kernel⟩
abbrev s_place_of : Stmt := topS 25
theorem sc_place_of : FnScope ["sides", "number"] ["sides", "number"] (defScope s_place_of) := ⟨rfl, rfl, rfl, by decide +kernel, rfl, by decide +kernel, by decide +kernel⟩
abbrev s_kinds_of : Stmt := topS 26
theorem sc_kinds_of : FnScope ["number", "found", "sides", "place"] ["number"] (defScope s_kinds_of) := ⟨rfl, rfl, rfl, by decide +kernel, rfl, by decide +kernel, by decide +kernel⟩
abbrev s_central : Stmt := topS 27
theorem sc_central : FnScope ["sides", "place"] ["sides", "place"] (defScope s_central) := ⟨rfl, rfl, rfl, by decide +kernel, rfl, by decide +kernel, by decide +kernel⟩
abbrev s_central_place : Stmt := topS 28
theorem sc_central_place : FnScope ["sides", "number", "inside", "root", "place"] ["sides", "number"] (defScope s_central_place) := ⟨rfl, rfl, rfl, by decide +kernel, rfl, by decide +kernel, by decide +kernel⟩
abbrev s_fewest_figures : Stmt := topS 29
theorem sc_fewest_figures : FnScope ["sides", "number", "figures", "found", "total", "one"] ["sides", "number"] (defScope s_fewest_figures) := ⟨rfl, rfl, rfl, by decide +kernel, rfl, by decide +kernel, by decide +kernel⟩
abbrev s_rows_with : Stmt := topS 30
theorem sc_rows_with : FnScope ["number"] ["number"] (defScope s_rows_with) := ⟨rfl, rfl, rfl, by decide +kernel, rfl, by decide +kernel, by decide +kernel⟩
abbrev s_count_rows : Stmt := topS 31
theorem sc_count_rows : FnScope ["number", "found", "prime", "power"] ["number"] (defScope s_count_rows) := ⟨rfl, rfl, rfl, by decide +kernel, rfl, by decide +kernel, by decide +kernel⟩
abbrev s_is_row_of : Stmt := topS 32
theorem sc_is_row_of : FnScope ["number", "value", "one"] ["number", "value"] (defScope s_is_row_of) := ⟨rfl, rfl, rfl, by decide +kernel, rfl, by decide +kernel, by decide +kernel⟩
abbrev s_pentagon_signs : Stmt := topS 33
theorem sc_pentagon_signs : FnScope ["number", "pair"] ["number"] (defScope s_pentagon_signs) := ⟨rfl, rfl, rfl, by decide +kernel, rfl, by decide +kernel, by decide +kernel⟩
abbrev s_ways_to_part : Stmt := topS 34
theorem sc_ways_to_part : FnScope ["number"] ["number"] (defScope s_ways_to_part) := ⟨rfl, rfl, rfl, by decide +kernel, rfl, by decide +kernel, by decide +kernel⟩
abbrev s_divisor_sum : Stmt := topS 35
theorem sc_divisor_sum : FnScope ["number"] ["number"] (defScope s_divisor_sum) := ⟨rfl, rfl, rfl, by decide +kernel, rfl, by decide +kernel, by decide +kernel⟩
abbrev s_pyramid : Stmt := topS 36
theorem sc_pyramid : FnScope ["sides", "place"] ["sides", "place"] (defScope s_pyramid) := ⟨rfl, rfl, rfl, by decide +kernel, rfl, by decide +kernel, by decide +kernel⟩
abbrev s__law_cup : Stmt := topS 38
theorem sc__law_cup : FnScope ["script", "cell"] ["script"] (defScope s__law_cup) := ⟨rfl, rfl, rfl, by decide +kernel, rfl, by decide +kernel, by decide +kernel⟩
abbrev s__law_roll : Stmt := topS 39
theorem sc__law_roll : FnScope ["cup", "many", "found", "deep"] ["cup", "many"] (defScope s__law_roll) := ⟨rfl, rfl, rfl, by decide +kernel, rfl, by decide +kernel, by decide +kernel⟩
abbrev s__law_some : Stmt := topS 40
theorem sc__law_some : FnScope ["cup", "things"] ["cup", "things"] (defScope s__law_some) := ⟨rfl, rfl, rfl, by decide +kernel, rfl, by decide +kernel, by decide +kernel⟩
abbrev s__law_same : Stmt := topS 41
theorem sc__law_same : FnScope ["told", "due", "at"] ["told", "due"] (defScope s__law_same) := ⟨rfl, rfl, rfl, by decide +kernel, rfl, by decide +kernel, by decide +kernel⟩
abbrev s__law_figure : Stmt := topS 42
theorem sc__law_figure : FnScope ["sides", "place", "total", "layer", "turn"] ["sides", "place"] (defScope s__law_figure) := ⟨rfl, rfl, rfl, by decide +kernel, rfl, by decide +kernel, by decide +kernel⟩
abbrev s__law_error : Stmt := topS 43
theorem sc__law_error : FnScope ["call", "error"] ["call"] (defScope s__law_error) := ⟨rfl, rfl, rfl, by decide +kernel, rfl, by decide +kernel, by decide +kernel⟩
abbrev s__law_levels : Stmt := topS 44
theorem sc__law_levels : FnScope ["sides", "most", "figures", "place", "found", "last", "many", "later", "here", "one"] ["sides", "most"] (defScope s__law_levels) := ⟨rfl, rfl, rfl, by decide +kernel, rfl, by decide +kernel, by decide +kernel⟩
abbrev s_law : Stmt := topS 45
theorem sc_law : FnScope ["script", "cup", "turn", "sides", "most", "fewest", "number", "told", "odd", "words", "bad", "call"] ["script"] (defScope s_law) := ⟨rfl, rfl, rfl, by decide +kernel, rfl, by decide +kernel, by decide +kernel⟩
structure Txt (K : PySem.W.Frag) (mg : Str → Option Value) (fa : Nat → Option Addr) (xc : Nat → Option (Addr × List Str)) where
  f_fits_whole : Addr
  d_fits_whole : FuncData
  F_fits_whole : Fun K "fits_whole" "fits_whole" s_fits_whole f_fits_whole d_fits_whole
  g_fits_whole : mg "fits_whole" = some (.ref f_fits_whole)
  b_fits_whole : Binds K d_fits_whole ["value", "low", "high"] []
  f_is_tuple_of : Addr
  d_is_tuple_of : FuncData
  F_is_tuple_of : Fun K "is_tuple_of" "is_tuple_of" s_is_tuple_of f_is_tuple_of d_is_tuple_of
  g_is_tuple_of : mg "is_tuple_of" = some (.ref f_is_tuple_of)
  b_is_tuple_of : Binds K d_is_tuple_of ["value", "least", "most"] []
  f_need_whole : Addr
  d_need_whole : FuncData
  F_need_whole : Fun K "need_whole" "need_whole" s_need_whole f_need_whole d_need_whole
  g_need_whole : mg "need_whole" = some (.ref f_need_whole)
  b_need_whole : Binds K d_need_whole ["value", "low", "high"] []
  f_factors_in : Addr
  d_factors_in : FuncData
  F_factors_in : Fun K "factors_in" "factors_in" s_factors_in f_factors_in d_factors_in
  g_factors_in : mg "factors_in" = some (.ref f_factors_in)
  b_factors_in : Binds K d_factors_in ["number"] []
  f_root_in : Addr
  d_root_in : FuncData
  F_root_in : Fun K "root_in" "root_in" s_root_in f_root_in d_root_in
  g_root_in : mg "root_in" = some (.ref f_root_in)
  b_root_in : Binds K d_root_in ["number"] []
  f_figure_in : Addr
  d_figure_in : FuncData
  F_figure_in : Fun K "figure_in" "figure_in" s_figure_in f_figure_in d_figure_in
  g_figure_in : mg "figure_in" = some (.ref f_figure_in)
  b_figure_in : Binds K d_figure_in ["sides", "place"] []
  f_place_in : Addr
  d_place_in : FuncData
  F_place_in : Fun K "place_in" "place_in" s_place_in f_place_in d_place_in
  g_place_in : mg "place_in" = some (.ref f_place_in)
  b_place_in : Binds K d_place_in ["sides", "number"] []
  f_central_in : Addr
  d_central_in : FuncData
  F_central_in : Fun K "central_in" "central_in" s_central_in f_central_in d_central_in
  g_central_in : mg "central_in" = some (.ref f_central_in)
  b_central_in : Binds K d_central_in ["sides", "place"] []
  f_pentagons_to : Addr
  d_pentagons_to : FuncData
  F_pentagons_to : Fun K "pentagons_to" "pentagons_to" s_pentagons_to f_pentagons_to d_pentagons_to
  g_pentagons_to : mg "pentagons_to" = some (.ref f_pentagons_to)
  b_pentagons_to : Binds K d_pentagons_to ["number"] []
  f_parted_to : Addr
  d_parted_to : FuncData
  F_parted_to : Fun K "parted_to" "parted_to" s_parted_to f_parted_to d_parted_to
  g_parted_to : mg "parted_to" = some (.ref f_parted_to)
  b_parted_to : Binds K d_parted_to ["number"] []
  f_divided_to : Addr
  d_divided_to : FuncData
  F_divided_to : Fun K "divided_to" "divided_to" s_divided_to f_divided_to d_divided_to
  g_divided_to : mg "divided_to" = some (.ref f_divided_to)
  b_divided_to : Binds K d_divided_to ["number"] []
  f_row_sum : Addr
  d_row_sum : FuncData
  F_row_sum : Fun K "row_sum" "row_sum" s_row_sum f_row_sum d_row_sum
  g_row_sum : mg "row_sum" = some (.ref f_row_sum)
  b_row_sum : Binds K d_row_sum ["first", "last"] []
  f_rows_in : Addr
  d_rows_in : FuncData
  F_rows_in : Fun K "rows_in" "rows_in" s_rows_in f_rows_in d_rows_in
  g_rows_in : mg "rows_in" = some (.ref f_rows_in)
  b_rows_in : Binds K d_rows_in ["number"] []
  f_need_sides : Addr
  d_need_sides : FuncData
  F_need_sides : Fun K "need_sides" "need_sides" s_need_sides f_need_sides d_need_sides
  g_need_sides : mg "need_sides" = some (.ref f_need_sides)
  b_need_sides : Binds K d_need_sides ["sides"] []
  f_figure : Addr
  d_figure : FuncData
  F_figure : Fun K "figure" "figure" s_figure f_figure d_figure
  g_figure : mg "figure" = some (.ref f_figure)
  b_figure : Binds K d_figure ["sides", "place"] []
  n_figure : fa 14 = some f_figure
  f_place_of : Addr
  d_place_of : FuncData
  F_place_of : Fun K "place_of" "place_of" s_place_of f_place_of d_place_of
  g_place_of : mg "place_of" = some (.ref f_place_of)
  b_place_of : Binds K d_place_of ["sides", "number"] []
  n_place_of : fa 15 = some f_place_of
  f_kinds_of : Addr
  d_kinds_of : FuncData
  F_kinds_of : Fun K "kinds_of" "kinds_of" s_kinds_of f_kinds_of d_kinds_of
  g_kinds_of : mg "kinds_of" = some (.ref f_kinds_of)
  b_kinds_of : Binds K d_kinds_of ["number"] []
  f_central : Addr
  d_central : FuncData
  F_central : Fun K "central" "central" s_central f_central d_central
  g_central : mg "central" = some (.ref f_central)
  b_central : Binds K d_central ["sides", "place"] []
  n_central : fa 17 = some f_central
  f_central_place : Addr
  d_central_place : FuncData
  F_central_place : Fun K "central_place" "central_place" s_central_place f_central_place d_central_place
  g_central_place : mg "central_place" = some (.ref f_central_place)
  b_central_place : Binds K d_central_place ["sides", "number"] []
  n_central_place : fa 18 = some f_central_place
  f_fewest_figures : Addr
  d_fewest_figures : FuncData
  F_fewest_figures : Fun K "fewest_figures" "fewest_figures" s_fewest_figures f_fewest_figures d_fewest_figures
  g_fewest_figures : mg "fewest_figures" = some (.ref f_fewest_figures)
  b_fewest_figures : Binds K d_fewest_figures ["sides", "number"] []
  n_fewest_figures : fa 19 = some f_fewest_figures
  f_rows_with : Addr
  d_rows_with : FuncData
  F_rows_with : Fun K "rows_with" "rows_with" s_rows_with f_rows_with d_rows_with
  g_rows_with : mg "rows_with" = some (.ref f_rows_with)
  b_rows_with : Binds K d_rows_with ["number"] []
  n_rows_with : fa 20 = some f_rows_with
  f_count_rows : Addr
  d_count_rows : FuncData
  F_count_rows : Fun K "count_rows" "count_rows" s_count_rows f_count_rows d_count_rows
  g_count_rows : mg "count_rows" = some (.ref f_count_rows)
  b_count_rows : Binds K d_count_rows ["number"] []
  n_count_rows : fa 21 = some f_count_rows
  f_is_row_of : Addr
  d_is_row_of : FuncData
  F_is_row_of : Fun K "is_row_of" "is_row_of" s_is_row_of f_is_row_of d_is_row_of
  g_is_row_of : mg "is_row_of" = some (.ref f_is_row_of)
  b_is_row_of : Binds K d_is_row_of ["number", "value"] []
  f_pentagon_signs : Addr
  d_pentagon_signs : FuncData
  F_pentagon_signs : Fun K "pentagon_signs" "pentagon_signs" s_pentagon_signs f_pentagon_signs d_pentagon_signs
  g_pentagon_signs : mg "pentagon_signs" = some (.ref f_pentagon_signs)
  b_pentagon_signs : Binds K d_pentagon_signs ["number"] []
  n_pentagon_signs : fa 23 = some f_pentagon_signs
  f_ways_to_part : Addr
  d_ways_to_part : FuncData
  F_ways_to_part : Fun K "ways_to_part" "ways_to_part" s_ways_to_part f_ways_to_part d_ways_to_part
  g_ways_to_part : mg "ways_to_part" = some (.ref f_ways_to_part)
  b_ways_to_part : Binds K d_ways_to_part ["number"] []
  n_ways_to_part : fa 24 = some f_ways_to_part
  f_divisor_sum : Addr
  d_divisor_sum : FuncData
  F_divisor_sum : Fun K "divisor_sum" "divisor_sum" s_divisor_sum f_divisor_sum d_divisor_sum
  g_divisor_sum : mg "divisor_sum" = some (.ref f_divisor_sum)
  b_divisor_sum : Binds K d_divisor_sum ["number"] []
  n_divisor_sum : fa 25 = some f_divisor_sum
  f_pyramid : Addr
  d_pyramid : FuncData
  F_pyramid : Fun K "pyramid" "pyramid" s_pyramid f_pyramid d_pyramid
  g_pyramid : mg "pyramid" = some (.ref f_pyramid)
  b_pyramid : Binds K d_pyramid ["sides", "place"] []
  n_pyramid : fa 26 = some f_pyramid
  f__law_cup : Addr
  d__law_cup : FuncData
  F__law_cup : Fun K "_law_cup" "_law_cup" s__law_cup f__law_cup d__law_cup
  g__law_cup : mg "_law_cup" = some (.ref f__law_cup)
  b__law_cup : Binds K d__law_cup ["script"] []
  f__law_roll : Addr
  d__law_roll : FuncData
  F__law_roll : Fun K "_law_roll" "_law_roll" s__law_roll f__law_roll d__law_roll
  g__law_roll : mg "_law_roll" = some (.ref f__law_roll)
  b__law_roll : Binds K d__law_roll ["cup", "many"] []
  f__law_some : Addr
  d__law_some : FuncData
  F__law_some : Fun K "_law_some" "_law_some" s__law_some f__law_some d__law_some
  g__law_some : mg "_law_some" = some (.ref f__law_some)
  b__law_some : Binds K d__law_some ["cup", "things"] []
  f__law_same : Addr
  d__law_same : FuncData
  F__law_same : Fun K "_law_same" "_law_same" s__law_same f__law_same d__law_same
  g__law_same : mg "_law_same" = some (.ref f__law_same)
  b__law_same : Binds K d__law_same ["told", "due"] []
  f__law_figure : Addr
  d__law_figure : FuncData
  F__law_figure : Fun K "_law_figure" "_law_figure" s__law_figure f__law_figure d__law_figure
  g__law_figure : mg "_law_figure" = some (.ref f__law_figure)
  b__law_figure : Binds K d__law_figure ["sides", "place"] []
  f__law_error : Addr
  d__law_error : FuncData
  F__law_error : Fun K "_law_error" "_law_error" s__law_error f__law_error d__law_error
  g__law_error : mg "_law_error" = some (.ref f__law_error)
  b__law_error : Binds K d__law_error ["call"] []
  f__law_levels : Addr
  d__law_levels : FuncData
  F__law_levels : Fun K "_law_levels" "_law_levels" s__law_levels f__law_levels d__law_levels
  g__law_levels : mg "_law_levels" = some (.ref f__law_levels)
  b__law_levels : Binds K d__law_levels ["sides", "most"] []
  f_law : Addr
  d_law : FuncData
  F_law : Fun K "law" "law" s_law f_law d_law
  g_law : mg "law" = some (.ref f_law)
  b_law : Binds K d_law ["script"] []
  cc : Addr
  PP : Addr
  L_law : FunL K "law" "law" s_law f_law d_law cc
  c_FAR : ∃ k, mg "FAR" = some (.int 1000000000000 k)
  c_NUMBER : ∃ k, mg "NUMBER" = some (.int 1000000 k)
  c_PARTED : ∃ k, mg "PARTED" = some (.int 600 k)
  c_POINTS : ∃ k, mg "POINTS" = some (.int 1000000 k)
  c_SIDES : ∃ k, mg "SIDES" = some (.int 100 k)
  z_abs : mg "abs" = none
  z_all : mg "all" = none
  z_bool : mg "bool" = none
  z_int : mg "int" = none
  z_isinstance : mg "isinstance" = none
  z_len : mg "len" = none
  z_list : mg "list" = none
  z_max : mg "max" = none
  z_min : mg "min" = none
  z_range : mg "range" = none
  z_sorted : mg "sorted" = none
  z_str : mg "str" = none
  z_sum : mg "sum" = none
  z_tuple : mg "tuple" = none
  x_InvalidNumber : XTxt K mg xc "InvalidNumber" 1
  ne : Addr
  gne : mg "NumberError" = some (.ref ne)
  mne : PySem.W.exmOne K (.ref x_InvalidNumber.C) (.ref ne) = some true
  ec : ExcC K x_InvalidNumber.C
section
variable {P : Program} {w : World} {K : PySem.W.Frag} {mg : Str → Option Value} {base : Heap} {fa : Nat → Option Addr} {xc : Nat → Option (Addr × List Str)} {tT : List (Addr × Str)}
theorem ok_fits_whole (T : Txt K mg fa xc) : FnOk P w K mg base (L2.CX P w) 1 T.f_fits_whole T.d_fits_whole ["value", "low", "high"] (spF ⟨K, fa, xc, tT⟩ 3 D_fits_whole) :=
  fn_ok (P := P) (w := w) (mg := mg) (base := base) (t := ⟨K, fa, xc, tT⟩) T.F_fits_whole sc_fits_whole fun cdv A outer s H E hr => by
    have nd := sc_fits_whole.nd
    have hc : (cxOf (L2.CX P w) P w K mg base ["value", "low", "high"] "fits_whole" (defScope s_fits_whole) T.f_fits_whole cdv A outer s H E).calm = true := rfl
    have hu := hr.units
    have hu65 := Y.room65 hr
    have hdi := Nat.lt_of_le_of_lt (Nat.add_le_add_left (by decide : 1 ≤ 64) _) hr.units
    have tk : Takes (cxOf (L2.CX P w) P w K mg base ["value", "low", "high"] "fits_whole" (defScope s_fits_whole) T.f_fits_whole cdv A outer s H E) (fun cls d _ H => E cls d H) := takes_of rfl rfl rfl rfl
    have O : Okc (cxOf (L2.CX P w) P w K mg base ["value", "low", "high"] "fits_whole" (defScope s_fits_whole) T.f_fits_whole cdv A outer s H E) ⟨K, fa, xc, tT⟩ (fun _ => E) := okc_def rfl
    exact (z_one (z_ret (s_vand (s_isI .int rfl (by rfl) T.z_isinstance (by decide +kernel) (by rfl) T.z_int (by decide +kernel) (s_var 0)) (s_vand (s_vnot (s_isI .bool rfl (by rfl) T.z_isinstance (by decide +kernel) (by rfl) T.z_bool (by decide +kernel) (s_var 0))) (s_one (s_chain op_le op_le o_le o_le (s_var 1) (s_var 0) (s_var 2)))))))
theorem ok_is_tuple_of (T : Txt K mg fa xc) : FnOk P w K mg base (L2.CX P w) 1 T.f_is_tuple_of T.d_is_tuple_of ["value", "least", "most"] (spF ⟨K, fa, xc, tT⟩ 3 D_is_tuple_of) :=
  fn_ok (P := P) (w := w) (mg := mg) (base := base) (t := ⟨K, fa, xc, tT⟩) T.F_is_tuple_of sc_is_tuple_of fun cdv A outer s H E hr => by
    have nd := sc_is_tuple_of.nd
    have hc : (cxOf (L2.CX P w) P w K mg base ["value", "least", "most"] "is_tuple_of" (defScope s_is_tuple_of) T.f_is_tuple_of cdv A outer s H E).calm = true := rfl
    have hu := hr.units
    have hu65 := Y.room65 hr
    have hdi := Nat.lt_of_le_of_lt (Nat.add_le_add_left (by decide : 1 ≤ 64) _) hr.units
    have tk : Takes (cxOf (L2.CX P w) P w K mg base ["value", "least", "most"] "is_tuple_of" (defScope s_is_tuple_of) T.f_is_tuple_of cdv A outer s H E) (fun cls d _ H => E cls d H) := takes_of rfl rfl rfl rfl
    have O : Okc (cxOf (L2.CX P w) P w K mg base ["value", "least", "most"] "is_tuple_of" (defScope s_is_tuple_of) T.f_is_tuple_of cdv A outer s H E) ⟨K, fa, xc, tT⟩ (fun _ => E) := okc_def rfl
    exact (z_one (z_ret (s_vand (s_isI .tuple rfl (by rfl) T.z_isinstance (by decide +kernel) (by rfl) T.z_tuple (by decide +kernel) (s_var 0)) (s_one (s_chain op_le op_le o_le o_le (s_var 1) (s_bltB call_len3 n_len (by rfl) T.z_len (by decide +kernel) (s_cons (s_var 0) s_nil)) (s_var 2))))))
theorem ok_need_whole (T : Txt K mg fa xc) : FnOk P w K mg base (L2.CX P w) 2 T.f_need_whole T.d_need_whole ["value", "low", "high"] (spF ⟨K, fa, xc, tT⟩ 3 D_need_whole) :=
  fn_ok (P := P) (w := w) (mg := mg) (base := base) (t := ⟨K, fa, xc, tT⟩) T.F_need_whole sc_need_whole fun cdv A outer s H E hr => by
    have nd := sc_need_whole.nd
    have hc : (cxOf (L2.CX P w) P w K mg base ["value", "low", "high"] "need_whole" (defScope s_need_whole) T.f_need_whole cdv A outer s H E).calm = true := rfl
    have hu := hr.units
    have hu65 := Y.room65 hr
    have hdi := Nat.lt_of_le_of_lt (Nat.add_le_add_left (by decide : 1 ≤ 64) _) hr.units
    have tk : Takes (cxOf (L2.CX P w) P w K mg base ["value", "low", "high"] "need_whole" (defScope s_need_whole) T.f_need_whole cdv A outer s H E) (fun cls d _ H => E cls d H) := takes_of rfl rfl rfl rfl
    have O : Okc (cxOf (L2.CX P w) P w K mg base ["value", "low", "high"] "need_whole" (defScope s_need_whole) T.f_need_whole cdv A outer s H E) ⟨K, fa, xc, tT⟩ (fun _ => E) := okc_def rfl
    exact (z_one (z_if (s_tnot (s_tst (s_callK O (ok_fits_whole T) (hr.mono (by decide)) (by rfl) T.g_fits_whole T.F_fits_whole.kp T.b_fits_whole (s_cons (s_var 0) (s_cons (s_var 1) (s_cons (s_var 2) s_nil)))))) (z_one (z_raise hc tk PySem.F.excBase_ValueError T.x_InvalidNumber.ex T.x_InvalidNumber.g T.x_InvalidNumber.kp (T.x_InvalidNumber.r rfl) (by rfl) T.x_InvalidNumber.xc)) z_nil))
theorem ok_factors_in (T : Txt K mg fa xc) : FnOk P w K mg base (L2.CX P w) 1 T.f_factors_in T.d_factors_in ["number"] (spF ⟨K, fa, xc, tT⟩ 1 D_factors_in) :=
  fn_ok (P := P) (w := w) (mg := mg) (base := base) (t := ⟨K, fa, xc, tT⟩) T.F_factors_in sc_factors_in fun cdv A outer s H E hr => by
    have nd := sc_factors_in.nd
    have hc : (cxOf (L2.CX P w) P w K mg base ["number", "found", "prime", "power"] "factors_in" (defScope s_factors_in) T.f_factors_in cdv A outer s H E).calm = true := rfl
    have hu := hr.units
    have hu65 := Y.room65 hr
    have hdi := Nat.lt_of_le_of_lt (Nat.add_le_add_left (by decide : 1 ≤ 64) _) hr.units
    have tk : Takes (cxOf (L2.CX P w) P w K mg base ["number", "found", "prime", "power"] "factors_in" (defScope s_factors_in) T.f_factors_in cdv A outer s H E) (fun cls d _ H => E cls d H) := takes_of rfl rfl rfl rfl
    have O : Okc (cxOf (L2.CX P w) P w K mg base ["number", "found", "prime", "power"] "factors_in" (defScope s_factors_in) T.f_factors_in cdv A outer s H E) ⟨K, fa, xc, tT⟩ (fun _ => E) := okc_def rfl
    exact (z_cons (z_par (i := 1) (j := 2) hc nd rfl rfl (by decide) rfl rfl (s_lst s_nil) s_int (by rfl))
      (z_cons (z_while pass_def (s_tcmp op_le o_le (s_op op_mul2 o_mul (s_var 2) (s_var 2)) (s_var 0) (nomark _)) (z_cons (z_set (i := 3) nd rfl (.inl rfl) s_int)
      (z_cons (z_while pass_def (s_tcmp (op_eqD hu) o_eq (s_op op_mul2 o_mul (s_op op_divG o_div (s_var 0) (s_var 2)) (s_var 2)) (s_var 0) (nomark _)) (z_one (z_par (i := 0) (j := 3) hc nd rfl rfl (by decide) rfl rfl (s_op op_divG o_div (s_var 0) (s_var 2)) (s_op op_add4 o_add (s_var 3) s_int) (by rfl))))
      (z_cons (z_aug (i := 1) nd rfl (.inl rfl) (s_if (s_tcmp op_gt o_gt (s_var 3) s_int (nomark _)) (s_lst (s_cons (s_tup (s_cons (s_var 2) (s_cons (s_var 3) s_nil))) s_nil)) (s_lst s_nil)) iop_add2 o_iadd)
      (z_one (z_set (i := 2) nd rfl (.inl rfl) (s_op op_add4 o_add (s_var 2) s_int)))))))
      (z_one (z_ret (s_op op_add4 o_add (s_var 1) (s_if (s_tcmp op_gt o_gt (s_var 0) s_int (nomark _)) (s_lst (s_cons (s_tup (s_cons (s_var 0) (s_cons s_int s_nil))) s_nil)) (s_lst s_nil)))))))
theorem ok_root_in (T : Txt K mg fa xc) : FnOk P w K mg base (L2.CX P w) 1 T.f_root_in T.d_root_in ["number"] (spF ⟨K, fa, xc, tT⟩ 1 D_root_in) :=
  fn_ok (P := P) (w := w) (mg := mg) (base := base) (t := ⟨K, fa, xc, tT⟩) T.F_root_in sc_root_in fun cdv A outer s H E hr => by
    have nd := sc_root_in.nd
    have hc : (cxOf (L2.CX P w) P w K mg base ["number", "low", "high", "middle"] "root_in" (defScope s_root_in) T.f_root_in cdv A outer s H E).calm = true := rfl
    have hu := hr.units
    have hu65 := Y.room65 hr
    have hdi := Nat.lt_of_le_of_lt (Nat.add_le_add_left (by decide : 1 ≤ 64) _) hr.units
    have tk : Takes (cxOf (L2.CX P w) P w K mg base ["number", "low", "high", "middle"] "root_in" (defScope s_root_in) T.f_root_in cdv A outer s H E) (fun cls d _ H => E cls d H) := takes_of rfl rfl rfl rfl
    have O : Okc (cxOf (L2.CX P w) P w K mg base ["number", "low", "high", "middle"] "root_in" (defScope s_root_in) T.f_root_in cdv A outer s H E) ⟨K, fa, xc, tT⟩ (fun _ => E) := okc_def rfl
    exact (z_cons (z_if (s_tcmp (op_eqD hu) o_eq (s_var 0) s_int (nomark _)) (z_one (z_ret s_int)) z_nil)
      (z_cons (z_asg (s_tup (s_cons s_int (s_cons s_int s_nil))) (g_tup rfl hc (gs_cons (g_name (i := 1) nd rfl (.inl rfl)) (gs_cons (g_name (i := 2) nd rfl (.inl rfl)) gs_nil)) ((len_gsC ((len_gsC (fun _ _ _ _ h => len_gsN h)))))))
      (z_cons (z_while pass_def (s_tcmp op_le o_le (s_op op_mul2 o_mul (s_var 2) (s_var 2)) (s_var 0) (nomark _)) (z_one (z_set (i := 2) nd rfl (.inl rfl) (s_op op_mul2 o_mul s_int (s_var 2)))))
      (z_cons (z_while pass_def (s_tcmp op_gt o_gt (s_op op_sub o_sub (s_var 2) (s_var 1)) s_int (nomark _)) (z_cons (z_set (i := 3) nd rfl (.inl rfl) (s_op op_divG o_div (s_op op_add4 o_add (s_var 1) (s_var 2)) s_int))
      (z_one (z_asg (s_if (s_tcmp op_le o_le (s_op op_mul2 o_mul (s_var 3) (s_var 3)) (s_var 0) (nomark _)) (s_tup (s_cons (s_var 3) (s_cons (s_var 2) s_nil))) (s_tup (s_cons (s_var 1) (s_cons (s_var 3) s_nil)))) (g_tup rfl hc (gs_cons (g_name (i := 1) nd rfl (.inl rfl)) (gs_cons (g_name (i := 2) nd rfl (.inl rfl)) gs_nil)) ((len_gsC ((len_gsC (fun _ _ _ _ h => len_gsN h))))))))))
      (z_one (z_ret (s_var 1)))))))
theorem ok_figure_in (T : Txt K mg fa xc) : FnOk P w K mg base (L2.CX P w) 1 T.f_figure_in T.d_figure_in ["sides", "place"] (spF ⟨K, fa, xc, tT⟩ 2 D_figure_in) :=
  fn_ok (P := P) (w := w) (mg := mg) (base := base) (t := ⟨K, fa, xc, tT⟩) T.F_figure_in sc_figure_in fun cdv A outer s H E hr => by
    have nd := sc_figure_in.nd
    have hc : (cxOf (L2.CX P w) P w K mg base ["sides", "place"] "figure_in" (defScope s_figure_in) T.f_figure_in cdv A outer s H E).calm = true := rfl
    have hu := hr.units
    have hu65 := Y.room65 hr
    have hdi := Nat.lt_of_le_of_lt (Nat.add_le_add_left (by decide : 1 ≤ 64) _) hr.units
    have tk : Takes (cxOf (L2.CX P w) P w K mg base ["sides", "place"] "figure_in" (defScope s_figure_in) T.f_figure_in cdv A outer s H E) (fun cls d _ H => E cls d H) := takes_of rfl rfl rfl rfl
    have O : Okc (cxOf (L2.CX P w) P w K mg base ["sides", "place"] "figure_in" (defScope s_figure_in) T.f_figure_in cdv A outer s H E) ⟨K, fa, xc, tT⟩ (fun _ => E) := okc_def rfl
    exact (z_one (z_ret (s_op op_divG o_div (s_op op_sub o_sub (s_op op_mul2 o_mul (s_op op_mul2 o_mul (s_op op_sub o_sub (s_var 0) s_int) (s_var 1)) (s_var 1)) (s_op op_mul2 o_mul (s_op op_sub o_sub (s_var 0) s_int) (s_var 1))) s_int)))
theorem ok_place_in (T : Txt K mg fa xc) : FnOk P w K mg base (L2.CX P w) 2 T.f_place_in T.d_place_in ["sides", "number"] (spF ⟨K, fa, xc, tT⟩ 2 D_place_in) :=
  fn_ok (P := P) (w := w) (mg := mg) (base := base) (t := ⟨K, fa, xc, tT⟩) T.F_place_in sc_place_in fun cdv A outer s H E hr => by
    have nd := sc_place_in.nd
    have hc : (cxOf (L2.CX P w) P w K mg base ["sides", "number", "inside", "root", "above", "place"] "place_in" (defScope s_place_in) T.f_place_in cdv A outer s H E).calm = true := rfl
    have hu := hr.units
    have hu65 := Y.room65 hr
    have hdi := Nat.lt_of_le_of_lt (Nat.add_le_add_left (by decide : 1 ≤ 64) _) hr.units
    have tk : Takes (cxOf (L2.CX P w) P w K mg base ["sides", "number", "inside", "root", "above", "place"] "place_in" (defScope s_place_in) T.f_place_in cdv A outer s H E) (fun cls d _ H => E cls d H) := takes_of rfl rfl rfl rfl
    have O : Okc (cxOf (L2.CX P w) P w K mg base ["sides", "number", "inside", "root", "above", "place"] "place_in" (defScope s_place_in) T.f_place_in cdv A outer s H E) ⟨K, fa, xc, tT⟩ (fun _ => E) := okc_def rfl
    exact (z_cons (z_set (i := 2) nd rfl (.inl rfl) (s_op op_add4 o_add (s_op op_mul2 o_mul (s_op op_mul2 o_mul s_int (s_op op_sub o_sub (s_var 0) s_int)) (s_var 1)) (s_op op_mul2 o_mul (s_op op_sub o_sub (s_var 0) s_int) (s_op op_sub o_sub (s_var 0) s_int))))
      (z_cons (z_set (i := 3) nd rfl (.inl rfl) (s_callK O (ok_root_in T) (hr.mono (by decide)) (by rfl) T.g_root_in T.F_root_in.kp T.b_root_in (s_cons (s_var 2) s_nil)))
      (z_cons (z_set (i := 4) nd rfl (.inl rfl) (s_op op_sub o_sub (s_op op_add4 o_add (s_var 3) (s_var 0)) s_int))
      (z_cons (z_set (i := 5) nd rfl (.inl rfl) (s_op op_divG o_div (s_var 4) (s_op op_mul2 o_mul s_int (s_op op_sub o_sub (s_var 0) s_int))))
      (z_one (z_ret (s_if (s_pw (s_and (s_tcmp (op_eqD hu) o_eq (s_op op_mul2 o_mul (s_var 3) (s_var 3)) (s_var 2) (nomark _)) (s_and (s_tcmp (op_eqD hu) o_eq (s_op op_mul2 o_mul (s_op op_mul2 o_mul (s_var 5) s_int) (s_op op_sub o_sub (s_var 0) s_int)) (s_var 4) (nomark _)) (s_and1 (s_tcmp op_gt o_gt (s_var 5) s_int (nomark _)))))) (s_var 5) s_non)))))))
theorem ok_central_in (T : Txt K mg fa xc) : FnOk P w K mg base (L2.CX P w) 1 T.f_central_in T.d_central_in ["sides", "place"] (spF ⟨K, fa, xc, tT⟩ 2 D_central_in) :=
  fn_ok (P := P) (w := w) (mg := mg) (base := base) (t := ⟨K, fa, xc, tT⟩) T.F_central_in sc_central_in fun cdv A outer s H E hr => by
    have nd := sc_central_in.nd
    have hc : (cxOf (L2.CX P w) P w K mg base ["sides", "place"] "central_in" (defScope s_central_in) T.f_central_in cdv A outer s H E).calm = true := rfl
    have hu := hr.units
    have hu65 := Y.room65 hr
    have hdi := Nat.lt_of_le_of_lt (Nat.add_le_add_left (by decide : 1 ≤ 64) _) hr.units
    have tk : Takes (cxOf (L2.CX P w) P w K mg base ["sides", "place"] "central_in" (defScope s_central_in) T.f_central_in cdv A outer s H E) (fun cls d _ H => E cls d H) := takes_of rfl rfl rfl rfl
    have O : Okc (cxOf (L2.CX P w) P w K mg base ["sides", "place"] "central_in" (defScope s_central_in) T.f_central_in cdv A outer s H E) ⟨K, fa, xc, tT⟩ (fun _ => E) := okc_def rfl
    exact (z_one (z_ret (s_op op_add4 o_add s_int (s_op op_divG o_div (s_op op_mul2 o_mul (s_op op_mul2 o_mul (s_var 0) (s_var 1)) (s_op op_sub o_sub (s_var 1) s_int)) s_int))))
theorem ok_pentagons_to (T : Txt K mg fa xc) : FnOk P w K mg base (L2.CX P w) 1 T.f_pentagons_to T.d_pentagons_to ["number"] (spF ⟨K, fa, xc, tT⟩ 1 D_pentagons_to) :=
  fn_ok (P := P) (w := w) (mg := mg) (base := base) (t := ⟨K, fa, xc, tT⟩) T.F_pentagons_to sc_pentagons_to fun cdv A outer s H E hr => by
    have nd := sc_pentagons_to.nd
    have hc : (cxOf (L2.CX P w) P w K mg base ["number", "found", "place", "sign"] "pentagons_to" (defScope s_pentagons_to) T.f_pentagons_to cdv A outer s H E).calm = true := rfl
    have hu := hr.units
    have hu65 := Y.room65 hr
    have hdi := Nat.lt_of_le_of_lt (Nat.add_le_add_left (by decide : 1 ≤ 64) _) hr.units
    have tk : Takes (cxOf (L2.CX P w) P w K mg base ["number", "found", "place", "sign"] "pentagons_to" (defScope s_pentagons_to) T.f_pentagons_to cdv A outer s H E) (fun cls d _ H => E cls d H) := takes_of rfl rfl rfl rfl
    have O : Okc (cxOf (L2.CX P w) P w K mg base ["number", "found", "place", "sign"] "pentagons_to" (defScope s_pentagons_to) T.f_pentagons_to cdv A outer s H E) ⟨K, fa, xc, tT⟩ (fun _ => E) := okc_def rfl
    exact (z_cons (z_par (i := 1) (j := 2) hc nd rfl rfl (by decide) rfl rfl (s_lst s_nil) s_int (by rfl))
      (z_cons (z_while pass_def (s_tcmp op_le o_le (s_op op_divG o_div (s_op op_mul2 o_mul (s_var 2) (s_op op_sub o_sub (s_op op_mul2 o_mul s_int (s_var 2)) s_int)) s_int) (s_var 0) (nomark _)) (z_cons (z_set (i := 3) nd rfl (.inl rfl) (s_if (s_tcmp (op_neD hu) o_ne (s_op op_mul2 o_mul (s_op op_divG o_div (s_var 2) s_int) s_int) (s_var 2) (nomark _)) s_int (s_un un_neg o_neg s_int)))
      (z_cons (z_expr (s_me rfl PySem.F.plainAttrs_list PySem.F.slot_list_append PySem.F.type_list_append mt_append ck_L m_app (s_var 1) (s_cons (s_tup (s_cons (s_op op_divG o_div (s_op op_mul2 o_mul (s_var 2) (s_op op_sub o_sub (s_op op_mul2 o_mul s_int (s_var 2)) s_int)) s_int) (s_cons (s_var 3) s_nil))) s_nil)))
      (z_cons (z_expr (s_me rfl PySem.F.plainAttrs_list PySem.F.slot_list_append PySem.F.type_list_append mt_append ck_L m_app (s_var 1) (s_cons (s_tup (s_cons (s_op op_divG o_div (s_op op_mul2 o_mul (s_var 2) (s_op op_add4 o_add (s_op op_mul2 o_mul s_int (s_var 2)) s_int)) s_int) (s_cons (s_var 3) s_nil))) s_nil)))
      (z_one (z_set (i := 2) nd rfl (.inl rfl) (s_op op_add4 o_add (s_var 2) s_int)))))))
      (z_one (z_ret (s_var 1)))))
theorem ok_parted_to (T : Txt K mg fa xc) : FnOk P w K mg base (L2.CX P w) 2 T.f_parted_to T.d_parted_to ["number"] (spF ⟨K, fa, xc, tT⟩ 1 D_parted_to) :=
  fn_ok (P := P) (w := w) (mg := mg) (base := base) (t := ⟨K, fa, xc, tT⟩) T.F_parted_to sc_parted_to fun cdv A outer s H E hr => by
    have nd := sc_parted_to.nd
    have hc : (cxOf (L2.CX P w) P w K mg base ["number", "found", "total", "one", "sign"] "parted_to" (defScope s_parted_to) T.f_parted_to cdv A outer s H E).calm = true := rfl
    have hu := hr.units
    have hu65 := Y.room65 hr
    have hdi := Nat.lt_of_le_of_lt (Nat.add_le_add_left (by decide : 1 ≤ 64) _) hr.units
    have tk : Takes (cxOf (L2.CX P w) P w K mg base ["number", "found", "total", "one", "sign"] "parted_to" (defScope s_parted_to) T.f_parted_to cdv A outer s H E) (fun cls d _ H => E cls d H) := takes_of rfl rfl rfl rfl
    have O : Okc (cxOf (L2.CX P w) P w K mg base ["number", "found", "total", "one", "sign"] "parted_to" (defScope s_parted_to) T.f_parted_to cdv A outer s H E) ⟨K, fa, xc, tT⟩ (fun _ => E) := okc_def rfl
    exact (z_cons (z_set (i := 1) nd rfl (.inr rfl) (s_lst (s_cons s_int s_nil)))
      (z_cons (z_for pass_def hc rfl (i_rng2 (by rfl) T.z_range s_int (s_op op_add4 o_add (s_var 0) s_int)) (g_name (i := 2) nd rfl (.inr rfl)) (z_one (z_expr (s_me rfl PySem.F.plainAttrs_list PySem.F.slot_list_append PySem.F.type_list_append mt_append ck_L m_app (s_var 1) (s_cons (s_bltB (cr_sum hc) n_sum (by rfl) T.z_sum (by decide +kernel) (s_cons (s_lc (own := [("one", 3), ("sign", 4)]) rfl hc nd (i_lst rfl (s_callK O (ok_pentagons_to T) (hr.mono (by decide)) (by rfl) T.g_pentagons_to T.F_pentagons_to.kp T.b_pentagons_to (s_cons (s_var 2) s_nil))) (blkOk_by (N := ["number", "found", "total", "one", "sign"]) (sc := defScope s_parted_to) (own := [("one", 3), ("sign", 4)]) (by decide +kernel)) (fun _ _ _ _ _ => (gw_tup rfl hc (gsw_cons (gw_name (i := 3) nd rfl (Or.inl rfl) (by decide)) (gsw_cons (gw_name (i := 4) nd rfl (Or.inl rfl) (by decide)) gsw_nil)) ((len_gsC ((len_gsC (fun _ _ _ _ h => len_gsN h))))))) (fun _ _ _ _ _ => (ts_one (s_tcmp op_le o_le (s_var 3) (s_var 2) (nomark _)))) (fun _ _ _ _ _ => (s_op op_mul2 o_mul (s_var 4) (s_ix ix_2 o_ix (s_var 1) (s_op op_sub o_sub (s_var 2) (s_var 3)) (fun _ _ => rfl))))) s_nil)) s_nil)))))
      (z_one (z_ret (s_var 1)))))
theorem ok_divided_to (T : Txt K mg fa xc) : FnOk P w K mg base (L2.CX P w) 2 T.f_divided_to T.d_divided_to ["number"] (spF ⟨K, fa, xc, tT⟩ 1 D_divided_to) :=
  fn_ok (P := P) (w := w) (mg := mg) (base := base) (t := ⟨K, fa, xc, tT⟩) T.F_divided_to sc_divided_to fun cdv A outer s H E hr => by
    have nd := sc_divided_to.nd
    have hc : (cxOf (L2.CX P w) P w K mg base ["number", "found", "total", "some", "pair", "one", "sign"] "divided_to" (defScope s_divided_to) T.f_divided_to cdv A outer s H E).calm = true := rfl
    have hu := hr.units
    have hu65 := Y.room65 hr
    have hdi := Nat.lt_of_le_of_lt (Nat.add_le_add_left (by decide : 1 ≤ 64) _) hr.units
    have tk : Takes (cxOf (L2.CX P w) P w K mg base ["number", "found", "total", "some", "pair", "one", "sign"] "divided_to" (defScope s_divided_to) T.f_divided_to cdv A outer s H E) (fun cls d _ H => E cls d H) := takes_of rfl rfl rfl rfl
    have O : Okc (cxOf (L2.CX P w) P w K mg base ["number", "found", "total", "some", "pair", "one", "sign"] "divided_to" (defScope s_divided_to) T.f_divided_to cdv A outer s H E) ⟨K, fa, xc, tT⟩ (fun _ => E) := okc_def rfl
    exact (z_cons (z_set (i := 1) nd rfl (.inr rfl) (s_lst (s_cons s_int s_nil)))
      (z_cons (z_for pass_def hc rfl (i_rng2 (by rfl) T.z_range s_int (s_op op_add4 o_add (s_var 0) s_int)) (g_name (i := 2) nd rfl (.inr rfl)) (z_cons (z_setLc (i := 3) (own := [("pair", 4)]) rfl hc nd rfl rfl (sw_true rfl rfl rfl (by decide +kernel)) (i_lst rfl (s_callK O (ok_pentagons_to T) (hr.mono (by decide)) (by rfl) T.g_pentagons_to T.F_pentagons_to.kp T.b_pentagons_to (s_cons (s_var 2) s_nil))) (blkOk_by (N := ["number", "found", "total", "some", "pair", "one", "sign"]) (sc := defScope s_divided_to) (own := [("pair", 4)]) (by decide +kernel)) (fun _ _ _ _ _ => (gw_name (i := 4) nd rfl (Or.inl rfl) (by decide))) (fun _ _ _ _ _ => (ts_one (s_tcmp op_le o_le (s_ix ix_2 o_ix (s_var 4) s_int (fun _ _ => rfl)) (s_var 2) (nomark _)))) (fun _ _ _ _ _ => (s_var 4)))
      (z_one (z_expr (s_me rfl PySem.F.plainAttrs_list PySem.F.slot_list_append PySem.F.type_list_append mt_append ck_L m_app (s_var 1) (s_cons (s_bltB (cr_sum hc) n_sum (by rfl) T.z_sum (by decide +kernel) (s_cons (s_lc (own := [("one", 5), ("sign", 6)]) rfl hc nd (i_lst rfl (s_var 3)) (blkOk_by (N := ["number", "found", "total", "some", "pair", "one", "sign"]) (sc := defScope s_divided_to) (own := [("one", 5), ("sign", 6)]) (by decide +kernel)) (fun _ _ _ _ _ => (gw_tup rfl hc (gsw_cons (gw_name (i := 5) nd rfl (Or.inl rfl) (by decide)) (gsw_cons (gw_name (i := 6) nd rfl (Or.inl rfl) (by decide)) gsw_nil)) ((len_gsC ((len_gsC (fun _ _ _ _ h => len_gsN h))))))) (fun _ _ _ _ _ => ts_nil) (fun _ _ _ _ _ => (s_op op_mul2 o_mul (s_var 6) (s_if (s_tcmp op_lt o_lt (s_var 5) (s_var 2) (nomark _)) (s_ix ix_2 o_ix (s_var 1) (s_op op_sub o_sub (s_var 2) (s_var 5)) (fun _ _ => rfl)) (s_var 2))))) s_nil)) s_nil))))))
      (z_one (z_ret (s_var 1)))))
theorem ok_row_sum (T : Txt K mg fa xc) : FnOk P w K mg base (L2.CX P w) 1 T.f_row_sum T.d_row_sum ["first", "last"] (spF ⟨K, fa, xc, tT⟩ 2 D_row_sum) :=
  fn_ok (P := P) (w := w) (mg := mg) (base := base) (t := ⟨K, fa, xc, tT⟩) T.F_row_sum sc_row_sum fun cdv A outer s H E hr => by
    have nd := sc_row_sum.nd
    have hc : (cxOf (L2.CX P w) P w K mg base ["first", "last"] "row_sum" (defScope s_row_sum) T.f_row_sum cdv A outer s H E).calm = true := rfl
    have hu := hr.units
    have hu65 := Y.room65 hr
    have hdi := Nat.lt_of_le_of_lt (Nat.add_le_add_left (by decide : 1 ≤ 64) _) hr.units
    have tk : Takes (cxOf (L2.CX P w) P w K mg base ["first", "last"] "row_sum" (defScope s_row_sum) T.f_row_sum cdv A outer s H E) (fun cls d _ H => E cls d H) := takes_of rfl rfl rfl rfl
    have O : Okc (cxOf (L2.CX P w) P w K mg base ["first", "last"] "row_sum" (defScope s_row_sum) T.f_row_sum cdv A outer s H E) ⟨K, fa, xc, tT⟩ (fun _ => E) := okc_def rfl
    exact (z_one (z_ret (s_op op_divG o_div (s_op op_mul2 o_mul (s_op op_add4 o_add (s_var 0) (s_var 1)) (s_op op_add4 o_add (s_op op_sub o_sub (s_var 1) (s_var 0)) s_int)) s_int)))
theorem ok_rows_in (T : Txt K mg fa xc) : FnOk P w K mg base (L2.CX P w) 1 T.f_rows_in T.d_rows_in ["number"] (spF ⟨K, fa, xc, tT⟩ 1 D_rows_in) :=
  fn_ok (P := P) (w := w) (mg := mg) (base := base) (t := ⟨K, fa, xc, tT⟩) T.F_rows_in sc_rows_in fun cdv A outer s H E hr => by
    have nd := sc_rows_in.nd
    have hc : (cxOf (L2.CX P w) P w K mg base ["number", "found", "many", "rest"] "rows_in" (defScope s_rows_in) T.f_rows_in cdv A outer s H E).calm = true := rfl
    have hu := hr.units
    have hu65 := Y.room65 hr
    have hdi := Nat.lt_of_le_of_lt (Nat.add_le_add_left (by decide : 1 ≤ 64) _) hr.units
    have tk : Takes (cxOf (L2.CX P w) P w K mg base ["number", "found", "many", "rest"] "rows_in" (defScope s_rows_in) T.f_rows_in cdv A outer s H E) (fun cls d _ H => E cls d H) := takes_of rfl rfl rfl rfl
    have O : Okc (cxOf (L2.CX P w) P w K mg base ["number", "found", "many", "rest"] "rows_in" (defScope s_rows_in) T.f_rows_in cdv A outer s H E) ⟨K, fa, xc, tT⟩ (fun _ => E) := okc_def rfl
    exact (z_cons (z_par (i := 1) (j := 2) hc nd rfl rfl (by decide) rfl rfl (s_lst s_nil) s_int (by rfl))
      (z_cons (z_while pass_def (s_tcmp op_le o_le (s_op op_divG o_div (s_op op_mul2 o_mul (s_var 2) (s_op op_add4 o_add (s_var 2) s_int)) s_int) (s_var 0) (nomark _)) (z_cons (z_set (i := 3) nd rfl (.inl rfl) (s_op op_sub o_sub (s_var 0) (s_op op_divG o_div (s_op op_mul2 o_mul (s_var 2) (s_op op_sub o_sub (s_var 2) s_int)) s_int)))
      (z_cons (z_if (s_tcmp (op_eqD hu) o_eq (s_op op_mul2 o_mul (s_op op_divG o_div (s_var 3) (s_var 2)) (s_var 2)) (s_var 3) (nomark _)) (z_one (z_expr (s_me rfl PySem.F.plainAttrs_list PySem.F.slot_list_append PySem.F.type_list_append mt_append ck_L m_app (s_var 1) (s_cons (s_tup (s_cons (s_op op_divG o_div (s_var 3) (s_var 2)) (s_cons (s_op op_sub o_sub (s_op op_add4 o_add (s_op op_divG o_div (s_var 3) (s_var 2)) (s_var 2)) s_int) s_nil))) s_nil)))) z_nil)
      (z_one (z_set (i := 2) nd rfl (.inl rfl) (s_op op_add4 o_add (s_var 2) s_int))))))
      (z_one (z_ret (s_bltB cr_sortedPO n_sortP (by rfl) T.z_sorted (by decide +kernel) (s_cons (s_var 1) s_nil))))))
theorem ok_need_sides (T : Txt K mg fa xc) : FnOk P w K mg base (L2.CX P w) 3 T.f_need_sides T.d_need_sides ["sides"] (spF ⟨K, fa, xc, tT⟩ 1 D_need_sides) :=
  fn_ok (P := P) (w := w) (mg := mg) (base := base) (t := ⟨K, fa, xc, tT⟩) T.F_need_sides sc_need_sides fun cdv A outer s H E hr => by
    have nd := sc_need_sides.nd
    have hc : (cxOf (L2.CX P w) P w K mg base ["sides"] "need_sides" (defScope s_need_sides) T.f_need_sides cdv A outer s H E).calm = true := rfl
    have hu := hr.units
    have hu65 := Y.room65 hr
    have hdi := Nat.lt_of_le_of_lt (Nat.add_le_add_left (by decide : 1 ≤ 64) _) hr.units
    have tk : Takes (cxOf (L2.CX P w) P w K mg base ["sides"] "need_sides" (defScope s_need_sides) T.f_need_sides cdv A outer s H E) (fun cls d _ H => E cls d H) := takes_of rfl rfl rfl rfl
    have O : Okc (cxOf (L2.CX P w) P w K mg base ["sides"] "need_sides" (defScope s_need_sides) T.f_need_sides cdv A outer s H E) ⟨K, fa, xc, tT⟩ (fun _ => E) := okc_def rfl
    exact (z_one (z_expr (s_callK O (ok_need_whole T) (hr.mono (by decide)) (by rfl) T.g_need_whole T.F_need_whole.kp T.b_need_whole (s_cons (s_var 0) (s_cons s_int (s_cons (s_glob (by rfl) T.c_SIDES) s_nil))))))
theorem ok_figure (T : Txt K mg fa xc) : FnOk P w K mg base (L2.CX P w) 4 T.f_figure T.d_figure ["sides", "place"] (spF ⟨K, fa, xc, tT⟩ 2 D_figure) :=
  fn_ok (P := P) (w := w) (mg := mg) (base := base) (t := ⟨K, fa, xc, tT⟩) T.F_figure sc_figure fun cdv A outer s H E hr => by
    have nd := sc_figure.nd
    have hc : (cxOf (L2.CX P w) P w K mg base ["sides", "place"] "figure" (defScope s_figure) T.f_figure cdv A outer s H E).calm = true := rfl
    have hu := hr.units
    have hu65 := Y.room65 hr
    have hdi := Nat.lt_of_le_of_lt (Nat.add_le_add_left (by decide : 1 ≤ 64) _) hr.units
    have tk : Takes (cxOf (L2.CX P w) P w K mg base ["sides", "place"] "figure" (defScope s_figure) T.f_figure cdv A outer s H E) (fun cls d _ H => E cls d H) := takes_of rfl rfl rfl rfl
    have O : Okc (cxOf (L2.CX P w) P w K mg base ["sides", "place"] "figure" (defScope s_figure) T.f_figure cdv A outer s H E) ⟨K, fa, xc, tT⟩ (fun _ => E) := okc_def rfl
    exact (z_cons (z_expr (s_callK O (ok_need_sides T) (hr.mono (by decide)) (by rfl) T.g_need_sides T.F_need_sides.kp T.b_need_sides (s_cons (s_var 0) s_nil)))
      (z_cons (z_expr (s_callK O (ok_need_whole T) (hr.mono (by decide)) (by rfl) T.g_need_whole T.F_need_whole.kp T.b_need_whole (s_cons (s_var 1) (s_cons s_int (s_cons (s_glob (by rfl) T.c_POINTS) s_nil)))))
      (z_one (z_ret (s_callK O (ok_figure_in T) (hr.mono (by decide)) (by rfl) T.g_figure_in T.F_figure_in.kp T.b_figure_in (s_cons (s_var 0) (s_cons (s_var 1) s_nil)))))))
theorem ok_place_of (T : Txt K mg fa xc) : FnOk P w K mg base (L2.CX P w) 4 T.f_place_of T.d_place_of ["sides", "number"] (spF ⟨K, fa, xc, tT⟩ 2 D_place_of) :=
  fn_ok (P := P) (w := w) (mg := mg) (base := base) (t := ⟨K, fa, xc, tT⟩) T.F_place_of sc_place_of fun cdv A outer s H E hr => by
    have nd := sc_place_of.nd
    have hc : (cxOf (L2.CX P w) P w K mg base ["sides", "number"] "place_of" (defScope s_place_of) T.f_place_of cdv A outer s H E).calm = true := rfl
    have hu := hr.units
    have hu65 := Y.room65 hr
    have hdi := Nat.lt_of_le_of_lt (Nat.add_le_add_left (by decide : 1 ≤ 64) _) hr.units
    have tk : Takes (cxOf (L2.CX P w) P w K mg base ["sides", "number"] "place_of" (defScope s_place_of) T.f_place_of cdv A outer s H E) (fun cls d _ H => E cls d H) := takes_of rfl rfl rfl rfl
    have O : Okc (cxOf (L2.CX P w) P w K mg base ["sides", "number"] "place_of" (defScope s_place_of) T.f_place_of cdv A outer s H E) ⟨K, fa, xc, tT⟩ (fun _ => E) := okc_def rfl
    exact (z_cons (z_expr (s_callK O (ok_need_sides T) (hr.mono (by decide)) (by rfl) T.g_need_sides T.F_need_sides.kp T.b_need_sides (s_cons (s_var 0) s_nil)))
      (z_cons (z_expr (s_callK O (ok_need_whole T) (hr.mono (by decide)) (by rfl) T.g_need_whole T.F_need_whole.kp T.b_need_whole (s_cons (s_var 1) (s_cons s_int (s_cons (s_glob (by rfl) T.c_FAR) s_nil)))))
      (z_one (z_ret (s_callK O (ok_place_in T) (hr.mono (by decide)) (by rfl) T.g_place_in T.F_place_in.kp T.b_place_in (s_cons (s_var 0) (s_cons (s_var 1) s_nil)))))))
theorem ok_kinds_of (T : Txt K mg fa xc) : FnOk P w K mg base (L2.CX P w) 3 T.f_kinds_of T.d_kinds_of ["number"] (spF ⟨K, fa, xc, tT⟩ 1 D_kinds_of) :=
  fn_ok (P := P) (w := w) (mg := mg) (base := base) (t := ⟨K, fa, xc, tT⟩) T.F_kinds_of sc_kinds_of fun cdv A outer s H E hr => by
    have nd := sc_kinds_of.nd
    have hc : (cxOf (L2.CX P w) P w K mg base ["number", "found", "sides", "place"] "kinds_of" (defScope s_kinds_of) T.f_kinds_of cdv A outer s H E).calm = true := rfl
    have hu := hr.units
    have hu65 := Y.room65 hr
    have hdi := Nat.lt_of_le_of_lt (Nat.add_le_add_left (by decide : 1 ≤ 64) _) hr.units
    have tk : Takes (cxOf (L2.CX P w) P w K mg base ["number", "found", "sides", "place"] "kinds_of" (defScope s_kinds_of) T.f_kinds_of cdv A outer s H E) (fun cls d _ H => E cls d H) := takes_of rfl rfl rfl rfl
    have O : Okc (cxOf (L2.CX P w) P w K mg base ["number", "found", "sides", "place"] "kinds_of" (defScope s_kinds_of) T.f_kinds_of cdv A outer s H E) ⟨K, fa, xc, tT⟩ (fun _ => E) := okc_def rfl
    exact (z_cons (z_expr (s_callK O (ok_need_whole T) (hr.mono (by decide)) (by rfl) T.g_need_whole T.F_need_whole.kp T.b_need_whole (s_cons (s_var 0) (s_cons s_int (s_cons (s_glob (by rfl) T.c_FAR) s_nil)))))
      (z_cons (z_set (i := 1) nd rfl (.inl rfl) (s_lst s_nil))
      (z_cons (z_for pass_def hc rfl (i_rng2 (by rfl) T.z_range s_int (s_op op_add4 o_add (s_glob (by rfl) T.c_SIDES) s_int)) (g_name (i := 2) nd rfl (.inl rfl)) (z_cons (z_set (i := 3) nd rfl (.inl rfl) (s_callK O (ok_place_in T) (hr.mono (by decide)) (by rfl) T.g_place_in T.F_place_in.kp T.b_place_in (s_cons (s_var 2) (s_cons (s_var 0) s_nil))))
      (z_one (z_if (s_pw (s_and (s_tnotN (s_var 3)) (s_and1 (s_tcmp op_gt o_gt (s_var 3) s_int (nomark _))))) (z_one (z_expr (s_me rfl PySem.F.plainAttrs_list PySem.F.slot_list_append PySem.F.type_list_append mt_append ck_L m_app (s_var 1) (s_cons (s_tup (s_cons (s_var 2) (s_cons (s_var 3) s_nil))) s_nil)))) z_nil))))
      (z_one (z_ret (s_bltT call_tuple_of n_tuple (by rfl) T.z_tuple (by decide +kernel) (s_cons (s_var 1) s_nil)))))))
theorem ok_central (T : Txt K mg fa xc) : FnOk P w K mg base (L2.CX P w) 4 T.f_central T.d_central ["sides", "place"] (spF ⟨K, fa, xc, tT⟩ 2 D_central) :=
  fn_ok (P := P) (w := w) (mg := mg) (base := base) (t := ⟨K, fa, xc, tT⟩) T.F_central sc_central fun cdv A outer s H E hr => by
    have nd := sc_central.nd
    have hc : (cxOf (L2.CX P w) P w K mg base ["sides", "place"] "central" (defScope s_central) T.f_central cdv A outer s H E).calm = true := rfl
    have hu := hr.units
    have hu65 := Y.room65 hr
    have hdi := Nat.lt_of_le_of_lt (Nat.add_le_add_left (by decide : 1 ≤ 64) _) hr.units
    have tk : Takes (cxOf (L2.CX P w) P w K mg base ["sides", "place"] "central" (defScope s_central) T.f_central cdv A outer s H E) (fun cls d _ H => E cls d H) := takes_of rfl rfl rfl rfl
    have O : Okc (cxOf (L2.CX P w) P w K mg base ["sides", "place"] "central" (defScope s_central) T.f_central cdv A outer s H E) ⟨K, fa, xc, tT⟩ (fun _ => E) := okc_def rfl
    exact (z_cons (z_expr (s_callK O (ok_need_sides T) (hr.mono (by decide)) (by rfl) T.g_need_sides T.F_need_sides.kp T.b_need_sides (s_cons (s_var 0) s_nil)))
      (z_cons (z_expr (s_callK O (ok_need_whole T) (hr.mono (by decide)) (by rfl) T.g_need_whole T.F_need_whole.kp T.b_need_whole (s_cons (s_var 1) (s_cons s_int (s_cons (s_glob (by rfl) T.c_POINTS) s_nil)))))
      (z_one (z_ret (s_callK O (ok_central_in T) (hr.mono (by decide)) (by rfl) T.g_central_in T.F_central_in.kp T.b_central_in (s_cons (s_var 0) (s_cons (s_var 1) s_nil)))))))
theorem ok_central_place (T : Txt K mg fa xc) : FnOk P w K mg base (L2.CX P w) 4 T.f_central_place T.d_central_place ["sides", "number"] (spF ⟨K, fa, xc, tT⟩ 2 D_central_place) :=
  fn_ok (P := P) (w := w) (mg := mg) (base := base) (t := ⟨K, fa, xc, tT⟩) T.F_central_place sc_central_place fun cdv A outer s H E hr => by
    have nd := sc_central_place.nd
    have hc : (cxOf (L2.CX P w) P w K mg base ["sides", "number", "inside", "root", "place"] "central_place" (defScope s_central_place) T.f_central_place cdv A outer s H E).calm = true := rfl
    have hu := hr.units
    have hu65 := Y.room65 hr
    have hdi := Nat.lt_of_le_of_lt (Nat.add_le_add_left (by decide : 1 ≤ 64) _) hr.units
    have tk : Takes (cxOf (L2.CX P w) P w K mg base ["sides", "number", "inside", "root", "place"] "central_place" (defScope s_central_place) T.f_central_place cdv A outer s H E) (fun cls d _ H => E cls d H) := takes_of rfl rfl rfl rfl
    have O : Okc (cxOf (L2.CX P w) P w K mg base ["sides", "number", "inside", "root", "place"] "central_place" (defScope s_central_place) T.f_central_place cdv A outer s H E) ⟨K, fa, xc, tT⟩ (fun _ => E) := okc_def rfl
    exact (z_cons (z_expr (s_callK O (ok_need_sides T) (hr.mono (by decide)) (by rfl) T.g_need_sides T.F_need_sides.kp T.b_need_sides (s_cons (s_var 0) s_nil)))
      (z_cons (z_expr (s_callK O (ok_need_whole T) (hr.mono (by decide)) (by rfl) T.g_need_whole T.F_need_whole.kp T.b_need_whole (s_cons (s_var 1) (s_cons s_int (s_cons (s_glob (by rfl) T.c_FAR) s_nil)))))
      (z_cons (z_set (i := 2) nd rfl (.inl rfl) (s_op op_add4 o_add (s_op op_mul2 o_mul (s_var 0) (s_var 0)) (s_op op_mul2 o_mul (s_op op_mul2 o_mul s_int (s_var 0)) (s_op op_sub o_sub (s_var 1) s_int))))
      (z_cons (z_set (i := 3) nd rfl (.inl rfl) (s_callK O (ok_root_in T) (hr.mono (by decide)) (by rfl) T.g_root_in T.F_root_in.kp T.b_root_in (s_cons (s_var 2) s_nil)))
      (z_cons (z_set (i := 4) nd rfl (.inl rfl) (s_op op_divG o_div (s_op op_add4 o_add (s_var 3) (s_var 0)) (s_op op_mul2 o_mul s_int (s_var 0))))
      (z_one (z_ret (s_if (s_pw (s_and (s_tcmp op_gt o_gt (s_var 4) s_int (nomark _)) (s_and1 (s_tcmp (op_eqD hu) o_eq (s_callK O (ok_central_in T) (hr.mono (by decide)) (by rfl) T.g_central_in T.F_central_in.kp T.b_central_in (s_cons (s_var 0) (s_cons (s_var 4) s_nil))) (s_var 1) (nomark _))))) (s_var 4) s_non))))))))
theorem ok_fewest_figures (T : Txt K mg fa xc) : FnOk P w K mg base (L2.CX P w) 4 T.f_fewest_figures T.d_fewest_figures ["sides", "number"] (spF ⟨K, fa, xc, tT⟩ 2 D_fewest_figures) :=
  fn_ok (P := P) (w := w) (mg := mg) (base := base) (t := ⟨K, fa, xc, tT⟩) T.F_fewest_figures sc_fewest_figures fun cdv A outer s H E hr => by
    have nd := sc_fewest_figures.nd
    have hc : (cxOf (L2.CX P w) P w K mg base ["sides", "number", "figures", "found", "total", "one"] "fewest_figures" (defScope s_fewest_figures) T.f_fewest_figures cdv A outer s H E).calm = true := rfl
    have hu := hr.units
    have hu65 := Y.room65 hr
    have hdi := Nat.lt_of_le_of_lt (Nat.add_le_add_left (by decide : 1 ≤ 64) _) hr.units
    have tk : Takes (cxOf (L2.CX P w) P w K mg base ["sides", "number", "figures", "found", "total", "one"] "fewest_figures" (defScope s_fewest_figures) T.f_fewest_figures cdv A outer s H E) (fun cls d _ H => E cls d H) := takes_of rfl rfl rfl rfl
    have O : Okc (cxOf (L2.CX P w) P w K mg base ["sides", "number", "figures", "found", "total", "one"] "fewest_figures" (defScope s_fewest_figures) T.f_fewest_figures cdv A outer s H E) ⟨K, fa, xc, tT⟩ (fun _ => E) := okc_def rfl
    exact (z_cons (z_expr (s_callK O (ok_need_sides T) (hr.mono (by decide)) (by rfl) T.g_need_sides T.F_need_sides.kp T.b_need_sides (s_cons (s_var 0) s_nil)))
      (z_cons (z_expr (s_callK O (ok_need_whole T) (hr.mono (by decide)) (by rfl) T.g_need_whole T.F_need_whole.kp T.b_need_whole (s_cons (s_var 1) (s_cons s_int (s_cons s_int s_nil)))))
      (z_cons (z_asg (s_tup (s_cons (s_lst s_nil) (s_cons (s_op op_mul2 o_mul (s_lst (s_cons s_int s_nil)) (s_op op_add4 o_add (s_var 1) s_int)) s_nil))) (g_tup rfl hc (gs_cons (g_name (i := 2) nd rfl (.inl rfl)) (gs_cons (g_name (i := 3) nd rfl (.inr rfl)) gs_nil)) ((len_gsC ((len_gsC (fun _ _ _ _ h => len_gsN h)))))))
      (z_cons (z_while pass_def (s_tcmp op_le o_le (s_callK O (ok_figure_in T) (hr.mono (by decide)) (by rfl) T.g_figure_in T.F_figure_in.kp T.b_figure_in (s_cons (s_var 0) (s_cons (s_op op_add4 o_add (s_bltB call_len3 n_len (by rfl) T.z_len (by decide +kernel) (s_cons (s_var 2) s_nil)) s_int) s_nil))) (s_var 1) (nomark _)) (z_one (z_expr (s_me rfl PySem.F.plainAttrs_list PySem.F.slot_list_append PySem.F.type_list_append mt_append ck_L m_app (s_var 2) (s_cons (s_callK O (ok_figure_in T) (hr.mono (by decide)) (by rfl) T.g_figure_in T.F_figure_in.kp T.b_figure_in (s_cons (s_var 0) (s_cons (s_op op_add4 o_add (s_bltB call_len3 n_len (by rfl) T.z_len (by decide +kernel) (s_cons (s_var 2) s_nil)) s_int) s_nil))) s_nil)))))
      (z_cons (z_for pass_def hc rfl (i_rng2 (by rfl) T.z_range s_int (s_op op_add4 o_add (s_var 1) s_int)) (g_name (i := 4) nd rfl (.inr rfl)) (z_one (z_putL (s_op op_add4 o_add s_int (s_bltB (cr_min hc) n_minL (by rfl) T.z_min (by decide +kernel) (s_cons (s_lc (own := [("one", 5)]) rfl hc nd (i_lst rfl (s_var 2)) (blkOk_by (N := ["sides", "number", "figures", "found", "total", "one"]) (sc := defScope s_fewest_figures) (own := [("one", 5)]) (by decide +kernel)) (fun _ _ _ _ _ => (gw_name (i := 5) nd rfl (Or.inl rfl) (by decide))) (fun _ _ _ _ _ => (ts_one (s_tcmp op_le o_le (s_var 5) (s_var 4) (nomark _)))) (fun _ _ _ _ _ => (s_ix ix_2 o_ix (s_var 3) (s_op op_sub o_sub (s_var 4) (s_var 5)) (fun _ _ => rfl)))) s_nil))) (s_var 3) (s_var 4))))
      (z_one (z_ret (s_ix ix_2 o_ix (s_var 3) (s_var 1) (fun _ _ => rfl)))))))))
theorem ok_rows_with (T : Txt K mg fa xc) : FnOk P w K mg base (L2.CX P w) 3 T.f_rows_with T.d_rows_with ["number"] (spF ⟨K, fa, xc, tT⟩ 1 D_rows_with) :=
  fn_ok (P := P) (w := w) (mg := mg) (base := base) (t := ⟨K, fa, xc, tT⟩) T.F_rows_with sc_rows_with fun cdv A outer s H E hr => by
    have nd := sc_rows_with.nd
    have hc : (cxOf (L2.CX P w) P w K mg base ["number"] "rows_with" (defScope s_rows_with) T.f_rows_with cdv A outer s H E).calm = true := rfl
    have hu := hr.units
    have hu65 := Y.room65 hr
    have hdi := Nat.lt_of_le_of_lt (Nat.add_le_add_left (by decide : 1 ≤ 64) _) hr.units
    have tk : Takes (cxOf (L2.CX P w) P w K mg base ["number"] "rows_with" (defScope s_rows_with) T.f_rows_with cdv A outer s H E) (fun cls d _ H => E cls d H) := takes_of rfl rfl rfl rfl
    have O : Okc (cxOf (L2.CX P w) P w K mg base ["number"] "rows_with" (defScope s_rows_with) T.f_rows_with cdv A outer s H E) ⟨K, fa, xc, tT⟩ (fun _ => E) := okc_def rfl
    exact (z_cons (z_expr (s_callK O (ok_need_whole T) (hr.mono (by decide)) (by rfl) T.g_need_whole T.F_need_whole.kp T.b_need_whole (s_cons (s_var 0) (s_cons s_int (s_cons (s_glob (by rfl) T.c_NUMBER) s_nil)))))
      (z_one (z_ret (s_bltT call_tuple_of n_tuple (by rfl) T.z_tuple (by decide +kernel) (s_cons (s_callK O (ok_rows_in T) (hr.mono (by decide)) (by rfl) T.g_rows_in T.F_rows_in.kp T.b_rows_in (s_cons (s_var 0) s_nil)) s_nil)))))
theorem ok_count_rows (T : Txt K mg fa xc) : FnOk P w K mg base (L2.CX P w) 3 T.f_count_rows T.d_count_rows ["number"] (spF ⟨K, fa, xc, tT⟩ 1 D_count_rows) :=
  fn_ok (P := P) (w := w) (mg := mg) (base := base) (t := ⟨K, fa, xc, tT⟩) T.F_count_rows sc_count_rows fun cdv A outer s H E hr => by
    have nd := sc_count_rows.nd
    have hc : (cxOf (L2.CX P w) P w K mg base ["number", "found", "prime", "power"] "count_rows" (defScope s_count_rows) T.f_count_rows cdv A outer s H E).calm = true := rfl
    have hu := hr.units
    have hu65 := Y.room65 hr
    have hdi := Nat.lt_of_le_of_lt (Nat.add_le_add_left (by decide : 1 ≤ 64) _) hr.units
    have tk : Takes (cxOf (L2.CX P w) P w K mg base ["number", "found", "prime", "power"] "count_rows" (defScope s_count_rows) T.f_count_rows cdv A outer s H E) (fun cls d _ H => E cls d H) := takes_of rfl rfl rfl rfl
    have O : Okc (cxOf (L2.CX P w) P w K mg base ["number", "found", "prime", "power"] "count_rows" (defScope s_count_rows) T.f_count_rows cdv A outer s H E) ⟨K, fa, xc, tT⟩ (fun _ => E) := okc_def rfl
    exact (z_cons (z_expr (s_callK O (ok_need_whole T) (hr.mono (by decide)) (by rfl) T.g_need_whole T.F_need_whole.kp T.b_need_whole (s_cons (s_var 0) (s_cons s_int (s_cons (s_glob (by rfl) T.c_NUMBER) s_nil)))))
      (z_cons (z_set (i := 1) nd rfl (.inl rfl) s_int)
      (z_cons (z_for pass_def hc rfl (i_lst rfl (s_callK O (ok_factors_in T) (hr.mono (by decide)) (by rfl) T.g_factors_in T.F_factors_in.kp T.b_factors_in (s_cons (s_var 0) s_nil))) (g_tup rfl hc (gs_cons (g_name (i := 2) nd rfl (.inl rfl)) (gs_cons (g_name (i := 3) nd rfl (.inl rfl)) gs_nil)) ((len_gsC ((len_gsC (fun _ _ _ _ h => len_gsN h)))))) (z_one (z_set (i := 1) nd rfl (.inl rfl) (s_op op_mul2 o_mul (s_var 1) (s_if (s_tcmp op_gt o_gt (s_var 2) s_int (nomark _)) (s_op op_add4 o_add (s_var 3) s_int) s_int)))))
      (z_one (z_ret (s_var 1))))))
theorem ok_is_row_of (T : Txt K mg fa xc) : FnOk P w K mg base (L2.CX P w) 3 T.f_is_row_of T.d_is_row_of ["number", "value"] (spF ⟨K, fa, xc, tT⟩ 2 D_is_row_of) :=
  fn_ok (P := P) (w := w) (mg := mg) (base := base) (t := ⟨K, fa, xc, tT⟩) T.F_is_row_of sc_is_row_of fun cdv A outer s H E hr => by
    have nd := sc_is_row_of.nd
    have hc : (cxOf (L2.CX P w) P w K mg base ["number", "value", "one"] "is_row_of" (defScope s_is_row_of) T.f_is_row_of cdv A outer s H E).calm = true := rfl
    have hu := hr.units
    have hu65 := Y.room65 hr
    have hdi := Nat.lt_of_le_of_lt (Nat.add_le_add_left (by decide : 1 ≤ 64) _) hr.units
    have tk : Takes (cxOf (L2.CX P w) P w K mg base ["number", "value", "one"] "is_row_of" (defScope s_is_row_of) T.f_is_row_of cdv A outer s H E) (fun cls d _ H => E cls d H) := takes_of rfl rfl rfl rfl
    have O : Okc (cxOf (L2.CX P w) P w K mg base ["number", "value", "one"] "is_row_of" (defScope s_is_row_of) T.f_is_row_of cdv A outer s H E) ⟨K, fa, xc, tT⟩ (fun _ => E) := okc_def rfl
    exact (z_cons (z_expr (s_callK O (ok_need_whole T) (hr.mono (by decide)) (by rfl) T.g_need_whole T.F_need_whole.kp T.b_need_whole (s_cons (s_var 0) (s_cons s_int (s_cons (s_glob (by rfl) T.c_FAR) s_nil)))))
      (z_cons (z_if (s_pw (s_or (s_tnot (s_tst (s_callK O (ok_is_tuple_of T) (hr.mono (by decide)) (by rfl) T.g_is_tuple_of T.F_is_tuple_of.kp T.b_is_tuple_of (s_cons (s_var 1) (s_cons s_int (s_cons s_int s_nil)))))) (s_or1 (s_tnot (s_tst (s_bltB (cr_all hc) n_all (by rfl) T.z_all (by decide +kernel) (s_cons (s_lc (own := [("one", 2)]) rfl hc nd (i_tup rfl (s_var 1)) (blkOk_by (N := ["number", "value", "one"]) (sc := defScope s_is_row_of) (own := [("one", 2)]) (by decide +kernel)) (fun _ _ _ _ _ => (gw_name (i := 2) nd rfl (Or.inl rfl) (by decide))) (fun _ _ _ _ _ => ts_nil) (fun _ _ _ _ _ => (s_callK O.blk (ok_fits_whole T) (hr.mono (by decide)) (by rfl) T.g_fits_whole T.F_fits_whole.kp T.b_fits_whole (s_cons (s_var 2) (s_cons s_int (s_cons (s_glob (by rfl) T.c_FAR) s_nil)))))) s_nil))))))) (z_one (z_ret s_bl)) z_nil)
      (z_one (z_ret (s_vand (s_cmp op_le o_le (s_ix ix_2 o_ix (s_var 1) s_int (fun _ _ => rfl)) (s_ix ix_2 o_ix (s_var 1) s_int (fun _ _ => rfl)) (nomark _)) (s_one (s_cmp (op_eqD hu) o_eq (s_callK O (ok_row_sum T) (hr.mono (by decide)) (by rfl) T.g_row_sum T.F_row_sum.kp T.b_row_sum (s_cons (s_ix ix_2 o_ix (s_var 1) s_int (fun _ _ => rfl)) (s_cons (s_ix ix_2 o_ix (s_var 1) s_int (fun _ _ => rfl)) s_nil))) (s_var 0) (nomark _))))))))
theorem ok_pentagon_signs (T : Txt K mg fa xc) : FnOk P w K mg base (L2.CX P w) 3 T.f_pentagon_signs T.d_pentagon_signs ["number"] (spF ⟨K, fa, xc, tT⟩ 1 D_pentagon_signs) :=
  fn_ok (P := P) (w := w) (mg := mg) (base := base) (t := ⟨K, fa, xc, tT⟩) T.F_pentagon_signs sc_pentagon_signs fun cdv A outer s H E hr => by
    have nd := sc_pentagon_signs.nd
    have hc : (cxOf (L2.CX P w) P w K mg base ["number", "pair"] "pentagon_signs" (defScope s_pentagon_signs) T.f_pentagon_signs cdv A outer s H E).calm = true := rfl
    have hu := hr.units
    have hu65 := Y.room65 hr
    have hdi := Nat.lt_of_le_of_lt (Nat.add_le_add_left (by decide : 1 ≤ 64) _) hr.units
    have tk : Takes (cxOf (L2.CX P w) P w K mg base ["number", "pair"] "pentagon_signs" (defScope s_pentagon_signs) T.f_pentagon_signs cdv A outer s H E) (fun cls d _ H => E cls d H) := takes_of rfl rfl rfl rfl
    have O : Okc (cxOf (L2.CX P w) P w K mg base ["number", "pair"] "pentagon_signs" (defScope s_pentagon_signs) T.f_pentagon_signs cdv A outer s H E) ⟨K, fa, xc, tT⟩ (fun _ => E) := okc_def rfl
    exact (z_cons (z_expr (s_callK O (ok_need_whole T) (hr.mono (by decide)) (by rfl) T.g_need_whole T.F_need_whole.kp T.b_need_whole (s_cons (s_var 0) (s_cons s_int (s_cons (s_glob (by rfl) T.c_NUMBER) s_nil)))))
      (z_one (z_ret (s_bltT call_tuple_of n_tuple (by rfl) T.z_tuple (by decide +kernel) (s_cons (s_lc (own := [("pair", 1)]) rfl hc nd (i_lst rfl (s_callK O (ok_pentagons_to T) (hr.mono (by decide)) (by rfl) T.g_pentagons_to T.F_pentagons_to.kp T.b_pentagons_to (s_cons (s_var 0) s_nil))) (blkOk_by (N := ["number", "pair"]) (sc := defScope s_pentagon_signs) (own := [("pair", 1)]) (by decide +kernel)) (fun _ _ _ _ _ => (gw_name (i := 1) nd rfl (Or.inl rfl) (by decide))) (fun _ _ _ _ _ => (ts_one (s_tcmp op_le o_le (s_ix ix_2 o_ix (s_var 1) s_int (fun _ _ => rfl)) (s_var 0) (nomark _)))) (fun _ _ _ _ _ => (s_var 1))) s_nil)))))
theorem ok_ways_to_part (T : Txt K mg fa xc) : FnOk P w K mg base (L2.CX P w) 3 T.f_ways_to_part T.d_ways_to_part ["number"] (spF ⟨K, fa, xc, tT⟩ 1 D_ways_to_part) :=
  fn_ok (P := P) (w := w) (mg := mg) (base := base) (t := ⟨K, fa, xc, tT⟩) T.F_ways_to_part sc_ways_to_part fun cdv A outer s H E hr => by
    have nd := sc_ways_to_part.nd
    have hc : (cxOf (L2.CX P w) P w K mg base ["number"] "ways_to_part" (defScope s_ways_to_part) T.f_ways_to_part cdv A outer s H E).calm = true := rfl
    have hu := hr.units
    have hu65 := Y.room65 hr
    have hdi := Nat.lt_of_le_of_lt (Nat.add_le_add_left (by decide : 1 ≤ 64) _) hr.units
    have tk : Takes (cxOf (L2.CX P w) P w K mg base ["number"] "ways_to_part" (defScope s_ways_to_part) T.f_ways_to_part cdv A outer s H E) (fun cls d _ H => E cls d H) := takes_of rfl rfl rfl rfl
    have O : Okc (cxOf (L2.CX P w) P w K mg base ["number"] "ways_to_part" (defScope s_ways_to_part) T.f_ways_to_part cdv A outer s H E) ⟨K, fa, xc, tT⟩ (fun _ => E) := okc_def rfl
    exact (z_cons (z_expr (s_callK O (ok_need_whole T) (hr.mono (by decide)) (by rfl) T.g_need_whole T.F_need_whole.kp T.b_need_whole (s_cons (s_var 0) (s_cons s_int (s_cons (s_glob (by rfl) T.c_PARTED) s_nil)))))
      (z_one (z_ret (s_ix ix_2 o_ix (s_callK O (ok_parted_to T) (hr.mono (by decide)) (by rfl) T.g_parted_to T.F_parted_to.kp T.b_parted_to (s_cons (s_var 0) s_nil)) (s_var 0) (fun _ _ => rfl)))))
theorem ok_divisor_sum (T : Txt K mg fa xc) : FnOk P w K mg base (L2.CX P w) 3 T.f_divisor_sum T.d_divisor_sum ["number"] (spF ⟨K, fa, xc, tT⟩ 1 D_divisor_sum) :=
  fn_ok (P := P) (w := w) (mg := mg) (base := base) (t := ⟨K, fa, xc, tT⟩) T.F_divisor_sum sc_divisor_sum fun cdv A outer s H E hr => by
    have nd := sc_divisor_sum.nd
    have hc : (cxOf (L2.CX P w) P w K mg base ["number"] "divisor_sum" (defScope s_divisor_sum) T.f_divisor_sum cdv A outer s H E).calm = true := rfl
    have hu := hr.units
    have hu65 := Y.room65 hr
    have hdi := Nat.lt_of_le_of_lt (Nat.add_le_add_left (by decide : 1 ≤ 64) _) hr.units
    have tk : Takes (cxOf (L2.CX P w) P w K mg base ["number"] "divisor_sum" (defScope s_divisor_sum) T.f_divisor_sum cdv A outer s H E) (fun cls d _ H => E cls d H) := takes_of rfl rfl rfl rfl
    have O : Okc (cxOf (L2.CX P w) P w K mg base ["number"] "divisor_sum" (defScope s_divisor_sum) T.f_divisor_sum cdv A outer s H E) ⟨K, fa, xc, tT⟩ (fun _ => E) := okc_def rfl
    exact (z_cons (z_expr (s_callK O (ok_need_whole T) (hr.mono (by decide)) (by rfl) T.g_need_whole T.F_need_whole.kp T.b_need_whole (s_cons (s_var 0) (s_cons s_int (s_cons (s_glob (by rfl) T.c_PARTED) s_nil)))))
      (z_one (z_ret (s_ix ix_2 o_ix (s_callK O (ok_divided_to T) (hr.mono (by decide)) (by rfl) T.g_divided_to T.F_divided_to.kp T.b_divided_to (s_cons (s_var 0) s_nil)) (s_var 0) (fun _ _ => rfl)))))
theorem ok_pyramid (T : Txt K mg fa xc) : FnOk P w K mg base (L2.CX P w) 4 T.f_pyramid T.d_pyramid ["sides", "place"] (spF ⟨K, fa, xc, tT⟩ 2 D_pyramid) :=
  fn_ok (P := P) (w := w) (mg := mg) (base := base) (t := ⟨K, fa, xc, tT⟩) T.F_pyramid sc_pyramid fun cdv A outer s H E hr => by
    have nd := sc_pyramid.nd
    have hc : (cxOf (L2.CX P w) P w K mg base ["sides", "place"] "pyramid" (defScope s_pyramid) T.f_pyramid cdv A outer s H E).calm = true := rfl
    have hu := hr.units
    have hu65 := Y.room65 hr
    have hdi := Nat.lt_of_le_of_lt (Nat.add_le_add_left (by decide : 1 ≤ 64) _) hr.units
    have tk : Takes (cxOf (L2.CX P w) P w K mg base ["sides", "place"] "pyramid" (defScope s_pyramid) T.f_pyramid cdv A outer s H E) (fun cls d _ H => E cls d H) := takes_of rfl rfl rfl rfl
    have O : Okc (cxOf (L2.CX P w) P w K mg base ["sides", "place"] "pyramid" (defScope s_pyramid) T.f_pyramid cdv A outer s H E) ⟨K, fa, xc, tT⟩ (fun _ => E) := okc_def rfl
    exact (z_cons (z_expr (s_callK O (ok_need_sides T) (hr.mono (by decide)) (by rfl) T.g_need_sides T.F_need_sides.kp T.b_need_sides (s_cons (s_var 0) s_nil)))
      (z_cons (z_expr (s_callK O (ok_need_whole T) (hr.mono (by decide)) (by rfl) T.g_need_whole T.F_need_whole.kp T.b_need_whole (s_cons (s_var 1) (s_cons s_int (s_cons (s_glob (by rfl) T.c_POINTS) s_nil)))))
      (z_one (z_ret (s_op op_divG o_div (s_op op_mul2 o_mul (s_op op_mul2 o_mul (s_var 1) (s_op op_add4 o_add (s_var 1) s_int)) (s_op op_sub o_sub (s_op op_mul2 o_mul (s_op op_sub o_sub (s_var 0) s_int) (s_var 1)) (s_op op_sub o_sub (s_var 0) s_int))) s_int)))))
theorem ok__law_cup (T : Txt K mg fa xc) : FnOk P w K mg base (L2.CX P w) 1 T.f__law_cup T.d__law_cup ["script"] (spF ⟨K, fa, xc, tT⟩ 1 D__law_cup) :=
  fn_ok (P := P) (w := w) (mg := mg) (base := base) (t := ⟨K, fa, xc, tT⟩) T.F__law_cup sc__law_cup fun cdv A outer s H E hr => by
    have nd := sc__law_cup.nd
    have hc : (cxOf (L2.CX P w) P w K mg base ["script", "cell"] "_law_cup" (defScope s__law_cup) T.f__law_cup cdv A outer s H E).calm = true := rfl
    have hu := hr.units
    have hu65 := Y.room65 hr
    have hdi := Nat.lt_of_le_of_lt (Nat.add_le_add_left (by decide : 1 ≤ 64) _) hr.units
    have tk : Takes (cxOf (L2.CX P w) P w K mg base ["script", "cell"] "_law_cup" (defScope s__law_cup) T.f__law_cup cdv A outer s H E) (fun cls d _ H => E cls d H) := takes_of rfl rfl rfl rfl
    have O : Okc (cxOf (L2.CX P w) P w K mg base ["script", "cell"] "_law_cup" (defScope s__law_cup) T.f__law_cup cdv A outer s H E) ⟨K, fa, xc, tT⟩ (fun _ => E) := okc_def rfl
    exact (z_cons (z_set (i := 1) nd rfl (.inl rfl) (s_bltB call_abs n_abs (by rfl) T.z_abs (by decide +kernel) (s_cons (s_ix ix_2 o_ix (s_op op_add4 o_add (s_bltT call_list_of n_list (by rfl) T.z_list (by decide +kernel) (s_cons (s_var 0) s_nil)) (s_lst (s_cons s_int s_nil))) s_int (fun _ _ => rfl)) s_nil)))
      (z_one (z_ret (s_lst (s_cons (s_if (s_tcmp op_ge o_ge (s_var 1) (s_op op_pow o_pow s_int s_int) (nomark _)) (s_op op_divG o_div (s_var 1) s_int) s_int) (s_cons (s_op op_add4 o_add (s_op op_modG o_mod (s_bltT call_int1 n_int (by rfl) T.z_int (by decide +kernel) (s_cons (s_op op_add4 o_add (s_op op_mul2 o_mul (s_var 1) s_int) s_int) s_nil)) s_int) s_int) s_nil))))))
theorem ok__law_roll (T : Txt K mg fa xc) : FnOk P w K mg base (L2.CX P w) 1 T.f__law_roll T.d__law_roll ["cup", "many"] (spF ⟨K, fa, xc, tT⟩ 2 D__law_roll) :=
  fn_ok (P := P) (w := w) (mg := mg) (base := base) (t := ⟨K, fa, xc, tT⟩) T.F__law_roll sc__law_roll fun cdv A outer s H E hr => by
    have nd := sc__law_roll.nd
    have hc : (cxOf (L2.CX P w) P w K mg base ["cup", "many", "found", "deep"] "_law_roll" (defScope s__law_roll) T.f__law_roll cdv A outer s H E).calm = true := rfl
    have hu := hr.units
    have hu65 := Y.room65 hr
    have hdi := Nat.lt_of_le_of_lt (Nat.add_le_add_left (by decide : 1 ≤ 64) _) hr.units
    have tk : Takes (cxOf (L2.CX P w) P w K mg base ["cup", "many", "found", "deep"] "_law_roll" (defScope s__law_roll) T.f__law_roll cdv A outer s H E) (fun cls d _ H => E cls d H) := takes_of rfl rfl rfl rfl
    have O : Okc (cxOf (L2.CX P w) P w K mg base ["cup", "many", "found", "deep"] "_law_roll" (defScope s__law_roll) T.f__law_roll cdv A outer s H E) ⟨K, fa, xc, tT⟩ (fun _ => E) := okc_def rfl
    exact (z_cons (z_if (s_tcmp op_gt o_gt (s_ix ix_2 o_ix (s_var 0) s_int (fun _ _ => rfl)) s_int (nomark _)) (z_cons (z_set (i := 2) nd rfl (.inl rfl) (s_op op_modG o_mod (s_bltT call_int1 n_int (by rfl) T.z_int (by decide +kernel) (s_cons (s_ix ix_2 o_ix (s_var 0) s_int (fun _ _ => rfl)) s_nil)) (s_var 1)))
      (z_cons (z_putL (s_op op_divG o_div (s_ix ix_2 o_ix (s_var 0) s_int (fun _ _ => rfl)) (s_var 1)) (s_var 0) s_int)
      (z_one (z_ret (s_var 2))))) z_nil)
      (z_cons (z_putL (s_op op_modG o_mod (s_bltT call_int1 n_int (by rfl) T.z_int (by decide +kernel) (s_cons (s_op op_add4 o_add (s_op op_mul2 o_mul (s_ix ix_2 o_ix (s_var 0) s_int (fun _ _ => rfl)) s_int) s_int) s_nil)) s_int) (s_var 0) s_int)
      (z_cons (z_set (i := 3) nd rfl (.inl rfl) (s_op op_modG o_mod (s_bltT call_int1 n_int (by rfl) T.z_int (by decide +kernel) (s_cons (s_op op_mul2 o_mul (s_ix ix_2 o_ix (s_var 0) s_int (fun _ _ => rfl)) (s_op op_add4 o_add (s_ix ix_2 o_ix (s_var 0) s_int (fun _ _ => rfl)) s_int)) s_nil)) s_int))
      (z_one (z_ret (s_op op_modG o_mod (s_bltT call_int1 n_int (by rfl) T.z_int (by decide +kernel) (s_cons (s_op op_divG o_div (s_var 3) s_int) s_nil)) (s_var 1)))))))
theorem ok__law_some (T : Txt K mg fa xc) : FnOk P w K mg base (L2.CX P w) 2 T.f__law_some T.d__law_some ["cup", "things"] (spF ⟨K, fa, xc, tT⟩ 2 D__law_some) :=
  fn_ok (P := P) (w := w) (mg := mg) (base := base) (t := ⟨K, fa, xc, tT⟩) T.F__law_some sc__law_some fun cdv A outer s H E hr => by
    have nd := sc__law_some.nd
    have hc : (cxOf (L2.CX P w) P w K mg base ["cup", "things"] "_law_some" (defScope s__law_some) T.f__law_some cdv A outer s H E).calm = true := rfl
    have hu := hr.units
    have hu65 := Y.room65 hr
    have hdi := Nat.lt_of_le_of_lt (Nat.add_le_add_left (by decide : 1 ≤ 64) _) hr.units
    have tk : Takes (cxOf (L2.CX P w) P w K mg base ["cup", "things"] "_law_some" (defScope s__law_some) T.f__law_some cdv A outer s H E) (fun cls d _ H => E cls d H) := takes_of rfl rfl rfl rfl
    have O : Okc (cxOf (L2.CX P w) P w K mg base ["cup", "things"] "_law_some" (defScope s__law_some) T.f__law_some cdv A outer s H E) ⟨K, fa, xc, tT⟩ (fun _ => E) := okc_def rfl
    exact (z_one (z_ret (s_ix ix_2 o_ix (s_var 1) (s_callK O (ok__law_roll T) (hr.mono (by decide)) (by rfl) T.g__law_roll T.F__law_roll.kp T.b__law_roll (s_cons (s_var 0) (s_cons (s_bltB call_len3 n_len (by rfl) T.z_len (by decide +kernel) (s_cons (s_var 1) s_nil)) s_nil))) (fun _ _ => rfl))))
theorem ok__law_same (T : Txt K mg fa xc) : ∀ n : Nat, FnOk P w K mg base (L2.CX P w) (0 + n) T.f__law_same T.d__law_same ["told", "due"] (spF ⟨K, fa, xc, tT⟩ 2 (D__law_same n))
  | 0 => fn_stk
  | n + 1 => by
    have ih := ok__law_same T n
    show FnOk P w K mg base (L2.CX P w) (0 + n + 1) T.f__law_same T.d__law_same ["told", "due"] (spF ⟨K, fa, xc, tT⟩ 2 (mkFn 3 2 (b__law_same (D__law_same n))))
    exact fn_ok (P := P) (w := w) (mg := mg) (base := base) (t := ⟨K, fa, xc, tT⟩) T.F__law_same sc__law_same fun cdv A outer s H E hr => by
      have nd := sc__law_same.nd
      have hc : (cxOf (L2.CX P w) P w K mg base ["told", "due", "at"] "_law_same" (defScope s__law_same) T.f__law_same cdv A outer s H E).calm = true := rfl
      have hu := hr.units
      have hu65 := Y.room65 hr
      have hdi := Nat.lt_of_le_of_lt (Nat.add_le_add_left (by decide : 1 ≤ 64) _) hr.units
      have tk : Takes (cxOf (L2.CX P w) P w K mg base ["told", "due", "at"] "_law_same" (defScope s__law_same) T.f__law_same cdv A outer s H E) (fun cls d _ H => E cls d H) := takes_of rfl rfl rfl rfl
      have O : Okc (cxOf (L2.CX P w) P w K mg base ["told", "due", "at"] "_law_same" (defScope s__law_same) T.f__law_same cdv A outer s H E) ⟨K, fa, xc, tT⟩ (fun _ => E) := okc_def rfl
      exact (z_cons (z_if (s_pw (s_or (s_tst (s_isI .tuple rfl (by rfl) T.z_isinstance (by decide +kernel) (by rfl) T.z_tuple (by decide +kernel) (s_var 1))) (s_or1 (s_tst (s_isI .list rfl (by rfl) T.z_isinstance (by decide +kernel) (by rfl) T.z_list (by decide +kernel) (s_var 1)))))) (z_cons (z_if (s_pw (s_or (s_tcmp (op_neD hu) o_ne (s_isI .tuple rfl (by rfl) T.z_isinstance (by decide +kernel) (by rfl) T.z_tuple (by decide +kernel) (s_var 0)) (s_isI .tuple rfl (by rfl) T.z_isinstance (by decide +kernel) (by rfl) T.z_tuple (by decide +kernel) (s_var 1)) (nomark _)) (s_or (s_tcmp (op_neD hu) o_ne (s_isI .list rfl (by rfl) T.z_isinstance (by decide +kernel) (by rfl) T.z_list (by decide +kernel) (s_var 0)) (s_isI .list rfl (by rfl) T.z_isinstance (by decide +kernel) (by rfl) T.z_list (by decide +kernel) (s_var 1)) (nomark _)) (s_or1 (s_tcmp (op_neD hu) o_ne (s_bltB call_len3 n_len (by rfl) T.z_len (by decide +kernel) (s_cons (s_var 0) s_nil)) (s_bltB call_len3 n_len (by rfl) T.z_len (by decide +kernel) (s_cons (s_var 1) s_nil)) (nomark _)))))) (z_one (z_ret s_bl)) z_nil)
        (z_one (z_ret (s_cmp (op_eqD hu) o_eq (s_lc (own := [("at", 2)]) rfl hc nd (i_rng1 (by rfl) T.z_range (s_bltB call_len3 n_len (by rfl) T.z_len (by decide +kernel) (s_cons (s_var 1) s_nil))) (blkOk_by (N := ["told", "due", "at"]) (sc := defScope s__law_same) (own := [("at", 2)]) (by decide +kernel)) (fun _ _ _ _ _ => (gw_name (i := 2) nd rfl (Or.inl rfl) (by decide))) (fun _ _ _ _ _ => (ts_one (s_tnot (s_tst (s_callK O.blk ih (hr.mono (by omega)) (by rfl) T.g__law_same T.F__law_same.kp T.b__law_same (s_cons (s_ix ix_2 o_ix (s_var 0) (s_var 2) (fun _ _ => rfl)) (s_cons (s_ix ix_2 o_ix (s_var 1) (s_var 2) (fun _ _ => rfl)) s_nil))))))) (fun _ _ _ _ _ => s_int)) (s_lst s_nil) (nomark _))))) z_nil)
        (z_cons (z_if (s_tisN (s_var 1)) (z_one (z_ret (s_isN (s_var 0)))) z_nil)
        (z_cons (z_if (s_tst (s_isI .bool rfl (by rfl) T.z_isinstance (by decide +kernel) (by rfl) T.z_bool (by decide +kernel) (s_var 1))) (z_one (z_ret (s_if (s_tst (s_var 1)) (s_isB (s_var 0) s_bl) (s_isB (s_var 0) s_bl)))) z_nil)
        (z_cons (z_if (s_tst (s_isI .int rfl (by rfl) T.z_isinstance (by decide +kernel) (by rfl) T.z_int (by decide +kernel) (s_var 1))) (z_one (z_ret (s_vand (s_isI .int rfl (by rfl) T.z_isinstance (by decide +kernel) (by rfl) T.z_int (by decide +kernel) (s_var 0)) (s_vand (s_vnot (s_isI .bool rfl (by rfl) T.z_isinstance (by decide +kernel) (by rfl) T.z_bool (by decide +kernel) (s_var 0))) (s_one (s_cmp (op_eqD hu) o_eq (s_bltT call_int1 n_int (by rfl) T.z_int (by decide +kernel) (s_cons (s_var 0) s_nil)) (s_var 1) (nomark _))))))) z_nil)
        (z_one (z_ret (s_vand (s_isI .str rfl (by rfl) T.z_isinstance (by decide +kernel) (by rfl) T.z_str (by decide +kernel) (s_var 0)) (s_one (s_cmp (op_eqD hu) o_eq (s_bltT call_str2 n_str (by rfl) T.z_str (by decide +kernel) (s_cons (s_var 0) s_nil)) (s_var 1) (nomark _))))))))))
theorem ok__law_figure (T : Txt K mg fa xc) : FnOk P w K mg base (L2.CX P w) 1 T.f__law_figure T.d__law_figure ["sides", "place"] (spF ⟨K, fa, xc, tT⟩ 2 D__law_figure) :=
  fn_ok (P := P) (w := w) (mg := mg) (base := base) (t := ⟨K, fa, xc, tT⟩) T.F__law_figure sc__law_figure fun cdv A outer s H E hr => by
    have nd := sc__law_figure.nd
    have hc : (cxOf (L2.CX P w) P w K mg base ["sides", "place", "total", "layer", "turn"] "_law_figure" (defScope s__law_figure) T.f__law_figure cdv A outer s H E).calm = true := rfl
    have hu := hr.units
    have hu65 := Y.room65 hr
    have hdi := Nat.lt_of_le_of_lt (Nat.add_le_add_left (by decide : 1 ≤ 64) _) hr.units
    have tk : Takes (cxOf (L2.CX P w) P w K mg base ["sides", "place", "total", "layer", "turn"] "_law_figure" (defScope s__law_figure) T.f__law_figure cdv A outer s H E) (fun cls d _ H => E cls d H) := takes_of rfl rfl rfl rfl
    have O : Okc (cxOf (L2.CX P w) P w K mg base ["sides", "place", "total", "layer", "turn"] "_law_figure" (defScope s__law_figure) T.f__law_figure cdv A outer s H E) ⟨K, fa, xc, tT⟩ (fun _ => E) := okc_def rfl
    exact (z_cons (z_asg (s_tup (s_cons s_int (s_cons s_int s_nil))) (g_tup rfl hc (gs_cons (g_name (i := 2) nd rfl (.inl rfl)) (gs_cons (g_name (i := 3) nd rfl (.inl rfl)) gs_nil)) ((len_gsC ((len_gsC (fun _ _ _ _ h => len_gsN h)))))))
      (z_cons (z_for pass_def hc rfl (i_rng1 (by rfl) T.z_range (s_var 1)) (g_name (i := 4) nd rfl (.inl rfl)) (z_one (z_par (i := 2) (j := 3) hc nd rfl rfl (by decide) rfl rfl (s_op op_add4 o_add (s_var 2) (s_var 3)) (s_op op_sub o_sub (s_op op_add4 o_add (s_var 3) (s_var 0)) s_int) (by rfl))))
      (z_one (z_ret (s_var 2)))))
theorem gv__law_error (T : Txt K mg fa xc) {X : Cx} {t : Tb} {cdv : Value} {q : Str} (h1 : X.K = K) (h2 : X.mg = mg) (h3 : t.K = K) (h4 : t.xc = xc) : LamX.GivesTo X ["call", "error"] "_law_error" (defScope s__law_error) T.f__law_error cdv (defBody s__law_error) "call" q (TTh t (errH wfE)) := by
  subst h1 h2
  refine gives_as (sg := defScope s__law_error) (i := 1) (n := "error") (ex := "NumberError") (CN := T.ne) h3.symm sc__law_error.nd rfl rfl (fun _ => rfl) rfl T.gne rfl (fun c fs C names hw hx => ?_) (fun s H b oe cls d pn hz hf => ?_)
  · unfold wfE at hw
    split at hw
    · rename_i hc
      rw [hc.1, h4, T.x_InvalidNumber.xc] at hx
      cases hx
      exact T.mne
    · exact absurd rfl hw
  · exact suite_is (i := 1) (n := "error") (cx := "InvalidNumber") (C := T.x_InvalidNumber.C) rfl (Or.inl rfl) rfl rfl rfl T.z_isinstance rfl T.x_InvalidNumber.g rfl T.ec (by rw [h4]; exact T.x_InvalidNumber.xc) hz hf
theorem ok__law_levels (T : Txt K mg fa xc) : FnOk P w K mg base (L2.CX P w) 2 T.f__law_levels T.d__law_levels ["sides", "most"] (spF ⟨K, fa, xc, tT⟩ 2 D__law_levels) :=
  fn_ok (P := P) (w := w) (mg := mg) (base := base) (t := ⟨K, fa, xc, tT⟩) T.F__law_levels sc__law_levels fun cdv A outer s H E hr => by
    have nd := sc__law_levels.nd
    have hc : (cxOf (L2.CX P w) P w K mg base ["sides", "most", "figures", "place", "found", "last", "many", "later", "here", "one"] "_law_levels" (defScope s__law_levels) T.f__law_levels cdv A outer s H E).calm = true := rfl
    have hu := hr.units
    have hu65 := Y.room65 hr
    have hdi := Nat.lt_of_le_of_lt (Nat.add_le_add_left (by decide : 1 ≤ 64) _) hr.units
    have tk : Takes (cxOf (L2.CX P w) P w K mg base ["sides", "most", "figures", "place", "found", "last", "many", "later", "here", "one"] "_law_levels" (defScope s__law_levels) T.f__law_levels cdv A outer s H E) (fun cls d _ H => E cls d H) := takes_of rfl rfl rfl rfl
    have O : Okc (cxOf (L2.CX P w) P w K mg base ["sides", "most", "figures", "place", "found", "last", "many", "later", "here", "one"] "_law_levels" (defScope s__law_levels) T.f__law_levels cdv A outer s H E) ⟨K, fa, xc, tT⟩ (fun _ => E) := okc_def rfl
    exact (z_cons (z_par (i := 2) (j := 3) hc nd rfl rfl (by decide) rfl rfl (s_lst s_nil) s_int (by rfl))
      (z_cons (z_while pass_def (s_tcmp op_le o_le (s_callK O (ok__law_figure T) (hr.mono (by decide)) (by rfl) T.g__law_figure T.F__law_figure.kp T.b__law_figure (s_cons (s_var 0) (s_cons (s_var 3) s_nil))) (s_var 1) (nomark _)) (z_cons (z_expr (s_me rfl PySem.F.plainAttrs_list PySem.F.slot_list_append PySem.F.type_list_append mt_append ck_L m_app (s_var 2) (s_cons (s_callK O (ok__law_figure T) (hr.mono (by decide)) (by rfl) T.g__law_figure T.F__law_figure.kp T.b__law_figure (s_cons (s_var 0) (s_cons (s_var 3) s_nil))) s_nil)))
      (z_one (z_set (i := 3) nd rfl (.inl rfl) (s_op op_add4 o_add (s_var 3) s_int)))))
      (z_cons (z_par3 (i := 4) (j := 5) (l := 6) hc nd rfl rfl rfl (by decide) (by decide) (by decide) rfl rfl rfl (s_disp1 (i := 0) (j := 0) pe_int pe_int (pps_cons pe_int pe_int pps_nil)) (s_lst (s_cons s_int s_nil)) s_int (by rfl))
      (z_cons (z_while pass_def (s_tcmp op_le o_le (s_bltB call_lenD n_lenD (by rfl) T.z_len (by decide +kernel) (s_cons (s_var 4) s_nil)) (s_var 1) (nomark _)) (z_cons (z_par (i := 7) (j := 6) hc nd rfl rfl (by decide) rfl rfl (s_lst s_nil) (s_op op_add4 o_add (s_var 6) s_int) (by rfl))
      (z_cons (z_for pass_def hc rfl (i_lst rfl (s_var 5)) (g_name (i := 8) nd rfl (.inl rfl)) (z_one (z_for pass_def hc rfl (i_lst rfl (s_var 2)) (g_name (i := 9) nd rfl (.inl rfl)) (z_one (z_if (s_pw (s_and (s_tcmp op_le o_le (s_op op_add4 o_add (s_var 8) (s_var 9)) (s_var 1) (nomark _)) (s_and1 (s_tdnotin hdi (s_op op_add4 o_add (s_var 8) (s_var 9)) (s_var 4) (by rfl))))) (z_cons (z_putD hdi (s_var 6) (s_var 4) (s_op op_add4 o_add (s_var 8) (s_var 9)))
      (z_one (z_expr (s_me rfl PySem.F.plainAttrs_list PySem.F.slot_list_append PySem.F.type_list_append mt_append ck_L m_app (s_var 7) (s_cons (s_op op_add4 o_add (s_var 8) (s_var 9)) s_nil))))) z_nil)))))
      (z_one (z_set (i := 5) nd rfl (.inl rfl) (s_var 7))))))
      (z_one (z_ret (s_var 4)))))))
theorem tb1_ok (T : Txt K mg fa xc) {n : Nat} {A : Around} (hr : Room n A) (hn : 3 ≤ n) : ∀ j g, tb1 j = some g → ∃ f fd ps l, fa j = some f ∧ FnOk P w K mg base (L2.CX P w) l f fd ps (spF ⟨K, fa, xc, tT⟩ 1 g) ∧ Room l A ∧ PySem.W.keepIn K (.ref f) = true ∧ Binds K fd ps [] := by
  intro j g h
  unfold tb1 at h
  split at h
  · cases h
    exact ⟨_, _, _, _, T.n_rows_with, ok_rows_with T, hr.mono (by omega), T.F_rows_with.kp, T.b_rows_with⟩
  · cases h
    exact ⟨_, _, _, _, T.n_count_rows, ok_count_rows T, hr.mono (by omega), T.F_count_rows.kp, T.b_count_rows⟩
  · cases h
    exact ⟨_, _, _, _, T.n_pentagon_signs, ok_pentagon_signs T, hr.mono (by omega), T.F_pentagon_signs.kp, T.b_pentagon_signs⟩
  · cases h
    exact ⟨_, _, _, _, T.n_ways_to_part, ok_ways_to_part T, hr.mono (by omega), T.F_ways_to_part.kp, T.b_ways_to_part⟩
  · cases h
    exact ⟨_, _, _, _, T.n_divisor_sum, ok_divisor_sum T, hr.mono (by omega), T.F_divisor_sum.kp, T.b_divisor_sum⟩
  · cases h
theorem tb2_ok (T : Txt K mg fa xc) {n : Nat} {A : Around} (hr : Room n A) (hn : 4 ≤ n) : ∀ j g, tb2 j = some g → ∃ f fd ps l, fa j = some f ∧ FnOk P w K mg base (L2.CX P w) l f fd ps (spF ⟨K, fa, xc, tT⟩ 2 g) ∧ Room l A ∧ PySem.W.keepIn K (.ref f) = true ∧ Binds K fd ps [] := by
  intro j g h
  unfold tb2 at h
  split at h
  · cases h
    exact ⟨_, _, _, _, T.n_figure, ok_figure T, hr.mono (by omega), T.F_figure.kp, T.b_figure⟩
  · cases h
    exact ⟨_, _, _, _, T.n_place_of, ok_place_of T, hr.mono (by omega), T.F_place_of.kp, T.b_place_of⟩
  · cases h
    exact ⟨_, _, _, _, T.n_central, ok_central T, hr.mono (by omega), T.F_central.kp, T.b_central⟩
  · cases h
    exact ⟨_, _, _, _, T.n_central_place, ok_central_place T, hr.mono (by omega), T.F_central_place.kp, T.b_central_place⟩
  · cases h
    exact ⟨_, _, _, _, T.n_fewest_figures, ok_fewest_figures T, hr.mono (by omega), T.F_fewest_figures.kp, T.b_fewest_figures⟩
  · cases h
    exact ⟨_, _, _, _, T.n_pyramid, ok_pyramid T, hr.mono (by omega), T.F_pyramid.kp, T.b_pyramid⟩
  · cases h
theorem ok_law (T : Txt K mg fa xc) (TB : LamX.TabB base mg T.cc T.PP) (hT1 : (T.PP, ("law.<locals>.<lambda>" : Str)) ∈ tT) (hT2 : ∀ p ∈ tT, p.1 = T.PP → p.2 = ("law.<locals>.<lambda>" : Str)) : FnOk P w K mg base (L2.CX P w) 12 T.f_law T.d_law ["script"] (spF ⟨K, fa, xc, tT⟩ 1 D_law) :=
  fn_okL (P := P) (w := w) (mg := mg) (base := base) (t := ⟨K, fa, xc, tT⟩) T.L_law sc_law fun A outer s H E hr => by
    have nd := sc_law.nd
    have hc : (cxOf (L2.CX P w) P w K mg base ["script", "cup", "turn", "sides", "most", "fewest", "number", "told", "odd", "words", "bad", "call"] "law" (defScope s_law) T.f_law (.ref T.cc) A outer s H E).calm = true := rfl
    have hu := hr.units
    have hu65 := Y.room65 hr
    have hdi := Nat.lt_of_le_of_lt (Nat.add_le_add_left (by decide : 1 ≤ 64) _) hr.units
    have tk : Takes (cxOf (L2.CX P w) P w K mg base ["script", "cup", "turn", "sides", "most", "fewest", "number", "told", "odd", "words", "bad", "call"] "law" (defScope s_law) T.f_law (.ref T.cc) A outer s H E) (fun cls d _ H => E cls d H) := takes_of rfl rfl rfl rfl
    have O : Okc (cxOf (L2.CX P w) P w K mg base ["script", "cup", "turn", "sides", "most", "fewest", "number", "told", "odd", "words", "bad", "call"] "law" (defScope s_law) T.f_law (.ref T.cc) A outer s H E) ⟨K, fa, xc, tT⟩ (fun _ => E) := okc_def rfl
    exact (z_cons (z_set (i := 1) nd rfl (.inl rfl) (s_callK O (ok__law_cup T) (hr.mono (by decide)) (by rfl) T.g__law_cup T.F__law_cup.kp T.b__law_cup (s_cons (s_var 0) s_nil)))
      (z_cons (z_for pass_def hc rfl (i_rng1 (by rfl) T.z_range s_int) (g_name (i := 2) nd rfl (.inl rfl)) (z_cons (z_par (i := 3) (j := 4) hc nd rfl rfl (by decide) rfl rfl (s_op op_add4 o_add s_int (s_callK O (ok__law_roll T) (hr.mono (by decide)) (by rfl) T.g__law_roll T.F__law_roll.kp T.b__law_roll (s_cons (s_var 1) (s_cons (s_callK O (ok__law_some T) (hr.mono (by decide)) (by rfl) T.g__law_some T.F__law_some.kp T.b__law_some (s_cons (s_var 1) (s_cons (s_lst (s_cons s_int (s_cons s_int s_nil))) s_nil))) s_nil)))) (s_op op_add4 o_add s_int (s_callK O (ok__law_roll T) (hr.mono (by decide)) (by rfl) T.g__law_roll T.F__law_roll.kp T.b__law_roll (s_cons (s_var 1) (s_cons s_int s_nil)))) (by rfl))
      (z_cons (z_set (i := 5) nd rfl (.inl rfl) (s_callK O (ok__law_levels T) (hr.mono (by decide)) (by rfl) T.g__law_levels T.F__law_levels.kp T.b__law_levels (s_cons (s_var 3) (s_cons (s_var 4) s_nil))))
      (z_cons (z_if (s_tcmp op_gt o_gt (s_bltB (cr_max hc) n_maxL (by rfl) T.z_max (by decide +kernel) (s_cons (s_listVals hc (s_var 5) (by rfl) T.z_list) s_nil)) (s_var 3) (nomark _)) (z_one (z_ret s_bl)) z_nil)
      (z_one (z_for pass_def hc rfl (i_tup rfl (s_tup (s_cons s_int (s_cons (s_var 4) (s_cons (s_op op_add4 o_add s_int (s_callK O (ok__law_roll T) (hr.mono (by decide)) (by rfl) T.g__law_roll T.F__law_roll.kp T.b__law_roll (s_cons (s_var 1) (s_cons (s_var 4) s_nil)))) (s_cons (s_op op_add4 o_add s_int (s_callK O (ok__law_roll T) (hr.mono (by decide)) (by rfl) T.g__law_roll T.F__law_roll.kp T.b__law_roll (s_cons (s_var 1) (s_cons (s_var 4) s_nil)))) (s_cons (s_bltB (call_min2 hc) n_min2 (by rfl) T.z_min (by decide +kernel) (s_cons (s_var 4) (s_cons (s_op op_sub o_sub (s_op op_mul2 o_mul s_int (s_var 3)) s_int) s_nil))) s_nil))))))) (g_name (i := 6) nd rfl (.inl rfl)) (z_one (z_if (s_tnot (s_tst (s_callK O (ok__law_same T 10) (hr.mono (by decide)) (by rfl) T.g__law_same T.F__law_same.kp T.b__law_same (s_cons (s_callK O (ok_fewest_figures T) (hr.mono (by decide)) (by rfl) T.g_fewest_figures T.F_fewest_figures.kp T.b_fewest_figures (s_cons (s_var 3) (s_cons (s_var 6) s_nil))) (s_cons (s_dix hdi (s_var 5) (s_var 6) (fun _ _ => rfl)) s_nil))))) (z_one (z_ret s_bl)) z_nil))))))))
      (z_cons (z_set (i := 7) nd rfl (.inl rfl) (s_op op_add4 o_add (s_lc (own := [("number", 6)]) rfl hc nd (i_tup rfl (s_tup (s_cons s_int (s_cons s_int (s_cons s_int (s_cons s_int s_nil)))))) (blkOk_by (N := ["script", "cup", "turn", "sides", "most", "fewest", "number", "told", "odd", "words", "bad", "call"]) (sc := defScope s_law) (own := [("number", 6)]) (by decide +kernel)) (fun _ _ _ _ _ => (gw_name (i := 6) nd rfl (Or.inl rfl) (by decide))) (fun _ _ _ _ _ => ts_nil) (fun _ _ _ _ _ => (s_callK O.blk (ok_fewest_figures T) (hr.mono (by decide)) (by rfl) T.g_fewest_figures T.F_fewest_figures.kp T.b_fewest_figures (s_cons s_int (s_cons (s_var 6) s_nil))))) (s_lst (s_cons (s_callK O (ok_fewest_figures T) (hr.mono (by decide)) (by rfl) T.g_fewest_figures T.F_fewest_figures.kp T.b_fewest_figures (s_cons s_int (s_cons s_int s_nil))) (s_cons (s_callK O (ok_fewest_figures T) (hr.mono (by decide)) (by rfl) T.g_fewest_figures T.F_fewest_figures.kp T.b_fewest_figures (s_cons s_int (s_cons s_int s_nil))) s_nil)))))
      (z_cons (z_if (s_tnot (s_tst (s_callK O (ok__law_same T 10) (hr.mono (by decide)) (by rfl) T.g__law_same T.F__law_same.kp T.b__law_same (s_cons (s_var 7) (s_cons (s_lst (s_cons s_int (s_cons s_int (s_cons s_int (s_cons s_int (s_cons s_int (s_cons s_int s_nil))))))) s_nil))))) (z_one (z_ret s_bl)) z_nil)
      (z_cons (z_asg (s_tup (s_cons (s_call O (ok__law_some T) (hr.mono (by decide)) (by rfl) T.g__law_some T.F__law_some.kp T.b__law_some (s_cons (s_var 1) (s_cons (s_lst (s_cons s_non (s_cons s_str (s_cons (s_lst s_nil) (s_cons s_str (s_cons (s_tup (s_cons s_non s_nil)) s_nil)))))) s_nil))) (s_cons (s_lst s_nil) s_nil))) (g_tup rfl hc (gs_cons (g_name (i := 8) nd rfl (.inr rfl)) (gs_cons (g_name (i := 9) nd rfl (.inl rfl)) gs_nil)) ((len_gsC ((len_gsC (fun _ _ _ _ h => len_gsN h)))))))
      (z_cons (z_for pass_def hc rfl (i_tup rfl (s_tup (s_cons s_non (s_cons s_int (s_cons s_int (s_cons s_bl (s_cons s_str (s_cons (s_tup (s_cons s_int s_nil)) s_nil)))))))) (g_name (i := 10) nd rfl (.inr rfl)) (z_one (z_set (i := 9) nd rfl (.inl rfl) (s_op op_add4 o_add (s_var 9) (s_lc (own := [("call", 11)]) rfl hc nd (i_tup rfl (s_tup (s_cons (s_fn (by rfl) T.g_figure T.n_figure) (s_cons (s_fn (by rfl) T.g_place_of T.n_place_of) (s_cons (s_fn (by rfl) T.g_pyramid T.n_pyramid) (s_cons (s_fn (by rfl) T.g_central T.n_central) (s_cons (s_fn (by rfl) T.g_central_place T.n_central_place) (s_cons (s_fn (by rfl) T.g_fewest_figures T.n_fewest_figures) s_nil)))))))) (blkOk_by (N := ["script", "cup", "turn", "sides", "most", "fewest", "number", "told", "odd", "words", "bad", "call"]) (sc := defScope s_law) (own := [("call", 11)]) (by decide +kernel)) (fun _ _ _ _ _ => (gw_name (i := 11) nd rfl (Or.inr rfl) (by decide))) (fun _ _ _ _ _ => ts_nil) (fun _ _ _ _ _ => (s_lam (k := 9) (Ng := ["call", "error"]) (errH_no _) (by rfl) T.g__law_error T.F__law_error T.b__law_error sc__law_error rfl (Or.inl rfl) (fun cdv => gv__law_error T rfl rfl rfl rfl) TB rfl hT1 hT2 (hr.mono (by decide)) (LamX.lamS_by rfl) rfl (fun _ _ _ _ _ => rfl) (fun A outer s H E f c hr => by
          have hu := hr.units
          have hu65 := Y.room65 hr
          exact (s_callV (okc_lam rfl) (tb2_ok T hr (by decide)) (by rfl) (by first | exact Or.inl rfl | exact Or.inr (Or.inl rfl) | exact Or.inr (Or.inr rfl)) (s_cons (s_var 10) (s_cons (s_var 8) s_nil)))))))))))
      (z_cons (z_for pass_def hc rfl (i_tup rfl (s_tup (s_cons s_non (s_cons (s_un un_neg o_neg s_int) (s_cons s_int (s_cons s_bl (s_cons s_str (s_cons (s_tup (s_cons s_int s_nil)) s_nil)))))))) (g_name (i := 10) nd rfl (.inr rfl)) (z_cons (z_set (i := 9) nd rfl (.inl rfl) (s_op op_add4 o_add (s_var 9) (s_lc (own := [("call", 11)]) rfl hc nd (i_tup rfl (s_tup (s_cons (s_fn (by rfl) T.g_figure T.n_figure) (s_cons (s_fn (by rfl) T.g_pyramid T.n_pyramid) (s_cons (s_fn (by rfl) T.g_central T.n_central) s_nil))))) (blkOk_by (N := ["script", "cup", "turn", "sides", "most", "fewest", "number", "told", "odd", "words", "bad", "call"]) (sc := defScope s_law) (own := [("call", 11)]) (by decide +kernel)) (fun _ _ _ _ _ => (gw_name (i := 11) nd rfl (Or.inr rfl) (by decide))) (fun _ _ _ _ _ => ts_nil) (fun _ _ _ _ _ => (s_lam (k := 9) (Ng := ["call", "error"]) (errH_no _) (by rfl) T.g__law_error T.F__law_error T.b__law_error sc__law_error rfl (Or.inl rfl) (fun cdv => gv__law_error T rfl rfl rfl rfl) TB rfl hT1 hT2 (hr.mono (by decide)) (LamX.lamS_by rfl) rfl (fun _ _ _ _ _ => rfl) (fun A outer s H E f c hr => by
          have hu := hr.units
          have hu65 := Y.room65 hr
          exact (s_callV (okc_lam rfl) (tb2_ok T hr (by decide)) (by rfl) (by first | exact Or.inl rfl | exact Or.inr (Or.inl rfl) | exact Or.inr (Or.inr rfl)) (s_cons s_int (s_cons (s_var 10) s_nil)))))))))
      (z_one (z_expr (s_me rfl PySem.F.plainAttrs_list PySem.F.slot_list_append PySem.F.type_list_append mt_append ck_L m_app (s_var 9) (s_cons (s_lam (k := 9) (Ng := ["call", "error"]) (errH_no _) (by rfl) T.g__law_error T.F__law_error T.b__law_error sc__law_error rfl (Or.inl rfl) (fun cdv => gv__law_error T rfl rfl rfl rfl) TB rfl hT1 hT2 (hr.mono (by decide)) (LamX.lamS_by rfl) rfl (fun _ _ _ _ _ => rfl) (fun A outer s H E f c hr => by
          have hu := hr.units
          have hu65 := Y.room65 hr
          exact (s_callK (okc_lam rfl) (ok_ways_to_part T) (hr.mono (by decide)) (by rfl) T.g_ways_to_part T.F_ways_to_part.kp T.b_ways_to_part (s_cons (s_if (s_tcmp (op_eqD hu) o_eq (s_var 10) s_int (nomark _)) s_int (s_var 10)) s_nil)))) s_nil))))))
      (z_cons (z_for pass_def hc rfl (i_tup rfl (s_tup (s_cons s_non (s_cons s_int (s_cons (s_op op_add4 o_add (s_op op_pow o_pow s_int s_int) s_int) (s_cons s_bl (s_cons s_str (s_cons (s_tup (s_cons s_int s_nil)) s_nil)))))))) (g_name (i := 10) nd rfl (.inr rfl)) (z_cons (z_set (i := 9) nd rfl (.inl rfl) (s_op op_add4 o_add (s_var 9) (s_lc (own := [("call", 11)]) rfl hc nd (i_tup rfl (s_tup (s_cons (s_fn (by rfl) T.g_place_of T.n_place_of) (s_cons (s_fn (by rfl) T.g_central_place T.n_central_place) s_nil)))) (blkOk_by (N := ["script", "cup", "turn", "sides", "most", "fewest", "number", "told", "odd", "words", "bad", "call"]) (sc := defScope s_law) (own := [("call", 11)]) (by decide +kernel)) (fun _ _ _ _ _ => (gw_name (i := 11) nd rfl (Or.inr rfl) (by decide))) (fun _ _ _ _ _ => ts_nil) (fun _ _ _ _ _ => (s_lam (k := 9) (Ng := ["call", "error"]) (errH_no _) (by rfl) T.g__law_error T.F__law_error T.b__law_error sc__law_error rfl (Or.inl rfl) (fun cdv => gv__law_error T rfl rfl rfl rfl) TB rfl hT1 hT2 (hr.mono (by decide)) (LamX.lamS_by rfl) rfl (fun _ _ _ _ _ => rfl) (fun A outer s H E f c hr => by
          have hu := hr.units
          have hu65 := Y.room65 hr
          exact (s_callV (okc_lam rfl) (tb2_ok T hr (by decide)) (by rfl) (by first | exact Or.inl rfl | exact Or.inr (Or.inl rfl) | exact Or.inr (Or.inr rfl)) (s_cons s_int (s_cons (s_var 10) s_nil)))))))))
      (z_cons (z_expr (s_me rfl PySem.F.plainAttrs_list PySem.F.slot_list_append PySem.F.type_list_append mt_append ck_L m_app (s_var 9) (s_cons (s_lam (k := 9) (Ng := ["call", "error"]) (errH_no _) (by rfl) T.g__law_error T.F__law_error T.b__law_error sc__law_error rfl (Or.inl rfl) (fun cdv => gv__law_error T rfl rfl rfl rfl) TB rfl hT1 hT2 (hr.mono (by decide)) (LamX.lamS_by rfl) rfl (fun _ _ _ _ _ => rfl) (fun A outer s H E f c hr => by
          have hu := hr.units
          have hu65 := Y.room65 hr
          exact (s_callK (okc_lam rfl) (ok_kinds_of T) (hr.mono (by decide)) (by rfl) T.g_kinds_of T.F_kinds_of.kp T.b_kinds_of (s_cons (s_var 10) s_nil)))) s_nil)))
      (z_one (z_expr (s_me rfl PySem.F.plainAttrs_list PySem.F.slot_list_append PySem.F.type_list_append mt_append ck_L m_app (s_var 9) (s_cons (s_lam (k := 9) (Ng := ["call", "error"]) (errH_no _) (by rfl) T.g__law_error T.F__law_error T.b__law_error sc__law_error rfl (Or.inl rfl) (fun cdv => gv__law_error T rfl rfl rfl rfl) TB rfl hT1 hT2 (hr.mono (by decide)) (LamX.lamS_by rfl) rfl (fun _ _ _ _ _ => rfl) (fun A outer s H E f c hr => by
          have hu := hr.units
          have hu65 := Y.room65 hr
          exact (s_callK (okc_lam rfl) (ok_is_row_of T) (hr.mono (by decide)) (by rfl) T.g_is_row_of T.F_is_row_of.kp T.b_is_row_of (s_cons (s_var 10) (s_cons (s_var 8) s_nil))))) s_nil)))))))
      (z_cons (z_for pass_def hc rfl (i_tup rfl (s_tup (s_cons s_non (s_cons s_int (s_cons s_int (s_cons s_bl (s_cons s_str (s_cons (s_tup (s_cons s_int s_nil)) s_nil)))))))) (g_name (i := 10) nd rfl (.inr rfl)) (z_cons (z_set (i := 9) nd rfl (.inl rfl) (s_op op_add4 o_add (s_var 9) (s_lc (own := [("call", 11)]) rfl hc nd (i_tup rfl (s_tup (s_cons (s_fn (by rfl) T.g_rows_with T.n_rows_with) (s_cons (s_fn (by rfl) T.g_count_rows T.n_count_rows) (s_cons (s_fn (by rfl) T.g_pentagon_signs T.n_pentagon_signs) s_nil))))) (blkOk_by (N := ["script", "cup", "turn", "sides", "most", "fewest", "number", "told", "odd", "words", "bad", "call"]) (sc := defScope s_law) (own := [("call", 11)]) (by decide +kernel)) (fun _ _ _ _ _ => (gw_name (i := 11) nd rfl (Or.inr rfl) (by decide))) (fun _ _ _ _ _ => ts_nil) (fun _ _ _ _ _ => (s_lam (k := 9) (Ng := ["call", "error"]) (errH_no _) (by rfl) T.g__law_error T.F__law_error T.b__law_error sc__law_error rfl (Or.inl rfl) (fun cdv => gv__law_error T rfl rfl rfl rfl) TB rfl hT1 hT2 (hr.mono (by decide)) (LamX.lamS_by rfl) rfl (fun _ _ _ _ _ => rfl) (fun A outer s H E f c hr => by
          have hu := hr.units
          have hu65 := Y.room65 hr
          exact (s_callV (okc_lam rfl) (tb1_ok T hr (by decide)) (by rfl) (by first | exact Or.inl rfl | exact Or.inr (Or.inl rfl) | exact Or.inr (Or.inr rfl)) (s_cons (s_var 10) s_nil))))))))
      (z_cons (z_expr (s_me rfl PySem.F.plainAttrs_list PySem.F.slot_list_append PySem.F.type_list_append mt_append ck_L m_app (s_var 9) (s_cons (s_lam (k := 9) (Ng := ["call", "error"]) (errH_no _) (by rfl) T.g__law_error T.F__law_error T.b__law_error sc__law_error rfl (Or.inl rfl) (fun cdv => gv__law_error T rfl rfl rfl rfl) TB rfl hT1 hT2 (hr.mono (by decide)) (LamX.lamS_by rfl) rfl (fun _ _ _ _ _ => rfl) (fun A outer s H E f c hr => by
          have hu := hr.units
          have hu65 := Y.room65 hr
          exact (s_callK (okc_lam rfl) (ok_divisor_sum T) (hr.mono (by decide)) (by rfl) T.g_divisor_sum T.F_divisor_sum.kp T.b_divisor_sum (s_cons (s_if (s_tcmp (op_eqD hu) o_eq (s_var 10) s_int (nomark _)) s_int (s_var 10)) s_nil)))) s_nil)))
      (z_one (z_expr (s_me rfl PySem.F.plainAttrs_list PySem.F.slot_list_append PySem.F.type_list_append mt_append ck_L m_app (s_var 9) (s_cons (s_lam (k := 9) (Ng := ["call", "error"]) (errH_no _) (by rfl) T.g__law_error T.F__law_error T.b__law_error sc__law_error rfl (Or.inl rfl) (fun cdv => gv__law_error T rfl rfl rfl rfl) TB rfl hT1 hT2 (hr.mono (by decide)) (LamX.lamS_by rfl) rfl (fun _ _ _ _ _ => rfl) (fun A outer s H E f c hr => by
          have hu := hr.units
          have hu65 := Y.room65 hr
          exact (s_callK (okc_lam rfl) (ok_fewest_figures T) (hr.mono (by decide)) (by rfl) T.g_fewest_figures T.F_fewest_figures.kp T.b_fewest_figures (s_cons s_int (s_cons (s_if (s_tcmp (op_eqD hu) o_eq (s_var 10) s_int (nomark _)) s_int (s_var 10)) s_nil))))) s_nil)))))))
      (z_cons (z_expr (s_me rfl PySem.F.plainAttrs_list PySem.F.slot_list_append PySem.F.type_list_append mt_append ck_L m_app (s_var 9) (s_cons (s_lam (k := 9) (Ng := ["call", "error"]) (errH_no _) (by rfl) T.g__law_error T.F__law_error T.b__law_error sc__law_error rfl (Or.inl rfl) (fun cdv => gv__law_error T rfl rfl rfl rfl) TB rfl hT1 hT2 (hr.mono (by decide)) (LamX.lamS_by rfl) rfl (fun _ _ _ _ _ => rfl) (fun A outer s H E f c hr => by
          have hu := hr.units
          have hu65 := Y.room65 hr
          exact (s_callK (okc_lam rfl) (ok_central T) (hr.mono (by decide)) (by rfl) T.g_central T.F_central.kp T.b_central (s_cons s_int (s_cons s_int s_nil))))) s_nil)))
      (z_cons (z_if (s_tcmp (op_neD hu) o_ne (s_var 9) (s_op op_mul2 o_mul (s_lst (s_cons s_str s_nil)) (s_op op_add4 o_add (s_op op_add4 o_add (s_op op_add4 o_add (s_op op_add4 o_add s_int s_int) s_int) s_int) s_int)) (nomark _)) (z_one (z_ret s_bl)) z_nil)
      (z_cons (z_setLc (i := 9) (own := [("call", 11)]) rfl hc nd rfl rfl (sw_true rfl rfl rfl (by decide +kernel)) (i_tup rfl (s_tup (s_cons (s_fn (by rfl) T.g_figure T.n_figure) (s_cons (s_fn (by rfl) T.g_pyramid T.n_pyramid) (s_cons (s_fn (by rfl) T.g_central T.n_central) s_nil))))) (blkOk_by (N := ["script", "cup", "turn", "sides", "most", "fewest", "number", "told", "odd", "words", "bad", "call"]) (sc := defScope s_law) (own := [("call", 11)]) (by decide +kernel)) (fun _ _ _ _ _ => (gw_name (i := 11) nd rfl (Or.inr rfl) (by decide))) (fun _ _ _ _ _ => ts_nil) (fun _ _ _ _ _ => (s_lam (k := 9) (Ng := ["call", "error"]) (errH_no _) (by rfl) T.g__law_error T.F__law_error T.b__law_error sc__law_error rfl (Or.inl rfl) (fun cdv => gv__law_error T rfl rfl rfl rfl) TB rfl hT1 hT2 (hr.mono (by decide)) (LamX.lamS_by rfl) rfl (fun _ _ _ _ _ => rfl) (fun A outer s H E f c hr => by
          have hu := hr.units
          have hu65 := Y.room65 hr
          exact (s_callV (okc_lam rfl) (tb2_ok T hr (by decide)) (by rfl) (by first | exact Or.inl rfl | exact Or.inr (Or.inl rfl) | exact Or.inr (Or.inr rfl)) (s_cons s_int (s_cons s_int s_nil)))))))
      (z_cons (z_set (i := 9) nd rfl (.inl rfl) (s_op op_add4 o_add (s_var 9) (s_lc (own := [("call", 11)]) rfl hc nd (i_tup rfl (s_tup (s_cons (s_fn (by rfl) T.g_place_of T.n_place_of) (s_cons (s_fn (by rfl) T.g_central_place T.n_central_place) s_nil)))) (blkOk_by (N := ["script", "cup", "turn", "sides", "most", "fewest", "number", "told", "odd", "words", "bad", "call"]) (sc := defScope s_law) (own := [("call", 11)]) (by decide +kernel)) (fun _ _ _ _ _ => (gw_name (i := 11) nd rfl (Or.inr rfl) (by decide))) (fun _ _ _ _ _ => ts_nil) (fun _ _ _ _ _ => (s_lam (k := 9) (Ng := ["call", "error"]) (errH_no _) (by rfl) T.g__law_error T.F__law_error T.b__law_error sc__law_error rfl (Or.inl rfl) (fun cdv => gv__law_error T rfl rfl rfl rfl) TB rfl hT1 hT2 (hr.mono (by decide)) (LamX.lamS_by rfl) rfl (fun _ _ _ _ _ => rfl) (fun A outer s H E f c hr => by
          have hu := hr.units
          have hu65 := Y.room65 hr
          exact (s_callV (okc_lam rfl) (tb2_ok T hr (by decide)) (by rfl) (by first | exact Or.inl rfl | exact Or.inr (Or.inl rfl) | exact Or.inr (Or.inr rfl)) (s_cons s_int (s_cons (s_op op_pow o_pow s_int s_int) s_nil)))))))))
      (z_cons (z_set (i := 9) nd rfl (.inl rfl) (s_op op_add4 o_add (s_var 9) (s_lc (own := [("call", 11)]) rfl hc nd (i_tup rfl (s_tup (s_cons (s_fn (by rfl) T.g_rows_with T.n_rows_with) (s_cons (s_fn (by rfl) T.g_count_rows T.n_count_rows) (s_cons (s_fn (by rfl) T.g_pentagon_signs T.n_pentagon_signs) s_nil))))) (blkOk_by (N := ["script", "cup", "turn", "sides", "most", "fewest", "number", "told", "odd", "words", "bad", "call"]) (sc := defScope s_law) (own := [("call", 11)]) (by decide +kernel)) (fun _ _ _ _ _ => (gw_name (i := 11) nd rfl (Or.inr rfl) (by decide))) (fun _ _ _ _ _ => ts_nil) (fun _ _ _ _ _ => (s_lam (k := 9) (Ng := ["call", "error"]) (errH_no _) (by rfl) T.g__law_error T.F__law_error T.b__law_error sc__law_error rfl (Or.inl rfl) (fun cdv => gv__law_error T rfl rfl rfl rfl) TB rfl hT1 hT2 (hr.mono (by decide)) (LamX.lamS_by rfl) rfl (fun _ _ _ _ _ => rfl) (fun A outer s H E f c hr => by
          have hu := hr.units
          have hu65 := Y.room65 hr
          exact (s_callV (okc_lam rfl) (tb1_ok T hr (by decide)) (by rfl) (by first | exact Or.inl rfl | exact Or.inr (Or.inl rfl) | exact Or.inr (Or.inr rfl)) (s_cons s_int s_nil))))))))
      (z_one (z_ret (s_cmp (op_eqD hu) o_eq (s_op op_add4 o_add (s_var 9) (s_lc (own := [("call", 11)]) rfl hc nd (i_tup rfl (s_tup (s_cons (s_fn (by rfl) T.g_ways_to_part T.n_ways_to_part) (s_cons (s_fn (by rfl) T.g_divisor_sum T.n_divisor_sum) s_nil)))) (blkOk_by (N := ["script", "cup", "turn", "sides", "most", "fewest", "number", "told", "odd", "words", "bad", "call"]) (sc := defScope s_law) (own := [("call", 11)]) (by decide +kernel)) (fun _ _ _ _ _ => (gw_name (i := 11) nd rfl (Or.inr rfl) (by decide))) (fun _ _ _ _ _ => ts_nil) (fun _ _ _ _ _ => (s_lam (k := 9) (Ng := ["call", "error"]) (errH_no _) (by rfl) T.g__law_error T.F__law_error T.b__law_error sc__law_error rfl (Or.inl rfl) (fun cdv => gv__law_error T rfl rfl rfl rfl) TB rfl hT1 hT2 (hr.mono (by decide)) (LamX.lamS_by rfl) rfl (fun _ _ _ _ _ => rfl) (fun A outer s H E f c hr => by
          have hu := hr.units
          have hu65 := Y.room65 hr
          exact (s_callV (okc_lam rfl) (tb1_ok T hr (by decide)) (by rfl) (by first | exact Or.inl rfl | exact Or.inr (Or.inl rfl) | exact Or.inr (Or.inr rfl)) (s_cons s_int s_nil))))))) (s_op op_mul2 o_mul (s_lst (s_cons s_str s_nil)) s_int) (nomark _))))))))))))))))))
end
end K94

open PySem PySem.W PyProof.Rows
set_option maxHeartbeats 0 in
theorem PySem.Challenge.cw_wholeyard_k94_whole_fewest_figures_and_e_holds : PySem.Challenge.rw_wholeyard_k94_whole_fewest_figures_and_e.Holds := by
  w_on; o_law; k_head; (case hw => w_witness2)
  k_fill
  refine Y.walk_y1 (l := PySem.Challenge.rw_wholeyard_k94_whole_fewest_figures_and_e) (n := 63) (k := 12) (x := "script") (f := K94.D_law) rfl (by decide) rfl ⟨rfl, by decide, by decide⟩ (fun w h Y => PySem.W.km_in_of Y) (fun w h Y => PySem.W.km_tabs_of Y _ (List.mem_singleton_self _)) ?F K94.law_true
  case F =>
    intro w mg fa h KX G LX hmg
    obtain ⟨f0, d0, F0, g0, b0, y0⟩ := Y.mkF (x := "fits_whole") (st := K94.s_fits_whole) (ps := ["value", "low", "high"]) KX G (by k_is) (by k_is) (by k_is) (by k_is) (fun _ _ _ _ _ _ us hl => match us, hl with | [_, _, _], _ => rfl)
    obtain ⟨f1, d1, F1, g1, b1, y1⟩ := Y.mkF (x := "is_tuple_of") (st := K94.s_is_tuple_of) (ps := ["value", "least", "most"]) KX G (by k_is) (by k_is) (by k_is) (by k_is) (fun _ _ _ _ _ _ us hl => match us, hl with | [_, _, _], _ => rfl)
    obtain ⟨f2, d2, F2, g2, b2, y2⟩ := Y.mkF (x := "need_whole") (st := K94.s_need_whole) (ps := ["value", "low", "high"]) KX G (by k_is) (by k_is) (by k_is) (by k_is) (fun _ _ _ _ _ _ us hl => match us, hl with | [_, _, _], _ => rfl)
    obtain ⟨f3, d3, F3, g3, b3, y3⟩ := Y.mkF (x := "factors_in") (st := K94.s_factors_in) (ps := ["number"]) KX G (by k_is) (by k_is) (by k_is) (by k_is) (fun _ _ _ _ _ _ us hl => match us, hl with | [_], _ => rfl)
    obtain ⟨f4, d4, F4, g4, b4, y4⟩ := Y.mkF (x := "root_in") (st := K94.s_root_in) (ps := ["number"]) KX G (by k_is) (by k_is) (by k_is) (by k_is) (fun _ _ _ _ _ _ us hl => match us, hl with | [_], _ => rfl)
    obtain ⟨f5, d5, F5, g5, b5, y5⟩ := Y.mkF (x := "figure_in") (st := K94.s_figure_in) (ps := ["sides", "place"]) KX G (by k_is) (by k_is) (by k_is) (by k_is) (fun _ _ _ _ _ _ us hl => match us, hl with | [_, _], _ => rfl)
    obtain ⟨f6, d6, F6, g6, b6, y6⟩ := Y.mkF (x := "place_in") (st := K94.s_place_in) (ps := ["sides", "number"]) KX G (by k_is) (by k_is) (by k_is) (by k_is) (fun _ _ _ _ _ _ us hl => match us, hl with | [_, _], _ => rfl)
    obtain ⟨f7, d7, F7, g7, b7, y7⟩ := Y.mkF (x := "central_in") (st := K94.s_central_in) (ps := ["sides", "place"]) KX G (by k_is) (by k_is) (by k_is) (by k_is) (fun _ _ _ _ _ _ us hl => match us, hl with | [_, _], _ => rfl)
    obtain ⟨f8, d8, F8, g8, b8, y8⟩ := Y.mkF (x := "pentagons_to") (st := K94.s_pentagons_to) (ps := ["number"]) KX G (by k_is) (by k_is) (by k_is) (by k_is) (fun _ _ _ _ _ _ us hl => match us, hl with | [_], _ => rfl)
    obtain ⟨f9, d9, F9, g9, b9, y9⟩ := Y.mkF (x := "parted_to") (st := K94.s_parted_to) (ps := ["number"]) KX G (by k_is) (by k_is) (by k_is) (by k_is) (fun _ _ _ _ _ _ us hl => match us, hl with | [_], _ => rfl)
    obtain ⟨f10, d10, F10, g10, b10, y10⟩ := Y.mkF (x := "divided_to") (st := K94.s_divided_to) (ps := ["number"]) KX G (by k_is) (by k_is) (by k_is) (by k_is) (fun _ _ _ _ _ _ us hl => match us, hl with | [_], _ => rfl)
    obtain ⟨f11, d11, F11, g11, b11, y11⟩ := Y.mkF (x := "row_sum") (st := K94.s_row_sum) (ps := ["first", "last"]) KX G (by k_is) (by k_is) (by k_is) (by k_is) (fun _ _ _ _ _ _ us hl => match us, hl with | [_, _], _ => rfl)
    obtain ⟨f12, d12, F12, g12, b12, y12⟩ := Y.mkF (x := "rows_in") (st := K94.s_rows_in) (ps := ["number"]) KX G (by k_is) (by k_is) (by k_is) (by k_is) (fun _ _ _ _ _ _ us hl => match us, hl with | [_], _ => rfl)
    obtain ⟨f13, d13, F13, g13, b13, y13⟩ := Y.mkF (x := "need_sides") (st := K94.s_need_sides) (ps := ["sides"]) KX G (by k_is) (by k_is) (by k_is) (by k_is) (fun _ _ _ _ _ _ us hl => match us, hl with | [_], _ => rfl)
    obtain ⟨f14, d14, F14, g14, b14, y14⟩ := Y.mkF (x := "figure") (st := K94.s_figure) (ps := ["sides", "place"]) KX G (by k_is) (by k_is) (by k_is) (by k_is) (fun _ _ _ _ _ _ us hl => match us, hl with | [_, _], _ => rfl)
    obtain ⟨f15, d15, F15, g15, b15, y15⟩ := Y.mkF (x := "place_of") (st := K94.s_place_of) (ps := ["sides", "number"]) KX G (by k_is) (by k_is) (by k_is) (by k_is) (fun _ _ _ _ _ _ us hl => match us, hl with | [_, _], _ => rfl)
    obtain ⟨f16, d16, F16, g16, b16, y16⟩ := Y.mkF (x := "kinds_of") (st := K94.s_kinds_of) (ps := ["number"]) KX G (by k_is) (by k_is) (by k_is) (by k_is) (fun _ _ _ _ _ _ us hl => match us, hl with | [_], _ => rfl)
    obtain ⟨f17, d17, F17, g17, b17, y17⟩ := Y.mkF (x := "central") (st := K94.s_central) (ps := ["sides", "place"]) KX G (by k_is) (by k_is) (by k_is) (by k_is) (fun _ _ _ _ _ _ us hl => match us, hl with | [_, _], _ => rfl)
    obtain ⟨f18, d18, F18, g18, b18, y18⟩ := Y.mkF (x := "central_place") (st := K94.s_central_place) (ps := ["sides", "number"]) KX G (by k_is) (by k_is) (by k_is) (by k_is) (fun _ _ _ _ _ _ us hl => match us, hl with | [_, _], _ => rfl)
    obtain ⟨f19, d19, F19, g19, b19, y19⟩ := Y.mkF (x := "fewest_figures") (st := K94.s_fewest_figures) (ps := ["sides", "number"]) KX G (by k_is) (by k_is) (by k_is) (by k_is) (fun _ _ _ _ _ _ us hl => match us, hl with | [_, _], _ => rfl)
    obtain ⟨f20, d20, F20, g20, b20, y20⟩ := Y.mkF (x := "rows_with") (st := K94.s_rows_with) (ps := ["number"]) KX G (by k_is) (by k_is) (by k_is) (by k_is) (fun _ _ _ _ _ _ us hl => match us, hl with | [_], _ => rfl)
    obtain ⟨f21, d21, F21, g21, b21, y21⟩ := Y.mkF (x := "count_rows") (st := K94.s_count_rows) (ps := ["number"]) KX G (by k_is) (by k_is) (by k_is) (by k_is) (fun _ _ _ _ _ _ us hl => match us, hl with | [_], _ => rfl)
    obtain ⟨f22, d22, F22, g22, b22, y22⟩ := Y.mkF (x := "is_row_of") (st := K94.s_is_row_of) (ps := ["number", "value"]) KX G (by k_is) (by k_is) (by k_is) (by k_is) (fun _ _ _ _ _ _ us hl => match us, hl with | [_, _], _ => rfl)
    obtain ⟨f23, d23, F23, g23, b23, y23⟩ := Y.mkF (x := "pentagon_signs") (st := K94.s_pentagon_signs) (ps := ["number"]) KX G (by k_is) (by k_is) (by k_is) (by k_is) (fun _ _ _ _ _ _ us hl => match us, hl with | [_], _ => rfl)
    obtain ⟨f24, d24, F24, g24, b24, y24⟩ := Y.mkF (x := "ways_to_part") (st := K94.s_ways_to_part) (ps := ["number"]) KX G (by k_is) (by k_is) (by k_is) (by k_is) (fun _ _ _ _ _ _ us hl => match us, hl with | [_], _ => rfl)
    obtain ⟨f25, d25, F25, g25, b25, y25⟩ := Y.mkF (x := "divisor_sum") (st := K94.s_divisor_sum) (ps := ["number"]) KX G (by k_is) (by k_is) (by k_is) (by k_is) (fun _ _ _ _ _ _ us hl => match us, hl with | [_], _ => rfl)
    obtain ⟨f26, d26, F26, g26, b26, y26⟩ := Y.mkF (x := "pyramid") (st := K94.s_pyramid) (ps := ["sides", "place"]) KX G (by k_is) (by k_is) (by k_is) (by k_is) (fun _ _ _ _ _ _ us hl => match us, hl with | [_, _], _ => rfl)
    obtain ⟨f27, d27, F27, g27, b27, y27⟩ := Y.mkF (x := "_law_cup") (st := K94.s__law_cup) (ps := ["script"]) KX G (by k_is) (by k_is) (by k_is) (by k_is) (fun _ _ _ _ _ _ us hl => match us, hl with | [_], _ => rfl)
    obtain ⟨f28, d28, F28, g28, b28, y28⟩ := Y.mkF (x := "_law_roll") (st := K94.s__law_roll) (ps := ["cup", "many"]) KX G (by k_is) (by k_is) (by k_is) (by k_is) (fun _ _ _ _ _ _ us hl => match us, hl with | [_, _], _ => rfl)
    obtain ⟨f29, d29, F29, g29, b29, y29⟩ := Y.mkF (x := "_law_some") (st := K94.s__law_some) (ps := ["cup", "things"]) KX G (by k_is) (by k_is) (by k_is) (by k_is) (fun _ _ _ _ _ _ us hl => match us, hl with | [_, _], _ => rfl)
    obtain ⟨f30, d30, F30, g30, b30, y30⟩ := Y.mkF (x := "_law_same") (st := K94.s__law_same) (ps := ["told", "due"]) KX G (by k_is) (by k_is) (by k_is) (by k_is) (fun _ _ _ _ _ _ us hl => match us, hl with | [_, _], _ => rfl)
    obtain ⟨f31, d31, F31, g31, b31, y31⟩ := Y.mkF (x := "_law_figure") (st := K94.s__law_figure) (ps := ["sides", "place"]) KX G (by k_is) (by k_is) (by k_is) (by k_is) (fun _ _ _ _ _ _ us hl => match us, hl with | [_, _], _ => rfl)
    obtain ⟨f32, d32, F32, g32, b32, y32⟩ := Y.mkF (x := "_law_error") (st := K94.s__law_error) (ps := ["call"]) KX G (by k_is) (by k_is) (by k_is) (by k_is) (fun _ _ _ _ _ _ us hl => match us, hl with | [_], _ => rfl)
    obtain ⟨f33, d33, F33, g33, b33, y33⟩ := Y.mkF (x := "_law_levels") (st := K94.s__law_levels) (ps := ["sides", "most"]) KX G (by k_is) (by k_is) (by k_is) (by k_is) (fun _ _ _ _ _ _ us hl => match us, hl with | [_, _], _ => rfl)
    obtain ⟨d34, F34, g34, b34, y34⟩ := Y.mkFL (x := "law") (st := K94.s_law) (ps := ["script"]) KX G (by k_is) (by k_is) (by k_is) (by k_is) (fun _ _ _ _ _ _ us hl => match us, hl with | [_], _ => rfl)
    have e := hmg.symm.trans g34
    obtain rfl : _ = fa := by injection e with e; injection e with e; exact e.symm
    obtain ⟨C0, ne, xa0, xb0, xd0, xe0, xf0, gne, mne, ec⟩ := Y.mkXE (x := "InvalidNumber") (y := "NumberError") KX G (by k_is) (by k_exc) (by k_is) (by k_is) (by k_is) (by k_is) (by k_is) (by k_is) (by k_is) (by k_is) (by k_is) (by k_is) (by k_is) (by k_is) (by k_is) (by k_is) (by k_is)
    refine ⟨d34, fun s u => y34 s [u] rfl, _, ⟨_, fun i => ([(14, f14), (15, f15), (17, f17), (18, f18), (19, f19), (20, f20), (21, f21), (23, f23), (24, f24), (25, f25), (26, f26)] : List (Nat × Addr)).lookup i, fun c => ([(1, (C0, []))] : List (Nat × (Addr × List Str))).lookup c, [(_, ("law.<locals>.<lambda>" : Str))]⟩, ?h1, ?h2, rfl, fun z hz => by rw [List.mem_singleton] at hz; rw [hz], fun base _ _ tb => K94.ok_law ⟨f0, d0, F0, g0, b0, f1, d1, F1, g1, b1, f2, d2, F2, g2, b2, f3, d3, F3, g3, b3, f4, d4, F4, g4, b4, f5, d5, F5, g5, b5, f6, d6, F6, g6, b6, f7, d7, F7, g7, b7, f8, d8, F8, g8, b8, f9, d9, F9, g9, b9, f10, d10, F10, g10, b10, f11, d11, F11, g11, b11, f12, d12, F12, g12, b12, f13, d13, F13, g13, b13, f14, d14, F14, g14, b14, rfl, f15, d15, F15, g15, b15, rfl, f16, d16, F16, g16, b16, f17, d17, F17, g17, b17, rfl, f18, d18, F18, g18, b18, rfl, f19, d19, F19, g19, b19, rfl, f20, d20, F20, g20, b20, rfl, f21, d21, F21, g21, b21, rfl, f22, d22, F22, g22, b22, f23, d23, F23, g23, b23, rfl, f24, d24, F24, g24, b24, rfl, f25, d25, F25, g25, b25, rfl, f26, d26, F26, g26, b26, rfl, f27, d27, F27, g27, b27, f28, d28, F28, g28, b28, f29, d29, F29, g29, b29, f30, d30, F30, g30, b30, f31, d31, F31, g31, b31, f32, d32, F32, g32, b32, f33, d33, F33, g33, b33, _, d34, F34.fun, g34, b34, _, _, F34, Y.loose_int LX (by decide +kernel), Y.mkC KX G (by k_is), Y.mkC KX G (by k_is), Y.loose_int LX (by decide +kernel), Y.mkC KX G (by k_is), PySem.W.mg_none_of KX G (by k_is), PySem.W.mg_none_of KX G (by k_is), PySem.W.mg_none_of KX G (by k_is), PySem.W.mg_none_of KX G (by k_is), PySem.W.mg_none_of KX G (by k_is), PySem.W.mg_none_of KX G (by k_is), PySem.W.mg_none_of KX G (by k_is), PySem.W.mg_none_of KX G (by k_is), PySem.W.mg_none_of KX G (by k_is), PySem.W.mg_none_of KX G (by k_is), PySem.W.mg_none_of KX G (by k_is), PySem.W.mg_none_of KX G (by k_is), PySem.W.mg_none_of KX G (by k_is), PySem.W.mg_none_of KX G (by k_is), ⟨C0, xa0, xb0, xd0, xe0, xf0, rfl⟩, ne, gne, mne, ec⟩ tb (List.mem_singleton_self _) (fun p hp _ => by rw [List.mem_singleton] at hp; rw [hp])⟩
    case h1 => exact rfl
    case h2 => exact rfl

