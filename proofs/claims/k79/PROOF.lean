import PyProof.Rows.All
import Wide.All
import OpenK.AllK
import Wide.FinOn
import HandS.ForMost
import HandS.ForExc
import HandS.IsInst
import HandS.Style
import HandS.TupAny
import HandS.Wide
import HandS.Conv
import PyProof.EqLayable
import PySem.Challenge.RW_wholeyard_k79_whole_mirrored_and_turned
set_option Elab.async false
set_option linter.all false
set_option maxRecDepth 100000
set_option maxHeartbeats 4000000
/-! Y0: a small plain semantics of the part of Python that the laws use: values without addresses, a store of lists and dicts, expressions and statements as functions. -/
namespace Y
open PySem (Str PyData)

/-- a value: tuples by their items, lists and dicts by their place in the store -/
inductive D where
  | undef | non | bl (b : Bool) | int (i : Int) | str (x : Str) | tup (xs : List D) | ref (n : Nat) | fn (i : Nat) | frl (xs : List D)

/-- an object of the store -/
inductive O where
  | lst (xs : List D)
  | dct (tk : Bool) (kvs : List (D × D))
  | set (xs : List D)

abbrev S := List O
abbrev Env := List D

inductive Rs (α : Type) where
  | ok (a : α) (s : S)
  | exc (c : Nat) (fs : List D) (s : S)
  | stk

abbrev M (α : Type) := Env → S → Rs α
abbrev E := M D
abbrev T := M Bool
abbrev A := M (List D)
abbrev Fn := List D → S → Rs D

def Rs.bind {α β : Type} (x : Rs α) (f : α → S → Rs β) : Rs β :=
  match x with
  | .ok a s => f a s
  | .exc c fs s => .exc c fs s
  | .stk => .stk
theorem Rs.bind_ok {α β : Type} (a : α) (s : S) (f : α → S → Rs β) : (Rs.ok a s).bind f = f a s := rfl
theorem Rs.bind_exc {α β : Type} (c fs) (s : S) (f : α → S → Rs β) : (Rs.exc c fs s : Rs α).bind f = .exc c fs s := rfl
theorem Rs.bind_stk {α β : Type} (f : α → S → Rs β) : (Rs.stk : Rs α).bind f = .stk := rfl

mutual
def D.pure : D → Bool
  | .undef => false
  | .ref _ => false
  | .tup xs => D.pureL xs
  | .frl xs => D.pureL xs
  | .non => true
  | .bl _ => true
  | .int _ => true
  | .str _ => true
  | .fn _ => true
def D.pureL : List D → Bool
  | [] => true
  | x :: xs => x.pure && D.pureL xs
end
def D.pureKV : List (D × D) → Bool
  | [] => true
  | p :: ps => p.1.pure && p.2.pure && D.pureKV ps
def O.pure : O → Bool
  | .lst xs => D.pureL xs
  | .dct _ kvs => D.pureKV kvs
  | .set xs => D.pureL xs

/-! ### expressions -/
def eC (d : D) : E := fun _ s => .ok d s
def eV (i : Nat) : E := fun r s => match r[i]? with
  | some .undef => .stk
  | none => .stk
  | some d => .ok d s
abbrev P1 := D → S → Rs D
abbrev P2 := D → D → S → Rs D
abbrev PN := List D → S → Rs D
def e1 (p : P1) (a : E) : E := fun r s => (a r s).bind fun x s1 => p x s1
def e2 (p : P2) (a b : E) : E := fun r s => (a r s).bind fun x s1 => (b r s1).bind fun y s2 => p x y s2
def aN : A := fun _ s => .ok [] s
def aC (a : E) (t : A) : A := fun r s => (a r s).bind fun x s1 => (t r s1).bind fun xs s2 => .ok (x :: xs) s2
def eN (p : PN) (a : A) : E := fun r s => (a r s).bind fun xs s1 => p xs s1

/-- a value as a test: only a bool -/
def tst (a : E) : T := fun r s => (a r s).bind fun x s1 => match x with
  | .bl b => .ok b s1
  | _ => .stk
def tAnd (a b : T) : T := fun r s => (a r s).bind fun c s1 => if c = true then b r s1 else .ok false s1
def tOr (a b : T) : T := fun r s => (a r s).bind fun c s1 => if c = true then .ok true s1 else b r s1
def tNot (a : T) : T := fun r s => (a r s).bind fun c s1 => .ok (!c) s1
def eAnd (a b : E) : E := fun r s => (a r s).bind fun x s1 => match x with
  | .bl true => b r s1
  | .bl false => .ok (.bl false) s1
  | _ => .stk
def eOr (a b : E) : E := fun r s => (a r s).bind fun x s1 => match x with
  | .bl true => .ok (.bl true) s1
  | .bl false => b r s1
  | _ => .stk
def eNot (a : E) : E := fun r s => (a r s).bind fun x s1 => match x with
  | .bl c => .ok (.bl (!c)) s1
  | _ => .stk
def eIf (t : T) (a b : E) : E := fun r s => (t r s).bind fun c s1 => if c = true then a r s1 else b r s1
def eTup (a : A) : E := fun r s => (a r s).bind fun xs s1 => if xs.length ≤ 1000000 then .ok (.tup xs) s1 else .stk
def eLst (a : A) : E := fun r s => (a r s).bind fun xs s1 => if xs.length ≤ 1000000 then .ok (.ref s1.length) (s1 ++ [.lst xs]) else .stk
/-- a < b < c -/
def eCh (p q : P2) (a b c : E) : E := fun r s => (a r s).bind fun x s1 => (b r s1).bind fun y s2 => (p x y s2).bind fun z s3 => match z with
  | .bl true => (c r s3).bind fun w s4 => q y w s4
  | .bl false => .ok (.bl false) s3
  | _ => .stk

/-! ### what the operators do -/
def mulOk (i j : Int) : Bool := decide (i.natAbs < 18446744073709551616) || decide (j.natAbs < 18446744073709551616) || decide (i.natAbs.log2 + j.natAbs.log2 < 1000000)
def pdiv (i j : Int) : Int := if 0 < j then i / j else i.fdiv j
def pmod (i j : Int) : Int := if 0 < j then i % j else i.fmod j
/-- the items of a list that is read -/
def seqL (d : D) (s : S) : Option (List D) := match d with
  | .ref n => match s[n]? with
    | some (.lst xs) => some xs
    | _ => none
  | .frl xs => some xs
  | _ => none
def seqX (d : D) (s : S) : Option (List D) := match d with
  | .tup xs => some xs
  | d => seqL d s

def LINE : Nat := 1000000
def newL (xs : List D) (s : S) : Rs D := if xs.length ≤ LINE then .ok (.ref s.length) (s ++ [.lst xs]) else .stk

def oAdd : P2 := fun x y s => match x, y with
  | .int i, .int j => .ok (.int (i + j)) s
  | .str a, .str b => if a.length + b.length ≤ LINE then .ok (.str (a ++ b)) s else .stk
  | .tup xs, .tup ys => if xs.length + ys.length ≤ LINE then .ok (.tup (xs ++ ys)) s else .stk
  | .ref a, .ref b => match s[a]?, s[b]? with
    | some (.lst xs), some (.lst ys) => if xs.length + ys.length ≤ LINE then .ok (.ref s.length) (s ++ [.lst (xs ++ ys)]) else .stk
    | _, _ => .stk
  | _, _ => .stk
def oSub : P2 := fun x y s => match x, y with
  | .int i, .int j => .ok (.int (i - j)) s
  | _, _ => .stk
def oMul : P2 := fun x y s => match x, y with
  | .int i, .int j => if mulOk i j = true then .ok (.int (i * j)) s else .stk
  | .ref a, .int k => match s[a]? with
    | some (.lst xs) => if k.natAbs < 1000000000 ∧ xs.length * k.toNat ≤ LINE then .ok (.ref s.length) (s ++ [.lst (List.replicate k.toNat xs).flatten]) else .stk
    | _ => .stk
  | _, _ => .stk
def oDiv : P2 := fun x y s => match x, y with
  | .int i, .int j => if j ≠ 0 ∧ j.natAbs.log2 < 9000 then .ok (.int (pdiv i j)) s else .stk
  | _, _ => .stk
def oMod : P2 := fun x y s => match x, y with
  | .int i, .int j => if j ≠ 0 then .ok (.int (pmod i j)) s else .stk
  | _, _ => .stk
def oPow : P2 := fun x y s => match x, y with
  | .int i, .int j => if 0 ≤ j ∧ j ≤ 1000000 ∧ i.natAbs < 18446744073709551616 then .ok (.int (i ^ j.toNat)) s else .stk
  | _, _ => .stk
def oNeg : P1 := fun x s => match x with
  | .int i => .ok (.int (-i)) s
  | _ => .stk
def oLt : P2 := fun x y s => match x, y with
  | .int i, .int j => .ok (.bl (decide (i < j))) s
  | _, _ => .stk
def oLe : P2 := fun x y s => match x, y with
  | .int i, .int j => .ok (.bl (decide (i ≤ j))) s
  | _, _ => .stk
def oGt : P2 := fun x y s => match x, y with
  | .int i, .int j => .ok (.bl (decide (j < i))) s
  | _, _ => .stk
def oGe : P2 := fun x y s => match x, y with
  | .int i, .int j => .ok (.bl (decide (j ≤ i))) s
  | _, _ => .stk
def mapO {α β : Type} (f : α → Option β) : List α → Option (List β)
  | [] => some []
  | x :: xs => match f x, mapO f xs with
    | some y, some ys => some (y :: ys)
    | _, _ => none
/-- as the model's data (a list: what it holds), to a depth -/
def D.py (s : S) : Nat → D → Option PyData
  | 0 => fun d => match d with
    | .non => some .none
    | .bl b => some (.bool b)
    | .int i => some (.int i)
    | .str x => some (.str x)
    | _ => none
  | k + 1 => fun d => match d with
    | .non => some .none
    | .bl b => some (.bool b)
    | .int i => some (.int i)
    | .str x => some (.str x)
    | .tup xs => (mapO (D.py s k) xs).map .tuple
    | .frl xs => (mapO (D.py s k) xs).map .list
    | .ref n => match s[n]? with
      | some (.lst xs) => (mapO (D.py s k) xs).map .list
      | _ => none
    | _ => none
def eqD (x y : D) (s : S) : Option Bool := match D.py s 20 x, D.py s 20 y with
  | some p, some q => if PySem.SeqAt.shaped p = true ∧ PySem.SeqAt.shaped q = true then some (PyData.eqv p q) else none
  | _, _ => none
def oEq : P2 := fun x y s => match eqD x y s with
  | some b => .ok (.bl b) s
  | none => .stk
def oNe : P2 := fun x y s => match eqD x y s with
  | some b => .ok (.bl (!b)) s
  | none => .stk
def oIsN : P1 := fun x s => match x with
  | .undef => .stk
  | .non => .ok (.bl true) s
  | _ => .ok (.bl false) s
def oNotN : P1 := fun x s => match x with
  | .undef => .stk
  | .non => .ok (.bl false) s
  | _ => .ok (.bl true) s
/-- is, is not of two boolsOf -/
def oIsB : P2 := fun x y s => match x, y with
  | .bl a, .bl b => .ok (.bl (decide (a = b))) s
  | _, _ => .stk
/-- a place of a sequence -/
def atD (xs : List D) (i : Int) : Option D := if 0 ≤ i then (if i < xs.length then xs[i.toNat]? else none) else if -(xs.length : Int) ≤ i then xs[(i + xs.length).toNat]? else none
def oIx : P2 := fun x y s => match y with
  | .int i => match seqX x s with
    | some xs => match atD xs i with
      | some d => .ok d s
      | none => .stk
    | none => .stk
  | _ => .stk
/-- where a slice's part lies -/
def cutIx (n d : Nat) : Option Int → Nat
  | none => d
  | some i => if i < 0 then (i + n).toNat else min i.toNat n
def cutD {α : Type} (xs : List α) (lo hi : Option Int) : List α := (xs.drop (cutIx xs.length 0 lo)).take (cutIx xs.length xs.length hi - cutIx xs.length 0 lo)
inductive Part where
  | no
  | at (e : E)
def Part.run (p : Part) (r : Env) (s : S) : Rs (Option Int) := match p with
  | .no => .ok none s
  | .at e => (e r s).bind fun x s1 => match x with
    | .int i => .ok (some i) s1
    | _ => .stk
def eCut (a : E) (lo hi : Part) : E := fun r s => (a r s).bind fun x s1 => (lo.run r s1).bind fun l s2 => (hi.run r s2).bind fun h s3 => match x with
  | .tup xs => .ok (.tup (cutD xs l h)) s3
  | x => match seqL x s3 with
    | some xs => .ok (.ref s3.length) (s3 ++ [.lst (cutD xs l h)])
    | none => .stk
/-- xs[::-1] -/
def oRev : P1 := fun x s => match x with
  | .tup xs => .ok (.tup xs.reverse) s
  | x => match seqL x s with
    | some xs => .ok (.ref s.length) (s ++ [.lst xs.reverse])
    | none => .stk

/-! ### built-in functions -/
def bLen : PN := fun ds s => match ds with
  | [.str x] => if x.length ≤ LINE then .ok (.int x.length) s else .stk
  | [.ref n] => match s[n]? with
    | some (.lst xs) => .ok (.int xs.length) s
    | _ => .stk
  | [x] => match seqX x s with
    | some xs => .ok (.int xs.length) s
    | none => .stk
  | _ => .stk
def bInt : PN := fun ds s => match ds with
  | [.int i] => .ok (.int i) s
  | [.bl b] => .ok (.int (if b then 1 else 0)) s
  | _ => .stk
def bStr : PN := fun ds s => match ds with
  | [.int i] => if i.natAbs.log2 < 1920 then .ok (.str (Str.ofString (toString i))) s else .stk
  | [.str x] => .ok (.str x) s
  | _ => .stk
def bAbs : PN := fun ds s => match ds with
  | [.int i] => .ok (.int (if i < 0 then -i else i)) s
  | _ => .stk
def bMax2 : PN := fun ds s => match ds with
  | [.int i, .int j] => .ok (.int (if j > i then j else i)) s
  | _ => .stk
def bMin2 : PN := fun ds s => match ds with
  | [.int i, .int j] => .ok (.int (if j < i then j else i)) s
  | _ => .stk
def bList : PN := fun ds s => match ds with
  | [x] => match seqX x s with
    | some xs => .ok (.ref s.length) (s ++ [.lst xs])
    | none => .stk
  | _ => .stk
def bTuple : PN := fun ds s => match ds with
  | [x] => match seqX x s with
    | some xs => .ok (.tup xs) s
    | none => .stk
  | _ => .stk
def intsOf : List D → Option (List Int)
  | [] => some []
  | .int i :: r => match intsOf r with
    | some is => some (i :: is)
    | none => none
  | _ :: _ => none
def boolsOf : List D → Option (List Bool)
  | [] => some []
  | .bl b :: r => match boolsOf r with
    | some bs => some (b :: bs)
    | none => none
  | _ :: _ => none
def bSum : PN := fun ds s => match ds with
  | [x] => match seqL x s with
    | some xs => match intsOf xs with
      | some is => .ok (.int is.sum) s
      | none => .stk
    | none => .stk
  | _ => .stk
def bAll : PN := fun ds s => match ds with
  | [x] => match seqL x s with
    | some xs => match boolsOf xs with
      | some bs => .ok (.bl (bs.all id)) s
      | none => .stk
    | none => .stk
  | _ => .stk
def bAny : PN := fun ds s => match ds with
  | [x] => match seqL x s with
    | some xs => match boolsOf xs with
      | some bs => .ok (.bl (bs.any id)) s
      | none => .stk
    | none => .stk
  | _ => .stk
/-- isinstance(x, T) -/
inductive Ty where
  | int | bool | str | tuple | list | dict
  deriving DecidableEq
def isTy (t : Ty) (x : D) (s : S) : Option Bool := match x with
  | .undef => none
  | .fn _ => none
  | .non => some false
  | .bl _ => some (t == .bool || t == .int)
  | .int _ => some (t == .int)
  | .str _ => some (t == .str)
  | .tup _ => some (t == .tuple)
  | .frl _ => some (t == .list)
  | .ref n => match s[n]? with
    | some (.lst _) => some (t == .list)
    | some (.dct _ _) => some (t == .dict)
    | _ => none
def oIsI (t : Ty) : P1 := fun x s => match isTy t x s with
  | some b => .ok (.bl b) s
  | none => .stk

/-! ### statements -/
inductive F where
  | nx (r : Env) (s : S)
  | rt (d : D) (s : S)
  | bk (r : Env) (s : S)
  | ct (r : Env) (s : S)
  | exc (c : Nat) (fs : List D) (r : Env) (s : S)
  | stk
abbrev Sm := Env → S → F
def Rs.then {α : Type} (x : Rs α) (r : Env) (f : α → S → F) : F := match x with
  | .ok a s => f a s
  | .exc c fs s => .exc c fs r s
  | .stk => .stk
theorem Rs.then_ok {α : Type} (a : α) (s : S) (r) (f : α → S → F) : (Rs.ok a s).then r f = f a s := rfl
theorem Rs.then_exc {α : Type} (c fs) (s : S) (r) (f : α → S → F) : (Rs.exc c fs s : Rs α).then r f = .exc c fs r s := rfl
theorem Rs.then_stk {α : Type} (r) (f : α → S → F) : (Rs.stk : Rs α).then r f = .stk := rfl
def F.andThen (x : F) (f : Env → S → F) : F := match x with
  | .nx r s => f r s
  | x => x
def zNil : Sm := fun r s => .nx r s
def zCons (a b : Sm) : Sm := fun r s => (a r s).andThen b
/-- targets -/
abbrev Tg := D → Env → S → Option (Env × S)
def gV (i : Nat) : Tg := fun d r s => if i < r.length then some (r.set i d, s) else none
def gsN : List D → Env → S → Option (Env × S) := fun ds r s => if ds.isEmpty then some (r, s) else none
def gsC (g : Tg) (t : List D → Env → S → Option (Env × S)) : List D → Env → S → Option (Env × S) := fun ds r s => match ds with
  | [] => none
  | d :: ds => match g d r s with
    | some (r1, s1) => t ds r1 s1
    | none => none
def gT (t : List D → Env → S → Option (Env × S)) : Tg := fun d r s => match d with
  | .tup xs => t xs r s
  | _ => none
/-- xs[i] = d of a list, d[k] = v of a dict: by the store -/
def ixN (n : Nat) (i : Int) : Option Nat := if 0 ≤ i then (if i < n then some i.toNat else none) else if -(n : Int) ≤ i then some (i + n).toNat else none
def putL (o i v : D) (s : S) : Option S := match o, i with
  | .ref n, .int k => match s[n]? with
    | some (.lst xs) => match ixN xs.length k with
      | some j => some (s.set n (.lst (xs.set j v)))
      | none => none
    | _ => none
  | _, _ => none
def zSet (g : Tg) (e : E) : Sm := fun r s => (e r s).then r fun d s1 => match g d r s1 with
  | some (r2, s2) => .nx r2 s2
  | none => .stk
/-- a, b = x, y : two plain names -/
def zPar (i j : Nat) (a b : E) : Sm := fun r s => (a r s).then r fun x s1 => (b r s1).then r fun y s2 => if i < r.length ∧ j < r.length then .nx ((r.set i x).set j y) s2 else .stk
/-- xs[i] = e -/
def zPutL (o i e : E) : Sm := fun r s => (e r s).then r fun v s1 => (o r s1).then r fun x s2 => (i r s2).then r fun k s3 => match putL x k v s3 with
  | some s4 => .nx r s4
  | none => .stk
/-- x += e -/
def zAug (i : Nat) (p : P2) (e : E) : Sm := fun r s => match r[i]? with
  | none => .stk
  | some .undef => .stk
  | some x => (e r s).then r fun y s1 => (p x y s1).then r fun z s2 => .nx (r.set i z) s2
def zEx (e : E) : Sm := fun r s => (e r s).then r fun _ s1 => .nx r s1
def zRet (e : E) : Sm := fun r s => (e r s).then r fun d s1 => .rt d s1
def zRetN : Sm := fun _ s => .rt .non s
def zIf (t : T) (a b : Sm) : Sm := fun r s => (t r s).then r fun c s1 => if c = true then a r s1 else b r s1
def zPass : Sm := fun r s => .nx r s
def zBrk : Sm := fun r s => .bk r s
def zCnt : Sm := fun r s => .ct r s
def zRaise (c : Nat) : Sm := fun r s => .exc c [] r s
/-- X(e) raised, X having one field -/
def zRaise1 (c : Nat) (e : E) : Sm := fun r s => (e r s).then r fun d s1 => .exc c [d] r s1

/-- one turn is done: go on, or leave -/
def F.turn (x : F) (f : Env → S → F) : F := match x with
  | .nx r s => f r s
  | .ct r s => f r s
  | .bk r s => .nx r s
  | x => x
def whileM (c : T) (b : Sm) : Nat → Sm
  | 0 => fun _ _ => .stk
  | n + 1 => fun r s => (c r s).then r fun k s1 => if k = true then (b r s1).turn (whileM c b n) else .nx r s1
def FUEL : Nat := 2 ^ 5000
def zWhile (c : T) (b : Sm) : Sm := whileM c b FUEL

/-- what a loop walks: the items ahead of it, and what must stay so -/
inductive Wk where
  | items (xs : List D)
  | list (n : Nat)
abbrev IW := Env → S → Rs Wk
def forM (g : Tg) (b : Sm) : List D → Sm
  | [] => fun r s => .nx r s
  | x :: xs => fun r s => match g x r s with
    | some (r1, s1) => (b r1 s1).turn (forM g b xs)
    | none => .stk
/-- over a list in the store, by its places -/
def forR (g : Tg) (b : Sm) (n : Nat) : Nat → Nat → Sm
  | 0, _ => fun _ _ => .stk
  | k + 1, i => fun r s => match s[n]? with
    | some (.lst xs) => match xs[i]? with
      | some x => match g x r s with
        | some (r1, s1) => (b r1 s1).turn (forR g b n k (i + 1))
        | none => .stk
      | none => .nx r s
    | _ => .stk
def zFor (it : IW) (g : Tg) (b : Sm) : Sm := fun r s => (it r s).then r fun j s1 => match j with
  | .items xs => forM g b xs r s1
  | .list n => forR g b n FUEL 0 r s1
def range2 (i j : Int) : List D := (List.range (j - i).toNat).map fun (k : Nat) => .int (i + k)
def iRng1 (a : E) : IW := fun r s => (a r s).bind fun x s1 => match x with
  | .int j => if j.natAbs < 4611686018427387904 then .ok (.items (range2 0 j)) s1 else .stk
  | _ => .stk
def iRng2 (a b : E) : IW := fun r s => (a r s).bind fun x s1 => (b r s1).bind fun y s2 => match x, y with
  | .int i, .int j => if i.natAbs < 4611686018427387904 ∧ j.natAbs < 4611686018427387904 then .ok (.items (range2 i j)) s2 else .stk
  | _, _ => .stk
/-- a tuple's walk, or a list's -/
def iTup (a : E) : IW := fun r s => (a r s).bind fun x s1 => match x with
  | .tup xs => .ok (.items xs) s1
  | _ => .stk
def iLst (a : E) : IW := fun r s => (a r s).bind fun x s1 => match x with
  | .frl xs => .ok (.items xs) s1
  | .ref n => match s1[n]? with
    | some (.lst _) => .ok (.list n) s1
    | _ => .stk
  | _ => .stk

/-! ### comprehensions: the new list stands at n -/
def appendAt (n : Nat) (d : D) (s : S) : Option S := match s[n]? with
  | some (.lst xs) => if xs.length < LINE then some (s.set n (.lst (xs ++ [d]))) else none
  | _ => none
def compM (g : Tg) (t : T) (e : E) (n : Nat) : List D → Env → S → Rs D
  | [], _, s => .ok (.ref n) s
  | x :: xs, r, s => match g x r s with
    | none => .stk
    | some (r1, s1) => match t r1 s1 with
      | .ok false s2 => compM g t e n xs r s2
      | .ok true s2 => match e r1 s2 with
        | .ok d s3 => match appendAt n d s3 with
          | some s4 => compM g t e n xs r s4
          | none => .stk
        | _ => .stk
      | _ => .stk
def compR (g : Tg) (t : T) (e : E) (n m : Nat) : Nat → Nat → Env → S → Rs D
  | 0, _, _, _ => .stk
  | k + 1, i, r, s => match s[m]? with
    | some (.lst xs) => match xs[i]? with
      | none => .ok (.ref n) s
      | some x => match g x r s with
        | none => .stk
        | some (r1, s1) => match t r1 s1 with
          | .ok false s2 => compR g t e n m k (i + 1) r s2
          | .ok true s2 => match e r1 s2 with
            | .ok d s3 => match appendAt n d s3 with
              | some s4 => compR g t e n m k (i + 1) r s4
              | none => .stk
            | _ => .stk
          | _ => .stk
    | _ => .stk
/-- the block's own slots are forgotten -/
def wipeD (r : Env) : List Nat → Env
  | [] => r
  | v :: vs => (wipeD r vs).set v .undef
def eLc (it : IW) (g : Tg) (t : T) (e : E) (own : List Nat) : E := fun r s => (it r s).bind fun j s1 => match j with
  | .items xs => compM g t e s1.length xs (wipeD r own) (s1 ++ [.lst []])
  | .list m => compR g t e s1.length m FUEL 0 (wipeD r own) (s1 ++ [.lst []])
def tYes : T := fun _ s => .ok true s

/-! ### defs and calls -/
def mkFn (n k : Nat) (body : Sm) : Fn := fun ds s => if ds.length = k then match body (ds ++ List.replicate (n - k) .undef) s with
  | .nx _ s1 => .ok .non s1
  | .rt d s1 => .ok d s1
  | .exc c fs _ s1 => .exc c fs s1
  | _ => .stk else .stk

def refsOf : List D → List Nat
  | [] => []
  | .ref n :: r => n :: refsOf r
  | _ :: r => refsOf r
/-- the refs by their places among the refs -/
def renum : Nat → List D → List D
  | _, [] => []
  | k, .ref _ :: r => .ref k :: renum (k + 1) r
  | k, d :: r => d :: renum k r
def argOk : D → Bool
  | .ref _ => true
  | d => d.pure
def getAll (s : S) : List Nat → Option S
  | [] => some []
  | n :: ns => match s[n]?, getAll s ns with
    | some o, some os => if o.pure = true then some (o :: os) else none
    | _, _ => none
def putAll : List Nat → S → S → S
  | n :: ns, o :: os, s => putAll ns os (s.set n o)
  | _, _, s => s
def nodupN : List Nat → Bool
  | [] => true
  | n :: ns => !ns.contains n && nodupN ns
/-- a call by what the arguments are and hold: of what the def made only what it hands back stays -/
def callK (f : Fn) (ds : List D) (s : S) : Rs D :=
  if nodupN (refsOf ds) = true ∧ ds.all argOk = true then
    match getAll s (refsOf ds) with
    | none => .stk
    | some os => match f (renum 0 ds) os with
      | .stk => .stk
      | .exc c fs s1 => if D.pureL fs = true ∧ (s1.take os.length).all O.pure = true then .exc c fs (putAll (refsOf ds) s1 s) else .stk
      | .ok d s1 => if (s1.take os.length).all O.pure = true then
          match d with
          | .ref j => match (refsOf ds)[j]? with
            | some n => .ok (.ref n) (putAll (refsOf ds) s1 s)
            | none => match s1[j]? with
              | some o => if o.pure = true then .ok (.ref s.length) (putAll (refsOf ds) s1 s ++ [o]) else .stk
              | none => .stk
          | d => if d.pure = true then .ok d (putAll (refsOf ds) s1 s) else .stk
        else .stk
  else .stk
end Y

/-! Y1: that the model's program does what the plain semantics says. -/
namespace Y
open PySem L2

/-- what is fixed: the written part, the defs by number, the classes of errors with their fields -/
structure Tb where
  K : PySem.W.Frag
  fa : Nat → Option Addr
  xc : Nat → Option (Addr × List Str)

def FrL (K : PySem.W.Frag) (H : Hp) (a : Addr) (vs : List V) : Prop :=
  (∃ o, H a = some (.frz o (.lst vs))) ∨ ∃ (o : Obj) (its : Array Value) (n : Nat), K.lookup a = some o ∧ o.cls = .type "list" ∧ o.dict = none ∧ o.data = .seq its n ∧ its.size ≤ sizeLine ∧ Vals vs its.toList
theorem FrL.sq {K : PySem.W.Frag} {H : Hp} {a : Addr} {vs : List V} (h : FrL K H a vs) : SqL K H a vs := by
  rcases h with ⟨o, h⟩ | h
  · exact .inl (.inr ⟨o, h⟩)
  · exact .inr h

mutual
def Rep (t : Tb) (am : List Addr) (H : Hp) : D → V → Prop
  | .undef, _ => False
  | .non, v => v = .non
  | .bl b, v => v = .bl b
  | .int i, v => v = .int i
  | .str x, v => v = .str x
  | .tup ds, v => ∃ a vs, v = .ref a ∧ SqT t.K H a vs ∧ Reps t am H ds vs
  | .frl ds, v => ∃ a vs, v = .ref a ∧ FrL t.K H a vs ∧ Reps t am H ds vs
  | .ref n, v => ∃ a, v = .ref a ∧ am[n]? = some a
  | .fn i, v => ∃ a, v = .ref a ∧ t.fa i = some a
def Reps (t : Tb) (am : List Addr) (H : Hp) : List D → List V → Prop
  | [], vs => vs = []
  | d :: ds, vs => ∃ v r, vs = v :: r ∧ Rep t am H d v ∧ Reps t am H ds r
end

def keyD : D → Option Key
  | .int i => some (.inl i)
  | .str x => some (.inr x)
  | _ => none
def keysD : List D → Option (List Key)
  | [] => some []
  | d :: ds => match keyD d, keysD ds with
    | some k, some ks => some (k :: ks)
    | _, _ => none
def keyT : D → Option (List Key)
  | .tup ds => keysD ds
  | _ => none
def RKV {κ : Type} (f : D → Option κ) (t : Tb) (am : List Addr) (H : Hp) : List (D × D) → List (κ × V) → Prop
  | [], ks => ks = []
  | p :: ps, ks => ∃ k v r, ks = (k, v) :: r ∧ f p.1 = some k ∧ Rep t am H p.2 v ∧ RKV f t am H ps r
/-- an object of the store as it stands in the heap -/
def OM (t : Tb) (am : List Addr) (H : Hp) : O → Addr → Prop
  | .lst ds, a => ∃ vs, H a = some (.lst vs) ∧ Reps t am H ds vs
  | .dct false kvs, a => ∃ ks, H a = some (.dK ks) ∧ RKV keyD t am H kvs ks
  | .dct true kvs, a => ∃ ks, H a = some (.dT ks) ∧ RKV keyT t am H kvs ks
  | .set xs, a => ∃ (S : Int → Bool) (is : List Int), xs = is.map D.int ∧ H a = some (.set S is.length) ∧ is.Nodup ∧ ∀ i, S i = true ↔ i ∈ is
structure Ms (t : Tb) (am : List Addr) (s : S) (H : Hp) : Prop where
  nd : am.Nodup
  len : am.length = s.length
  ob : ∀ (n : Nat) (o : O), s[n]? = some o → ∃ a, am[n]? = some a ∧ OM t am H o a

/-- what is never written -/
def Imm : HO → Prop
  | .tup _ => True
  | .frz _ _ => True
  | _ => False
structure Post (am : List Addr) (H : Hp) (am' : List Addr) (H' : Hp) : Prop where
  pre : ∃ l, am' = am ++ l ∧ ∀ a ∈ l, H a = none
  imm : ∀ a o, H a = some o → Imm o → H' a = some o
  keep : ∀ a o, H a = some o → a ∉ am → H' a = some o
  dom : ∀ a o, H a = some o → ∃ o', H' a = some o'
theorem Post.refl {am : List Addr} {H : Hp} : Post am H am H := ⟨⟨[], by simp, by simp⟩, fun _ _ h _ => h, fun _ _ h _ => h, fun _ o h => ⟨o, h⟩⟩
theorem Post.trans {am am1 am2 : List Addr} {H H1 H2 : Hp} (p : Post am H am1 H1) (q : Post am1 H1 am2 H2) : Post am H am2 H2 := by
  obtain ⟨l, e, f⟩ := p.pre
  obtain ⟨m, e2, f2⟩ := q.pre
  have fr : ∀ a o, H a = some o → a ∉ am → a ∉ am1 := fun a o h n hm => by
    rw [e] at hm
    rcases List.mem_append.mp hm with z | z
    · exact n z
    · rw [f a z] at h; cases h
  refine ⟨⟨l ++ m, by rw [e2, e, List.append_assoc], fun a ha => ?_⟩, fun a o h i => q.imm a o (p.imm a o h i) i, fun a o h n => q.keep a o (p.keep a o h n) (fr a o h n), fun a o h => ?_⟩
  · rcases List.mem_append.mp ha with z | z
    · exact f a z
    · cases hh : H a with
      | none => rfl
      | some o =>
        obtain ⟨o', z1⟩ := p.dom a o hh
        rw [f2 a z] at z1; cases z1
  · obtain ⟨o1, h1⟩ := p.dom a o h
    exact q.dom a o1 h1
theorem Post.at {am am' : List Addr} {H H' : Hp} (p : Post am H am' H') {n : Nat} {a : Addr} (h : am[n]? = some a) : am'[n]? = some a := by
  obtain ⟨l, e, _⟩ := p.pre
  rw [e, List.getElem?_append_left (List.getElem?_eq_some_iff.mp h).1]
  exact h
theorem Post.sqT {am am' : List Addr} {H H' : Hp} (p : Post am H am' H') {K : PySem.W.Frag} {a : Addr} {vs : List V} (h : SqT K H a vs) : SqT K H' a vs := by
  rcases h with (h | ⟨o, h⟩) | h
  · exact .inl (.inl (p.imm _ _ h trivial))
  · exact .inl (.inr ⟨o, p.imm _ _ h trivial⟩)
  · exact .inr h
theorem Post.frL {am am' : List Addr} {H H' : Hp} (p : Post am H am' H') {K : PySem.W.Frag} {a : Addr} {vs : List V} (h : FrL K H a vs) : FrL K H' a vs := by
  rcases h with ⟨o, h⟩ | h
  · exact .inl ⟨o, p.imm _ _ h trivial⟩
  · exact .inr h
/-- what a value leans on is there still -/
structure Lift (am : List Addr) (H : Hp) (am' : List Addr) (H' : Hp) : Prop where
  «at» : ∀ (n : Nat) (a : Addr), am[n]? = some a → am'[n]? = some a
  imm : ∀ a o, H a = some o → Imm o → H' a = some o
theorem Post.lift {am am' : List Addr} {H H' : Hp} (p : Post am H am' H') : Lift am H am' H' := ⟨fun _ _ => p.at, p.imm⟩
theorem Lift.sqT {am am' : List Addr} {H H' : Hp} (p : Lift am H am' H') {K : PySem.W.Frag} {a : Addr} {vs : List V} (h : SqT K H a vs) : SqT K H' a vs := by
  rcases h with (h | ⟨o, h⟩) | h
  · exact .inl (.inl (p.imm _ _ h trivial))
  · exact .inl (.inr ⟨o, p.imm _ _ h trivial⟩)
  · exact .inr h
theorem Lift.frL {am am' : List Addr} {H H' : Hp} (p : Lift am H am' H') {K : PySem.W.Frag} {a : Addr} {vs : List V} (h : FrL K H a vs) : FrL K H' a vs := by
  rcases h with ⟨o, h⟩ | h
  · exact .inl ⟨o, p.imm _ _ h trivial⟩
  · exact .inr h
mutual
theorem Rep.lift {t : Tb} {am am' : List Addr} {H H' : Hp} (p : Lift am H am' H') : ∀ (d : D) (v : V), Rep t am H d v → Rep t am' H' d v
  | .undef, _, h => h
  | .non, _, h => h
  | .bl _, _, h => h
  | .int _, _, h => h
  | .str _, _, h => h
  | .tup ds, v, h => by
    obtain ⟨a, vs, e, h1, h2⟩ := h
    exact ⟨a, vs, e, p.sqT h1, Reps.lift p ds vs h2⟩
  | .frl ds, v, h => by
    obtain ⟨a, vs, e, h1, h2⟩ := h
    exact ⟨a, vs, e, p.frL h1, Reps.lift p ds vs h2⟩
  | .ref n, v, h => by
    obtain ⟨a, e, h1⟩ := h
    exact ⟨a, e, p.at _ _ h1⟩
  | .fn i, v, h => h
theorem Reps.lift {t : Tb} {am am' : List Addr} {H H' : Hp} (p : Lift am H am' H') : ∀ (ds : List D) (vs : List V), Reps t am H ds vs → Reps t am' H' ds vs
  | [], _, h => h
  | d :: ds, vs, h => by
    obtain ⟨v, r, e, h1, h2⟩ := h
    exact ⟨v, r, e, Rep.lift p d v h1, Reps.lift p ds r h2⟩
end
theorem Rep.mono {t : Tb} {am am' : List Addr} {H H' : Hp} (p : Post am H am' H') (d : D) (v : V) (h : Rep t am H d v) : Rep t am' H' d v := Rep.lift p.lift d v h
theorem Reps.mono {t : Tb} {am am' : List Addr} {H H' : Hp} (p : Post am H am' H') (ds : List D) (vs : List V) (h : Reps t am H ds vs) : Reps t am' H' ds vs := Reps.lift p.lift ds vs h
/-! a value without places of the store -/
mutual
theorem Rep.pure {t : Tb} {am am' : List Addr} {H H' : Hp} (imm : ∀ a o, H a = some o → Imm o → H' a = some o) : ∀ (d : D) (v : V), d.pure = true → Rep t am H d v → Rep t am' H' d v
  | .undef, _, _, h => h
  | .non, _, _, h => h
  | .bl _, _, _, h => h
  | .int _, _, _, h => h
  | .str _, _, _, h => h
  | .tup ds, v, q, h => by
    obtain ⟨a, vs, e, h1, h2⟩ := h
    exact ⟨a, vs, e, Lift.sqT (am := []) (am' := []) ⟨fun _ _ h => h, imm⟩ h1, Reps.pure imm ds vs q h2⟩
  | .frl ds, v, q, h => by
    obtain ⟨a, vs, e, h1, h2⟩ := h
    exact ⟨a, vs, e, Lift.frL (am := []) (am' := []) ⟨fun _ _ h => h, imm⟩ h1, Reps.pure imm ds vs q h2⟩
  | .ref n, v, q, h => absurd q (by unfold D.pure; exact Bool.false_ne_true)
  | .fn i, v, _, h => h
theorem Reps.pure {t : Tb} {am am' : List Addr} {H H' : Hp} (imm : ∀ a o, H a = some o → Imm o → H' a = some o) : ∀ (ds : List D) (vs : List V), D.pureL ds = true → Reps t am H ds vs → Reps t am' H' ds vs
  | [], _, _, h => h
  | d :: ds, vs, q, h => by
    obtain ⟨v, r, e, h1, h2⟩ := h
    unfold D.pureL at q
    rw [Bool.and_eq_true] at q
    exact ⟨v, r, e, Rep.pure imm d v q.1 h1, Reps.pure imm ds r q.2 h2⟩
end
section
variable {t : Tb} {am am' : List Addr} {H H' : Hp}
theorem Reps.length : ∀ {ds : List D} {vs : List V}, Reps t am H ds vs → ds.length = vs.length
  | [], vs, h => by
    have e : vs = [] := h
    rw [e]; rfl
  | d :: ds, vs, h => by
    obtain ⟨v, r, e, _, h2⟩ := h
    rw [e, List.length_cons, List.length_cons, Reps.length h2]
theorem Reps.get : ∀ {ds : List D} {vs : List V} {i : Nat} {d : D}, Reps t am H ds vs → ds[i]? = some d → ∃ v, vs[i]? = some v ∧ Rep t am H d v
  | [], _, _, _, _, h => by simp at h
  | d :: ds, vs, 0, d', h, e => by
    obtain ⟨v, r, e1, h1, h2⟩ := h
    have : d = d' := by simpa using e
    subst this
    exact ⟨v, by rw [e1]; rfl, h1⟩
  | d :: ds, vs, i + 1, d', h, e => by
    obtain ⟨v, r, e1, h1, h2⟩ := h
    obtain ⟨v', e2, r2⟩ := Reps.get (i := i) h2 (by simpa using e)
    exact ⟨v', by rw [e1]; simpa using e2, r2⟩
theorem Reps.append : ∀ {ds es : List D} {vs ws : List V}, Reps t am H ds vs → Reps t am H es ws → Reps t am H (ds ++ es) (vs ++ ws)
  | [], _, _, _, h, h' => by rw [show _ = [] from h]; exact h'
  | d :: ds, es, vs, ws, h, h' => by
    obtain ⟨v, r, e, h1, h2⟩ := h
    rw [e]
    exact ⟨v, r ++ ws, rfl, h1, Reps.append h2 h'⟩
theorem Reps.one {d : D} {v : V} (h : Rep t am H d v) : Reps t am H [d] [v] := ⟨v, [], rfl, h, rfl⟩
theorem Reps.take : ∀ {ds : List D} {vs : List V} (n : Nat), Reps t am H ds vs → Reps t am H (ds.take n) (vs.take n)
  | _, _, 0, _ => by simp [Reps]
  | [], vs, n + 1, h => by rw [show vs = [] from h]; simp [Reps]
  | d :: ds, vs, n + 1, h => by
    obtain ⟨v, r, e, h1, h2⟩ := h
    rw [e]
    exact ⟨v, r.take n, rfl, h1, Reps.take n h2⟩
theorem Reps.drop : ∀ {ds : List D} {vs : List V} (n : Nat), Reps t am H ds vs → Reps t am H (ds.drop n) (vs.drop n)
  | _, _, 0, h => h
  | [], vs, n + 1, h => by rw [show vs = [] from h]; simp [Reps]
  | d :: ds, vs, n + 1, h => by
    obtain ⟨v, r, e, h1, h2⟩ := h
    rw [e]
    exact Reps.drop n h2
theorem Reps.set {d : D} {v : V} (h' : Rep t am H d v) : ∀ {ds : List D} {vs : List V} (n : Nat), Reps t am H ds vs → Reps t am H (ds.set n d) (vs.set n v)
  | [], vs, n, h => by rw [show vs = [] from h]; simp [Reps]
  | _ :: ds, vs, 0, h => by
    obtain ⟨v', r, e, h1, h2⟩ := h
    rw [e]
    exact ⟨v, r, rfl, h', h2⟩
  | _ :: ds, vs, n + 1, h => by
    obtain ⟨v', r, e, h1, h2⟩ := h
    rw [e]
    exact ⟨v', r.set n v, rfl, h1, Reps.set h' n h2⟩
theorem Reps.reverse : ∀ {ds : List D} {vs : List V}, Reps t am H ds vs → Reps t am H ds.reverse vs.reverse
  | [], _, h => by rw [show _ = [] from h]; simp [Reps]
  | d :: ds, vs, h => by
    obtain ⟨v, r, e, h1, h2⟩ := h
    rw [e, List.reverse_cons, List.reverse_cons]
    exact Reps.append (Reps.reverse h2) (.one h1)
theorem Reps.nil_iff {ds : List D} {vs : List V} (h : Reps t am H ds vs) : ds = [] ↔ vs = [] := by
  have := h.length
  constructor
  · rintro rfl; exact h
  · rintro rfl; exact List.eq_nil_of_length_eq_zero (by simpa using this)
theorem RKV.lift {κ : Type} {f : D → Option κ} (p : Lift am H am' H') : ∀ {kvs : List (D × D)} {ks : List (κ × V)}, RKV f t am H kvs ks → RKV f t am' H' kvs ks
  | [], _, h => h
  | _ :: _, _, ⟨k, v, r, e, h1, h2, h3⟩ => ⟨k, v, r, e, h1, Rep.lift p _ _ h2, RKV.lift p h3⟩
theorem RKV.pure {κ : Type} {f : D → Option κ} (imm : ∀ a o, H a = some o → Imm o → H' a = some o) : ∀ {kvs : List (D × D)} {ks : List (κ × V)}, D.pureKV kvs = true → RKV f t am H kvs ks → RKV f t am' H' kvs ks
  | [], _, _, h => h
  | _ :: _, _, q, ⟨k, v, r, e, h1, h2, h3⟩ => by
    unfold D.pureKV at q
    simp only [Bool.and_eq_true] at q
    exact ⟨k, v, r, e, h1, Rep.pure imm _ _ q.1.2 h2, RKV.pure imm q.2 h3⟩
/-- an object that was not written -/
theorem OM.lift (p : Lift am H am' H') {o : O} {a : Addr} (h : OM t am H o a) (e : H' a = H a) : OM t am' H' o a := by
  cases o with
  | lst ds =>
    obtain ⟨vs, h1, h2⟩ := h
    exact ⟨vs, by rw [e]; exact h1, Reps.lift p _ _ h2⟩
  | dct tk kvs =>
    cases tk with
    | false =>
      obtain ⟨ks, h1, h2⟩ := h
      exact ⟨ks, by rw [e]; exact h1, h2.lift p⟩
    | true =>
      obtain ⟨ks, h1, h2⟩ := h
      exact ⟨ks, by rw [e]; exact h1, h2.lift p⟩
  | set xs =>
    obtain ⟨S, is, h1, h2, h3⟩ := h
    exact ⟨S, is, h1, by rw [e]; exact h2, h3⟩
theorem OM.mono (p : Post am H am' H') {o : O} {a : Addr} (h : OM t am H o a) (e : H' a = H a) : OM t am' H' o a := h.lift p.lift e
theorem OM.pure {o : O} {a : Addr} (q : o.pure = true) (h : OM t am H o a) : OM t am' H o a := by
  have imm : ∀ a o, H a = some o → Imm o → H a = some o := fun _ _ h _ => h
  cases o with
  | lst ds =>
    obtain ⟨vs, h1, h2⟩ := h
    exact ⟨vs, h1, Reps.pure imm _ _ q h2⟩
  | dct tk kvs =>
    cases tk with
    | false =>
      obtain ⟨ks, h1, h2⟩ := h
      exact ⟨ks, h1, h2.pure imm q⟩
    | true =>
      obtain ⟨ks, h1, h2⟩ := h
      exact ⟨ks, h1, h2.pure imm q⟩
  | set xs => exact h
/-- .. is tracked, and no tuple -/
theorem OM.obj {o : O} {a : Addr} (h : OM t am H o a) : ∃ u, H a = some u ∧ ¬ Imm u := by
  cases o with
  | lst ds => obtain ⟨vs, h1, h2⟩ := h; exact ⟨_, h1, fun z => z⟩
  | dct tk kvs => cases tk with
    | false => obtain ⟨vs, h1, h2⟩ := h; exact ⟨_, h1, fun z => z⟩
    | true => obtain ⟨vs, h1, h2⟩ := h; exact ⟨_, h1, fun z => z⟩
  | set xs => obtain ⟨S, is, h1, h2, h3⟩ := h; exact ⟨_, h2, fun z => z⟩
variable {s : S}
theorem Ms.mem (m : Ms t am s H) {a : Addr} (h : a ∈ am) : ∃ u, H a = some u ∧ ¬ Imm u := by
  obtain ⟨n, hn⟩ := List.getElem?_of_mem h
  have hl : n < s.length := by rw [← m.len]; exact (List.getElem?_eq_some_iff.mp hn).1
  obtain ⟨a', h1, h2⟩ := m.ob n s[n] (List.getElem?_eq_getElem hl)
  rw [hn] at h1; cases h1
  exact h2.obj
theorem Ms.out (m : Ms t am s H) {p : Addr} (h : H p = none) : p ∉ am := fun z => by
  obtain ⟨u, e, _⟩ := m.mem z
  rw [h] at e; cases e
/-- a new object outside the store -/
theorem Post.upd {p : Addr} {o : HO} (hn : H p = none) : Post am H am (L2.upd H p o) :=
  ⟨⟨[], by simp, by simp⟩, fun a u h _ => by rw [upd_ne (ne_of_none h hn)]; exact h, fun a u h _ => by rw [upd_ne (ne_of_none h hn)]; exact h, fun a u h => ⟨u, by rw [upd_ne (ne_of_none h hn)]; exact h⟩⟩
theorem Ms.upd {p : Addr} {o : HO} (m : Ms t am s H) (hn : H p = none) : Ms t am s (L2.upd H p o) :=
  ⟨m.nd, m.len, fun n ob h => by
    obtain ⟨a, h1, h2⟩ := m.ob n ob h
    refine ⟨a, h1, h2.mono (.upd hn) (upd_ne ?_)⟩
    rintro rfl
    exact m.out hn (List.mem_of_getElem? h1)⟩
/-- a new object of the store -/
theorem Post.new {p : Addr} {o : HO} (hn : H p = none) : Post am H (am ++ [p]) (L2.upd H p o) :=
  ⟨⟨[p], rfl, by intro a h; rw [List.mem_singleton] at h; rw [h]; exact hn⟩, fun a u h _ => by rw [upd_ne (ne_of_none h hn)]; exact h, fun a u h _ => by rw [upd_ne (ne_of_none h hn)]; exact h, fun a u h => ⟨u, by rw [upd_ne (ne_of_none h hn)]; exact h⟩⟩
theorem Ms.new {p : Addr} {u : HO} {o : O} (m : Ms t am s H) (hn : H p = none) (ho : OM t (am ++ [p]) (L2.upd H p u) o p) : Ms t (am ++ [p]) (s ++ [o]) (L2.upd H p u) := by
  have np := m.out hn
  refine ⟨?_, by simp [m.len], fun n ob h => ?_⟩
  · rw [List.nodup_append]
    exact ⟨m.nd, by simp, fun a ha b hb => by rw [List.mem_singleton] at hb; rintro rfl; exact np (hb ▸ ha)⟩
  · by_cases hl : n < s.length
    · rw [List.getElem?_append_left hl] at h
      obtain ⟨a, h1, h2⟩ := m.ob n ob h
      refine ⟨a, by rw [List.getElem?_append_left (by rw [m.len]; exact hl)]; exact h1, h2.mono (.new hn) (upd_ne ?_)⟩
      rintro rfl
      exact np (List.mem_of_getElem? h1)
    · rw [List.getElem?_append_right (by omega)] at h
      have e : n - s.length = 0 := by
        have := (List.getElem?_eq_some_iff.mp h).1
        simp at this; omega
      rw [e] at h
      have : o = ob := by simpa using h
      subst this
      refine ⟨p, ?_, ho⟩
      rw [List.getElem?_append_right (by rw [m.len]; omega), m.len, e]; rfl
/-- an object of the store is written -/
theorem Post.put {p : Addr} {o u : HO} (hm : p ∈ am) (h : H p = some u) (hu : ¬ Imm u) : Post am H am (L2.upd H p o) :=
  ⟨⟨[], by simp, by simp⟩, fun a z h' hi => by rw [upd_ne (by rintro rfl; rw [h] at h'; cases h'; exact hu hi)]; exact h', fun a z h' hn => by rw [upd_ne (by rintro rfl; exact hn hm)]; exact h',
    fun a z h' => by
      by_cases e : a = p
      · subst e; exact ⟨o, upd_same⟩
      · exact ⟨z, by rw [upd_ne e]; exact h'⟩⟩
theorem Ms.put {n : Nat} {p : Addr} {u : HO} {o : O} (m : Ms t am s H) (hp : am[n]? = some p) (ho : OM t am (L2.upd H p u) o p) : Post am H am (L2.upd H p u) ∧ Ms t am (s.set n o) (L2.upd H p u) := by
  have hm := List.mem_of_getElem? hp
  obtain ⟨u0, h0, i0⟩ := m.mem hm
  have P : Post am H am (L2.upd H p u) := .put hm h0 i0
  refine ⟨P, m.nd, by rw [List.length_set]; exact m.len, fun k ob h => ?_⟩
  by_cases e : n = k
  · subst e
    have hl : n < s.length := by rw [← m.len]; exact (List.getElem?_eq_some_iff.mp hp).1
    rw [List.getElem?_set_self hl] at h
    cases h
    exact ⟨p, hp, ho⟩
  · rw [List.getElem?_set_ne e] at h
    obtain ⟨a, h1, h2⟩ := m.ob k ob h
    refine ⟨a, h1, h2.mono P (upd_ne ?_)⟩
    rintro rfl
    exact e ((List.getElem_inj m.nd).mp ((List.getElem?_eq_some_iff.mp hp).2.trans (List.getElem?_eq_some_iff.mp h1).2.symm))
end
end Y

/-! Y2: the judgements, and the rules for expressions. -/
namespace Y
open PySem L2

/-- how an error lies in the heap -/
def XRep (t : Tb) (c : Nat) (fs : List D) (am : List Addr) (H : Hp) (cls : Value) (dd : Option Addr) : Prop :=
  ∃ C names, t.xc c = some (C, names) ∧ cls = .ref C ∧ ((names = [] ∧ fs = [] ∧ dd = none) ∨ (∃ d vs, names ≠ [] ∧ dd = some d ∧ H d = some (.xd (names.zip vs)) ∧ names.length = vs.length ∧ Reps t am H fs vs))
abbrev XW := St → XK
/-- what is wanted of a result -/
def RQ {α β : Type} (t : Tb) (am : List Addr) (H : Hp) (x : Rs α) (rep : List Addr → Hp → α → β → Prop) (Ex : XK) (Q : β → Hp → Prop) : Prop := match x with
  | .ok a s' => ∀ am' H' b, Post am H am' H' → Ms t am' s' H' → rep am' H' a b → Q b H'
  | .exc c fs s' => ∀ am' H' cls dd, Post am H am' H' → Ms t am' s' H' → XRep t c fs am' H' cls dd → Ex cls dd H'
  | .stk => False
abbrev repB : List Addr → Hp → Bool → Bool → Prop := fun _ _ a b => a = b
section
variable {α β α' β' : Type} {t : Tb} {am am1 : List Addr} {H H1 : Hp} {s : S} {Ex : XK}
theorem RQ.re {x : Rs α} {rep : List Addr → Hp → α → β → Prop} {Q : β → Hp → Prop} (h : RQ t am H x rep Ex Q) (p : Post am H am1 H1) : RQ t am1 H1 x rep Ex Q := by
  cases x with
  | ok a s' => exact fun am' H' b q m r => h am' H' b (p.trans q) m r
  | exc c fs s' => exact fun am' H' cls dd q m r => h am' H' cls dd (p.trans q) m r
  | stk => exact h
theorem RQ.seq {x : Rs α} {f : α → S → Rs α'} {rep1 : List Addr → Hp → α → β → Prop} {rep2 : List Addr → Hp → α' → β' → Prop} {Q : β' → Hp → Prop} {K : β → Hp → Prop} (h : RQ t am H (x.bind f) rep2 Ex Q)
    (hk : ∀ a s1 am1 H1 b, Post am H am1 H1 → Ms t am1 s1 H1 → rep1 am1 H1 a b → RQ t am1 H1 (f a s1) rep2 Ex Q → K b H1) : RQ t am H x rep1 Ex K := by
  cases x with
  | ok a s' => exact fun am' H' b q m r => hk a s' am' H' b q m r (RQ.re (Rs.bind_ok a s' f ▸ h) q)
  | exc c fs s' => exact h
  | stk => exact h
theorem RQ.ok {a : α} {rep : List Addr → Hp → α → β → Prop} {Q : β → Hp → Prop} {b : β} (h : RQ t am H (.ok a s) rep Ex Q) (p : Post am H am1 H1) (m : Ms t am1 s H1) (r : rep am1 H1 a b) : Q b H1 := h am1 H1 b p m r
theorem RQ.ok0 {a : α} {rep : List Addr → Hp → α → β → Prop} {Q : β → Hp → Prop} {b : β} (h : RQ t am H (.ok a s) rep Ex Q) (m : Ms t am s H) (r : rep am H a b) : Q b H := h am H b .refl m r
end

/-- the slots -/
structure EnvR (t : Tb) (am : List Addr) (H : Hp) (r : Env) (σ : St) : Prop where
  len : r.length = σ.length
  get : ∀ (i : Nat) (d : D), r[i]? = some d → d ≠ .undef → ∃ v, σ[i]? = some (some v) ∧ Rep t am H d v
section
variable {t : Tb} {am am' : List Addr} {H H' : Hp} {r : Env} {σ : St}
theorem EnvR.mono (e : EnvR t am H r σ) (p : Post am H am' H') : EnvR t am' H' r σ := ⟨e.len, fun i d h n => let ⟨v, h1, h2⟩ := e.get i d h n; ⟨v, h1, h2.mono p⟩⟩
theorem EnvR.set {d : D} {v : V} (e : EnvR t am H r σ) (i : Nat) (h : Rep t am H d v) : EnvR t am H (r.set i d) (σ.set i (some v)) := by
  refine ⟨by simp [e.len], fun j d' h1 n => ?_⟩
  by_cases hj : i = j
  · subst hj
    have hl : i < r.length := by have := (List.getElem?_eq_some_iff.mp h1).1; simpa using this
    rw [List.getElem?_set_self hl] at h1
    cases h1
    exact ⟨v, List.getElem?_set_self (by rw [← e.len]; exact hl), h⟩
  · rw [List.getElem?_set_ne hj] at h1
    obtain ⟨v', h2, h3⟩ := e.get j d' h1 n
    exact ⟨v', by rw [List.getElem?_set_ne hj]; exact h2, h3⟩
theorem EnvR.wipe (e : EnvR t am H r σ) : ∀ vs : List Nat, EnvR t am H (wipeD r vs) (L2.wipe σ vs)
  | [] => e
  | v :: vs => by
    have ih := EnvR.wipe e vs
    unfold wipeD L2.wipe
    refine ⟨by simp [ih.len], fun j d' h1 n => ?_⟩
    by_cases hj : v = j
    · subst hj
      have hl : v < (wipeD r vs).length := by have := (List.getElem?_eq_some_iff.mp h1).1; simpa using this
      rw [List.getElem?_set_self hl] at h1
      cases h1
      exact absurd rfl n
    · rw [List.getElem?_set_ne hj] at h1
      obtain ⟨v', h2, h3⟩ := ih.get j d' h1 n
      exact ⟨v', by rw [List.getElem?_set_ne hj]; exact h2, h3⟩
end

def tyE (t : Tb) (W : XW) (m : E) : TE := fun σ H Q => ∃ am r s, EnvR t am H r σ ∧ Ms t am s H ∧ RQ t am H (m r s) (Rep t) (W σ) Q
def tyT (t : Tb) (W : XW) (m : T) : TT := fun σ H Q => ∃ am r s, EnvR t am H r σ ∧ Ms t am s H ∧ RQ t am H (m r s) repB (W σ) Q
def tyA (t : Tb) (W : XW) (m : A) : TA := fun σ H Q => ∃ am r s, EnvR t am H r σ ∧ Ms t am s H ∧ RQ t am H (m r s) (Reps t) (W σ) Q
def SE (X : Cx) (t : Tb) (W : XW) (e : Expr) (m : E) : Prop := PE X e (tyE t W m)
def ST (X : Cx) (t : Tb) (W : XW) (e : Expr) (m : T) : Prop := PT X e (tyT t W m)
def SW (X : Cx) (t : Tb) (W : XW) (e : Expr) (m : T) : Prop := PW X e (tyT t W m)
def SA (X : Cx) (t : Tb) (W : XW) (es : List Expr) (m : A) : Prop := PA X es (tyA t W m)

section
variable {X : Cx} {t : Tb} {W : XW} {e a b c : Expr} {es rest : List Expr} {pos : Pos} {ma mb mc : E} {m : E} {mt mu : T} {ms : A}
theorem _root_.L2.PE.imp {u u' : TE} (h : PE X e u) (f : ∀ σ H Q, u' σ H Q → u σ H Q) : PE X e u' := ⟨fun pins s σ H Q I q => h.run pins s σ H Q I (f σ H Q q)⟩
theorem _root_.L2.PT.imp {u u' : TT} (h : PT X e u) (f : ∀ σ H Q, u' σ H Q → u σ H Q) : PT X e u' := ⟨fun pins s σ H Q I q => h.run pins s σ H Q I (f σ H Q q)⟩
theorem _root_.L2.PW.imp {u u' : TT} (h : PW X e u) (f : ∀ σ H Q, u' σ H Q → u σ H Q) : PW X e u' := ⟨fun wh pins s σ H Q I q => h.run wh pins s σ H Q I (f σ H Q q)⟩
theorem _root_.L2.PA.imp {u u' : TA} (h : PA X es u) (f : ∀ σ H Q, u' σ H Q → u σ H Q) : PA X es u' := ⟨fun pos pins s σ H Q I q => h.run pos pins s σ H Q I (f σ H Q q)⟩

/-- a part's reading, from the whole's result -/
theorem tyE.of {σ : St} {H : Hp} {am : List Addr} {r : Env} {s : S} {α β : Type} {f : D → S → Rs α} {rep : List Addr → Hp → α → β → Prop} {Q : β → Hp → Prop} {K : V → Hp → Prop} (en : EnvR t am H r σ) (mm : Ms t am s H)
    (h : RQ t am H ((m r s).bind f) rep (W σ) Q)
    (hk : ∀ d s1 am1 H1 v, EnvR t am1 H1 r σ → Ms t am1 s1 H1 → Post am H am1 H1 → Rep t am1 H1 d v → RQ t am1 H1 (f d s1) rep (W σ) Q → K v H1) : tyE t W m σ H K :=
  ⟨am, r, s, en, mm, h.seq fun d s1 am1 H1 v p m1 rp h1 => hk d s1 am1 H1 v (en.mono p) m1 p rp h1⟩
theorem tyT.of {σ : St} {H : Hp} {am : List Addr} {r : Env} {s : S} {α β : Type} {f : Bool → S → Rs α} {rep : List Addr → Hp → α → β → Prop} {Q : β → Hp → Prop} {K : Bool → Hp → Prop} (en : EnvR t am H r σ) (mm : Ms t am s H)
    (h : RQ t am H ((mt r s).bind f) rep (W σ) Q)
    (hk : ∀ d s1 am1 H1, EnvR t am1 H1 r σ → Ms t am1 s1 H1 → Post am H am1 H1 → RQ t am1 H1 (f d s1) rep (W σ) Q → K d H1) : tyT t W mt σ H K :=
  ⟨am, r, s, en, mm, h.seq fun d s1 am1 H1 v p m1 rp h1 => by cases rp; exact hk d s1 am1 H1 (en.mono p) m1 p h1⟩
theorem tyA.of {σ : St} {H : Hp} {am : List Addr} {r : Env} {s : S} {α β : Type} {f : List D → S → Rs α} {rep : List Addr → Hp → α → β → Prop} {Q : β → Hp → Prop} {K : List V → Hp → Prop} (en : EnvR t am H r σ) (mm : Ms t am s H)
    (h : RQ t am H ((ms r s).bind f) rep (W σ) Q)
    (hk : ∀ d s1 am1 H1 v, EnvR t am1 H1 r σ → Ms t am1 s1 H1 → Post am H am1 H1 → Reps t am1 H1 d v → RQ t am1 H1 (f d s1) rep (W σ) Q → K v H1) : tyA t W ms σ H K :=
  ⟨am, r, s, en, mm, h.seq fun d s1 am1 H1 v p m1 rp h1 => hk d s1 am1 H1 v (en.mono p) m1 p rp h1⟩

/-! ### constants, names -/
theorem s_int {i j} : SE X t W (.Constant (.int i) j pos) (eC (.int i)) := pe_int.imp fun σ H Q ⟨am, r, s, en, mm, h⟩ => h.ok0 mm rfl
theorem s_bl {i j} : SE X t W (.Constant (.bool i) j pos) (eC (.bl i)) := pe_bl.imp fun σ H Q ⟨am, r, s, en, mm, h⟩ => h.ok0 mm rfl
theorem s_non {j} : SE X t W (.Constant .none j pos) (eC .non) := pe_non.imp fun σ H Q ⟨am, r, s, en, mm, h⟩ => h.ok0 mm rfl
theorem s_str {i j} : SE X t W (.Constant (.str i) j pos) (eC (.str i)) := pe_str.imp fun σ H Q ⟨am, r, s, en, mm, h⟩ => h.ok0 mm rfl
theorem s_var (i : Nat) {x : Str} (hN : X.N[i]? = some x := by rfl) (hv : Vis X.env.scope x := by first | exact Or.inl rfl | exact Or.inr (Or.inl rfl) | exact Or.inr (Or.inr rfl)) (hd : (x == ("__debug__" : Str)) = false := by decide)
    (hcd : (x == ("__classdict__" : Str)) = false := by decide) : SE X t W (.Name x pos) (eV i) := (pe_var hN hv hd hcd).imp fun σ H Q ⟨am, r, s, en, mm, h⟩ => by
  unfold eV at h
  cases e : r[i]? with
  | none => rw [e] at h; exact h.elim
  | some d =>
    rw [e] at h
    by_cases hu : d = .undef
    · subst hu; exact h.elim
    · obtain ⟨v, h1, h2⟩ := en.get i d e hu
      have h' : RQ t am H (.ok d s) (Rep t) (W σ) Q := by cases d <;> first | exact h | exact absurd rfl hu
      exact ⟨v, h1, h'.ok0 mm h2⟩
/-- a module's constant int, by the facts of the top -/
theorem s_glob {i : Int} {x : Str} (hg : Gl X x) (hm' : ∃ k, X.mg x = some (.int i k)) (hd : (x == ("__debug__" : Str)) = false := by decide) : SE X t W (.Name x pos) (eC (.int i)) :=
  let ⟨k, hm⟩ := hm'
  (pe_glob hg hm (v := .int i) ⟨k, rfl⟩ hd).imp fun σ H Q ⟨am, r, s, en, mm, h⟩ => h.ok0 mm rfl
theorem s_fn {i : Nat} {f : Addr} {x : Str} (hg : Gl X x) (hm : X.mg x = some (.ref f)) (hf : t.fa i = some f) (hd : (x == ("__debug__" : Str)) = false := by decide) : SE X t W (.Name x pos) (eC (.fn i)) :=
  (pe_glob hg hm (v := .ref f) rfl hd).imp fun σ H Q ⟨am, r, s, en, mm, h⟩ => h.ok0 mm ⟨f, rfl, hf⟩

/-! ### operators by values -/
/-- o does what the rule r asks -/
def Op2 (t : Tb) (r : R2) (o : P2) : Prop := ∀ (am : List Addr) (s : S) (H : Hp) (d1 d2 : D) (v1 v2 : V) (Ex : XK) (Q : VK), Ms t am s H → Rep t am H d1 v1 → Rep t am H d2 v2 → RQ t am H (o d1 d2 s) (Rep t) Ex Q → r v1 v2 H Q
def Op1 (t : Tb) (r : V → Hp → VK → Prop) (o : P1) : Prop := ∀ (am : List Addr) (s : S) (H : Hp) (d : D) (v : V) (Ex : XK) (Q : VK), Ms t am s H → Rep t am H d v → RQ t am H (o d s) (Rep t) Ex Q → r v H Q
theorem s_op {op : Operator} {r : R2} {o : P2} (ho : OpR X (binaryOp op) r) (h2 : Op2 t r o) (ha : SE X t W a ma) (hb : SE X t W b mb) : SE X t W (.BinOp a op b pos) (e2 o ma mb) :=
  (pe_op ho ha hb).imp fun σ H Q ⟨am, r, s, en, mm, h⟩ => tyE.of en mm h fun d1 s1 am1 H1 v1 en1 m1 p1 r1 h1 => tyE.of en1 m1 h1 fun d2 s2 am2 H2 v2 en2 m2 p2 r2 h2' => h2 am2 s2 H2 d1 d2 v1 v2 _ Q m2 (r1.mono p2) r2 h2'
theorem s_cmp {op : CmpOp} {r : R2} {o : P2} (ho : OpR X (compareOp op) r) (h2 : Op2 t r o) (ha : SE X t W a ma) (hb : SE X t W b mb) (hm : behindInMarks op b = false) : SE X t W (.Compare a [op] [b] pos) (e2 o ma mb) :=
  (pe_cmpR ho ha hb hm).imp fun σ H Q ⟨am, r, s, en, mm, h⟩ => tyE.of en mm h fun d1 s1 am1 H1 v1 en1 m1 p1 r1 h1 => tyE.of en1 m1 h1 fun d2 s2 am2 H2 v2 en2 m2 p2 r2 h2' => h2 am2 s2 H2 d1 d2 v1 v2 _ Q m2 (r1.mono p2) r2 h2'
theorem s_ix {r : R2} {o : P2} (ho : IxR X r) (h2 : Op2 t r o) (ha : SE X t W a ma) (hb : SE X t W b mb) (hs : PlainIx b) : SE X t W (.Subscript a b pos) (e2 o ma mb) :=
  (pe_ix ho ha hb hs).imp fun σ H Q ⟨am, r, s, en, mm, h⟩ => tyE.of en mm h fun d1 s1 am1 H1 v1 en1 m1 p1 r1 h1 => tyE.of en1 m1 h1 fun d2 s2 am2 H2 v2 en2 m2 p2 r2 h2' => h2 am2 s2 H2 d1 d2 v1 v2 _ Q m2 (r1.mono p2) r2 h2'
theorem s_un {op : UnaryOp} {r : V → Hp → VK → Prop} {o : P1} (ho : UnR X (unaryOp op) r) (h2 : Op1 t r o) (ha : SE X t W a ma) : SE X t W (.UnaryOp op a pos) (e1 o ma) :=
  (pe_un ho ha).imp fun σ H Q ⟨am, r, s, en, mm, h⟩ => tyE.of en mm h fun d1 s1 am1 H1 v1 en1 m1 p1 r1 h1 => h2 am1 s1 H1 d1 v1 _ Q m1 r1 h1
/-- f(..) of a built-in -/
def OpN (t : Tb) (r : List V → Hp → VK → Prop) (o : PN) : Prop := ∀ (am : List Addr) (s : S) (H : Hp) (ds : List D) (vs : List V) (Ex : XK) (Q : VK), Ms t am s H → Reps t am H ds vs → RQ t am H (o ds s) (Rep t) Ex Q → r vs H Q
theorem s_nil : SA X t W [] aN := pa_nil.imp fun σ H Q ⟨am, r, s, en, mm, h⟩ => h.ok0 mm rfl
theorem s_cons (ha : SE X t W e m) (hr : SA X t W es ms) (hs : starEach (e :: es) X.env = (false, eval e X.env) :: starEach es X.env := by rfl) : SA X t W (e :: es) (aC m ms) :=
  (pa_cons ha hr hs).imp fun σ H Q ⟨am, r, s, en, mm, h⟩ => tyE.of en mm h fun d1 s1 am1 H1 v1 en1 m1 p1 r1 h1 => tyA.of en1 m1 h1 fun ds s2 am2 H2 vs en2 m2 p2 r2 h2' => h2'.ok0 m2 ⟨v1, vs, rfl, r1.mono p2, r2⟩
theorem s_bltB {id : String} {r : List V → Hp → VK → Prop} {o : PN} {x : Str} {p : Pos} (hc : CallR X (.builtin id) r) (h2 : OpN t r o) (hg : Gl X x) (hm : X.mg x = none) (hv : bootBuiltins x = some (.builtin id)) (ha : SA X t W (e :: es) ms)
    (hn : x ≠ "__name__" := by decide) (hdb : (x == ("__debug__" : Str)) = false := by decide) (he : starEach (e :: es) X.env = (false, eval e X.env) :: starEach es X.env := by rfl) (hpl : (backTo pos (starEach es X.env)).any (·.1) = false := by rfl) :
    SE X t W (.Call (.Name x p) (e :: es) [] pos) (eN o ms) :=
  (pe_callB hc hg hm hv ha hn hdb he hpl).imp fun σ H Q ⟨am, r, s, en, mm, h⟩ => tyA.of en mm h fun ds s1 am1 H1 vs en1 m1 p1 r1 h1 => h2 am1 s1 H1 ds vs _ Q m1 r1 h1
theorem s_bltT {id : String} {r : List V → Hp → VK → Prop} {o : PN} {x : Str} {p : Pos} (hc : CallR X (.type id) r) (h2 : OpN t r o) (hg : Gl X x) (hm : X.mg x = none) (hv : bootBuiltins x = some (.type id)) (ha : SA X t W (e :: es) ms)
    (hn : x ≠ "__name__" := by decide) (hdb : (x == ("__debug__" : Str)) = false := by decide) (he : starEach (e :: es) X.env = (false, eval e X.env) :: starEach es X.env := by rfl) (hpl : (backTo pos (starEach es X.env)).any (·.1) = false := by rfl) :
    SE X t W (.Call (.Name x p) (e :: es) [] pos) (eN o ms) :=
  (pe_callTy hc hg hm hv ha hn hdb he hpl).imp fun σ H Q ⟨am, r, s, en, mm, h⟩ => tyA.of en mm h fun ds s1 am1 H1 vs en1 m1 p1 r1 h1 => h2 am1 s1 H1 ds vs _ Q m1 r1 h1

/-! ### tests -/
theorem s_tst (h : SE X t W e m) (he : ∀ whole, isTrue e X.env whole = (do let v ← whole; standAt e.pos; holding [v] (truthy v)) := by intro _; rfl) : ST X t W e (tst m) :=
  (pt_val h he).imp fun σ H Q ⟨am, r, s, en, mm, h⟩ => tyE.of en mm h fun d s1 am1 H1 v en1 m1 p1 r1 h1 => by
    cases d with
    | bl b => exact ⟨b, r1, h1.ok0 m1 rfl⟩
    | _ => exact h1.elim
/-- a comparison as a test -/
theorem s_tcmp {op : CmpOp} {r : R2} {o : P2} (ho : OpR X (compareOp op) r) (h2 : Op2 t r o) (ha : SE X t W a ma) (hb : SE X t W b mb) (hm : behindInMarks op b = false) : ST X t W (.Compare a [op] [b] pos) (tst (e2 o ma mb)) :=
  (pt_cmpR ho ha hb hm).imp fun σ H Q ⟨am, r, s, en, mm, h⟩ => by
    have h : RQ t am H ((ma r s).bind fun x s1 => (mb r s1).bind fun y s2 => (o x y s2).bind fun z s3 => match z with
      | .bl b => .ok b s3
      | _ => .stk) repB (W σ) Q := by
      have e : tst (e2 o ma mb) r s = ((ma r s).bind fun x s1 => (mb r s1).bind fun y s2 => (o x y s2).bind fun z s3 => match z with
        | .bl b => .ok b s3
        | _ => .stk) := by
        unfold tst e2
        cases ma r s with
        | ok x s1 =>
          simp only [Rs.bind_ok]
          cases mb r s1 <;> rfl
        | exc => rfl
        | stk => rfl
      rw [← e]; exact h
    refine tyE.of en mm h fun d1 s1 am1 H1 v1 en1 m1 p1 r1 h1 => tyE.of en1 m1 h1 fun d2 s2 am2 H2 v2 en2 m2 p2 r2 h2' => ?_
    refine h2 am2 s2 H2 d1 d2 v1 v2 (W σ) _ m2 (r1.mono p2) r2 (h2'.seq fun z s3 am3 H3 v3 p3 m3 r3 h3 => ?_)
    cases z with
    | bl b => exact ⟨b, r3, h3.ok0 m3 rfl⟩
    | _ => exact h3.elim
theorem s_pw (h : SW X t W e mt) : ST X t W e mt := PW.pt h
theorem s_and1 (ha : ST X t W a mt) : SW X t W (.BoolOp .And [a] pos) mt := pw_and1 ha
theorem s_or1 (ha : ST X t W a mt) : SW X t W (.BoolOp .Or [a] pos) mt := pw_or1 ha
theorem s_and (ha : ST X t W a mt) (hb : SW X t W (.BoolOp .And (b :: rest) pos) mu) : SW X t W (.BoolOp .And (a :: b :: rest) pos) (tAnd mt mu) :=
  (pw_and ha hb).imp fun σ H Q ⟨am, r, s, en, mm, h⟩ => tyT.of en mm h fun c s1 am1 H1 en1 m1 p1 h1 => by
    cases c with
    | true => exact ⟨am1, r, s1, en1, m1, h1⟩
    | false => exact h1.ok0 m1 rfl
theorem s_or (ha : ST X t W a mt) (hb : SW X t W (.BoolOp .Or (b :: rest) pos) mu) : SW X t W (.BoolOp .Or (a :: b :: rest) pos) (tOr mt mu) :=
  (pw_or ha hb).imp fun σ H Q ⟨am, r, s, en, mm, h⟩ => tyT.of en mm h fun c s1 am1 H1 en1 m1 p1 h1 => by
    cases c with
    | false => exact ⟨am1, r, s1, en1, m1, h1⟩
    | true => exact h1.ok0 m1 rfl
theorem s_tnot (ha : ST X t W a mt) : ST X t W (.UnaryOp .Not a pos) (tNot mt) :=
  (pt_not ha).imp fun σ H Q ⟨am, r, s, en, mm, h⟩ => tyT.of en mm h fun c s1 am1 H1 en1 m1 p1 h1 => h1.ok0 m1 rfl
theorem s_one {op} (h : SE X t W a m) : SE X t W (.BoolOp op [a] pos) m := pe_one h
theorem s_vand (ha : SE X t W a ma) (hb : SE X t W (.BoolOp .And (b :: rest) pos) mb) : SE X t W (.BoolOp .And (a :: b :: rest) pos) (eAnd ma mb) :=
  (pe_and ha hb).imp fun σ H Q ⟨am, r, s, en, mm, h⟩ => tyE.of en mm h fun d s1 am1 H1 v en1 m1 p1 r1 h1 => by
    cases d with
    | bl c =>
      refine ⟨c, r1, ?_⟩
      cases c with
      | true => exact ⟨am1, r, s1, en1, m1, h1⟩
      | false => exact h1.ok0 m1 rfl
    | _ => exact h1.elim
theorem s_vor (ha : SE X t W a ma) (hb : SE X t W (.BoolOp .Or (b :: rest) pos) mb) : SE X t W (.BoolOp .Or (a :: b :: rest) pos) (eOr ma mb) :=
  (pe_or ha hb).imp fun σ H Q ⟨am, r, s, en, mm, h⟩ => tyE.of en mm h fun d s1 am1 H1 v en1 m1 p1 r1 h1 => by
    cases d with
    | bl c =>
      refine ⟨c, r1, ?_⟩
      cases c with
      | false => exact ⟨am1, r, s1, en1, m1, h1⟩
      | true => exact h1.ok0 m1 rfl
    | _ => exact h1.elim
theorem s_vnot (ha : SE X t W a ma) : SE X t W (.UnaryOp .Not a pos) (eNot ma) :=
  (pe_not ha).imp fun σ H Q ⟨am, r, s, en, mm, h⟩ => tyE.of en mm h fun d s1 am1 H1 v en1 m1 p1 r1 h1 => by
    cases d with
    | bl c => exact ⟨c, r1, h1.ok0 m1 rfl⟩
    | _ => exact h1.elim
theorem s_if (hc : ST X t W c mt) (ha : SE X t W a ma) (hb : SE X t W b mb) : SE X t W (.IfExp c a b pos) (eIf mt ma mb) :=
  (pe_ifExp hc ha hb).imp fun σ H Q ⟨am, r, s, en, mm, h⟩ => tyT.of en mm h fun c s1 am1 H1 en1 m1 p1 h1 => by
    cases c with
    | true => exact ⟨am1, r, s1, en1, m1, h1⟩
    | false => exact ⟨am1, r, s1, en1, m1, h1⟩
theorem line_le {n : Nat} (h : n ≤ 1000000) : n ≤ sizeLine := Nat.le_trans h (by decide)
theorem s_tup {x1} (h : SA X t W es ms) : SE X t W (.Tuple es x1 pos) (eTup ms) :=
  (pe_tup h).imp fun σ H Q ⟨am, r, s, en, mm, h⟩ => tyA.of en mm h fun ds s1 am1 H1 vs en1 m1 p1 r1 h1 => by
    by_cases hl : ds.length ≤ 1000000
    · simp only [hl, if_true] at h1
      refine ⟨by rw [← r1.length]; exact line_le hl, fun p hp => ?_⟩
      exact h1.ok (.upd hp) (m1.upd hp) ⟨p, vs, rfl, .of upd_same, r1.mono (.upd hp)⟩
    · simp only [hl, if_false] at h1
      exact h1.elim
theorem s_lst (h : SA X t W es ms) : SE X t W (.List es pos) (eLst ms) :=
  (pe_lst h).imp fun σ H Q ⟨am, r, s, en, mm, h⟩ => tyA.of en mm h fun ds s1 am1 H1 vs en1 m1 p1 r1 h1 => by
    by_cases hl : ds.length ≤ 1000000
    · simp only [hl, if_true] at h1
      refine ⟨by rw [← r1.length]; exact line_le hl, fun p hp => ?_⟩
      refine h1.ok (.new hp) (m1.new hp ⟨vs, upd_same, r1.mono (.new hp)⟩) ⟨p, rfl, ?_⟩
      rw [← m1.len]
      simp
    · simp only [hl, if_false] at h1
      exact h1.elim
/-- a < b < c -/
theorem s_chain {op op' : CmpOp} {r r' : R2} {o o' : P2} (ho : OpR X (compareOp op) r) (ho' : OpR X (compareOp op') r') (h2 : Op2 t r o) (h2' : Op2 t r' o') (ha : SE X t W a ma) (hb : SE X t W b mb) (hc : SE X t W c mc)
    (hm : lastMarks [op, op'] [b, c] = false := by with_unfolding_all rfl) : SE X t W (.Compare a [op, op'] [b, c] pos) (eCh o o' ma mb mc) :=
  (pe_chain ho ho' ha hb hc hm).imp fun σ H Q ⟨am, r, s, en, mm, h⟩ => tyE.of en mm h fun d1 s1 am1 H1 v1 en1 m1 p1 r1 h1 => tyE.of en1 m1 h1 fun d2 s2 am2 H2 v2 en2 m2 p2 r2 h3 => by
    refine h2 am2 s2 H2 d1 d2 v1 v2 (W σ) _ m2 (r1.mono p2) r2 (h3.seq fun z s3 am3 H3 v3 p3 m3 r3 h4 => ?_)
    cases z with
    | bl k =>
      refine ⟨k, r3, ?_⟩
      cases k with
      | true => exact tyE.of (en2.mono p3) m3 h4 fun d4 s4 am4 H4 v4 en4 m4 p4 r4 h5 => h2' am4 s4 H4 d2 d4 v2 v4 _ Q m4 ((r2.mono p3).mono p4) r4 h5
      | false => exact h4.ok0 m3 rfl
    | _ => exact h4.elim
theorem s_tchain {op op' : CmpOp} {r r' : R2} {o o' : P2} (ho : OpR X (compareOp op) r) (ho' : OpR X (compareOp op') r') (h2 : Op2 t r o) (h2' : Op2 t r' o') (ha : SE X t W a ma) (hb : SE X t W b mb) (hc : SE X t W c mc)
    (hm : lastMarks [op, op'] [b, c] = false := by with_unfolding_all rfl) : ST X t W (.Compare a [op, op'] [b, c] pos) (tst (eCh o o' ma mb mc)) :=
  (pt_chain ho ho' ha hb hc hm).imp fun σ H Q ⟨am, r, s, en, mm, h⟩ => by
    have h : RQ t am H ((ma r s).bind fun x s1 => (mb r s1).bind fun y s2 => (o x y s2).bind fun z s3 => match z with
      | .bl true => (mc r s3).bind fun w s4 => (o' y w s4).bind fun z s5 => match z with
        | .bl b => .ok b s5
        | _ => .stk
      | .bl false => .ok false s3
      | _ => .stk) repB (W σ) Q := by
      have e : tst (eCh o o' ma mb mc) r s = ((ma r s).bind fun x s1 => (mb r s1).bind fun y s2 => (o x y s2).bind fun z s3 => match z with
        | .bl true => (mc r s3).bind fun w s4 => (o' y w s4).bind fun z s5 => match z with
          | .bl b => .ok b s5
          | _ => .stk
        | .bl false => .ok false s3
        | _ => .stk) := by
        unfold tst eCh
        cases ma r s with
        | ok x s1 =>
          simp only [Rs.bind_ok]
          cases mb r s1 with
          | ok y s2 =>
            simp only [Rs.bind_ok]
            cases o x y s2 with
            | ok z s3 =>
              simp only [Rs.bind_ok]
              cases z with
              | bl k =>
                cases k with
                | true =>
                  dsimp only
                  cases mc r s3 <;> rfl
                | false => rfl
              | _ => rfl
            | exc => rfl
            | stk => rfl
          | exc => rfl
          | stk => rfl
        | exc => rfl
        | stk => rfl
      rw [← e]; exact h
    refine tyE.of en mm h fun d1 s1 am1 H1 v1 en1 m1 p1 r1 h1 => tyE.of en1 m1 h1 fun d2 s2 am2 H2 v2 en2 m2 p2 r2 h3 => ?_
    refine h2 am2 s2 H2 d1 d2 v1 v2 (W σ) _ m2 (r1.mono p2) r2 (h3.seq fun z s3 am3 H3 v3 p3 m3 r3 h4 => ?_)
    cases z with
    | bl k =>
      refine ⟨k, r3, ?_⟩
      cases k with
      | true =>
        refine tyE.of (en2.mono p3) m3 h4 fun d4 s4 am4 H4 v4 en4 m4 p4 r4 h5 => h2' am4 s4 H4 d2 d4 v2 v4 (W σ) _ m4 ((r2.mono p3).mono p4) r4 (h5.seq fun z s5 am5 H5 v5 p5 m5 r5 h6 => ?_)
        cases z with
        | bl b => exact ⟨b, r5, h6.ok0 m5 rfl⟩
        | _ => exact h6.elim
      | false => exact ⟨false, rfl, h4.ok0 m3 rfl⟩
    | _ => exact h4.elim
end
end Y

/-! Y3: the operators and built-in functions do what the plain ones say. -/
namespace Y
open PySem L2
section
variable {X : Cx} {t : Tb}
theorem Op2.or {r r' : R2} {o o' : P2} (c : D → D → S → Bool) (h : Op2 t r o) (h' : Op2 t r' o') : Op2 t (fun x y H Q => r x y H Q ∨ r' x y H Q) (fun x y s => if c x y s = true then o x y s else o' x y s) :=
  fun am s H d1 d2 v1 v2 Ex Q m r1 r2 q => by
    by_cases e : c d1 d2 s = true
    · simp only [e, if_true] at q
      exact .inl (h am s H d1 d2 v1 v2 Ex Q m r1 r2 q)
    · simp only [e, if_false] at q
      exact .inr (h' am s H d1 d2 v1 v2 Ex Q m r1 r2 q)
theorem Rep.intE {am : List Addr} {H : Hp} {i : Int} {v : V} (h : Rep t am H (.int i) v) : v = .int i := h
theorem Rep.blE {am : List Addr} {H : Hp} {i : Bool} {v : V} (h : Rep t am H (.bl i) v) : v = .bl i := h
theorem Rep.strE {am : List Addr} {H : Hp} {i : Str} {v : V} (h : Rep t am H (.str i) v) : v = .str i := h
theorem Rep.tupE {am : List Addr} {H : Hp} {ds : List D} {v : V} (h : Rep t am H (.tup ds) v) : ∃ a vs, v = .ref a ∧ SqT t.K H a vs ∧ Reps t am H ds vs := h
theorem Rep.frlE {am : List Addr} {H : Hp} {ds : List D} {v : V} (h : Rep t am H (.frl ds) v) : ∃ a vs, v = .ref a ∧ FrL t.K H a vs ∧ Reps t am H ds vs := h
theorem Rep.refE {am : List Addr} {H : Hp} {n : Nat} {v : V} (h : Rep t am H (.ref n) v) : ∃ a, v = .ref a ∧ am[n]? = some a := h
/-- what stands at a place of the store -/
theorem Ms.at {am : List Addr} {s : S} {H : Hp} (m : Ms t am s H) {n : Nat} {a : Addr} {o : O} (e : s[n]? = some o) (h : am[n]? = some a) : OM t am H o a := by
  obtain ⟨a', h1, h2⟩ := m.ob n o e
  rw [h] at h1; cases h1
  exact h2
theorem Ms.lst {am : List Addr} {s : S} {H : Hp} (m : Ms t am s H) {n : Nat} {a : Addr} {ds : List D} (e : s[n]? = some (.lst ds)) (h : am[n]? = some a) : ∃ vs, H a = some (.lst vs) ∧ Reps t am H ds vs := m.at e h
/-- a new list -/
theorem new_list {am : List Addr} {s : S} {H : Hp} {Ex : XK} {Q : VK} {ds : List D} {vs : List V} (m : Ms t am s H) (h : RQ t am H (.ok (.ref s.length) (s ++ [.lst ds])) (Rep t) Ex Q) (r : Reps t am H ds vs) : ∀ p, H p = none → Q (.ref p) (L2.upd H p (.lst vs)) := fun p hp =>
  h.ok (.new hp) (m.new hp ⟨vs, upd_same, r.mono (.new hp)⟩) ⟨p, rfl, by rw [← m.len]; simp⟩
theorem new_tup {am : List Addr} {s : S} {H : Hp} {Ex : XK} {Q : VK} {ds : List D} {vs : List V} (m : Ms t am s H) (h : RQ t am H (.ok (.tup ds) s) (Rep t) Ex Q) (r : Reps t am H ds vs) : ∀ p, H p = none → Q (.ref p) (L2.upd H p (.tup vs)) := fun p hp =>
  h.ok (.upd hp) (m.upd hp) ⟨p, vs, rfl, .of upd_same, r.mono (.upd hp)⟩

/-! ### + -/
def rAdd4 (K : PySem.W.Frag) : R2 := fun x y H Q => rI0 (fun i j => .int (i + j)) x y H Q ∨ (∃ i j, x = .str i ∧ y = .str j ∧ i.length + j.length ≤ sizeLine ∧ Q (.str (i ++ j)) H) ∨ rCatA K x y H Q ∨ rCat x y H Q
theorem op_add4 : OpR X (binaryOp .Add) (rAdd4 X.K) := op_add.or (op_add_str.or (op_catA.or op_cat))
theorem o_add : Op2 t (rAdd4 t.K) oAdd := fun am s H d1 d2 v1 v2 Ex Q m r1 r2 q => by
  unfold oAdd at q
  split at q
  · cases r1.intE; cases r2.intE
    exact .inl ⟨_, _, rfl, rfl, q.ok0 m rfl⟩
  · cases r1.strE; cases r2.strE
    rename_i a b
    by_cases hl : a.length + b.length ≤ LINE
    · rw [if_pos hl] at q
      exact .inr (.inl ⟨_, _, rfl, rfl, line_le hl, q.ok0 m rfl⟩)
    · rw [if_neg hl] at q; exact q.elim
  · rename_i xs ys
    obtain ⟨a, vs, rfl, h1, h2⟩ := r1.tupE
    obtain ⟨b, ws, rfl, h3, h4⟩ := r2.tupE
    by_cases hl : xs.length + ys.length ≤ LINE
    · rw [if_pos hl] at q
      refine .inr (.inr (.inl ⟨a, b, vs, ws, rfl, rfl, h1, h3, by rw [← h2.length, ← h4.length]; exact line_le hl, fun e => ?_, fun _ e => ?_, fun _ _ => new_tup m q (h2.append h4)⟩))
      · rw [h2.nil_iff.mpr e, List.nil_append] at q
        exact q.ok0 m ⟨b, ws, rfl, h3, h4⟩
      · rw [h4.nil_iff.mpr e, List.append_nil] at q
        exact q.ok0 m ⟨a, vs, rfl, h1, h2⟩
    · rw [if_neg hl] at q; exact q.elim
  · obtain ⟨a, rfl, ha⟩ := r1.refE
    obtain ⟨b, rfl, hb⟩ := r2.refE
    split at q
    · rename_i xs ys e1 e2
      obtain ⟨vs, h1, h2⟩ := m.lst e1 ha
      obtain ⟨ws, h3, h4⟩ := m.lst e2 hb
      by_cases hl : xs.length + ys.length ≤ LINE
      · rw [if_pos hl] at q
        exact .inr (.inr (.inr ⟨a, b, vs, ws, rfl, rfl, h1, h3, by rw [← h2.length, ← h4.length]; exact line_le hl, new_list m q (h2.append h4)⟩))
      · rw [if_neg hl] at q; exact q.elim
    · exact q.elim
  · exact q.elim
theorem o_sub : Op2 t (rI0 fun i j => .int (i - j)) oSub := fun am s H d1 d2 v1 v2 Ex Q m r1 r2 q => by
  unfold oSub at q
  split at q
  · cases r1.intE; cases r2.intE
    exact ⟨_, _, rfl, rfl, q.ok0 m rfl⟩
  · exact q.elim

/-! ### *, //, %, ** -/
theorem natAbs_lt {i : Int} (h : i.natAbs < 18446744073709551616) : -(2 ^ 64) < i ∧ i < 2 ^ 64 := by omega
def rMul2 : R2 := fun x y H Q => (rI CMul fun i j => .int (i * j)) x y H Q ∨ (rI CMulW fun i j => .int (i * j)) x y H Q ∨ rRep x y H Q
theorem op_mul2 : OpR X (binaryOp .Mult) rMul2 := op_mul.or (op_mulW.or op_rep)
theorem Reps.rep {am : List Addr} {H : Hp} {ds : List D} {vs : List V} (h : Reps t am H ds vs) : ∀ k : Nat, Reps t am H (List.replicate k ds).flatten (List.replicate k vs).flatten
  | 0 => by simp [Reps]
  | k + 1 => by
    rw [List.replicate_succ, List.replicate_succ, List.flatten_cons, List.flatten_cons]
    exact h.append (Reps.rep h k)
theorem o_mul : Op2 t rMul2 oMul := fun am s H d1 d2 v1 v2 Ex Q m r1 r2 q => by
  unfold oMul at q
  split at q
  · rename_i i j
    cases r1.intE; cases r2.intE
    by_cases hm : mulOk i j = true
    · rw [if_pos hm] at q
      unfold mulOk at hm
      simp only [Bool.or_eq_true, decide_eq_true_eq] at hm
      rcases hm with (h | h) | h
      · exact .inl ⟨_, _, rfl, rfl, .inl (natAbs_lt h), q.ok0 m rfl⟩
      · exact .inl ⟨_, _, rfl, rfl, .inr (natAbs_lt h), q.ok0 m rfl⟩
      · exact .inr (.inl ⟨_, _, rfl, rfl, h, q.ok0 m rfl⟩)
    · rw [if_neg hm] at q; exact q.elim
  · rename_i a k
    obtain ⟨a, rfl, ha⟩ := r1.refE
    cases r2.intE
    split at q
    · rename_i xs e1
      obtain ⟨vs, h1, h2⟩ := m.lst e1 ha
      by_cases hl : k.natAbs < 1000000000 ∧ xs.length * k.toNat ≤ LINE
      · rw [if_pos hl] at q
        exact .inr (.inr ⟨a, k, vs, rfl, rfl, h1, by omega, by omega, by rw [← h2.length]; exact line_le hl.2, new_list m q (h2.rep _)⟩)
      · rw [if_neg hl] at q; exact q.elim
    · exact q.elim
  · exact q.elim
def CDivG (i j : Int) : Prop := j ≠ 0 ∧ j.natAbs.log2 < 9000
theorem op_divG : OpR X (binaryOp .FloorDiv) (rI CDivG fun i j => .int (pdiv i j)) := opI fun i j _ _ _ _ _ hc q => by
  refine PyProof.Rows.floordiv_int hc.1 ?_ (.inl (PyProof.noPylong_of_log2 hc.2))
  unfold pdiv at q
  by_cases h : 0 < j
  · rw [if_pos h] at q
    rw [Int.fdiv_eq_ediv_of_nonneg i (by omega)]; exact q
  · rw [if_neg h] at q; exact q
theorem op_modG : OpR X (binaryOp .Mod) (rI (fun _ j => j ≠ 0) fun i j => .int (pmod i j)) := opI fun i j _ _ _ _ _ hc q => by
  refine PyProof.Rows.mod_int' hc ?_
  unfold pmod at q
  by_cases h : 0 < j
  · rw [if_pos h] at q
    rw [Int.fmod_eq_emod_of_nonneg i (by omega)]; exact q
  · rw [if_neg h] at q; exact q
theorem o_div : Op2 t (rI CDivG fun i j => .int (pdiv i j)) oDiv := fun am s H d1 d2 v1 v2 Ex Q m r1 r2 q => by
  unfold oDiv at q
  split at q
  · rename_i i j
    cases r1.intE; cases r2.intE
    by_cases hm : j ≠ 0 ∧ j.natAbs.log2 < 9000
    · rw [if_pos hm] at q
      exact ⟨_, _, rfl, rfl, hm, q.ok0 m rfl⟩
    · rw [if_neg hm] at q; exact q.elim
  · exact q.elim
theorem o_mod : Op2 t (rI (fun _ j => j ≠ 0) fun i j => .int (pmod i j)) oMod := fun am s H d1 d2 v1 v2 Ex Q m r1 r2 q => by
  unfold oMod at q
  split at q
  · rename_i i j
    cases r1.intE; cases r2.intE
    by_cases hm : j ≠ 0
    · rw [if_pos hm] at q
      exact ⟨_, _, rfl, rfl, hm, q.ok0 m rfl⟩
    · rw [if_neg hm] at q; exact q.elim
  · exact q.elim
theorem o_pow : Op2 t (rI CPow fun i j => .int (i ^ j.toNat)) oPow := fun am s H d1 d2 v1 v2 Ex Q m r1 r2 q => by
  unfold oPow at q
  split at q
  · rename_i i j
    cases r1.intE; cases r2.intE
    by_cases hm : 0 ≤ j ∧ j ≤ 1000000 ∧ i.natAbs < 18446744073709551616
    · rw [if_pos hm] at q
      exact ⟨_, _, rfl, rfl, ⟨hm.1, hm.2.1, hm.2.2⟩, q.ok0 m rfl⟩
    · rw [if_neg hm] at q; exact q.elim
  · exact q.elim
theorem o_neg : Op1 t (rU fun i => .int (-i)) oNeg := fun am s H d v Ex Q m r q => by
  unfold oNeg at q
  split at q
  · cases r.intE
    exact ⟨_, rfl, q.ok0 m rfl⟩
  · exact q.elim

/-! ### comparisons -/
theorem o_lt : Op2 t (rI0 fun i j => .bl (decide (i < j))) oLt := fun am s H d1 d2 v1 v2 Ex Q m r1 r2 q => by
  unfold oLt at q
  split at q
  · cases r1.intE; cases r2.intE
    exact ⟨_, _, rfl, rfl, q.ok0 m rfl⟩
  · exact q.elim
theorem o_le : Op2 t (rI0 fun i j => .bl (decide (i ≤ j))) oLe := fun am s H d1 d2 v1 v2 Ex Q m r1 r2 q => by
  unfold oLe at q
  split at q
  · cases r1.intE; cases r2.intE
    exact ⟨_, _, rfl, rfl, q.ok0 m rfl⟩
  · exact q.elim
theorem o_gt : Op2 t (rI0 fun i j => .bl (decide (j < i))) oGt := fun am s H d1 d2 v1 v2 Ex Q m r1 r2 q => by
  unfold oGt at q
  split at q
  · cases r1.intE; cases r2.intE
    exact ⟨_, _, rfl, rfl, q.ok0 m rfl⟩
  · exact q.elim
theorem o_ge : Op2 t (rI0 fun i j => .bl (decide (j ≤ i))) oGe := fun am s H d1 d2 v1 v2 Ex Q m r1 r2 q => by
  unfold oGe at q
  split at q
  · cases r1.intE; cases r2.intE
    exact ⟨_, _, rfl, rfl, q.ok0 m rfl⟩
  · exact q.elim
theorem mapO_dp {am : List Addr} {s : S} {H : Hp} {f : D → Option PyData} (hf : ∀ d p v, f d = some p → Rep t am H d v → Dp t.K H v p) : ∀ (ds : List D) (ps : List PyData) (vs : List V), mapO f ds = some ps → Reps t am H ds vs → DpAll t.K H vs ps
  | [], ps, vs, h, r => by
    have e : vs = [] := r
    subst e
    cases h
    exact .nil
  | d :: ds, ps, vs, h, r => by
    obtain ⟨v, w, e, r1, r2⟩ := r
    subst e
    unfold mapO at h
    split at h
    · rename_i p qs e1 e2
      cases h
      exact .cons (hf _ _ _ e1 r1) (mapO_dp (s := s) hf ds qs w e2 r2)
    · cases h
theorem py_dp {am : List Addr} {s : S} {H : Hp} (m : Ms t am s H) : ∀ (k : Nat) (d : D) (p : PyData) (v : V), D.py s k d = some p → Rep t am H d v → Dp t.K H v p
  | 0, d, p, v, h, r => by
    unfold D.py at h
    cases d <;> first | (cases h; cases r; constructor) | (cases h)
  | k + 1, d, p, v, h, r => by
    unfold D.py at h
    cases d with
    | undef => cases h
    | fn i => cases h
    | non => cases h; cases r; constructor
    | bl b => cases h; cases r; constructor
    | int i => cases h; cases r; constructor
    | str x => cases h; cases r; constructor
    | tup xs =>
      obtain ⟨a, vs, rfl, h1, h2⟩ := r.tupE
      simp only [Option.map_eq_some_iff] at h
      obtain ⟨ps, e, rfl⟩ := h
      exact .tup h1 (mapO_dp (s := s) (fun d p v => py_dp m k d p v) xs ps vs e h2)
    | frl xs =>
      obtain ⟨a, vs, rfl, h1, h2⟩ := r.frlE
      simp only [Option.map_eq_some_iff] at h
      obtain ⟨ps, e, rfl⟩ := h
      exact .lst h1.sq (mapO_dp (s := s) (fun d p v => py_dp m k d p v) xs ps vs e h2)
    | ref n =>
      obtain ⟨a, rfl, ha⟩ := r.refE
      simp only at h
      split at h
      · rename_i xs e1
        obtain ⟨vs, h1, h2⟩ := m.lst e1 ha
        simp only [Option.map_eq_some_iff] at h
        obtain ⟨ps, e, rfl⟩ := h
        exact .lst (.of h1) (mapO_dp (s := s) (fun d p v => py_dp m k d p v) xs ps vs e h2)
      · cases h
theorem eqD_dp {am : List Addr} {s : S} {H : Hp} (m : Ms t am s H) {d1 d2 : D} {v1 v2 : V} {b : Bool} (h : eqD d1 d2 s = some b) (r1 : Rep t am H d1 v1) (r2 : Rep t am H d2 v2) :
    ∃ d e, Dp t.K H v1 d ∧ Dp t.K H v2 e ∧ SeqAt.shaped d = true ∧ SeqAt.shaped e = true ∧ PyData.eqv d e = b := by
  unfold eqD at h
  split at h
  · rename_i p q e1 e2
    split at h
    · rename_i hs
      cases h
      exact ⟨p, q, py_dp m _ _ _ _ e1 r1, py_dp m _ _ _ _ e2 r2, hs.1, hs.2, rfl⟩
    · cases h
  · cases h
theorem o_eq : Op2 t (rEqD t.K) oEq := fun am s H d1 d2 v1 v2 Ex Q m r1 r2 q => by
  unfold oEq at q
  split at q
  · rename_i b e
    obtain ⟨d, e', h1, h2, h3, h4, rfl⟩ := eqD_dp m e r1 r2
    exact ⟨d, e', h1, h2, h3, h4, q.ok0 m rfl⟩
  · exact q.elim
theorem o_ne : Op2 t (rNeD t.K) oNe := fun am s H d1 d2 v1 v2 Ex Q m r1 r2 q => by
  unfold oNe at q
  split at q
  · rename_i b e
    obtain ⟨d, e', h1, h2, h3, h4, rfl⟩ := eqD_dp m e r1 r2
    exact ⟨d, e', h1, h2, h3, h4, q.ok0 m rfl⟩
  · exact q.elim
theorem o_isB : Op2 t rIsB oIsB := fun am s H d1 d2 v1 v2 Ex Q m r1 r2 q => by
  unfold oIsB at q
  split at q
  · cases r1.blE; cases r2.blE
    exact ⟨_, _, rfl, rfl, q.ok0 m rfl⟩
  · exact q.elim
/-- is None -/
theorem rep_non {am : List Addr} {H : Hp} {d : D} {v : V} (r : Rep t am H d v) : decide (v = V.non) = (match d with | .non => true | _ => false) := by
  cases d with
  | undef => exact r.elim
  | non => cases (show v = V.non from r); rfl
  | bl b => cases r.blE; rfl
  | int b => cases r.intE; rfl
  | str b => cases r.strE; rfl
  | tup ds => obtain ⟨a, vs, rfl, _⟩ := r.tupE; rfl
  | frl ds => obtain ⟨a, vs, rfl, _⟩ := r.frlE; rfl
  | ref n => obtain ⟨a, rfl, _⟩ := r.refE; rfl
  | fn n => obtain ⟨a, rfl, _⟩ := r; rfl
end
section
variable {X : Cx} {t : Tb} {W : XW} {a b : Expr} {ma mb : E} {pos : Pos}
theorem s_isN {j pos'} (ha : SE X t W a ma) : SE X t W (.Compare a [.Is] [.Constant .none j pos'] pos) (e1 oIsN ma) :=
  (pe_cmpR op_isN ha pe_non (nomark _)).imp fun σ H Q ⟨am, r, s, en, mm, h⟩ => tyE.of en mm h fun d1 s1 am1 H1 v1 en1 m1 p1 r1 h1 => by
    refine ⟨rfl, ?_⟩
    rw [rep_non r1]
    cases d1 <;> first | exact h1.elim | exact h1.ok0 m1 rfl
theorem s_notN {j pos'} (ha : SE X t W a ma) : SE X t W (.Compare a [.IsNot] [.Constant .none j pos'] pos) (e1 oNotN ma) :=
  (pe_cmpR op_notN ha pe_non (nomark _)).imp fun σ H Q ⟨am, r, s, en, mm, h⟩ => tyE.of en mm h fun d1 s1 am1 H1 v1 en1 m1 p1 r1 h1 => by
    refine ⟨rfl, ?_⟩
    rw [rep_non r1]
    cases d1 <;> first | exact h1.elim | exact h1.ok0 m1 rfl
theorem s_isB {e : Expr} {m : E} (ha : SE X t W a ma) (hb : SE X t W e m) : SE X t W (.Compare a [.Is] [e] pos) (e2 oIsB ma m) := s_cmp op_isBl o_isB ha hb (nomark _)
end

/-! ### places -/
section
variable {X : Cx} {t : Tb}
theorem seqX_of {am : List Addr} {s : S} {H : Hp} (m : Ms t am s H) {d : D} {v : V} {xs : List D} (r : Rep t am H d v) (h : seqX d s = some xs) : ∃ a vs, v = .ref a ∧ Reps t am H xs vs ∧ (SqL t.K H a vs ∨ SqT t.K H a vs) := by
  unfold seqX at h
  split at h
  · cases h
    obtain ⟨a, vs, e, h1, h2⟩ := r.tupE
    exact ⟨a, vs, e, h2, .inr h1⟩
  · unfold seqL at h
    split at h
    · split at h
      · cases h
        rename_i e1
        obtain ⟨a, e, ha⟩ := r.refE
        obtain ⟨vs, h1, h2⟩ := m.lst e1 ha
        exact ⟨a, vs, e, h2, .inl (.of h1)⟩
      · cases h
    · cases h
      obtain ⟨a, vs, e, h1, h2⟩ := r.frlE
      exact ⟨a, vs, e, h2, .inl h1.sq⟩
    · cases h
theorem seqL_of {am : List Addr} {s : S} {H : Hp} (m : Ms t am s H) {d : D} {v : V} {xs : List D} (r : Rep t am H d v) (h : seqL d s = some xs) : ∃ a vs, v = .ref a ∧ Reps t am H xs vs ∧ SqL t.K H a vs := by
  unfold seqL at h
  split at h
  · split at h
    · cases h
      rename_i e1
      obtain ⟨a, e, ha⟩ := r.refE
      obtain ⟨vs, h1, h2⟩ := m.lst e1 ha
      exact ⟨a, vs, e, h2, .of h1⟩
    · cases h
  · cases h
    obtain ⟨a, vs, e, h1, h2⟩ := r.frlE
    exact ⟨a, vs, e, h2, h1.sq⟩
  · cases h
theorem atD_at {am : List Addr} {H : Hp} {xs : List D} {vs : List V} {i : Int} {d : D} (r : Reps t am H xs vs) (h : atD xs i = some d) : ∃ v, atI vs i = some v ∧ Rep t am H d v := by
  unfold atD at h
  have hl := r.length
  unfold atI L2.ixN
  by_cases h0 : 0 ≤ i
  · rw [if_pos h0] at h ⊢
    by_cases h1 : i < xs.length
    · rw [if_pos h1] at h
      rw [if_pos (by rw [← hl]; exact h1)]
      exact r.get h
    · rw [if_neg h1] at h; cases h
  · rw [if_neg h0] at h ⊢
    by_cases h1 : -(xs.length : Int) ≤ i
    · rw [if_pos h1] at h
      rw [if_pos (by rw [← hl]; exact h1), ← hl]
      exact r.get h
    · rw [if_neg h1] at h; cases h
def rIx2 (K : PySem.W.Frag) : R2 := fun x y H Q => rIxL K x y H Q ∨ rIxT K x y H Q
theorem ix_2 : IxR X (rIx2 X.K) := ix_list.or ix_tup
theorem o_ix : Op2 t (rIx2 t.K) oIx := fun am s H d1 d2 v1 v2 Ex Q m r1 r2 q => by
  unfold oIx at q
  split at q
  · cases r2.intE
    split at q
    · rename_i xs e
      split at q
      · rename_i d e2
        obtain ⟨a, vs, rfl, rv, h | h⟩ := seqX_of m r1 e
        · obtain ⟨v, h1, h2⟩ := atD_at rv e2
          exact .inl ⟨a, vs, _, v, rfl, rfl, h, h1, q.ok0 m h2⟩
        · obtain ⟨v, h1, h2⟩ := atD_at rv e2
          exact .inr ⟨a, vs, _, v, rfl, rfl, h, h1, q.ok0 m h2⟩
      · exact q.elim
    · exact q.elim
  · exact q.elim
theorem cutIx_eq (n d : Nat) (o : Option Int) : cutIx n d o = HT.sIx n d o := by cases o <;> rfl
theorem Reps.cut {am : List Addr} {H : Hp} {xs : List D} {vs : List V} (r : Reps t am H xs vs) (lo hi : Option Int) : Reps t am H (cutD xs lo hi) (cutV vs lo hi) := by
  unfold cutD cutV
  rw [cutIx_eq, cutIx_eq, r.length]
  exact (r.drop _).take _
end
section
variable {X : Cx} {t : Tb} {W : XW} {e : Expr} {m : E} {pos p2 : Pos}
def SPt (X : Cx) (t : Tb) (W : XW) (e : Option Expr) (p : Part) : Prop := match e, p with
  | none, .no => True
  | some e, .at m => SE X t W e m
  | _, _ => False
def tyO (t : Tb) (W : XW) (p : Part) : TO := fun σ H Q => ∃ am r s, EnvR t am H r σ ∧ Ms t am s H ∧ RQ t am H (p.run r s) (fun _ _ a b => a = b) (W σ) Q
theorem po_of {lo : Option Expr} {p : Part} (h : SPt X t W lo p) : PO X lo (tyO t W p) := by
  cases lo with
  | none =>
    cases p with
    | no => exact ⟨fun pins s σ H Q I ⟨am, r, s', en, mm, q⟩ => po_none.run pins s σ H Q I (q.ok0 mm rfl)⟩
    | «at» m => exact h.elim
  | some e =>
    cases p with
    | no => exact h.elim
    | «at» m =>
      refine ⟨fun pins s σ H Q I ⟨am, r, s', en, mm, q⟩ => (po_some (X := X) (e := e) (te := tyE t W m) h).run pins s σ H Q I ?_⟩
      refine tyE.of en mm q fun d s1 am1 H1 v en1 m1 p1 r1 h1 => ?_
      cases d with
      | int i => exact ⟨i, r1, h1.ok0 m1 rfl⟩
      | _ => exact h1.elim
theorem tyO.of {p : Part} {σ : L2.St} {H : Hp} {am : List Addr} {r : Env} {s : S} {α β : Type} {f : Option Int → S → Rs α} {rep : List Addr → Hp → α → β → Prop} {Q : β → Hp → Prop} {K : Option Int → Hp → Prop} (en : EnvR t am H r σ) (mm : Ms t am s H)
    (h : RQ t am H ((p.run r s).bind f) rep (W σ) Q)
    (hk : ∀ d s1 am1 H1, EnvR t am1 H1 r σ → Ms t am1 s1 H1 → Post am H am1 H1 → RQ t am1 H1 (f d s1) rep (W σ) Q → K d H1) : tyO t W p σ H K :=
  ⟨am, r, s, en, mm, h.seq fun d s1 am1 H1 v p m1 rp h1 => by cases rp; exact hk d s1 am1 H1 (en.mono p) m1 p h1⟩
def rSl2 (K : PySem.W.Frag) : V → Option Int → Option Int → Hp → VK → Prop := fun x lo hi H Q => rSlA K x lo hi H Q ∨ rSlL K x lo hi H Q
theorem sl_2 : SlR X (rSl2 X.K) := sl_tupA.or sl_list
theorem s_cut {lo hi : Option Expr} {pl ph : Part} (hK : X.K = t.K) (he : SE X t W e m) (hl : SPt X t W lo pl) (hh : SPt X t W hi ph) : SE X t W (.Subscript e (.Slice lo hi none p2) pos) (eCut m pl ph) :=
  (pe_slice sl_2 he (po_of hl) (po_of hh)).imp fun σ H Q ⟨am, r, s, en, mm, h⟩ => tyE.of en mm h fun d1 s1 am1 H1 v1 en1 m1 p1 r1 h1 => tyO.of en1 m1 h1 fun l s2 am2 H2 en2 m2 p2 h2 => tyO.of en2 m2 h2 fun u s3 am3 H3 en3 m3 p3 h3 => by
    have r3 := (r1.mono p2).mono p3
    unfold rSl2
    rw [hK]
    split at h3
    · rename_i xs
      obtain ⟨a, vs, rfl, h4, h5⟩ := r3.tupE
      refine .inl ⟨a, vs, rfl, h4, fun hw => ?_, fun hw => new_tup m3 h3 (h5.cut l u)⟩
      have e : cutD xs l u = xs := by
        unfold cutD
        rw [cutIx_eq, cutIx_eq, h5.length, hw.1, hw.2, List.drop_zero, Nat.sub_zero, ← h5.length, List.take_length]
      rw [e] at h3
      exact h3.ok0 m3 ⟨a, vs, rfl, h4, h5⟩
    · split at h3
      · rename_i xs e
        obtain ⟨a, vs, rfl, rv, hs⟩ := seqL_of m3 r3 e
        exact .inr ⟨a, vs, rfl, hs, new_list m3 h3 (rv.cut l u)⟩
      · exact h3.elim
end
end Y

/-! Y4: statements, loops, comprehensions. -/
namespace Y
open PySem L2

/-- what is wanted of a statement's end -/
def FQ (t : Tb) (am : List Addr) (H : Hp) (x : F) (W : XW) (Dn : Ends) : Prop := match x with
  | .nx r s => ∀ am' H' σ', Post am H am' H' → Ms t am' s H' → EnvR t am' H' r σ' → Dn.nx σ' H'
  | .rt d s => ∀ am' H' v, Post am H am' H' → Ms t am' s H' → Rep t am' H' d v → Dn.rt v H'
  | .bk r s => ∀ am' H' σ', Post am H am' H' → Ms t am' s H' → EnvR t am' H' r σ' → Dn.bk σ' H'
  | .ct r s => ∀ am' H' σ', Post am H am' H' → Ms t am' s H' → EnvR t am' H' r σ' → Dn.ct σ' H'
  | .exc c fs r s => ∀ am' H' σ' cls dd, Post am H am' H' → Ms t am' s H' → EnvR t am' H' r σ' → XRep t c fs am' H' cls dd → W σ' cls dd H'
  | .stk => False
def tyS (t : Tb) (W : XW) (m : Sm) : TS := fun Dn σ H => ∃ am r s, EnvR t am H r σ ∧ Ms t am s H ∧ FQ t am H (m r s) W Dn
def SS (X : Cx) (t : Tb) (W : XW) (st : Stmt) (m : Sm) : Prop := PS X st (tyS t W m)
def SSs (X : Cx) (t : Tb) (W : XW) (st : List Stmt) (m : Sm) : Prop := PSs X st (tyS t W m)

section
variable {t : Tb} {am am1 : List Addr} {H H1 : Hp} {s : S} {W : XW} {Dn : Ends} {σ : L2.St} {r : Env}
theorem FQ.re {x : F} (h : FQ t am H x W Dn) (p : Post am H am1 H1) : FQ t am1 H1 x W Dn := by
  cases x with
  | nx r s => exact fun am' H' σ' q m e => h am' H' σ' (p.trans q) m e
  | rt d s => exact fun am' H' v q m e => h am' H' v (p.trans q) m e
  | bk r s => exact fun am' H' σ' q m e => h am' H' σ' (p.trans q) m e
  | ct r s => exact fun am' H' σ' q m e => h am' H' σ' (p.trans q) m e
  | exc c fs r s => exact fun am' H' σ' cls dd q m e z => h am' H' σ' cls dd (p.trans q) m e z
  | stk => exact h
theorem FQ.imp {x : F} {Dm : Ends} (h : FQ t am H x W Dn) (h1 : ∀ r s, x = .nx r s → ∀ am' H' σ', Post am H am' H' → Ms t am' s H' → EnvR t am' H' r σ' → Dn.nx σ' H' → Dm.nx σ' H') (h2 : ∀ d s, x = .rt d s → ∀ v H', Dn.rt v H' → Dm.rt v H')
    (h3 : ∀ r s, x = .bk r s → ∀ am' H' σ', Post am H am' H' → Ms t am' s H' → EnvR t am' H' r σ' → Dn.bk σ' H' → Dm.bk σ' H') (h4 : ∀ r s, x = .ct r s → ∀ am' H' σ', Post am H am' H' → Ms t am' s H' → EnvR t am' H' r σ' → Dn.ct σ' H' → Dm.ct σ' H') : FQ t am H x W Dm := by
  cases x with
  | nx r s => exact fun am' H' σ' q m e => h1 r s rfl am' H' σ' q m e (h am' H' σ' q m e)
  | rt d s => exact fun am' H' v q m e => h2 d s rfl v H' (h am' H' v q m e)
  | bk r s => exact fun am' H' σ' q m e => h3 r s rfl am' H' σ' q m e (h am' H' σ' q m e)
  | ct r s => exact fun am' H' σ' q m e => h4 r s rfl am' H' σ' q m e (h am' H' σ' q m e)
  | exc c fs r s => exact h
  | stk => exact h
/-- an expression ahead of a statement's rest -/
theorem FQ.seq {α β : Type} {x : Rs α} {f : α → S → F} {rep : List Addr → Hp → α → β → Prop} {K : β → Hp → Prop} (en : EnvR t am H r σ) (h : FQ t am H (x.then r f) W Dn)
    (hk : ∀ a s1 am1 H1 b, Post am H am1 H1 → EnvR t am1 H1 r σ → Ms t am1 s1 H1 → rep am1 H1 a b → FQ t am1 H1 (f a s1) W Dn → K b H1) : RQ t am H x rep (W σ) K := by
  cases x with
  | ok a s' => exact fun am' H' b q m z => hk a s' am' H' b q (en.mono q) m z (FQ.re (Rs.then_ok a s' r f ▸ h) q)
  | exc c fs s' => exact fun am' H' cls dd q m z => h am' H' σ cls dd q m (en.mono q) z
  | stk => exact h
theorem FQ.nx0 (h : FQ t am H (.nx r s) W Dn) (m : Ms t am s H) (e : EnvR t am H r σ) : Dn.nx σ H := h am H σ .refl m e
end
section
variable {X : Cx} {t : Tb} {W : XW} {st : Stmt} {rest body body2 : List Stmt} {e : Expr} {m : E} {a b : Sm} {pos : Pos} {mt : T}
theorem _root_.L2.PS.imp {u u' : TS} (h : PS X st u) (f : ∀ D σ H, u' D σ H → u D σ H) : PS X st u' := ⟨fun pins s σ H D I q => h.run pins s σ H D I (f D σ H q)⟩
theorem _root_.L2.PSs.imp {u u' : TS} (h : PSs X rest u) (f : ∀ D σ H, u' D σ H → u D σ H) : PSs X rest u' := ⟨fun pins s σ H D I q => h.run pins s σ H D I (f D σ H q)⟩
theorem z_nil : SSs X t W [] zNil := pss_nil.imp fun D σ H ⟨am, r, s, en, mm, h⟩ => h.nx0 mm en
theorem z_cons (h1 : SS X t W st a) (h2 : SSs X t W rest b) : SSs X t W (st :: rest) (zCons a b) :=
  (pss_cons h1 h2).imp fun D σ H ⟨am, r, s, en, mm, h⟩ => by
    refine ⟨am, r, s, en, mm, ?_⟩
    have h : FQ t am H ((a r s).andThen b) W D := h
    cases hx : a r s with
    | nx r1 s1 => rw [hx] at h; exact fun am' H' σ' q m z => ⟨am', r1, s1, z, m, FQ.re h q⟩
    | rt d s1 => rw [hx] at h; exact h
    | bk r1 s1 => rw [hx] at h; exact h
    | ct r1 s1 => rw [hx] at h; exact h
    | exc c fs r1 s1 => rw [hx] at h; exact h
    | stk => rw [hx] at h; exact h
theorem z_one (h1 : SS X t W st a) : SSs X t W [st] a := pss_one h1
theorem z_pass : SS X t W (.Pass pos) zPass := ps_pass.imp fun D σ H ⟨am, r, s, en, mm, h⟩ => h.nx0 mm en
theorem z_brk : SS X t W (.Break pos) zBrk := ps_break.imp fun D σ H ⟨am, r, s, en, mm, h⟩ => h am H σ .refl mm en
theorem z_cnt : SS X t W (.Continue pos) zCnt := ps_continue.imp fun D σ H ⟨am, r, s, en, mm, h⟩ => h am H σ .refl mm en
theorem z_expr (he : SE X t W e m) (hs : swapsWith e none pos.line X.env = pure false := by rfl) : SS X t W (.Expr e pos) (zEx m) :=
  (ps_expr he hs).imp fun D σ H ⟨am, r, s, en, mm, h⟩ => ⟨am, r, s, en, mm, FQ.seq en h fun d s1 am1 H1 v p1 en1 m1 r1 h1 => h1.nx0 m1 en1⟩
theorem z_ret (he : SE X t W e m) : SS X t W (.Return (some e) pos) (zRet m) :=
  (ps_ret he).imp fun D σ H ⟨am, r, s, en, mm, h⟩ => ⟨am, r, s, en, mm, FQ.seq en h fun d s1 am1 H1 v p1 en1 m1 r1 h1 => h1 am1 H1 v .refl m1 r1⟩
theorem z_retN : SS X t W (.Return none pos) zRetN := ps_retN.imp fun D σ H ⟨am, r, s, en, mm, h⟩ => h am H .non .refl mm rfl
theorem z_if {c : Expr} (hc : ST X t W c mt) (ha : SSs X t W body a) (hb : SSs X t W body2 b) : SS X t W (.If c body body2 pos) (zIf mt a b) :=
  (ps_if hc ha hb).imp fun D σ H ⟨am, r, s, en, mm, h⟩ => ⟨am, r, s, en, mm, FQ.seq en h fun c s1 am1 H1 v p1 en1 m1 r1 h1 => by
    cases r1
    cases c with
    | true => exact ⟨am1, r, s1, en1, m1, h1⟩
    | false => exact ⟨am1, r, s1, en1, m1, h1⟩⟩

/-! ### targets -/
def tyG (t : Tb) (g : Tg) : TG := fun v σ H Q => ∃ am r s d, EnvR t am H r σ ∧ Ms t am s H ∧ Rep t am H d v ∧ ∃ r2 s2, g d r s = some (r2, s2) ∧ ∀ am' H' σ', Post am H am' H' → Ms t am' s2 H' → EnvR t am' H' r2 σ' → Q σ' H'
def tyGs (t : Tb) (g : List D → Env → S → Option (Env × S)) : TGs := fun vs σ H Q => ∃ am r s ds, EnvR t am H r σ ∧ Ms t am s H ∧ Reps t am H ds vs ∧ ∃ r2 s2, g ds r s = some (r2, s2) ∧ ∀ am' H' σ', Post am H am' H' → Ms t am' s2 H' → EnvR t am' H' r2 σ' → Q σ' H'
def SG (X : Cx) (t : Tb) (e : Expr) (g : Tg) : Prop := PG X e (tyG t g)
def SGs (X : Cx) (t : Tb) (es : List Expr) (g : List D → Env → S → Option (Env × S)) : Prop := PGs X es (tyGs t g)
theorem _root_.L2.PG.imp {u u' : TG} (h : PG X e u) (f : ∀ v σ H Q, u' v σ H Q → u v σ H Q) : PG X e u' := ⟨fun pins s σ H v u Q I r q => h.run pins s σ H v u Q I r (f v σ H Q q)⟩
theorem _root_.L2.PGs.imp {es : List Expr} {u u' : TGs} (h : PGs X es u) (f : ∀ v σ H Q, u' v σ H Q → u v σ H Q) : PGs X es u' := ⟨fun pins s σ H v u Q I r q => h.run pins s σ H v u Q I r (f v σ H Q q)⟩
theorem g_name {i : Nat} {x : Str} (hN : X.N.Nodup) (hi : X.N[i]? = some x) (hx : Loc X.env.scope x) (hf : X.fn x = true ∨ X.env.scope.names.lookup x = some .local := by first | exact .inl rfl | exact .inr rfl | assumption) : SG X t (.Name x pos) (gV i) :=
  (pg_name hN hi hx hf).imp fun v σ H Q ⟨am, r, s, d, en, mm, rp, r2, s2, e, q⟩ => by
    unfold gV at e
    split at e
    · cases e
      exact q am H _ .refl mm (en.set i rp)
    · cases e
theorem gs_nil : SGs X t [] gsN := pgs_nil.imp fun v σ H Q ⟨am, r, s, ds, en, mm, rp, r2, s2, e, q⟩ => by
  unfold gsN at e
  split at e
  · rename_i hd
    cases e
    have : ds = [] := by simpa using hd
    subst this
    exact ⟨rp, q am H σ .refl mm en⟩
  · cases e
theorem gs_cons {es : List Expr} {g : Tg} {u : List D → Env → S → Option (Env × S)} (h1 : SG X t e g) (h2 : SGs X t es u) (hs : (assignEach (e :: es) X.env).map (·.2) = assign e X.env :: (assignEach es X.env).map (·.2) := by rfl) : SGs X t (e :: es) (gsC g u) :=
  (pgs_cons h1 h2 hs).imp fun v σ H Q ⟨am, r, s, ds, en, mm, rp, r2, s2, e, q⟩ => by
    cases ds with
    | nil => cases e
    | cons d ds =>
      obtain ⟨v1, vr, rfl, ra, rb⟩ := rp
      unfold gsC at e
      simp only at e
      split at e
      · rename_i r1 s1 e1
        refine ⟨v1, vr, rfl, am, r, s, d, en, mm, ra, r1, s1, e1, fun am' H' σ' p m z => ?_⟩
        exact ⟨am', r1, s1, ds, z, m, rb.mono p, r2, s2, e, fun am2 H2 σ2 p2 => q am2 H2 σ2 (p.trans p2)⟩
      · cases e
theorem g_tup {es : List Expr} {k : Nat} {u : List D → Env → S → Option (Env × S)} (hK : X.K = t.K) (hc : X.calm = true) (h : SGs X t es u)
    (hlen : ∀ ds r s x, u ds r s = some x → ds.length = (assignEach es X.env).length) (hst : (assignEach es X.env).findIdx? (·.1) = none := by rfl) : SG X t (.Tuple es k pos) (gT u) :=
  (pg_tup (n := (assignEach es X.env).length) hc h rfl hst).imp fun v σ H Q ⟨am, r, s, d, en, mm, rp, r2, s2, e, q⟩ => by
    cases d with
    | tup ds =>
      obtain ⟨a, vs, rfl, h1, h2⟩ := rp.tupE
      have e : u ds r s = some (r2, s2) := e
      exact ⟨a, vs, rfl, by rw [hK]; exact h1, by rw [← h2.length]; exact hlen _ _ _ _ e, am, r, s, ds, en, mm, h2, r2, s2, e, q⟩
    | _ => cases e
theorem len_gsN {ds : List D} {r : Env} {s : S} {x : Env × S} (h : gsN ds r s = some x) : ds.length = 0 := by
  unfold gsN at h
  split at h
  · rename_i hd
    have : ds = [] := by simpa using hd
    rw [this]; rfl
  · cases h
theorem len_gsC {g : Tg} {u : List D → Env → S → Option (Env × S)} {n : Nat} (hu : ∀ ds r s x, u ds r s = some x → ds.length = n) : ∀ (ds : List D) (r : Env) (s : S) (x : Env × S), gsC g u ds r s = some x → ds.length = n + 1 := fun ds r s x h => by
  cases ds with
  | nil => cases h
  | cons d ds =>
    unfold gsC at h
    simp only at h
    split at h
    · rw [List.length_cons, hu _ _ _ _ h]
    · cases h

/-! ### assignments -/
theorem z_asg {tg : Expr} {g : Tg} (he : SE X t W e m) (hg : SG X t tg g) (hs : swapsWithSole [tg] e pos.line X.env = pure false := by rfl) (hw : swappedStores [tg] e X.env = pure none := by rfl)
    (h1 : (assignEach [tg] X.env).map (·.2) = [assign tg X.env] := by rfl) : SS X t W (.Assign [tg] e pos) (zSet g m) :=
  (ps_asg he hg hs hw h1).imp fun D σ H ⟨am, r, s, en, mm, h⟩ => ⟨am, r, s, en, mm, FQ.seq en h fun d s1 am1 H1 v p1 en1 m1 r1 h1 => by
    split at h1
    · rename_i r2 s2 e2
      exact ⟨am1, r, s1, d, en1, m1, r1, r2, s2, e2, fun am' H' σ' p m z => h1 am' H' σ' p m z⟩
    · exact h1.elim⟩
theorem z_set {i : Nat} {x : Str} {pos' : Pos} (hN : X.N.Nodup) (hi : X.N[i]? = some x) (hx : Loc X.env.scope x) (he : SE X t W e m) (hs : swapsWith e (some (.Name x pos')) pos.line X.env = pure false := by rfl)
    (hf : X.fn x = true ∨ X.env.scope.names.lookup x = some .local := by first | exact .inl rfl | exact .inr rfl | assumption) : SS X t W (.Assign [.Name x pos'] e pos) (zSet (gV i) m) :=
  (ps_set hN hi hx he hs hf).imp fun D σ H ⟨am, r, s, en, mm, h⟩ => ⟨am, r, s, en, mm, FQ.seq en h fun d s1 am1 H1 v p1 en1 m1 r1 h1 => by
    unfold gV at h1
    by_cases hl : i < r.length
    · simp only [hl, if_true] at h1
      exact h1.nx0 m1 (en1.set i r1)
    · simp only [hl, if_false] at h1
      exact h1.elim⟩
theorem z_par {i j : Nat} {x y : Str} {ea eb : Expr} {ma mb : E} {px py pt : Pos} {kt k2 pt2} (hc : X.calm = true) (hN : X.N.Nodup) (hi : X.N[i]? = some x) (hj : X.N[j]? = some y) (hij : i ≠ j)
    (hx : X.env.scope.names.lookup x = some .local) (hy : X.env.scope.names.lookup y = some .local) (ha : SE X t W ea ma) (hb : SE X t W eb mb)
    (hw : swappedStores [.Tuple [.Name x px, .Name y py] kt pt] (.Tuple [ea, eb] k2 pt2) X.env = pure (some [x, y]))
    (h1 : starEach [ea, eb] X.env = (false, eval ea X.env) :: starEach [eb] X.env := by rfl) (h2 : starEach [eb] X.env = (false, eval eb X.env) :: starEach [] X.env := by rfl)
    (hs : swapsWithSole [.Tuple [.Name x px, .Name y py] kt pt] (.Tuple [ea, eb] k2 pt2) pos.line X.env = pure false := by rfl) :
    SS X t W (.Assign [.Tuple [.Name x px, .Name y py] kt pt] (.Tuple [ea, eb] k2 pt2) pos) (zPar i j ma mb) :=
  (ps_par hc hN hi hj hij hx hy (pa_cons ha (pa_cons hb pa_nil h2) h1) hw hs).imp fun D σ H ⟨am, r, s, en, mm, h⟩ => by
    refine ⟨am, r, s, en, mm, FQ.seq en h fun d1 s1 am1 H1 v1 p1 en1 m1 r1 h1 => ?_⟩
    refine ⟨am1, r, s1, en1, m1, FQ.seq en1 h1 fun d2 s2 am2 H2 v2 p2 en2 m2 r2 h2 => ?_⟩
    refine ⟨v1, v2, rfl, ?_⟩
    split at h2
    · exact h2.nx0 m2 ((en2.set i (r1.mono p2)).set j r2)
    · exact h2.elim
theorem z_aug {i : Nat} {x : Str} {op : Operator} {rr : R2} {o : P2} {pos' : Pos} (hN : X.N.Nodup) (hi : X.N[i]? = some x) (hx : Loc X.env.scope x) (he : SE X t W e m) (ho : OpR X (inplaceOp op) rr) (h2 : Op2 t rr o)
    (hf : X.fn x = true ∨ X.env.scope.names.lookup x = some .local := by first | exact .inl rfl | exact .inr rfl | assumption) : SS X t W (.AugAssign (.Name x pos') op e pos) (zAug i o m) :=
  (ps_aug hN hi hx he (ti := fun a b H Q => rr a b H Q) (fun pins s σ H x y v u Q I r1 r2 q => ho pins s σ H x y v u Q I r1 r2 q) hf).imp fun D σ H ⟨am, r, s, en, mm, h⟩ => by
    unfold zAug at h
    cases hd : r[i]? with
    | none => rw [hd] at h; exact h.elim
    | some d =>
      rw [hd] at h
      by_cases hu : d = .undef
      · subst hu; exact h.elim
      · obtain ⟨v, h1, hr⟩ := en.get i d hd hu
        have h' : FQ t am H ((m r s).then r fun y s1 => (o d y s1).then r fun z s2 => .nx (r.set i z) s2) W D := by cases d <;> first | exact h | exact absurd rfl hu
        refine ⟨v, h1, am, r, s, en, mm, FQ.seq en h' fun d1 s1 am1 H1 v1 p1 en1 m1 r1 h1 => ?_⟩
        exact h2 am1 s1 H1 d d1 v v1 (W σ) _ m1 (hr.mono p1) r1 (FQ.seq en1 h1 fun z s2 am2 H2 v2 p2 en2 m2 r2 h2 => h2.nx0 m2 (en2.set i r2))
theorem z_putL {o i : Expr} {mo mi : E} {tp : Pos} (he : SE X t W e m) (ho : SE X t W o mo) (hi : SE X t W i mi) (hs : swapsWithSole [.Subscript o i tp] e pos.line X.env = pure false := by rfl) (hw : swappedStores [.Subscript o i tp] e X.env = pure none := by rfl)
    (h1 : (assignEach [.Subscript o i tp] X.env).map (·.2) = [assign (.Subscript o i tp) X.env] := by rfl)
    (ha : ∀ v, assign (.Subscript o i tp) X.env v = (do
      let ov ← holding [v] (eval o X.env)
      let iv ← holding [v, ov] (eval i X.env)
      standAt tp
      holding [v, ov, iv] (setItem ov iv v)
      release [v, ov, iv] []) := by intro _; rfl) : SS X t W (.Assign [.Subscript o i tp] e pos) (zPutL mo mi m) :=
  (ps_asg he (pg_sub ho hi set_list ha) hs hw h1).imp fun D σ H ⟨am, r, s, en, mm, h⟩ => by
    refine ⟨am, r, s, en, mm, FQ.seq en h fun d1 s1 am1 H1 v1 p1 en1 m1 r1 h1 => ?_⟩
    refine ⟨am1, r, s1, en1, m1, FQ.seq en1 h1 fun d2 s2 am2 H2 v2 p2 en2 m2 r2 h2 => ?_⟩
    refine ⟨am2, r, s2, en2, m2, FQ.seq en2 h2 fun d3 s3 am3 H3 v3 p3 en3 m3 r3 h3 => ?_⟩
    split at h3
    · rename_i s4 e4
      unfold putL at e4
      split at e4
      · cases r3.intE
        obtain ⟨a, rfl, ha⟩ := (r2.mono p3).refE
        split at e4
        · rename_i xs e1
          obtain ⟨vs, h4, h5⟩ := m3.lst e1 ha
          split at e4
          · rename_i j e2
            cases e4
            rename_i n k _ _
            have e2 : L2.ixN vs.length k = some j := by rw [← h5.length]; exact e2
            refine ⟨a, vs, k, j, rfl, rfl, h4, e2, ?_⟩
            have rv := (r1.mono p2).mono p3
            have P : Post am3 H3 am3 (L2.upd H3 a (.lst (vs.set j v1))) := .put (List.mem_of_getElem? ha) h4 (fun z => z)
            obtain ⟨_, m4⟩ := m3.put (u := .lst (vs.set j v1)) (o := .lst (xs.set j d1)) ha ⟨_, upd_same, (h5.set rv j).mono P⟩
            exact h3 am3 _ σ P m4 (en3.mono P)
          · cases e4
        · cases e4
      · cases e4
    · exact h3.elim

/-! ### while -/
theorem z_while {c : Expr} (hp : PassesOwn (model X.prog X.w) X.A X.env X.xe) (hc : ST X t W c mt) (hb : SSs X t W body a) : SS X t W (.While c body [] pos) (zWhile mt a) :=
  (ps_while hp hc hb).imp fun D σ H ⟨am, r, s, en, mm, h⟩ => by
    refine ⟨fun n σ1 H1 => ∃ am1 r1 s1, EnvR t am1 H1 r1 σ1 ∧ Ms t am1 s1 H1 ∧ FQ t am1 H1 (whileM mt a n r1 s1) W D, ⟨FUEL, am, r, s, en, mm, h⟩, ?_⟩
    rintro n σ1 H1 ⟨am1, r1, s1, en1, m1, h1⟩
    cases n with
    | zero => exact h1.elim
    | succ n =>
      refine ⟨am1, r1, s1, en1, m1, FQ.seq en1 h1 fun k s2 am2 H2 v p2 en2 m2 e2 h2 => ?_⟩
      cases e2
      cases k with
      | false => exact h2.nx0 m2 en2
      | true =>
        have h2 : FQ t am2 H2 ((a r1 s2).turn (whileM mt a n)) W D := h2
        refine ⟨fun σ' H' => ∃ am3 r3 s3, EnvR t am3 H' r3 σ' ∧ Ms t am3 s3 H' ∧ FQ t am3 H' (whileM mt a n r3 s3) W D, fun σ' H' z => ⟨n, Nat.lt_succ_self n, z⟩, am2, r1, s2, en2, m2, ?_⟩
        cases hx : a r1 s2 with
        | nx r3 s3 => rw [hx] at h2; exact fun am' H' σ' q m z => ⟨am', r3, s3, z, m, FQ.re h2 q⟩
        | ct r3 s3 => rw [hx] at h2; exact fun am' H' σ' q m z => ⟨am', r3, s3, z, m, FQ.re h2 q⟩
        | bk r3 s3 => rw [hx] at h2; exact h2
        | rt d s3 => rw [hx] at h2; exact h2
        | exc c fs r3 s3 => rw [hx] at h2; exact h2
        | stk => rw [hx] at h2; exact h2
end

/-! ### what a loop walks -/
/-- turn by turn: the items xs come, as long as G stands -/
structure ItOk (t : Tb) (J : L2.It) (G : List Addr → Hp → Prop) (xs : List D) : Prop where
  item : ∀ (i : Nat) (d : D) (am : List Addr) (H : Hp), G am H → xs[i]? = some d → J.go i H ∧ ∀ x H', J.yld i H x H' → Post am H am H' ∧ (∀ s, Ms t am s H → Ms t am s H') ∧ Rep t am H' d x
  stop : ∀ (i : Nat) (am : List Addr) (H : Hp), G am H → xs[i]? = none → J.stop i H
  keep : ∀ am H am' H', G am H → Post am H am' H' → G am' H'
/-- the walked thing has come -/
def IQ (t : Tb) (am : List Addr) (H : Hp) (x : Rs Wk) (Ex : XK) (R : L2.It → Hp → Prop) : Prop := match x with
  | .ok (.items xs) s' => ∀ am' H' J G, Post am H am' H' → Ms t am' s' H' → ItOk t J G xs → G am' H' → R J H'
  | .ok (.list n) s' => ∀ am' H' a, Post am H am' H' → Ms t am' s' H' → am'[n]? = some a → R (L2.Itl t.K a) H'
  | .exc c fs s' => ∀ am' H' cls dd, Post am H am' H' → Ms t am' s' H' → XRep t c fs am' H' cls dd → Ex cls dd H'
  | .stk => False
def tyI (t : Tb) (W : XW) (m : IW) : TI := fun σ H R => ∃ am r s, EnvR t am H r σ ∧ Ms t am s H ∧ IQ t am H (m r s) (W σ) R
def SI (X : Cx) (t : Tb) (W : XW) (tg iter : Expr) (m : IW) : Prop := PI X tg iter (tyI t W m)
section
variable {X : Cx} {t : Tb} {W : XW} {tg iter a b : Expr} {m ma mb : E} {pos p : Pos}
theorem _root_.L2.PI.imp {u u' : TI} (h : PI X tg iter u) (f : ∀ σ H R, u' σ H R → u σ H R) : PI X tg iter u' := ⟨fun pins s σ H R I q => h.run pins s σ H R I (f σ H R q)⟩
theorem IQ.re {am am1 : List Addr} {H H1 : Hp} {x : Rs Wk} {Ex : XK} {R : L2.It → Hp → Prop} (h : IQ t am H x Ex R) (p : Post am H am1 H1) : IQ t am1 H1 x Ex R := by
  cases x with
  | ok j s' =>
    cases j with
    | items xs => exact fun am' H' J G q => h am' H' J G (p.trans q)
    | list n => exact fun am' H' a q => h am' H' a (p.trans q)
  | exc c fs s' => exact fun am' H' cls dd q => h am' H' cls dd (p.trans q)
  | stk => exact h
theorem tyE.ofI {σ : L2.St} {H : Hp} {am : List Addr} {r : Env} {s : S} {f : D → S → Rs Wk} {R : L2.It → Hp → Prop} {K : V → Hp → Prop} (en : EnvR t am H r σ) (mm : Ms t am s H)
    (h : IQ t am H ((m r s).bind f) (W σ) R)
    (hk : ∀ d s1 am1 H1 v, EnvR t am1 H1 r σ → Ms t am1 s1 H1 → Post am H am1 H1 → Rep t am1 H1 d v → IQ t am1 H1 (f d s1) (W σ) R → K v H1) : tyE t W m σ H K := by
  refine ⟨am, r, s, en, mm, ?_⟩
  cases hx : m r s with
  | ok d s1 => rw [hx] at h; exact fun am' H' b q m z => hk d s1 am' H' b (en.mono q) m q z (IQ.re h q)
  | exc c fs s' => rw [hx] at h; exact h
  | stk => rw [hx] at h; exact h
theorem itok_range (lo : Int) (n : Nat) : ItOk t (Itr lo n) (fun _ _ => True) ((List.range n).map fun (k : Nat) => D.int (lo + k)) where
  item := fun i d am H _ e => by
    rw [List.getElem?_map] at e
    cases h : (List.range n)[i]? with
    | none => rw [h] at e; cases e
    | some k =>
      rw [h] at e
      have hk := List.getElem?_eq_some_iff.mp h
      obtain ⟨hl, hv⟩ := hk
      rw [List.getElem_range] at hv
      subst hv
      cases e
      refine ⟨by have h2 := hl; rw [List.length_range] at h2; exact h2, fun x H' y => ?_⟩
      obtain ⟨rfl, rfl⟩ := y
      exact ⟨.refl, fun _ z => z, rfl⟩
  stop := fun i am H _ e => by
    rw [List.getElem?_eq_none_iff, List.length_map, List.length_range] at e
    exact e
  keep := fun _ _ _ _ _ _ => trivial
theorem i_rng1 (hg : Gl X "range") (hm : X.mg "range" = none) (ha : SE X t W a ma) (hs : starEach [a] X.env = [(false, eval a X.env)] := by rfl) : SI X t W tg (.Call (.Name "range" p) [a] [] pos) (iRng1 ma) :=
  (pi_range1 hg hm (s_cons ha s_nil (by rw [hs]; rfl)) hs).imp fun σ H R ⟨am, r, s, en, mm, h⟩ => by
    refine ⟨am, r, s, en, mm, ?_⟩
    have h : IQ t am H ((ma r s).bind _) (W σ) R := h
    unfold aC aN
    cases hx : ma r s with
    | ok d s1 =>
      rw [hx] at h
      intro am' H' b q m z
      obtain ⟨v, w, rfl, z1, z2⟩ := z
      cases (show w = [] from z2)
      have h := IQ.re h q
      cases d with
      | int j =>
        simp only [Rs.bind_ok] at h
        cases z1.intE
        split at h
        · rename_i hj
          refine ⟨j, rfl, by omega, by omega, ?_⟩
          have := h am' H' (Itr 0 j.toNat) (fun _ _ => True) .refl m (by
            have := itok_range (t := t) 0 j.toNat
            unfold range2
            rw [Int.sub_zero]; exact this) trivial
          exact this
        · exact h.elim
      | _ => exact h.elim
    | exc c fs s' => rw [hx] at h; exact h
    | stk => rw [hx] at h; exact h
theorem i_rng2 (hg : Gl X "range") (hm : X.mg "range" = none) (ha : SE X t W a ma) (hb : SE X t W b mb) (hs : starEach [a, b] X.env = [(false, eval a X.env), (false, eval b X.env)] := by rfl) (hs2 : starEach [b] X.env = [(false, eval b X.env)] := by rfl) :
    SI X t W tg (.Call (.Name "range" p) [a, b] [] pos) (iRng2 ma mb) :=
  (pi_range2 hg hm (s_cons ha (s_cons hb s_nil (by rw [hs2]; rfl)) (by rw [hs, hs2])) hs hs2).imp fun σ H R ⟨am, r, s, en, mm, h⟩ => by
    refine ⟨am, r, s, en, mm, ?_⟩
    have h : IQ t am H ((ma r s).bind _) (W σ) R := h
    simp only [aC, aN]
    cases hx : ma r s with
    | ok d s1 =>
      rw [hx] at h
      simp only [Rs.bind_ok] at h ⊢
      cases hy : mb r s1 with
      | ok d2 s2 =>
        rw [hy] at h
        intro am' H' b q m z
        obtain ⟨v, w, rfl, z1, z2⟩ := z
        obtain ⟨v2, w2, rfl, z3, z4⟩ := z2
        cases (show w2 = [] from z4)
        have h := IQ.re h q
        cases d with
        | int i =>
          cases d2 with
          | int j =>
            simp only [Rs.bind_ok] at h
            cases z1.intE
            cases z3.intE
            split at h
            · rename_i hj
              exact ⟨i, j, rfl, by omega, h am' H' (Itr i (j - i).toNat) (fun _ _ => True) .refl m (itok_range (t := t) i (j - i).toNat) trivial⟩
            · exact h.elim
          | _ => exact h.elim
        | _ => exact h.elim
      | exc c fs s' => rw [hy] at h; exact h
      | stk => rw [hy] at h; exact h
    | exc c fs s' => rw [hx] at h; exact h
    | stk => rw [hx] at h; exact h
/-- over a tuple -/
theorem itok_tup {a : Addr} {vs : List V} {xs : List D} : ItOk t (Itt t.K a) (fun am H => ∃ vs, SqT t.K H a vs ∧ Reps t am H xs vs) xs where
  item := fun i d am H ⟨vs, h1, h2⟩ e => by
    obtain ⟨v, e1, r1⟩ := h2.get e
    refine ⟨⟨vs, v, h1, e1⟩, fun x H' y => ?_⟩
    obtain ⟨rfl, y⟩ := y
    have := y vs h1
    rw [e1] at this; cases this
    exact ⟨.refl, fun _ z => z, r1⟩
  stop := fun i am H ⟨vs, h1, h2⟩ e => ⟨vs, h1, by rw [← h2.length]; exact List.getElem?_eq_none_iff.mp e⟩
  keep := fun am H am' H' ⟨vs, h1, h2⟩ p => ⟨vs, p.sqT h1, h2.mono p⟩
theorem itok_frl {a : Addr} {vs : List V} {xs : List D} : ItOk t (Itl t.K a) (fun am H => ∃ vs, FrL t.K H a vs ∧ Reps t am H xs vs) xs where
  item := fun i d am H ⟨vs, h1, h2⟩ e => by
    obtain ⟨v, e1, r1⟩ := h2.get e
    refine ⟨⟨vs, v, h1.sq, e1⟩, fun x H' y => ?_⟩
    obtain ⟨rfl, y⟩ := y
    have := y vs h1.sq
    rw [e1] at this; cases this
    exact ⟨.refl, fun _ z => z, r1⟩
  stop := fun i am H ⟨vs, h1, h2⟩ e => ⟨vs, h1.sq, by rw [← h2.length]; exact List.getElem?_eq_none_iff.mp e⟩
  keep := fun am H am' H' ⟨vs, h1, h2⟩ p => ⟨vs, p.frL h1, h2.mono p⟩
theorem i_tup (hK : X.K = t.K) (ha : SE X t W a m) : SI X t W tg a (iTup m) :=
  (pi_tup ha).imp fun σ H R ⟨am, r, s, en, mm, h⟩ => tyE.ofI en mm h fun d s1 am1 H1 v en1 m1 p1 r1 h1 => by
    cases d with
    | tup xs =>
      obtain ⟨a, vs, rfl, h2, h3⟩ := r1.tupE
      rw [hK]
      exact ⟨a, rfl, ⟨vs, h2⟩, h1 am1 H1 _ _ .refl m1 (itok_tup (vs := vs)) ⟨vs, h2, h3⟩⟩
    | _ => exact h1.elim
theorem i_lst (hK : X.K = t.K) (ha : SE X t W a m) : SI X t W tg a (iLst m) :=
  (pi_list ha).imp fun σ H R ⟨am, r, s, en, mm, h⟩ => tyE.ofI en mm h fun d s1 am1 H1 v en1 m1 p1 r1 h1 => by
    cases d with
    | frl xs =>
      obtain ⟨a, vs, rfl, h2, h3⟩ := r1.frlE
      rw [hK]
      exact ⟨a, rfl, ⟨vs, h2.sq⟩, h1 am1 H1 _ _ .refl m1 (itok_frl (vs := vs)) ⟨vs, h2, h3⟩⟩
    | ref n =>
      obtain ⟨a, rfl, ha⟩ := r1.refE
      simp only at h1
      split at h1
      · rename_i xs e
        obtain ⟨vs, h2, h3⟩ := m1.lst e ha
        rw [hK]
        exact ⟨a, rfl, ⟨vs, .of h2⟩, h1 am1 H1 a .refl m1 ha⟩
      · exact h1.elim
    | _ => exact h1.elim
end

section
variable {X : Cx} {t : Tb} {W : XW} {tg iter : Expr} {body : List Stmt} {mi : IW} {g : Tg} {b : Sm} {pos : Pos}
theorem z_for (hp : PassesOwn (model X.prog X.w) X.A X.env X.xe) (hc : X.calm = true) (hK : X.K = t.K) (hi : SI X t W tg iter mi) (hg : SG X t tg g) (hb : SSs X t W body b)
    (hs : ∀ x, foldedSetIterable iter X.env x = pure x := by intro _; rfl) : SS X t W (.For tg iter body [] pos) (zFor mi g b) :=
  (ps_for hp hc hi hg hb hs).imp fun Dn σ H ⟨am, r, s, en, mm, h⟩ => by
    refine ⟨am, r, s, en, mm, ?_⟩
    -- one turn: the item is stored, the body runs, N is reached
    have turn : ∀ {am1 : List Addr} {r1 : Env} {s1 : S} {H1 : Hp} {d : Y.D} {x : V} {σ1 : L2.St} {k : Sm} {N : L2.St → Hp → Prop}, EnvR t am1 H1 r1 σ1 → Ms t am1 s1 H1 → Rep t am1 H1 d x →
        FQ t am1 H1 (match g d r1 s1 with | some (r2, s2) => (b r2 s2).turn k | none => .stk) W Dn →
        (∀ am2 r2 s2 σ2 H2, Post am1 H1 am2 H2 → EnvR t am2 H2 r2 σ2 → Ms t am2 s2 H2 → FQ t am2 H2 (k r2 s2) W Dn → N σ2 H2) →
        tyG t g x σ1 H1 (fun σ2 H2 => tyS t W b { Dn with nx := N, ct := N, bk := Dn.nx } σ2 H2) := by
      intro am1 r1 s1 H1 d x σ1 k N en1 m1 rp h1 hN
      split at h1
      · rename_i r2 s2 e2
        refine ⟨am1, r1, s1, d, en1, m1, rp, r2, s2, e2, fun am' H' σ' p m z => ⟨am', r2, s2, z, m, ?_⟩⟩
        have h1 := FQ.re h1 p
        cases hx : b r2 s2 with
        | nx r3 s3 => rw [hx] at h1; exact fun am3 H3 σ3 q m3 z3 => hN am3 r3 s3 σ3 H3 (p.trans q) z3 m3 (FQ.re h1 q)
        | ct r3 s3 => rw [hx] at h1; exact fun am3 H3 σ3 q m3 z3 => hN am3 r3 s3 σ3 H3 (p.trans q) z3 m3 (FQ.re h1 q)
        | bk r3 s3 => rw [hx] at h1; exact h1
        | rt d s3 => rw [hx] at h1; exact h1
        | exc c fs r3 s3 => rw [hx] at h1; exact h1
        | stk => rw [hx] at h1; exact h1
      · exact h1.elim
    have h : FQ t am H ((mi r s).then r fun j s1 => match j with
      | .items xs => forM g b xs r s1
      | .list n => forR g b n FUEL 0 r s1) W Dn := h
    cases hx : mi r s with
    | exc c fs s' => rw [hx] at h; exact fun am' H' cls dd q m z => h am' H' σ cls dd q m (en.mono q) z
    | stk => rw [hx] at h; exact h
    | ok j s0 =>
      rw [hx] at h
      cases j with
      | items xs =>
        have h : FQ t am H (forM g b xs r s0) W Dn := h
        intro am' H' J G p m ok hG
        refine ⟨fun i n σ1 H1 => ∃ am1 r1 s1, n = (xs.drop i).length ∧ EnvR t am1 H1 r1 σ1 ∧ Ms t am1 s1 H1 ∧ G am1 H1 ∧ FQ t am1 H1 (forM g b (xs.drop i) r1 s1) W Dn, ⟨xs.length, am', r, s0, by simp, en.mono p, m, hG, by rw [List.drop_zero]; exact FQ.re h p⟩, ?_⟩
        rintro i n σ1 H1 ⟨am1, r1, s1, rfl, en1, m1, g1, h1⟩
        cases hd : xs[i]? with
        | none =>
          have e : xs.drop i = [] := List.drop_eq_nil_of_le (List.getElem?_eq_none_iff.mp hd)
          rw [e] at h1
          exact .inl ⟨ok.stop i am1 H1 g1 hd, FQ.nx0 h1 m1 en1⟩
        | some d =>
          have hl := (List.getElem?_eq_some_iff.mp hd)
          have e : xs.drop i = d :: xs.drop (i + 1) := by
            rw [List.drop_eq_getElem_cons hl.1, hl.2]
          rw [e] at h1
          obtain ⟨go, yl⟩ := ok.item i d am1 H1 g1 hd
          refine .inr ⟨go, fun σ2 H2 => ∃ am2 r2 s2, EnvR t am2 H2 r2 σ2 ∧ Ms t am2 s2 H2 ∧ G am2 H2 ∧ FQ t am2 H2 (forM g b (xs.drop (i + 1)) r2 s2) W Dn, fun σ2 H2 ⟨am2, r2, s2, z1, z2, z3, z4⟩ => ⟨_, by rw [e]; simp, am2, r2, s2, rfl, z1, z2, z3, z4⟩, fun x H2 y => ?_⟩
          obtain ⟨p2, m2, rp⟩ := yl x H2 y
          have g2 := ok.keep _ _ _ _ g1 p2
          exact turn (en1.mono p2) (m2 s1 m1) rp (FQ.re h1 p2) fun am3 r3 s3 σ3 H3 p3 z1 z2 z3 => ⟨am3, r3, s3, z1, z2, ok.keep _ _ _ _ g2 p3, z3⟩
      | list l =>
        have h : FQ t am H (forR g b l FUEL 0 r s0) W Dn := h
        intro am' H' a p m ha
        refine ⟨fun i n σ1 H1 => ∃ am1 r1 s1, EnvR t am1 H1 r1 σ1 ∧ Ms t am1 s1 H1 ∧ am1[l]? = some a ∧ FQ t am1 H1 (forR g b l n i r1 s1) W Dn, ⟨FUEL, am', r, s0, en.mono p, m, ha, FQ.re h p⟩, ?_⟩
        rintro i n σ1 H1 ⟨am1, r1, s1, en1, m1, a1, h1⟩
        cases n with
        | zero => exact h1.elim
        | succ n =>
          unfold forR at h1
          split at h1
          · rename_i xs e1
            obtain ⟨vs, hv, rv⟩ := m1.lst e1 a1
            cases hd : xs[i]? with
            | none =>
              rw [hd] at h1
              exact .inl ⟨⟨vs, .of hv, by rw [← rv.length]; exact List.getElem?_eq_none_iff.mp hd⟩, FQ.nx0 h1 m1 en1⟩
            | some d =>
              rw [hd] at h1
              obtain ⟨v, ev, rp⟩ := rv.get hd
              refine .inr ⟨⟨vs, v, .of hv, ev⟩, fun σ2 H2 => ∃ am2 r2 s2, EnvR t am2 H2 r2 σ2 ∧ Ms t am2 s2 H2 ∧ am2[l]? = some a ∧ FQ t am2 H2 (forR g b l n (i + 1) r2 s2) W Dn, fun σ2 H2 z => ⟨n, Nat.lt_succ_self n, z⟩, fun x H2 y => ?_⟩
              obtain ⟨rfl, y⟩ := y
              have := y vs (.of hv)
              rw [ev] at this; cases this
              exact turn en1 m1 rp h1 fun am3 r3 s3 σ3 H3 p3 z1 z2 z3 => ⟨am3, r3, s3, z1, z2, p3.at a1, z3⟩
          · exact h1.elim
end
end Y

/-! Y5: comprehensions, defs and their calls, errors raised. -/
namespace Y
open PySem L2

/-! ### comprehensions -/
/-- a target that stores in the block's own slots alone -/
def tyGw (t : Tb) (g : Tg) (vs : List Nat) : TG := fun v σ H Q => ∃ am r s d, EnvR t am H r σ ∧ Ms t am s H ∧ Rep t am H d v ∧ ∃ r2 s2, g d r s = some (r2, s2) ∧ ∀ am' H' σ', Post am H am' H' → Ms t am' s2 H' → EnvR t am' H' r2 σ' → wipe σ' vs = wipe σ vs → Q σ' H'
def tyGsw (t : Tb) (g : List D → Env → S → Option (Env × S)) (vs : List Nat) : TGs := fun us σ H Q => ∃ am r s ds, EnvR t am H r σ ∧ Ms t am s H ∧ Reps t am H ds us ∧ ∃ r2 s2, g ds r s = some (r2, s2) ∧ ∀ am' H' σ', Post am H am' H' → Ms t am' s2 H' → EnvR t am' H' r2 σ' → wipe σ' vs = wipe σ vs → Q σ' H'
def SGw (X : Cx) (t : Tb) (e : Expr) (g : Tg) (vs : List Nat) : Prop := PG X e (tyGw t g vs)
def SGsw (X : Cx) (t : Tb) (es : List Expr) (g : List D → Env → S → Option (Env × S)) (vs : List Nat) : Prop := PGs X es (tyGsw t g vs)
theorem wipe_set {i : Nat} {x : Option V} : ∀ {vs : List Nat} (σ : L2.St), i ∈ vs → wipe (σ.set i x) vs = wipe σ vs := by
  intro vs
  induction vs with
  | nil => intro σ h; cases h
  | cons v vs ih =>
    intro σ h
    unfold wipe
    by_cases hi : i ∈ vs
    · rw [ih σ hi]
    · have e : i = v := by rcases List.mem_cons.mp h with h | h; exact h; exact absurd h hi
      subst e
      refine List.ext_getElem? fun k => ?_
      by_cases hk : i = k
      · subst hk
        by_cases hl : i < σ.length
        · rw [List.getElem?_set_self (by rw [wipe_length, List.length_set]; exact hl), List.getElem?_set_self (by rw [wipe_length]; exact hl)]
        · rw [List.getElem?_eq_none (by rw [List.length_set, wipe_length, List.length_set]; omega), List.getElem?_eq_none (by rw [List.length_set, wipe_length]; omega)]
      · rw [List.getElem?_set_ne hk, List.getElem?_set_ne hk]
        have : ∀ (vs : List Nat) (σ σ' : L2.St), (∀ j, j ≠ i → σ[j]? = σ'[j]?) → σ.length = σ'.length → ∀ j, j ≠ i → (wipe σ vs)[j]? = (wipe σ' vs)[j]? := by
          intro vs
          induction vs with
          | nil => intro σ σ' h _; exact h
          | cons v vs ih =>
            intro σ σ' h hl j hj
            unfold wipe
            by_cases hv : v = j
            · subst hv
              by_cases hlt : v < σ.length
              · rw [List.getElem?_set_self (by rw [wipe_length]; exact hlt), List.getElem?_set_self (by rw [wipe_length]; omega)]
              · rw [List.getElem?_eq_none (by rw [List.length_set, wipe_length]; omega), List.getElem?_eq_none (by rw [List.length_set, wipe_length]; omega)]
            · rw [List.getElem?_set_ne hv, List.getElem?_set_ne hv]
              exact ih σ σ' h hl j hj
        exact this vs _ _ (fun j hj => List.getElem?_set_ne (Ne.symm hj)) (by simp) k (Ne.symm hk)
section
variable {X : Cx} {t : Tb} {e : Expr} {pos : Pos} {vs : List Nat}
theorem gw_name {i : Nat} {x : Str} (hN : X.N.Nodup) (hi : X.N[i]? = some x) (hx : Loc X.env.scope x) (hv : i ∈ vs) (hf : X.fn x = true ∨ X.env.scope.names.lookup x = some .local := by first | exact .inl rfl | exact .inr rfl | assumption) : SGw X t (.Name x pos) (gV i) vs :=
  (pg_name hN hi hx hf).imp fun v σ H Q ⟨am, r, s, d, en, mm, rp, r2, s2, e, q⟩ => by
    unfold gV at e
    split at e
    · cases e
      exact q am H _ .refl mm (en.set i rp) (wipe_set σ hv)
    · cases e
theorem gsw_nil : SGsw X t [] gsN vs := pgs_nil.imp fun v σ H Q ⟨am, r, s, ds, en, mm, rp, r2, s2, e, q⟩ => by
  unfold gsN at e
  split at e
  · rename_i hd
    cases e
    have : ds = [] := by simpa using hd
    subst this
    exact ⟨rp, q am H σ .refl mm en rfl⟩
  · cases e
theorem gsw_cons {es : List Expr} {g : Tg} {u : List D → Env → S → Option (Env × S)} (h1 : SGw X t e g vs) (h2 : SGsw X t es u vs) (hs : (assignEach (e :: es) X.env).map (·.2) = assign e X.env :: (assignEach es X.env).map (·.2) := by rfl) : SGsw X t (e :: es) (gsC g u) vs :=
  (pgs_cons h1 h2 hs).imp fun v σ H Q ⟨am, r, s, ds, en, mm, rp, r2, s2, e, q⟩ => by
    cases ds with
    | nil => cases e
    | cons d ds =>
      obtain ⟨v1, vr, rfl, ra, rb⟩ := rp
      unfold gsC at e
      simp only at e
      split at e
      · rename_i r1 s1 e1
        refine ⟨v1, vr, rfl, am, r, s, d, en, mm, ra, r1, s1, e1, fun am' H' σ' p m z w => ?_⟩
        exact ⟨am', r1, s1, ds, z, m, rb.mono p, r2, s2, e, fun am2 H2 σ2 p2 m2 z2 w2 => q am2 H2 σ2 (p.trans p2) m2 z2 (w2.trans w)⟩
      · cases e
theorem gw_tup {es : List Expr} {k : Nat} {u : List D → Env → S → Option (Env × S)} (hK : X.K = t.K) (hc : X.calm = true) (h : SGsw X t es u vs)
    (hlen : ∀ ds r s x, u ds r s = some x → ds.length = (assignEach es X.env).length) (hst : (assignEach es X.env).findIdx? (·.1) = none := by rfl) : SGw X t (.Tuple es k pos) (gT u) vs :=
  (pg_tup (n := (assignEach es X.env).length) hc h rfl hst).imp fun v σ H Q ⟨am, r, s, d, en, mm, rp, r2, s2, e, q⟩ => by
    cases d with
    | tup ds =>
      obtain ⟨a, vs, rfl, h1, h2⟩ := rp.tupE
      have e : u ds r s = some (r2, s2) := e
      exact ⟨a, vs, rfl, by rw [hK]; exact h1, by rw [← h2.length]; exact hlen _ _ _ _ e, am, r, s, ds, en, mm, h2, r2, s2, e, q⟩
    | _ => cases e
end
abbrev W0 : XW := fun _ _ _ _ => False
theorem RQ.stk {α β : Type} {t : Tb} {am : List Addr} {H : Hp} {rep : List Addr → Hp → α → β → Prop} {Ex : XK} {Q : β → Hp → Prop} (h : RQ t am H (.stk : Rs α) rep Ex Q) {p : Prop} : p := False.elim h
def SPts (X : Cx) (t : Tb) (W : XW) (ifs : List Expr) (m : T) : Prop := PTs X ifs (tyT t W m)
theorem _root_.L2.PTs.imp {X : Cx} {ifs : List Expr} {u u' : TT} (h : PTs X ifs u) (f : ∀ σ H Q, u' σ H Q → u σ H Q) : PTs X ifs u' := ⟨fun pins s σ H Q I q => h.run pins s σ H Q I (f σ H Q q)⟩
theorem ts_nil {X : Cx} {t : Tb} {W : XW} : SPts X t W [] tYes := pts_nil.imp fun σ H Q ⟨am, r, s, en, mm, h⟩ => h.ok0 mm rfl
theorem ts_one {X : Cx} {t : Tb} {W : XW} {c : Expr} {m : T} (h : ST X t W c m) : SPts X t W [c] m := pts_one h
section
variable {X : Cx} {t : Tb} {W : XW} {elt tg iter : Expr} {ifs : List Expr} {scope : Scope} {own : List (Str × Nat)} {pos : Pos} {mi : IW} {g : Tg} {mt : T} {m : E}
/-- one turn of a block -/
theorem lc_turn {am : List Addr} {r : Env} {s : S} {H : Hp} {d : D} {x : V} {σ : L2.St} {vs : List Nat} {n : Nat} {Dx : Addr} {k : Env → S → Rs D} {Nx : Hp → Prop} {Ex : XK} {Q : VK} (en : EnvR t am H r σ) (mm : Ms t am s H) (rp : Rep t am H d x) (hD : am[n]? = some Dx)
    (h : RQ t am H (match g d r s with
      | none => .stk
      | some (r1, s1) => match mt r1 s1 with
        | .ok false s2 => k r s2
        | .ok true s2 => match m r1 s2 with
          | .ok d s3 => match appendAt n d s3 with
            | some s4 => k r s4
            | none => .stk
          | _ => .stk
        | _ => .stk) (Rep t) Ex Q)
    (hN : ∀ am2 s2 H2, Post am H am2 H2 → Ms t am2 s2 H2 → RQ t am2 H2 (k r s2) (Rep t) Ex Q → Nx H2) :
    tyGw t g vs x σ H fun σ2 H2 => wipe σ2 vs = wipe σ vs ∧ tyT t W0 mt σ2 H2 fun b H3 => if b = true then tyE t W0 m σ2 H3 fun y H4 => ∃ acc, H4 Dx = some (.lst acc) ∧ acc.length < sizeLine ∧ Nx (L2.upd H4 Dx (.lst (acc ++ [y]))) else Nx H3 := by
  split at h
  · exact h.elim
  · rename_i r1 s1 e1
    refine ⟨am, r, s, d, en, mm, rp, r1, s1, e1, fun am1 H1 σ1 p1 m1 en1 w => ⟨w, am1, r1, s1, en1, m1, ?_⟩⟩
    have h := RQ.re h p1
    cases hx : mt r1 s1 with
    | exc c fs s2 => rw [hx] at h; exact h.elim
    | stk => rw [hx] at h; exact h.elim
    | ok b s2 =>
      rw [hx] at h
      intro am2 H2 b' p2 m2 eb
      cases eb
      cases b with
      | false =>
        rw [if_neg Bool.false_ne_true]
        exact hN am2 s2 H2 (p1.trans p2) m2 (RQ.re h p2)
      | true =>
        rw [if_pos rfl]
        refine ⟨am2, r1, s2, en1.mono p2, m2, ?_⟩
        have h := RQ.re h p2
        simp only at h
        cases hy : m r1 s2 with
        | exc c fs s3 => rw [hy] at h; exact h.elim
        | stk => rw [hy] at h; exact h.elim
        | ok d3 s3 =>
          rw [hy] at h
          intro am3 H3 y p3 m3 ry
          have h := RQ.re h p3
          simp only at h
          have hD3 : am3[n]? = some Dx := p3.at (p2.at (p1.at hD))
          unfold appendAt at h
          split at h
          · rename_i s4 e4
            split at e4
            · rename_i xs ex
              split at e4
              · rename_i hl
                cases e4
                obtain ⟨acc, ha, ra⟩ := m3.lst ex hD3
                refine ⟨acc, ha, by rw [← ra.length]; exact Nat.lt_of_lt_of_le hl (by decide), ?_⟩
                have P : Post am3 H3 am3 (L2.upd H3 Dx (.lst (acc ++ [y]))) := .put (List.mem_of_getElem? hD3) ha (fun z => z)
                obtain ⟨_, m4⟩ := m3.put (u := .lst (acc ++ [y])) (o := .lst (xs ++ [d3])) hD3 ⟨_, upd_same, (ra.append (.one ry)).mono P⟩
                exact hN am3 _ _ (((p1.trans p2).trans p3).trans P) m4 (RQ.re h P)
              · cases e4
            · cases e4
          · exact h.elim
theorem lc_ty (hK : X.K = t.K) {vs : List Nat} {σ : L2.St} {H : Hp} {Q : VK} (h : tyE t W (eLc mi g mt m vs) σ H Q) : tLc (tyI t W mi) (tyGw t g vs) (tyT t W0 mt) (tyE t W0 m) vs σ H Q := by
  obtain ⟨am, r, s, en, mm, h⟩ := h
  refine ⟨am, r, s, en, mm, ?_⟩
  have h : RQ t am H ((mi r s).bind _) (Rep t) (W σ) Q := h
  cases hx : mi r s with
  | exc c fs s' => rw [hx] at h; exact h
  | stk => rw [hx] at h; exact h
  | ok j s0 =>
    rw [hx] at h
    cases j with
    | items xs =>
      have h : RQ t am H (compM g mt m s0.length xs (wipeD r vs) (s0 ++ [.lst []])) (Rep t) (W σ) Q := h
      intro am' H' J G p m' ok hG Dx hDx
      have pn : Post am' H' (am' ++ [Dx]) (L2.upd H' Dx (.lst [])) := .new hDx
      have mn : Ms t (am' ++ [Dx]) (s0 ++ [.lst []]) (L2.upd H' Dx (.lst [])) := m'.new hDx ⟨[], upd_same, rfl⟩
      have hn : (am' ++ [Dx])[s0.length]? = some Dx := by rw [← m'.len]; simp
      refine ⟨fun i n H1 => ∃ am1 s1, n = (xs.drop i).length ∧ am1[s0.length]? = some Dx ∧ EnvR t am1 H1 (wipeD r vs) (wipe σ vs) ∧ Ms t am1 s1 H1 ∧ G am1 H1 ∧ RQ t am1 H1 (compM g mt m s0.length (xs.drop i) (wipeD r vs) s1) (Rep t) (W σ) Q,
        ⟨xs.length, am' ++ [Dx], s0 ++ [.lst []], by simp, hn, ((en.mono p).mono pn).wipe vs, mn, ok.keep _ _ _ _ hG pn, by rw [List.drop_zero]; exact RQ.re (RQ.re h p) pn⟩, ?_⟩
      rintro i n H1 ⟨am1, s1, rfl, hd1, en1, m1, g1, h1⟩
      cases hd : xs[i]? with
      | none =>
        have e : xs.drop i = [] := List.drop_eq_nil_of_le (List.getElem?_eq_none_iff.mp hd)
        rw [e] at h1
        exact .inl ⟨ok.stop i am1 H1 g1 hd, RQ.ok0 h1 m1 ⟨Dx, rfl, hd1⟩⟩
      | some d =>
        have hl := (List.getElem?_eq_some_iff.mp hd)
        have e : xs.drop i = d :: xs.drop (i + 1) := by rw [List.drop_eq_getElem_cons hl.1, hl.2]
        rw [e] at h1
        obtain ⟨go, yl⟩ := ok.item i d am1 H1 g1 hd
        refine .inr ⟨go, fun H2 => ∃ am2 s2, am2[s0.length]? = some Dx ∧ EnvR t am2 H2 (wipeD r vs) (wipe σ vs) ∧ Ms t am2 s2 H2 ∧ G am2 H2 ∧ RQ t am2 H2 (compM g mt m s0.length (xs.drop (i + 1)) (wipeD r vs) s2) (Rep t) (W σ) Q, fun H2 ⟨am2, s2, z0, z1, z2, z3, z4⟩ => ⟨_, by rw [e]; simp, am2, s2, rfl, z0, z1, z2, z3, z4⟩, fun x H2 y => ?_⟩
        obtain ⟨p2, m2, rp⟩ := yl x H2 y
        have g2 := ok.keep _ _ _ _ g1 p2
        have en2 := en1.mono p2
        have t1 := lc_turn (vs := vs) (k := fun r s => compM g mt m s0.length (xs.drop (i + 1)) r s) (Nx := fun H2 => ∃ am2 s2, am2[s0.length]? = some Dx ∧ EnvR t am2 H2 (wipeD r vs) (wipe σ vs) ∧ Ms t am2 s2 H2 ∧ G am2 H2 ∧ RQ t am2 H2 (compM g mt m s0.length (xs.drop (i + 1)) (wipeD r vs) s2) (Rep t) (W σ) Q) en2 (m2 s1 m1) rp (p2.at hd1) (RQ.re h1 p2)
          fun am3 s3 H3 p3 z2 z3 => ⟨am3, s3, p3.at (p2.at hd1), en2.mono p3, z2, ok.keep _ _ _ _ g2 p3, z3⟩
        rw [show wipe (wipe σ vs) vs = wipe σ vs from ?_] at t1
        · exact t1
        · have ww : ∀ (vs : List Nat) (σ : L2.St), (∀ i ∈ vs, ∀ x, σ[i]? = some x → x = none) → wipe σ vs = σ := by
            intro vs
            induction vs with
            | nil => intro σ _; rfl
            | cons v vs ih =>
              intro σ hh
              unfold wipe
              rw [ih σ fun i hi => hh i (List.mem_cons_of_mem _ hi)]
              refine List.ext_getElem? fun k => ?_
              by_cases hk : v = k
              · subst hk
                cases hv : σ[v]? with
                | none => rw [List.getElem?_eq_none]; rw [List.length_set]; exact List.getElem?_eq_none_iff.mp hv
                | some x =>
                  rw [List.getElem?_set_self (List.getElem?_eq_some_iff.mp hv).1, hh v List.mem_cons_self x hv]
              · rw [List.getElem?_set_ne hk]
          refine ww vs _ fun i hi x hx => ?_
          cases x with
          | none => rfl
          | some x => exact absurd hi (wipe_some hx).2
    | list l =>
      have h : RQ t am H (compR g mt m s0.length l FUEL 0 (wipeD r vs) (s0 ++ [.lst []])) (Rep t) (W σ) Q := h
      intro am' H' a p m' ha Dx hDx
      have pn : Post am' H' (am' ++ [Dx]) (L2.upd H' Dx (.lst [])) := .new hDx
      have mn : Ms t (am' ++ [Dx]) (s0 ++ [.lst []]) (L2.upd H' Dx (.lst [])) := m'.new hDx ⟨[], upd_same, rfl⟩
      have hn : (am' ++ [Dx])[s0.length]? = some Dx := by rw [← m'.len]; simp
      refine ⟨fun i n H1 => ∃ am1 s1, am1[l]? = some a ∧ am1[s0.length]? = some Dx ∧ EnvR t am1 H1 (wipeD r vs) (wipe σ vs) ∧ Ms t am1 s1 H1 ∧ RQ t am1 H1 (compR g mt m s0.length l n i (wipeD r vs) s1) (Rep t) (W σ) Q,
        ⟨FUEL, am' ++ [Dx], s0 ++ [.lst []], pn.at ha, hn, ((en.mono p).mono pn).wipe vs, mn, RQ.re (RQ.re h p) pn⟩, ?_⟩
      rintro i n H1 ⟨am1, s1, a1, hd1, en1, m1, h1⟩
      cases n with
      | zero => exact h1.elim
      | succ n =>
        unfold compR at h1
        split at h1
        · rename_i xs e1
          obtain ⟨us, hv, rv⟩ := m1.lst e1 a1
          cases hd : xs[i]? with
          | none =>
            rw [hd] at h1
            exact .inl ⟨⟨us, .of hv, by rw [← rv.length]; exact List.getElem?_eq_none_iff.mp hd⟩, RQ.ok0 h1 m1 ⟨Dx, rfl, hd1⟩⟩
          | some d =>
            rw [hd] at h1
            obtain ⟨v, ev, rp⟩ := rv.get hd
            refine .inr ⟨⟨us, v, .of hv, ev⟩, fun H2 => ∃ am2 s2, am2[l]? = some a ∧ am2[s0.length]? = some Dx ∧ EnvR t am2 H2 (wipeD r vs) (wipe σ vs) ∧ Ms t am2 s2 H2 ∧ RQ t am2 H2 (compR g mt m s0.length l n (i + 1) (wipeD r vs) s2) (Rep t) (W σ) Q, fun H2 z => ⟨n, Nat.lt_succ_self n, z⟩, fun x H2 y => ?_⟩
            obtain ⟨rfl, y⟩ := y
            have := y us (.of hv)
            rw [ev] at this; cases this
            have t1 := lc_turn (vs := vs) (k := fun r s => compR g mt m s0.length l n (i + 1) r s) (Nx := fun H2 => ∃ am2 s2, am2[l]? = some a ∧ am2[s0.length]? = some Dx ∧ EnvR t am2 H2 (wipeD r vs) (wipe σ vs) ∧ Ms t am2 s2 H2 ∧ RQ t am2 H2 (compR g mt m s0.length l n (i + 1) (wipeD r vs) s2) (Rep t) (W σ) Q) en1 m1 rp hd1 h1
              fun am3 s3 H3 p3 z2 z3 => ⟨am3, s3, p3.at a1, p3.at hd1, en1.mono p3, z2, z3⟩
            rw [show wipe (wipe σ vs) vs = wipe σ vs from ?_] at t1
            · exact t1
            · have ww : ∀ (vs : List Nat) (σ : L2.St), (∀ i ∈ vs, ∀ x, σ[i]? = some x → x = none) → wipe σ vs = σ := by
                intro vs
                induction vs with
                | nil => intro σ _; rfl
                | cons v vs ih =>
                  intro σ hh
                  unfold wipe
                  rw [ih σ fun i hi => hh i (List.mem_cons_of_mem _ hi)]
                  refine List.ext_getElem? fun k => ?_
                  by_cases hk : v = k
                  · subst hk
                    cases hv : σ[v]? with
                    | none => rw [List.getElem?_eq_none]; rw [List.length_set]; exact List.getElem?_eq_none_iff.mp hv
                    | some x =>
                      rw [List.getElem?_set_self (List.getElem?_eq_some_iff.mp hv).1, hh v List.mem_cons_self x hv]
                  · rw [List.getElem?_set_ne hk]
              refine ww vs _ fun i hi x hx => ?_
              cases x with
              | none => rfl
              | some x => exact absurd hi (wipe_some hx).2
        · exact h1.elim
theorem s_lc (hK : X.K = t.K) (hc : X.calm = true) (hN : X.N.Nodup) (hi : SI X t W tg iter mi) (ok : BlkOk X.N X.env.scope scope own)
    (hg : ∀ (s : Shared) (H : Hp) (C : Addr) (cl : List (Str × Addr)) (fp : List Addr), SGw (X.blk s H scope (compEnvC scope cl C X.env) fp) t tg g (own.map (·.2)))
    (ht : ∀ (s : Shared) (H : Hp) (C : Addr) (cl : List (Str × Addr)) (fp : List Addr), SPts (X.blk s H scope (compEnvC scope cl C X.env) fp) t W0 ifs mt)
    (he : ∀ (s : Shared) (H : Hp) (C : Addr) (cl : List (Str × Addr)) (fp : List Addr), SE (X.blk s H scope (compEnvC scope cl C X.env) fp) t W0 elt m) (hs : ∀ x, foldedSetIterable iter X.env x = pure x := by intro _; rfl) :
    SE X t W (.ListComp elt [⟨tg, iter, ifs, 0⟩] scope pos) (eLc mi g mt m (own.map (·.2))) := (pe_lc hc hN hi ok hg ht he hs).imp fun σ H Q h => lc_ty hK h
theorem z_setLc {i : Nat} {y : Str} {py spos : Pos} (hK : X.K = t.K) (hc : X.calm = true) (hN : X.N.Nodup) (hy : X.N[i]? = some y) (hyl : X.env.scope.names.lookup y = some .local)
    (hsw : swapsWith (.ListComp elt [⟨tg, iter, ifs, 0⟩] scope pos) (some (.Name y py)) spos.line X.env = pure true) (hi : SI X t W tg iter mi) (ok : BlkOk X.N X.env.scope scope own)
    (hg : ∀ (s : Shared) (H : Hp) (C : Addr) (cl : List (Str × Addr)) (fp : List Addr), SGw (X.blk s H scope (compEnvC scope cl C X.env) fp) t tg g (own.map (·.2)))
    (ht : ∀ (s : Shared) (H : Hp) (C : Addr) (cl : List (Str × Addr)) (fp : List Addr), SPts (X.blk s H scope (compEnvC scope cl C X.env) fp) t W0 ifs mt)
    (he : ∀ (s : Shared) (H : Hp) (C : Addr) (cl : List (Str × Addr)) (fp : List Addr), SE (X.blk s H scope (compEnvC scope cl C X.env) fp) t W0 elt m) (hs : ∀ x, foldedSetIterable iter X.env x = pure x := by intro _; rfl) :
    SS X t W (.Assign [.Name y py] (.ListComp elt [⟨tg, iter, ifs, 0⟩] scope pos) spos) (zSet (gV i) (eLc mi g mt m (own.map (·.2)))) :=
  (ps_setLc hc hN hy hyl hsw hi ok hg ht he hs).imp fun D σ H ⟨am, r, s, en, mm, h⟩ => lc_ty hK ⟨am, r, s, en, mm, FQ.seq en h fun d s1 am1 H1 v p1 en1 m1 r1 h1 => by
    unfold gV at h1
    by_cases hl : i < r.length
    · simp only [hl, if_true] at h1
      exact h1.nx0 m1 (en1.set i r1)
    · simp only [hl, if_false] at h1
      exact h1.elim⟩
end
end Y

/-! Y6: defs and their calls, errors raised. -/
namespace Y
open PySem L2

/-! ### what a def promises: its plain function -/
def spF (t : Tb) (k : Nat) (f : Fn) : Sp := fun vs H Q E => ∃ am ds s, ds.length = k ∧ Ms t am s H ∧ Reps t am H ds vs ∧ RQ t am H (f ds s) (Rep t) E Q
/-- a body's context -/
structure Okc (X : Cx) (t : Tb) (W : XW) : Prop where
  hK : X.K = t.K
  hx : ∀ σ, PassesAt (L2.CX X.prog X.w) X σ (W σ)
section
variable {P : Program} {w : World} {K : PySem.W.Frag} {mg : Str → Option Value} {base : Heap}
theorem okc_def {N : List Str} {qual : Str} {scope : Scope} {f : Addr} {cd : Value} {A : Around} {outer : List PySem.Env} {s : Shared} {H : Hp} {E : XK} {t : Tb} (hK : K = t.K) : Okc (cxOf (L2.CX P w) P w K mg base N qual scope f cd A outer s H E) t (fun _ => E) :=
  ⟨hK, fun σ => passAt (W := fun cls d _ H => E cls d H) (takes_of rfl rfl rfl rfl) σ⟩
theorem pass_def {N : List Str} {qual : Str} {scope : Scope} {f : Addr} {cd : Value} {A : Around} {outer : List PySem.Env} {s : Shared} {H : Hp} {E : XK} :
    PassesOwn (model (cxOf (L2.CX P w) P w K mg base N qual scope f cd A outer s H E).prog (cxOf (L2.CX P w) P w K mg base N qual scope f cd A outer s H E).w) (cxOf (L2.CX P w) P w K mg base N qual scope f cd A outer s H E).A (cxOf (L2.CX P w) P w K mg base N qual scope f cd A outer s H E).env (cxOf (L2.CX P w) P w K mg base N qual scope f cd A outer s H E).xe := passes_of rfl
theorem Okc.blk {X : Cx} {t : Tb} {W : XW} (h : Okc X t W) {s : Shared} {H : Hp} {scope : Scope} {env : PySem.Env} {fp : List Addr} : Okc (X.blk s H scope env fp) t W0 :=
  ⟨h.hK, fun σ => fun _ _ _ _ _ _ c => by
    obtain ⟨_, _, _, _, _, _, _, _, _, _, _, _, z⟩ := c
    exact z.elim⟩
theorem reps_start {t : Tb} {am : List Addr} {H : Hp} : ∀ {ds : List D} {vs : List V}, Reps t am H ds vs → ∀ n, EnvR t am H (ds ++ List.replicate n .undef) (vs.map some ++ List.replicate n none) := fun {ds vs} h n => by
  refine ⟨by simp [h.length], fun i d e hu => ?_⟩
  by_cases hl : i < ds.length
  · rw [List.getElem?_append_left hl] at e
    obtain ⟨v, h1, h2⟩ := h.get e
    refine ⟨v, ?_, h2⟩
    rw [List.getElem?_append_left (by rw [List.length_map, ← h.length]; exact hl), List.getElem?_map, h1]
    rfl
  · rw [List.getElem?_append_right (by omega), List.getElem?_replicate] at e
    split at e
    · cases e; exact absurd rfl hu
    · cases e
theorem fn_ok {x qual : Str} {st : Stmt} {f : Addr} {fd : FuncData} {N ps : List Str} {k : Nat} {t : Tb} {m : Sm} (F : Fun K x qual st f fd) (S : FnScope N ps (defScope st))
    (hbody : ∀ (cdv : Value) (A : Around) (outer : List PySem.Env) (s : Shared) (H : Hp) (E : XK), Room k (A.deeper (PyProof.Rows.envOfC qual (defScope st) s.heap.objs.size f cdv)) →
      SSs (cxOf (L2.CX P w) P w K mg base N qual (defScope st) f cdv A outer s H E) t (fun _ => E) (defBody st) m) :
    FnOk P w K mg base (L2.CX P w) (k + 1) f fd ps (spF t ps.length (mkFn N.length ps.length m)) := by
  refine F.okX S (fun vs H Q E h => ?_) (fun cdv A outer s H vs Q E hr h => ?_)
  · obtain ⟨am, ds, s, hl, _, r, _⟩ := h
    rw [← r.length, hl]
  · refine ⟨_, hbody cdv A outer s H E hr, ?_⟩
    obtain ⟨am, ds, s0, hl, mm, r, h⟩ := h
    have hN : ps.length ≤ N.length := by
      have := congrArg List.length S.pre
      rw [List.length_take] at this
      omega
    have en : EnvR t am H (ds ++ List.replicate (N.length - ps.length) .undef) (L2.start N vs) := by
      unfold L2.start
      rw [← r.length, hl]
      exact reps_start r _
    refine ⟨am, _, s0, en, mm, ?_⟩
    unfold mkFn at h
    rw [if_pos hl] at h
    cases hx : m (ds ++ List.replicate (N.length - ps.length) .undef) s0 with
    | nx r1 s1 => rw [hx] at h; exact fun am' H' σ' p m _ => h am' H' .non p m rfl
    | rt d s1 => rw [hx] at h; exact h
    | bk r1 s1 => rw [hx] at h; exact h.elim
    | ct r1 s1 => rw [hx] at h; exact h.elim
    | exc c fs r1 s1 => rw [hx] at h; exact fun am' H' σ' cls dd p m _ z => h am' H' cls dd p m z
    | stk => rw [hx] at h; exact h.elim
end

/-! ### a call by what the arguments hold -/
theorem pureL_all : ∀ {xs : List D}, D.pureL xs = true → ∀ x ∈ xs, x.pure = true
  | [], _, _, h => by cases h
  | y :: xs, h, x, hx => by
    unfold D.pureL at h
    rw [Bool.and_eq_true] at h
    rcases List.mem_cons.mp hx with e | e
    · rw [e]; exact h.1
    · exact pureL_all h.2 x e
theorem nodupN_iff : ∀ {ns : List Nat}, nodupN ns = true → ns.Nodup
  | [], _ => List.nodup_nil
  | n :: ns, h => by
    unfold nodupN at h
    simp only [Bool.and_eq_true, Bool.not_eq_true', List.contains_eq_mem, decide_eq_false_iff_not] at h
    exact List.nodup_cons.mpr ⟨h.1, nodupN_iff h.2⟩
theorem getAll_len : ∀ {ns : List Nat} {s os : S}, getAll s ns = some os → os.length = ns.length
  | [], s, os, h => by cases h; rfl
  | n :: ns, s, os, h => by
    unfold getAll at h
    split at h
    · rename_i o os' e1 e2
      split at h
      · cases h
        rw [List.length_cons, List.length_cons, getAll_len e2]
      · cases h
    · cases h
theorem getAll_get : ∀ {ns : List Nat} {s os : S} {j n : Nat}, getAll s ns = some os → ns[j]? = some n → ∃ o, s[n]? = some o ∧ os[j]? = some o ∧ o.pure = true
  | [], s, os, j, n, h, e => by simp at e
  | m :: ns, s, os, j, n, h, e => by
    unfold getAll at h
    split at h
    · rename_i o os' e1 e2
      split at h
      · rename_i hp
        cases h
        cases j with
        | zero =>
          have : m = n := by simpa using e
          subst this
          exact ⟨o, e1, rfl, hp⟩
        | succ j =>
          obtain ⟨o', h1, h2, h3⟩ := getAll_get (j := j) e2 (by simpa using e)
          exact ⟨o', h1, by simpa using h2, h3⟩
      · cases h
    · cases h
theorem putAll_len : ∀ (ns : List Nat) (os s : S), (putAll ns os s).length = s.length
  | [], _, _ => by unfold putAll; rfl
  | n :: ns, [], _ => by unfold putAll; rfl
  | n :: ns, o :: os, s => by
    unfold putAll
    rw [putAll_len ns os, List.length_set]
theorem putAll_out : ∀ (ns : List Nat) (os s : S) (k : Nat), k ∉ ns → (putAll ns os s)[k]? = s[k]?
  | [], _, _, _, _ => by unfold putAll; rfl
  | n :: ns, [], _, _, _ => by unfold putAll; rfl
  | n :: ns, o :: os, s, k, h => by
    unfold putAll
    rw [List.mem_cons, not_or] at h
    rw [putAll_out ns os _ k h.2, List.getElem?_set_ne (Ne.symm h.1)]
theorem putAll_in : ∀ (ns : List Nat) (os s : S) (j n : Nat) (o : O), ns.Nodup → ns[j]? = some n → os[j]? = some o → n < s.length → (putAll ns os s)[n]? = some o
  | [], _, _, _, _, _, _, e, _, _ => by simp at e
  | n :: ns, [], _, _, _, _, _, _, e, _ => by simp at e
  | m :: ns, o' :: os, s, j, n, o, nd, e1, e2, hl => by
    unfold putAll
    have nd' := List.nodup_cons.mp nd
    cases j with
    | zero =>
      have a : m = n := by simpa using e1
      have b : o' = o := by simpa using e2
      subst a b
      rw [putAll_out ns os _ m nd'.1, List.getElem?_set_self hl]
    | succ j => exact putAll_in ns os _ j n o nd'.2 (by simpa using e1) (by simpa using e2) (by rw [List.length_set]; exact hl)
theorem renum_reps {t : Tb} {am am2 : List Addr} {H : Hp} : ∀ (ds : List D) (vs : List V) (k : Nat), Reps t am H ds vs → ds.all argOk = true → (∀ (j n : Nat), (refsOf ds)[j]? = some n → am2[k + j]? = am[n]?) → Reps t am2 H (renum k ds) vs
  | [], _, _, h, _, _ => h
  | d :: ds, vs, k, h, ok, hm => by
    obtain ⟨v, r, rfl, h1, h2⟩ := h
    rw [List.all_cons, Bool.and_eq_true] at ok
    cases d with
    | ref n =>
      refine ⟨v, r, rfl, ?_, renum_reps ds r (k + 1) h2 ok.2 fun j n' e => ?_⟩
      · obtain ⟨a, e, ha⟩ := h1.refE
        refine ⟨a, e, ?_⟩
        have := hm 0 n rfl
        rw [Nat.add_zero] at this
        rw [this]; exact ha
      · have := hm (j + 1) n' (by unfold refsOf; simpa using e)
        rw [← this]; congr 1; omega
    | _ => exact ⟨v, r, rfl, Rep.pure (fun _ _ h _ => h) _ _ ok.1 h1, renum_reps ds r k h2 ok.2 hm⟩
theorem renum_len : ∀ (ds : List D) (k : Nat), (renum k ds).length = ds.length
  | [], _ => rfl
  | d :: ds, k => by cases d <;> (unfold renum; rw [List.length_cons, List.length_cons, renum_len])
theorem refs_in {t : Tb} {am : List Addr} {H : Hp} : ∀ {ds : List D} {vs : List V} {j n : Nat}, Reps t am H ds vs → (refsOf ds)[j]? = some n → n < am.length
  | [], _, _, _, _, e => by simp [refsOf] at e
  | d :: ds, vs, j, n, h, e => by
    obtain ⟨v, r, rfl, h1, h2⟩ := h
    cases d with
    | ref k =>
      cases j with
      | zero =>
        have : k = n := by simpa [refsOf] using e
        subst this
        obtain ⟨a, _, ha⟩ := h1.refE
        exact (List.getElem?_eq_some_iff.mp ha).1
      | succ j => exact refs_in h2 (by simpa [refsOf] using e)
    | _ => exact refs_in h2 (by simpa [refsOf] using e)
/-- the store behind a call: the arguments' objects as the def left them -/
theorem put_ms {t : Tb} {am am2 l : List Addr} {H H' : Hp} {s s' : S} {ns : List Nat} (nd : ns.Nodup) (m : Ms t am s H) (hl : ∀ n ∈ ns, n < am.length) (h2 : am2.length = ns.length) (hm : ∀ (j n : Nat), ns[j]? = some n → am2[j]? = am[n]?)
    (p : Post am2 H (am2 ++ l) H') (m' : Ms t (am2 ++ l) s' H') (hp : (s'.take ns.length).all O.pure = true) : Post am H am H' ∧ Ms t am (putAll ns s' s) H' := by
  have sub : ∀ a, a ∈ am2 → a ∈ am := fun a ha => by
    obtain ⟨j, hj⟩ := List.getElem?_of_mem ha
    have hjl := (List.getElem?_eq_some_iff.mp hj).1
    obtain ⟨n, hn⟩ : ∃ n, ns[j]? = some n := ⟨ns[j]'(by omega), List.getElem?_eq_getElem (by omega)⟩
    exact List.mem_of_getElem? ((hm j n hn).symm.trans hj)
  have P : Post am H am H' := ⟨⟨[], by simp, by simp⟩, p.imm, fun a o h n => p.keep a o h fun z => n (sub a z), p.dom⟩
  refine ⟨P, m.nd, by rw [putAll_len]; exact m.len, fun k o e => ?_⟩
  by_cases hk : k ∈ ns
  · obtain ⟨j, hj⟩ := List.getElem?_of_mem hk
    have hjl := (List.getElem?_eq_some_iff.mp hj).1
    have hks : k < s.length := by rw [← m.len]; exact hl k hk
    have hjs : j < s'.length := by rw [← m'.len, List.length_append]; omega
    have e' := putAll_in ns s' s j k s'[j] nd hj (List.getElem?_eq_getElem hjs) hks
    rw [e] at e'; cases e'
    obtain ⟨a, h3, h4⟩ := m'.ob j s'[j] (List.getElem?_eq_getElem hjs)
    rw [List.getElem?_append_left (by omega)] at h3
    have pu : s'[j].pure = true := List.all_eq_true.mp hp _ (by
      have : (s'.take ns.length)[j]? = some s'[j] := by rw [List.getElem?_take_of_lt hjl]; exact List.getElem?_eq_getElem hjs
      exact List.mem_of_getElem? this)
    exact ⟨a, (hm j k hj).symm.trans h3, h4.pure pu⟩
  · rw [putAll_out ns s' s k hk] at e
    obtain ⟨a, h3, h4⟩ := m.ob k o e
    refine ⟨a, h3, ?_⟩
    have na : a ∉ am2 := fun ha => by
      obtain ⟨j, hj⟩ := List.getElem?_of_mem ha
      have hjl := (List.getElem?_eq_some_iff.mp hj).1
      obtain ⟨n, hn⟩ : ∃ n, ns[j]? = some n := ⟨ns[j]'(by omega), List.getElem?_eq_getElem (by omega)⟩
      have h5 := (hm j n hn).symm.trans hj
      have : k = n := (List.getElem_inj m.nd).mp ((List.getElem?_eq_some_iff.mp h3).2.trans (List.getElem?_eq_some_iff.mp h5).2.symm)
      exact hk (this ▸ List.mem_of_getElem? hn)
    obtain ⟨u, hu, _⟩ := m.mem (List.mem_of_getElem? h3)
    exact h4.mono P ((p.keep a u hu na).trans hu.symm)
theorem callK_sp {t : Tb} {am : List Addr} {H : Hp} {f : Fn} {ds : List D} {vs : List V} {s : S} {E : XK} {Q : VK} {k : Nat} (hl : ds.length = k) (m : Ms t am s H) (r : Reps t am H ds vs) (h : RQ t am H (callK f ds s) (Rep t) E Q) : spF t k f vs H Q E := by
  unfold callK at h
  by_cases hc : nodupN (refsOf ds) = true ∧ ds.all argOk = true
  · rw [if_pos hc] at h
    have nd := nodupN_iff hc.1
    split at h
    · exact h.elim
    · rename_i os eo
      have hin : ∀ n ∈ refsOf ds, n < am.length := fun n hn => by
        obtain ⟨j, hj⟩ := List.getElem?_of_mem hn
        exact refs_in r hj
      have h2 : ((refsOf ds).map fun n => am.getD n 0).length = (refsOf ds).length := List.length_map ..
      have hm : ∀ (j n : Nat), (refsOf ds)[j]? = some n → ((refsOf ds).map fun n => am.getD n 0)[j]? = am[n]? := fun j n e => by
        rw [List.getElem?_map, e, Option.map_some, List.getD_eq_getElem?_getD]
        have hn := hin n (List.mem_of_getElem? e)
        rw [List.getElem?_eq_getElem hn]; rfl
      generalize ((refsOf ds).map fun n => am.getD n 0) = am2 at h2 hm
      have sub : ∀ a, a ∈ am2 → ∃ j n, (refsOf ds)[j]? = some n ∧ am2[j]? = some a ∧ am[n]? = some a := fun a ha => by
        obtain ⟨j, hj⟩ := List.getElem?_of_mem ha
        have hjl := (List.getElem?_eq_some_iff.mp hj).1
        obtain ⟨n, hn⟩ : ∃ n, (refsOf ds)[j]? = some n := ⟨(refsOf ds)[j]'(by omega), List.getElem?_eq_getElem (by omega)⟩
        exact ⟨j, n, hn, hj, (hm j n hn).symm.trans hj⟩
      have ms : Ms t am2 os H := by
        refine ⟨?_, by rw [h2, getAll_len eo], fun j o e => ?_⟩
        · refine List.pairwise_iff_getElem.mpr fun i j hi0 hj hij e0 => ?_
          have e : am2[i]? = am2[j]? := by rw [List.getElem?_eq_getElem hi0, List.getElem?_eq_getElem hj, e0]
          obtain ⟨n1, e1⟩ : ∃ n, (refsOf ds)[i]? = some n := ⟨(refsOf ds)[i]'(by omega), List.getElem?_eq_getElem (by omega)⟩
          obtain ⟨n2, e2⟩ : ∃ n, (refsOf ds)[j]? = some n := ⟨(refsOf ds)[j]'(by omega), List.getElem?_eq_getElem (by omega)⟩
          rw [hm i n1 e1, hm j n2 e2] at e
          have l1 := hin n1 (List.mem_of_getElem? e1)
          have l2 := hin n2 (List.mem_of_getElem? e2)
          rw [List.getElem?_eq_getElem l1, List.getElem?_eq_getElem l2] at e
          have en : n1 = n2 := (List.getElem_inj m.nd).mp (Option.some.inj e)
          subst en
          have := (List.getElem_inj nd).mp ((List.getElem?_eq_some_iff.mp e1).2.trans (List.getElem?_eq_some_iff.mp e2).2.symm)
          omega
        · have hj : j < os.length := (List.getElem?_eq_some_iff.mp e).1
          rw [getAll_len eo] at hj
          obtain ⟨o', h3, h4, h5⟩ := getAll_get (j := j) eo (List.getElem?_eq_getElem hj)
          rw [e] at h4; cases h4
          obtain ⟨a, h6, h7⟩ := m.ob _ _ h3
          exact ⟨a, (hm j _ (List.getElem?_eq_getElem hj)).trans h6, h7.pure h5⟩
      refine ⟨am2, renum 0 ds, os, by rw [renum_len, hl], ms, renum_reps ds vs 0 r hc.2 (fun j n e => by rw [Nat.zero_add]; exact hm j n e), ?_⟩
      cases hx : f (renum 0 ds) os with
      | stk => rw [hx] at h; exact h.elim
      | exc c fs s1 =>
        rw [hx] at h
        simp only at h
        split at h
        · rename_i hp
          intro am' H' cls dd p m' z
          obtain ⟨l, rfl, hfr⟩ := p.pre
          obtain ⟨P, M⟩ := put_ms nd m hin h2 hm p m' (by rw [← getAll_len eo]; exact hp.2)
          refine h am H' cls dd P M ?_
          obtain ⟨C, names, z1, z2, z3⟩ := z
          refine ⟨C, names, z1, z2, ?_⟩
          rcases z3 with z3 | ⟨d, us, z4, z5, z6, z7, z8⟩
          · exact .inl z3
          · exact .inr ⟨d, us, z4, z5, z6, z7, Reps.pure (fun _ _ h _ => h) _ _ hp.1 z8⟩
        · exact h.elim
      | ok d s1 =>
        rw [hx] at h
        simp only at h
        split at h
        · rename_i hp
          rw [getAll_len eo] at hp
          intro am' H' v p m' rv
          obtain ⟨l, rfl, hfr⟩ := p.pre
          obtain ⟨P, M⟩ := put_ms nd m hin h2 hm p m' hp
          split at h
          · rename_i j
            obtain ⟨a, rfl, ha⟩ := rv.refE
            split at h
            · rename_i n en
              have hj := (List.getElem?_eq_some_iff.mp en).1
              rw [List.getElem?_append_left (by omega)] at ha
              exact h am H' _ P M ⟨a, rfl, (hm j n en).symm.trans ha⟩
            · rename_i en
              split at h
              · rename_i o eo2
                split at h
                · rename_i hpu
                  have hj := List.getElem?_eq_none_iff.mp en
                  have hal : a ∈ l := by
                    rw [List.getElem?_append_right (by omega)] at ha
                    exact List.mem_of_getElem? ha
                  have hf := hfr a hal
                  have om := (m'.at eo2 ha).pure (am' := am ++ [a]) hpu
                  have na : a ∉ am := m.out hf
                  have P2 : Post am H (am ++ [a]) H' := ⟨⟨[a], rfl, by intro b hb; rw [List.mem_singleton] at hb; rw [hb]; exact hf⟩, P.imm, P.keep, P.dom⟩
                  refine h (am ++ [a]) H' (.ref a) P2 ⟨?_, ?_, fun n ob e => ?_⟩ ⟨a, rfl, ?_⟩
                  · rw [List.nodup_append]
                    exact ⟨m.nd, by simp, fun b hb c hc => by rw [List.mem_singleton] at hc; rintro rfl; exact na (hc ▸ hb)⟩
                  · rw [List.length_append, List.length_append, M.len]; rfl
                  · by_cases hlt : n < (putAll (refsOf ds) s1 s).length
                    · rw [List.getElem?_append_left hlt] at e
                      obtain ⟨b, h3, h4⟩ := M.ob n ob e
                      have hb : n < am.length := (List.getElem?_eq_some_iff.mp h3).1
                      exact ⟨b, by rw [List.getElem?_append_left hb]; exact h3, h4.lift ⟨fun i c hi => by rw [List.getElem?_append_left (List.getElem?_eq_some_iff.mp hi).1]; exact hi, fun _ _ h _ => h⟩ rfl⟩
                    · rw [List.getElem?_append_right (by omega)] at e
                      have e0 : n - (putAll (refsOf ds) s1 s).length = 0 := by
                        have := (List.getElem?_eq_some_iff.mp e).1
                        rw [List.length_singleton] at this; omega
                      rw [e0] at e
                      have : o = ob := by simpa using e
                      subst this
                      refine ⟨a, ?_, om⟩
                      rw [List.getElem?_append_right (by rw [M.len]; omega), M.len, e0]; rfl
                  · rw [← m.len]; simp
                · exact h.elim
              · exact h.elim
          · split at h
            · rename_i hpu
              exact h am H' v P M (Rep.pure (fun _ _ h _ => h) _ _ hpu rv)
            · exact h.elim
        · exact h.elim
  · rw [if_neg hc] at h; exact h.elim
section
variable {X : Cx} {t : Tb} {W : XW} {k l : Nat} {f : Addr} {fd : FuncData} {ps : List Str} {x : Str} {p pos : Pos} {e : Expr} {es : List Expr} {g : Fn} {ms : A}
/-- a call in the caller's own store -/
def nArgs (k : Nat) (g : Fn) : PN := fun ds s => if ds.length = k then g ds s else .stk
def eCall (k : Nat) (g : Fn) (a : A) : E := eN (nArgs k g) a
def eCallK (k : Nat) (g : Fn) (a : A) : E := eN (nArgs k (callK g)) a
theorem s_call (O : Okc X t W) (F : FnOk X.prog X.w X.K X.mg X.base (L2.CX X.prog X.w) l f fd ps (spF t k g)) (hr : Room l X.A) (hg : Gl X x) (hm : X.mg x = some (.ref f)) (hk : PySem.W.keepIn X.K (.ref f) = true) (hb : Binds X.K fd ps [])
    (ha : SA X t W (e :: es) ms) (hdb : (x == ("__debug__" : Str)) = false := by decide) (he : starEach (e :: es) X.env = (false, eval e X.env) :: starEach es X.env := by rfl) (hpl : (backTo pos (starEach es X.env)).any (·.1) = false := by rfl) :
    SE X t W (.Call (.Name x p) (e :: es) [] pos) (eCall k g ms) :=
  (pe_callS F hr hg hm hk hb O.hx ha hdb he hpl).imp fun σ H Q ⟨am, r, s, en, mm, h⟩ => tyA.of en mm h fun ds s1 am1 H1 vs en1 m1 p1 r1 h1 => by
    unfold nArgs at h1
    split at h1
    · rename_i hl
      exact ⟨am1, ds, s1, hl, m1, r1, h1⟩
    · exact h1.elim
theorem s_callK (O : Okc X t W) (F : FnOk X.prog X.w X.K X.mg X.base (L2.CX X.prog X.w) l f fd ps (spF t k g)) (hr : Room l X.A) (hg : Gl X x) (hm : X.mg x = some (.ref f)) (hk : PySem.W.keepIn X.K (.ref f) = true) (hb : Binds X.K fd ps [])
    (ha : SA X t W (e :: es) ms) (hdb : (x == ("__debug__" : Str)) = false := by decide) (he : starEach (e :: es) X.env = (false, eval e X.env) :: starEach es X.env := by rfl) (hpl : (backTo pos (starEach es X.env)).any (·.1) = false := by rfl) :
    SE X t W (.Call (.Name x p) (e :: es) [] pos) (eCallK k g ms) :=
  (pe_callS F hr hg hm hk hb O.hx ha hdb he hpl).imp fun σ H Q ⟨am, r, s, en, mm, h⟩ => tyA.of en mm h fun ds s1 am1 H1 vs en1 m1 p1 r1 h1 => by
    unfold nArgs at h1
    split at h1
    · rename_i hl
      exact callK_sp hl m1 r1 h1
    · exact h1.elim
end

/-! ### raise -/
section
variable {X : Cx} {t : Tb} {E : XK} {C : Addr} {x m : Str} {c j : Nat} {p p2 pos pos' : Pos} {bmB : List Value} {B newId initId : String}
theorem z_raise (hc : X.calm = true) (tk : Takes X (fun cls d _ H => E cls d H)) (FB : ExcBaseFacts B newId initId bmB) (q : PySem.W.excIn X.K C bmB newId = true) (gC : X.mg x = some (.ref C)) (kC : PySem.W.keepIn X.K (.ref C) = true)
    (r : Raises X (.ref C)) (hg : Gl X x) (hx : t.xc c = some (C, [])) (hdb : (x == ("__debug__" : Str)) = false := by decide) :
    SS X t (fun _ => E) (.Raise (some (.Call (.Name x p) [.Constant (.str m) j p2] [] pos)) none pos') (zRaise c) :=
  (ps_raise hc tk (pmk_own FB q gC kC r hg hdb)).imp fun D σ H ⟨am, r, s, en, mm, h⟩ => h am H σ (.ref C) none .refl mm en ⟨C, [], hx, rfl, .inl ⟨rfl, rfl, rfl⟩⟩
end
end Y

/-! Y7: built-in functions and methods. -/
namespace Y
open PySem L2
section
variable {X : Cx} {t : Tb}
theorem reps1 {am : List Addr} {H : Hp} {d : D} {vs : List V} (h : Reps t am H [d] vs) : ∃ v, vs = [v] ∧ Rep t am H d v := by
  obtain ⟨v, r, rfl, h1, h2⟩ := h
  cases (show r = [] from h2)
  exact ⟨v, rfl, h1⟩
theorem reps2 {am : List Addr} {H : Hp} {d e : D} {vs : List V} (h : Reps t am H [d, e] vs) : ∃ v w, vs = [v, w] ∧ Rep t am H d v ∧ Rep t am H e w := by
  obtain ⟨v, r, rfl, h1, h2⟩ := h
  obtain ⟨w, rfl, h3⟩ := reps1 h2
  exact ⟨v, w, rfl, h1, h3⟩
theorem n_abs : OpN t (fun xs H Q => ∃ i, xs = [.int i] ∧ Q (.int (if i < 0 then -i else i)) H) bAbs := fun am s H ds vs Ex Q m r q => by
  unfold bAbs at q
  split at q
  · obtain ⟨v, rfl, h⟩ := reps1 r
    cases h.intE
    exact ⟨_, rfl, q.ok0 m rfl⟩
  · exact q.elim
theorem n_max2 : OpN t (fun xs H Q => ∃ i j, xs = [.int i, .int j] ∧ Q (.int (if j > i then j else i)) H) bMax2 := fun am s H ds vs Ex Q m r q => by
  unfold bMax2 at q
  split at q
  · obtain ⟨v, w, rfl, h, h'⟩ := reps2 r
    cases h.intE; cases h'.intE
    exact ⟨_, _, rfl, q.ok0 m rfl⟩
  · exact q.elim
theorem n_min2 : OpN t (fun xs H Q => ∃ i j, xs = [.int i, .int j] ∧ Q (.int (if j < i then j else i)) H) bMin2 := fun am s H ds vs Ex Q m r q => by
  unfold bMin2 at q
  split at q
  · obtain ⟨v, w, rfl, h, h'⟩ := reps2 r
    cases h.intE; cases h'.intE
    exact ⟨_, _, rfl, q.ok0 m rfl⟩
  · exact q.elim
theorem n_int : OpN t (fun xs H Q => (∃ i, xs = [.int i] ∧ Q (.int i) H) ∨ ∃ k, xs = [.bl k] ∧ Q (.int (if k then 1 else 0)) H) bInt := fun am s H ds vs Ex Q m r q => by
  unfold bInt at q
  split at q
  · obtain ⟨v, rfl, h⟩ := reps1 r
    cases h.intE
    exact .inl ⟨_, rfl, q.ok0 m rfl⟩
  · obtain ⟨v, rfl, h⟩ := reps1 r
    cases h.blE
    exact .inr ⟨_, rfl, q.ok0 m rfl⟩
  · exact q.elim
theorem call_str_str : CallR X (.type "str") (fun xs H Q => ∃ x, xs = [.str x] ∧ Q (.str x) H) := by
  intro pins s σ H xs us Q I r h
  obtain ⟨x, rfl, q⟩ := h
  obtain ⟨u, rfl, tk, rfl⟩ := vals1 r
  exact PySem.P.str_of_str ⟨.str x, H, I, ⟨tk, rfl⟩, q⟩
def rStr2 : List V → Hp → VK → Prop := fun xs H Q => (∃ i, xs = [.int i] ∧ i.natAbs.log2 < 1920 ∧ Q (.str (toString i)) H) ∨ ∃ x, xs = [.str x] ∧ Q (.str x) H
theorem call_str2 : CallR X (.type "str") rStr2 := call_str_int.or call_str_str
theorem n_str : OpN t rStr2 bStr := fun am s H ds vs Ex Q m r q => by
  unfold bStr at q
  split at q
  · obtain ⟨v, rfl, h⟩ := reps1 r
    cases h.intE
    split at q
    · rename_i hl
      exact .inl ⟨_, rfl, hl, q.ok0 m rfl⟩
    · exact q.elim
  · obtain ⟨v, rfl, h⟩ := reps1 r
    cases h.strE
    exact .inr ⟨_, rfl, q.ok0 m rfl⟩
  · exact q.elim
/-! ### sequences -/
def rList2 (K : PySem.W.Frag) : List V → Hp → VK → Prop := fun xs H Q => ∃ p ys, xs = [.ref p] ∧ (SqL K H p ys ∨ SqT K H p ys) ∧ ∀ l, H l = none → Q (.ref l) (L2.upd H l (.lst ys))
theorem n_list : OpN t (rList2 t.K) bList := fun am s H ds vs Ex Q m r q => by
  unfold bList at q
  split at q
  · obtain ⟨v, rfl, h⟩ := reps1 r
    split at q
    · rename_i xs e
      obtain ⟨a, us, rfl, rv, hs⟩ := seqX_of m h e
      exact ⟨a, us, rfl, hs, new_list m q rv⟩
    · exact q.elim
  · exact q.elim
def rTup2 (K : PySem.W.Frag) : List V → Hp → VK → Prop := fun xs H Q => ∃ p ys, xs = [.ref p] ∧ ((SqL K H p ys ∧ ∀ l, H l = none → Q (.ref l) (L2.upd H l (.tup ys))) ∨ (SqT K H p ys ∧ Q (.ref p) H))
theorem n_tuple : OpN t (rTup2 t.K) bTuple := fun am s H ds vs Ex Q m r q => by
  unfold bTuple at q
  split at q
  · obtain ⟨v, rfl, h⟩ := reps1 r
    split at q
    · rename_i xs e
      obtain ⟨a, us, rfl, rv, hs | hs⟩ := seqX_of m h e
      · exact ⟨a, us, rfl, .inl ⟨hs, new_tup m q rv⟩⟩
      · exact ⟨a, us, rfl, .inr ⟨hs, q.ok0 m ⟨a, us, rfl, hs, rv⟩⟩⟩
    · exact q.elim
  · exact q.elim
/-- len -/
def rLen3 (K : PySem.W.Frag) : List V → Hp → VK → Prop := fun xs H Q => (∃ z, xs = [.str z] ∧ z.length ≤ sizeLine ∧ Q (.int z.length) H) ∨ (∃ p ys, xs = [.ref p] ∧ (SqL K H p ys ∨ SqT K H p ys) ∧ Q (.int ys.length) H)
theorem call_len3 : CallR X (.builtin "len") (rLen3 X.K) := call_len_str.or call_len_seq
theorem n_len : OpN t (rLen3 t.K) bLen := fun am s H ds vs Ex Q m r q => by
  unfold bLen at q
  split at q
  · obtain ⟨v, rfl, h⟩ := reps1 r
    cases h.strE
    split at q
    · rename_i hl
      exact .inl ⟨_, rfl, line_le hl, q.ok0 m rfl⟩
    · exact q.elim
  · obtain ⟨v, rfl, h⟩ := reps1 r
    split at q
    · rename_i xs e
      obtain ⟨a, rfl, ha⟩ := h.refE
      obtain ⟨us, h1, h2⟩ := m.lst e ha
      exact .inr ⟨a, us, rfl, .inl (.of h1), by rw [← h2.length]; exact q.ok0 m rfl⟩
    · exact q.elim
  · obtain ⟨v, rfl, h⟩ := reps1 r
    split at q
    · rename_i xs e
      obtain ⟨a, us, rfl, rv, hs⟩ := seqX_of m h e
      exact .inr ⟨a, us, rfl, hs, by rw [← rv.length]; exact q.ok0 m rfl⟩
    · exact q.elim
  · exact q.elim
theorem ints_map : ∀ {xs : List D} {is : List Int}, intsOf xs = some is → xs = is.map D.int
  | [], is, h => by cases h; rfl
  | x :: xs, is, h => by
    unfold intsOf at h
    cases x with
    | int i =>
      simp only at h
      split at h
      · rename_i js e2
        cases h
        rw [List.map_cons, ints_map e2]
      · cases h
    | _ => cases h
theorem bools_map : ∀ {xs : List D} {is : List Bool}, boolsOf xs = some is → xs = is.map D.bl
  | [], is, h => by cases h; rfl
  | x :: xs, is, h => by
    unfold boolsOf at h
    cases x with
    | bl i =>
      simp only at h
      split at h
      · rename_i js e2
        cases h
        rw [List.map_cons, bools_map e2]
      · cases h
    | _ => cases h
theorem reps_ints {am : List Addr} {H : Hp} : ∀ {is : List Int} {vs : List V}, Reps t am H (is.map D.int) vs → vs = is.map V.int
  | [], _, h => h
  | i :: is, vs, h => by
    obtain ⟨v, r, rfl, h1, h2⟩ := h
    rw [h1.intE, reps_ints h2]; rfl
theorem reps_bools {am : List Addr} {H : Hp} : ∀ {is : List Bool} {vs : List V}, Reps t am H (is.map D.bl) vs → vs = is.map V.bl
  | [], _, h => h
  | i :: is, vs, h => by
    obtain ⟨v, r, rfl, h1, h2⟩ := h
    rw [h1.blE, reps_bools h2]; rfl
theorem n_sum : OpN t (rSum t.K) bSum := fun am s H ds vs Ex Q m r q => by
  unfold bSum at q
  split at q
  · obtain ⟨v, rfl, h⟩ := reps1 r
    split at q
    · rename_i xs e
      split at q
      · rename_i is ei
        obtain ⟨a, us, rfl, rv, hs⟩ := seqL_of m h e
        rw [ints_map ei] at rv
        exact ⟨a, is, rfl, by rw [← reps_ints rv]; exact hs, q.ok0 m rfl⟩
      · exact q.elim
    · exact q.elim
  · exact q.elim
theorem n_all : OpN t (rAll t.K) bAll := fun am s H ds vs Ex Q m r q => by
  unfold bAll at q
  split at q
  · obtain ⟨v, rfl, h⟩ := reps1 r
    split at q
    · rename_i xs e
      split at q
      · rename_i is ei
        obtain ⟨a, us, rfl, rv, hs⟩ := seqL_of m h e
        rw [bools_map ei] at rv
        exact ⟨a, is, rfl, by rw [← reps_bools rv]; exact hs, q.ok0 m rfl⟩
      · exact q.elim
    · exact q.elim
  · exact q.elim
theorem n_any : OpN t (rAny t.K) bAny := fun am s H ds vs Ex Q m r q => by
  unfold bAny at q
  split at q
  · obtain ⟨v, rfl, h⟩ := reps1 r
    split at q
    · rename_i xs e
      split at q
      · rename_i is ei
        obtain ⟨a, us, rfl, rv, hs⟩ := seqL_of m h e
        rw [bools_map ei] at rv
        exact ⟨a, is, rfl, by rw [← reps_bools rv]; exact hs, q.ok0 m rfl⟩
      · exact q.elim
    · exact q.elim
  · exact q.elim

/-! ### isinstance -/
def Ty.nm : Ty → String
  | .int => "int"
  | .bool => "bool"
  | .str => "str"
  | .tuple => "tuple"
  | .list => "list"
  | .dict => "dict"
theorem ty_kit (ty : Ty) {am : List Addr} {s : S} {H : Hp} {d : D} {v : V} {b : Bool} (m : Ms t am s H) (r : Rep t am H d v) (h : isTy ty d s = some b) : ∃ tn : String, TyX t.K H v (.type tn) ∧ kitB tn ty.nm = some b := by
  cases d with
  | undef => cases h
  | fn i => cases h
  | non =>
    cases (show v = V.non from r); cases h
    exact ⟨"NoneType", .base .non, by cases ty <;> decide +kernel⟩
  | bl i =>
    cases r.blE; cases h
    exact ⟨"bool", .base (.bl _), by cases ty <;> decide +kernel⟩
  | int i =>
    cases r.intE; cases h
    exact ⟨"int", .base (.int _), by cases ty <;> decide +kernel⟩
  | str i =>
    cases r.strE; cases h
    exact ⟨"str", .base (.str _), by cases ty <;> decide +kernel⟩
  | tup xs =>
    obtain ⟨a, vs, rfl, h1, _⟩ := r.tupE
    cases h
    refine ⟨"tuple", ?_, by cases ty <;> decide +kernel⟩
    rcases h1 with (h1 | ⟨o, h1⟩) | ⟨o, its, n, h1, h2, _⟩
    · exact .base (.tup h1)
    · exact .fTuple h1
    · exact .kTuple h1 h2
  | frl xs =>
    obtain ⟨a, vs, rfl, h1, _⟩ := r.frlE
    cases h
    refine ⟨"list", ?_, by cases ty <;> decide +kernel⟩
    rcases h1 with ⟨o, h1⟩ | ⟨o, its, n, h1, h2, _⟩
    · exact .base (.frz h1)
    · exact .kList h1 h2
  | ref n =>
    obtain ⟨a, rfl, ha⟩ := r.refE
    unfold isTy at h
    simp only at h
    split at h
    · rename_i xs e
      cases h
      obtain ⟨vs, h1, _⟩ := m.lst e ha
      exact ⟨"list", .base (.lst h1), by cases ty <;> decide +kernel⟩
    · rename_i tk kvs e
      cases h
      refine ⟨"dict", ?_, by cases ty <;> decide +kernel⟩
      have om := m.at e ha
      cases tk with
      | false =>
        obtain ⟨ks, h1, _⟩ := om
        exact .base (.dK h1)
      | true =>
        obtain ⟨ks, h1, _⟩ := om
        exact .base (.dT h1)
    · cases h
end
section
variable {X : Cx} {t : Tb} {W : XW} {a : Expr} {ma : E} {p p2 pos : Pos} {tn : Str}
theorem s_isI (ty : Ty) (hK : X.K = t.K) (hg : Gl X "isinstance") (hm : X.mg "isinstance" = none) (hv : bootBuiltins "isinstance" = some (.builtin "isinstance")) (hg2 : Gl X tn) (hm2 : X.mg tn = none) (hv2 : bootBuiltins tn = some (.type ty.nm)) (ha : SE X t W a ma)
    (hn2 : tn ≠ "__name__" := by decide) (hd2 : (tn == ("__debug__" : Str)) = false := by decide)
    (h1 : starEach [a, .Name tn p2] X.env = (false, eval a X.env) :: starEach [.Name tn p2] X.env := by rfl) (h2 : starEach [.Name tn p2] X.env = (false, eval (.Name tn p2) X.env) :: starEach [] X.env := by rfl) (hpl : (backTo pos (starEach [.Name tn p2] X.env)).any (·.1) = false := by rfl) :
    SE X t W (.Call (.Name "isinstance" p) [a, .Name tn p2] [] pos) (e1 (oIsI ty) ma) :=
  (pe_callB call_isi hg hm hv (pa_cons ha (pa_cons (pe_bltn (v := .ty ty.nm) hg2 hm2 hv2 rfl hn2 hd2) pa_nil h2) h1) (by decide) (by decide) h1 hpl).imp fun σ H Q ⟨am, r, s, en, mm, h⟩ => tyE.of en mm h fun d1 s1 am1 H1 v1 en1 m1 p1 r1 h1 => by
    unfold oIsI at h1
    split at h1
    · rename_i b e
      obtain ⟨tn', k1, k2⟩ := ty_kit ty m1 r1 e
      exact ⟨v1, .ty ty.nm, _, _, b, rfl, .ty _, by rw [hK]; exact k1, kit_ty k2, h1.ok0 m1 rfl⟩
    · exact h1.elim
end

/-! ### methods -/
abbrev PM := D → List D → S → Rs D
def eMe (ck : D → S → Bool) (p : PM) (a : E) (as : A) : E := fun r s => (a r s).bind fun x s1 => if ck x s1 = true then (as r s1).bind fun xs s2 => p x xs s2 else .stk
def eMe0 (ck : D → S → Bool) (p : PM) (a : E) : E := fun r s => (a r s).bind fun x s1 => if ck x s1 = true then p x [] s1 else .stk
def isL (d : D) (s : S) : Bool := (seqL d s).isSome
def isDc (d : D) (s : S) : Bool := match d with
  | .ref n => match s[n]? with
    | some (.dct _ _) => true
    | _ => false
  | _ => false
def isS (d : D) (_ : S) : Bool := match d with
  | .str _ => true
  | _ => false
def CkT (t : Tb) (T : String) (ck : D → S → Bool) : Prop := ∀ (am : List Addr) (s : S) (H : Hp) (d : D) (v : V), Ms t am s H → Rep t am H d v → ck d s = true → tyV t.K T v H
def OpM (t : Tb) (r : V → List V → Hp → VK → Prop) (p : PM) : Prop := ∀ (am : List Addr) (s : S) (H : Hp) (d : D) (v : V) (ds : List D) (vs : List V) (Ex : XK) (Q : VK), Ms t am s H → Rep t am H d v → Reps t am H ds vs → RQ t am H (p d ds s) (Rep t) Ex Q → r v vs H Q
section
variable {X : Cx} {t : Tb} {W : XW} {o e : Expr} {es : List Expr} {name : Str} {apos cpos : Pos} {Tn id : String} {r : V → List V → Hp → VK → Prop} {ck : D → S → Bool} {p : PM} {mo : E} {ms : A}
theorem ck_L : CkT t "list" isL := fun am s H d v m r h => by
  unfold isL at h
  obtain ⟨xs, e⟩ := Option.isSome_iff_exists.mp h
  obtain ⟨a, vs, rfl, _, h2⟩ := seqL_of m r e
  exact .inl ⟨rfl, vs, h2⟩
theorem ck_D : CkT t "dict" isDc := fun am s H d v m r h => by
  unfold isDc at h
  split at h
  · obtain ⟨a, rfl, ha⟩ := r.refE
    split at h
    · rename_i tk kvs e
      have om := m.at e ha
      refine .inr (.inr (.inl ⟨rfl, ?_⟩))
      cases tk with
      | false => obtain ⟨ks, h1, _⟩ := om; exact .inl ⟨ks, h1⟩
      | true => obtain ⟨ks, h1, _⟩ := om; exact .inr ⟨ks, h1⟩
    · cases h
  · cases h
theorem ck_S : CkT t "str" isS := fun am s H d v m r h => by
  unfold isS at h
  split at h
  · cases r.strE; rfl
  · cases h
theorem s_me (hK : X.K = t.K) (pa : PlainAttrs Tn) (slot : Slot Tn name id) (hty : typeOf (.builtin id) = pure (.type "method_descriptor")) (hm : MtR X id r) (hc : CkT t Tn ck) (h2 : OpM t r p) (ho : SE X t W o mo) (ha : SA X t W (e :: es) ms)
    (hbase : attributeBase o name X.env (eval o X.env) = eval o X.env := by rfl)
    (hfew : ((backTo cpos (starEach (e :: es) X.env)).all (fun x => !x.1) && (backToKw cpos (keywordEach [] X.env)).all (fun x => x.1.isSome)
      && decide ((e :: es).length + ([] : List Keyword).length + (if ([] : List Keyword).isEmpty then 0 else 1) < 30)) = true := by rfl)
    (hline : (apos.endLine == cpos.line) = true := by rfl) (hs : starEach (e :: es) X.env = (false, eval e X.env) :: starEach es X.env := by rfl) (hplain : (backTo cpos (starEach es X.env)).any (·.1) = false := by rfl) :
    SE X t W (.Call (.Attribute o name apos) (e :: es) [] cpos) (eMe ck p mo ms) :=
  (pe_bm pa slot hty hm ho ha hbase hfew hline hs hplain).imp fun σ H Q ⟨am, r, s, en, mm, h⟩ => tyE.of en mm h fun d s1 am1 H1 v en1 m1 p1 r1 h1 => by
    split at h1
    · rename_i hck
      refine ⟨by rw [hK]; exact hc am1 s1 H1 d v m1 r1 hck, tyA.of en1 m1 h1 fun ds s2 am2 H2 vs en2 m2 p2 r2 h3 => h2 am2 s2 H2 d v ds vs _ Q m2 (r1.mono p2) r2 h3⟩
    · exact h1.elim
theorem s_me0 (hK : X.K = t.K) (pa : PlainAttrs Tn) (slot : Slot Tn name id) (hty : typeOf (.builtin id) = pure (.type "method_descriptor")) (hm : MtR X id r) (hc : CkT t Tn ck) (h2 : OpM t r p) (ho : SE X t W o mo)
    (hbase : attributeBase o name X.env (eval o X.env) = eval o X.env := by rfl) (hline : (apos.endLine == cpos.line) = true := by rfl) :
    SE X t W (.Call (.Attribute o name apos) [] [] cpos) (eMe0 ck p mo) :=
  (pe_bm0 pa slot hty hm ho hbase hline).imp fun σ H Q ⟨am, r, s, en, mm, h⟩ => tyE.of en mm h fun d s1 am1 H1 v en1 m1 p1 r1 h1 => by
    split at h1
    · rename_i hck
      exact ⟨by rw [hK]; exact hc am1 s1 H1 d v m1 r1 hck, h2 am1 s1 H1 d v [] [] _ Q m1 r1 rfl h1⟩
    · exact h1.elim
end
/-- xs.append(d) -/
def mApp : PM := fun x ds s => match x, ds with
  | .ref n, [d] => match appendAt n d s with
    | some s1 => .ok .non s1
    | none => .stk
  | _, _ => .stk
/-- xs.pop(i), xs.pop() -/
def mPop : PM := fun x ds s => match x, ds with
  | .ref n, [.int i] => match s[n]? with
    | some (.lst xs) => if i.natAbs < 4611686018427387904 then match ixN xs.length i with
      | some k => match xs[k]? with
        | some y => .ok y (s.set n (.lst (xs.eraseIdx k)))
        | none => .stk
      | none => .stk else .stk
    | _ => .stk
  | .ref n, [] => match s[n]? with
    | some (.lst xs) => match xs[xs.length - 1]? with
      | some y => .ok y (s.set n (.lst xs.dropLast))
      | none => .stk
    | _ => .stk
  | _, _ => .stk
section
variable {X : Cx} {t : Tb}
theorem put_list {am : List Addr} {s : S} {H : Hp} {n : Nat} {a : Addr} {xs ys : List D} {vs ws : List V} {d : D} {v : V} {Ex : XK} {Q : VK} (m : Ms t am s H) (ha : am[n]? = some a) (hv : H a = some (.lst vs)) (rw' : Reps t am H ys ws) (rd : Rep t am H d v)
    (q : RQ t am H (.ok d (s.set n (.lst ys))) (Rep t) Ex Q) : Q v (L2.upd H a (.lst ws)) := by
  have P : Post am H am (L2.upd H a (.lst ws)) := .put (List.mem_of_getElem? ha) hv (fun z => z)
  obtain ⟨_, m4⟩ := m.put (u := .lst ws) (o := .lst ys) ha ⟨_, upd_same, rw'.mono P⟩
  exact q.ok P m4 (rd.mono P)
theorem m_app : OpM t rAppend mApp := fun am s H d v ds vs Ex Q m r1 r2 q => by
  unfold mApp at q
  split at q
  · rename_i n d
    obtain ⟨a, rfl, ha⟩ := r1.refE
    obtain ⟨w, rfl, h⟩ := reps1 r2
    split at q
    · rename_i s1 e1
      unfold appendAt at e1
      split at e1
      · rename_i xs ex
        split at e1
        · rename_i hl
          cases e1
          obtain ⟨us, h1, h2⟩ := m.lst ex ha
          exact ⟨a, us, w, rfl, rfl, h1, by rw [← h2.length]; exact Nat.lt_of_lt_of_le hl (by decide), put_list (xs := xs) (d := .non) (v := .non) m ha h1 (h2.append (.one h)) (show V.non = V.non from rfl) q⟩
        · cases e1
      · cases e1
    · exact q.elim
  · exact q.elim
theorem Reps.erase {am : List Addr} {H : Hp} : ∀ {ds : List D} {vs : List V} (n : Nat), Reps t am H ds vs → Reps t am H (ds.eraseIdx n) (vs.eraseIdx n)
  | [], vs, n, h => by
    have e : vs = [] := h
    subst e
    simp [Reps]
  | d :: ds, vs, 0, h => by
    obtain ⟨v, r, rfl, h1, h2⟩ := h
    exact h2
  | d :: ds, vs, n + 1, h => by
    obtain ⟨v, r, rfl, h1, h2⟩ := h
    exact ⟨v, r.eraseIdx n, rfl, h1, Reps.erase n h2⟩
theorem Reps.dropLast {am : List Addr} {H : Hp} {ds : List D} {vs : List V} (h : Reps t am H ds vs) : Reps t am H ds.dropLast vs.dropLast := by
  rw [List.dropLast_eq_take, List.dropLast_eq_take, h.length]
  exact h.take _
def rPop2 : V → List V → Hp → VK → Prop := fun x vs H Q => rPop x vs H Q ∨ rPopAt x vs H Q
theorem mt_pop2 : MtR X "list.pop" rPop2 := MtR.or (show MtR X "list.pop" rPop from mt_pop) mt_popAt
theorem m_pop : OpM t rPop2 mPop := fun am s H d v ds vs Ex Q m r1 r2 q => by
  unfold mPop at q
  split at q
  · rename_i n i
    obtain ⟨a, rfl, ha⟩ := r1.refE
    obtain ⟨w, rfl, h⟩ := reps1 r2
    cases h.intE
    split at q
    · rename_i xs ex
      obtain ⟨us, h1, h2⟩ := m.lst ex ha
      split at q
      · rename_i hi
        split at q
        · rename_i k ek
          split at q
          · rename_i y ey
            obtain ⟨w, ew, rw'⟩ := h2.get ey
            have ek : L2.ixN us.length i = some k := by rw [← h2.length]; exact ek
            exact .inr ⟨a, us, i, k, w, rfl, rfl, h1, by omega, by omega, (ixN_seq ek).1, ew, put_list (xs := xs) m ha h1 (h2.erase k) rw' q⟩
          · exact q.elim
        · exact q.elim
      · exact q.elim
    · exact q.elim
  · rename_i n
    obtain ⟨a, rfl, ha⟩ := r1.refE
    cases (show vs = [] from r2)
    split at q
    · rename_i xs ex
      obtain ⟨us, h1, h2⟩ := m.lst ex ha
      split at q
      · rename_i y ey
        obtain ⟨w, ew, rw'⟩ := h2.get ey
        exact .inl ⟨a, us, w, rfl, rfl, h1, by rw [← h2.length]; exact ew, put_list (xs := xs) m ha h1 h2.dropLast rw' q⟩
      · exact q.elim
    · exact q.elim
  · exact q.elim
end
end Y

/-! Y8: further statements and small rules. -/
namespace Y
open PySem L2
def zStk : Sm := fun _ _ => .stk
def zPar3 (i j l : Nat) (a b c : E) : Sm := fun r s => (a r s).then r fun x s1 => (b r s1).then r fun y s2 => (c r s2).then r fun z s3 => if i < r.length ∧ j < r.length ∧ l < r.length then .nx (((r.set i x).set j y).set l z) s3 else .stk
def oNotB : P2 := fun x y s => match x, y with
  | .bl a, .bl b => .ok (.bl (!decide (a = b))) s
  | _, _ => .stk
section
variable {X : Cx} {t : Tb} {W : XW} {st : Stmt} {a e : Expr} {ma m : E} {pos : Pos}
theorem z_stk : SS X t W st zStk := ps_never.imp fun D σ H ⟨am, r, s, en, mm, h⟩ => h
theorem fn_stk {P : Program} {w : World} {K : PySem.W.Frag} {mg : Str → Option Value} {base : Heap} {CX : CXT} {k n : Nat} {f : Addr} {fd : FuncData} {ps : List Str} : FnOk P w K mg base CX k f fd ps (spF t n (fun _ _ => .stk)) :=
  ⟨fun vs H Q E ⟨_, _, _, _, _, _, h⟩ => h.elim, fun A outer s H args us vs Q E _ _ _ _ ⟨_, _, _, _, _, _, h⟩ => h.elim⟩
theorem s_tisN {j pos'} (ha : SE X t W a ma) : ST X t W (.Compare a [.Is] [.Constant .none j pos'] pos) (tst (e1 oIsN ma)) :=
  (pt_cmpR op_isN ha pe_non (nomark _)).imp fun σ H Q ⟨am, r, s, en, mm, h⟩ => by
    have h : RQ t am H ((ma r s).bind fun x s1 => (oIsN x s1).bind fun z s3 => match z with
      | .bl b => .ok b s3
      | _ => .stk) repB (W σ) Q := by
      have e : tst (e1 oIsN ma) r s = ((ma r s).bind fun x s1 => (oIsN x s1).bind fun z s3 => match z with
        | .bl b => .ok b s3
        | _ => .stk) := by
        unfold tst e1
        cases ma r s <;> rfl
      rw [← e]; exact h
    refine tyE.of en mm h fun d1 s1 am1 H1 v1 en1 m1 p1 r1 h1 => ⟨rfl, _, rfl, ?_⟩
    rw [rep_non r1]
    cases d1 <;> first | exact h1.elim | exact h1.ok0 m1 rfl
theorem s_tnotN {j pos'} (ha : SE X t W a ma) : ST X t W (.Compare a [.IsNot] [.Constant .none j pos'] pos) (tst (e1 oNotN ma)) :=
  (pt_cmpR op_notN ha pe_non (nomark _)).imp fun σ H Q ⟨am, r, s, en, mm, h⟩ => by
    have h : RQ t am H ((ma r s).bind fun x s1 => (oNotN x s1).bind fun z s3 => match z with
      | .bl b => .ok b s3
      | _ => .stk) repB (W σ) Q := by
      have e : tst (e1 oNotN ma) r s = ((ma r s).bind fun x s1 => (oNotN x s1).bind fun z s3 => match z with
        | .bl b => .ok b s3
        | _ => .stk) := by
        unfold tst e1
        cases ma r s <;> rfl
      rw [← e]; exact h
    refine tyE.of en mm h fun d1 s1 am1 H1 v1 en1 m1 p1 r1 h1 => ⟨rfl, _, rfl, ?_⟩
    rw [rep_non r1]
    cases d1 <;> first | exact h1.elim | exact h1.ok0 m1 rfl
theorem o_notB : Op2 t rNotB oNotB := fun am s H d1 d2 v1 v2 Ex Q m r1 r2 q => by
  unfold oNotB at q
  split at q
  · cases r1.blE; cases r2.blE
    exact ⟨_, _, rfl, rfl, q.ok0 m rfl⟩
  · exact q.elim
theorem z_par3 {i j l : Nat} {x y z : Str} {a b c : Expr} {ma mb mc : E} {px py pz pt : Pos} {kt k2 pt2} (hc : X.calm = true) (hN : X.N.Nodup) (hi : X.N[i]? = some x) (hj : X.N[j]? = some y) (hl : X.N[l]? = some z) (hij : i ≠ j) (hil : i ≠ l) (hjl : j ≠ l)
    (hx : X.env.scope.names.lookup x = some .local) (hy : X.env.scope.names.lookup y = some .local) (hz : X.env.scope.names.lookup z = some .local) (ha : SE X t W a ma) (hb : SE X t W b mb) (hd : SE X t W c mc)
    (hw : swappedStores [.Tuple [.Name x px, .Name y py, .Name z pz] kt pt] (.Tuple [a, b, c] k2 pt2) X.env = pure (some [x, y, z]))
    (h1 : starEach [a, b, c] X.env = (false, eval a X.env) :: starEach [b, c] X.env := by rfl) (h2 : starEach [b, c] X.env = (false, eval b X.env) :: starEach [c] X.env := by rfl) (h3 : starEach [c] X.env = (false, eval c X.env) :: starEach [] X.env := by rfl)
    (hs : swapsWithSole [.Tuple [.Name x px, .Name y py, .Name z pz] kt pt] (.Tuple [a, b, c] k2 pt2) pos.line X.env = pure false := by rfl) :
    SS X t W (.Assign [.Tuple [.Name x px, .Name y py, .Name z pz] kt pt] (.Tuple [a, b, c] k2 pt2) pos) (zPar3 i j l ma mb mc) :=
  (ps_par3 hc hN hi hj hl hij hil hjl hx hy hz (pa_cons ha (pa_cons hb (pa_cons hd pa_nil h3) h2) h1) hw hs).imp fun D σ H ⟨am, r, s, en, mm, h⟩ => by
    refine ⟨am, r, s, en, mm, FQ.seq en h fun d1 s1 am1 H1 v1 p1 en1 m1 r1 h1 => ?_⟩
    refine ⟨am1, r, s1, en1, m1, FQ.seq en1 h1 fun d2 s2 am2 H2 v2 p2 en2 m2 r2 h2 => ?_⟩
    refine ⟨am2, r, s2, en2, m2, FQ.seq en2 h2 fun d3 s3 am3 H3 v3 p3 en3 m3 r3 h3 => ?_⟩
    refine ⟨v1, v2, v3, rfl, ?_⟩
    split at h3
    · exact h3.nx0 m3 (((en3.set i ((r1.mono p2).mono p3)).set j (r2.mono p3)).set l r3)
    · exact h3.elim
end
end Y

/-! Y9: the end of a law's row. -/
namespace Y
open PySem L2
theorem loose_int {lv : List (Str × PySem.W.WData)} {mg : Str → Option Value} {h : Heap} (x : PySem.W.LooseAre lv mg h) {n : Str} {i : Int} (hm : (n, PySem.W.WData.int i) ∈ lv) : ∃ k, mg n = some (.int i k) := by
  obtain ⟨v, e, r⟩ := x.val _ hm
  cases r
  exact ⟨_, e⟩
theorem frl_of {K : PySem.W.Frag} {H : Hp} {a : Addr} {vs : List V} (hO : Only H) (h : SqL K H a vs) : FrL K H a vs := by
  rcases h with (h | ⟨o, h⟩) | h
  · rcases hO a with z | ⟨o, xs, z⟩ <;> rw [h] at z <;> cases z
  · exact .inl ⟨o, h⟩
  · exact .inr h
theorem reps_of_ints {t : Tb} {am : List Addr} {H : Hp} : ∀ ns : List Int, Reps t am H (ns.map D.int) (ns.map V.int)
  | [] => rfl
  | n :: ns => ⟨.int n, ns.map V.int, rfl, rfl, reps_of_ints ns⟩
theorem law_sp {t : Tb} {f : Fn} {H : Hp} {a : Addr} {ns : List Int} (hO : Only H) (hS : SqL t.K H a (ns.map V.int)) (hf : ∃ s', f [.frl (ns.map D.int)] [] = .ok (.bl true) s') : spF t 1 f [.ref a] H (fun v _ => v = .bl true) fun _ _ _ => False := by
  obtain ⟨s', e⟩ := hf
  refine ⟨[], [.frl (ns.map D.int)], [], rfl, ⟨List.nodup_nil, rfl, fun n o h => by simp at h⟩, ⟨.ref a, [], rfl, ⟨a, ns.map V.int, rfl, frl_of hO hS, reps_of_ints ns⟩, rfl⟩, ?_⟩
  rw [e]
  intro am' H' v p m r
  exact r
theorem walk_y {l : PySem.W.OpenLaw} {n k : Nat} {q : Program} {loose : List Str} {lv : List (Str × PySem.W.WData)} {YP : World → Heap → Prop} {d : DefRec} {K : Params → PySem.W.Frag} {x : Str} {f : Fn}
    (hn : l.most = some n) (hn2 : n ≤ sizeLine) (hdf : d.params.defaults = []) (hr : Room k callerA)
    (hY : ∀ (w : World) (h : Heap), YP w h → (K w.params).In h)
    (F : ∀ (w : World) (mg : Str → Option Value) (fa : Addr) (h : Heap), (K w.params).In h → h.Ns mainGlobals mg → PySem.W.LooseAre lv mg h → mg d.name = some (.ref fa) →
      ∃ fd : FuncData, (∀ (s : Shared) (u : Value), BindsTo s fd ⟨[u], []⟩ [(x, u)]) ∧
        ∃ t : Tb, t.K = K w.params ∧ ∀ base : Heap, (K w.params).In base → base.Ns mainGlobals mg → FnOk l.prog w (K w.params) mg base (L2.CX l.prog w) k fa fd [x] (spF t 1 f))
    (hf : ∀ ns : List Int, ns.length ≤ n → ∃ s', f [.frl (ns.map D.int)] [] = .ok (.bl true) s') :
    PySem.W.WalkO q loose (PySem.W.XL q lv) YP l.row.toRowW d [] (fun f vs => PySem.call f vs) := by
  refine Att.attach_call hn hdf fun w s₀ s₁ mg mb fa o pm cd doc a vs ns G Y ho hd hcd hmg hobj hints hlen hg => ?_
  have KX := hY w _ Y
  obtain ⟨fd, hb, t, ht, hF⟩ := F w mg fa _ KX G.T.g G.X.2 hmg
  refine law_call KX G.T.g G.T.b G.T.builtins G.T.nolimit hg hobj hints (Nat.le_trans hlen hn2) hr hF hb (fun H hO hS => law_sp hO (by rw [ht]; exact hS) (hf ns hlen)) fun H e s' h => ?_
  obtain ⟨_, _, _, _, _, _, _, _, _, _, _, _, z⟩ := h
  exact z
theorem mkF {K : PySem.W.Frag} {h : Heap} {mg : Str → Option Value} {x : Str} {st : Stmt} {ps : List Str} {f : Addr} {oc : Value} {od an : Option Addr} {osl : Array (Option Value)} {kV doc pm cdv ct : Value} (KX : K.In h) (G : h.Ns mainGlobals mg)
    (a : PySem.W.nsIn K mainGlobals x = some (some (.ref f)))
    (l : K.lookup f = some ⟨oc, od, .func (PySem.W.fnOf x x (defArgs st) (defBody st) (defScope st) .none kV doc pm an cdv ct), osl⟩) (c : PySem.W.codeIn K cdv x = true) (k : PySem.W.keepIn K (.ref f) = true)
    (hb : ∀ (kV doc pm : Value) (an : Option Addr) (cdv ct : Value) (us : List Value), us.length = ps.length → bindArgs (PySem.W.fnOf x x (defArgs st) (defBody st) (defScope st) .none kV doc pm an cdv ct) ⟨us, []⟩ = pure (ps.zip us)) :
    ∃ f fd, Fun K x x st f fd ∧ mg x = some (.ref f) ∧ Binds K fd ps [] ∧ ∀ (s : Shared) (us : List Value), us.length = ps.length → BindsTo s fd ⟨us, []⟩ (ps.zip us) :=
  ⟨f, _, fun_mk l c k, PySem.W.mg_of KX G a, .all (hb kV doc pm an cdv ct), fun s us hl => .of_eq (hb kV doc pm an cdv ct us hl)⟩
theorem mkC {K : PySem.W.Frag} {h : Heap} {mg : Str → Option Value} {x : Str} {i : Int} {k : Tok} (KX : K.In h) (G : h.Ns mainGlobals mg) (a : PySem.W.nsIn K mainGlobals x = some (some (.int i k))) : ∃ k, mg x = some (.int i k) := ⟨k, PySem.W.mg_of KX G a⟩
/-- an error class of the text, without own __init__ -/
structure XTxt (K : PySem.W.Frag) (mg : Str → Option Value) (xc : Nat → Option (Addr × List Str)) (x : Str) (c : Nat) where
  C : Addr
  ex : PySem.W.excIn K C [.type "ValueError", .type "Exception", .type "BaseException", .type "object"] "ValueError.__new__" = true
  g : mg x = some (.ref C)
  kp : PySem.W.keepIn K (.ref C) = true
  sub : PySem.W.subIn K (.ref C) (.type "BaseException") = some true
  ty : PySem.W.typeIn K (.ref C) = some (.type "type")
  xc : xc c = some (C, [])
theorem XTxt.r {X : Cx} {K : PySem.W.Frag} {mg : Str → Option Value} {xc : Nat → Option (Addr × List Str)} {x : Str} {c : Nat} (T : XTxt K mg xc x c) (hK : X.K = K) : Raises X (.ref T.C) := by
  subst hK
  exact raises_own T.sub T.ty
theorem mkX {K : PySem.W.Frag} {h : Heap} {mg : Str → Option Value} {x : Str} {C : Addr} (KX : K.In h) (G : h.Ns mainGlobals mg) (a : PySem.W.nsIn K mainGlobals x = some (some (.ref C)))
    (ex : PySem.W.excIn K C [.type "ValueError", .type "Exception", .type "BaseException", .type "object"] "ValueError.__new__" = true) (kp : PySem.W.keepIn K (.ref C) = true) (sub : PySem.W.subIn K (.ref C) (.type "BaseException") = some true) (ty : PySem.W.typeIn K (.ref C) = some (.type "type")) :
    ∃ C, PySem.W.excIn K C [.type "ValueError", .type "Exception", .type "BaseException", .type "object"] "ValueError.__new__" = true ∧ mg x = some (.ref C) ∧ PySem.W.keepIn K (.ref C) = true ∧ PySem.W.subIn K (.ref C) (.type "BaseException") = some true ∧ PySem.W.typeIn K (.ref C) = some (.type "type") :=
  ⟨C, ex, PySem.W.mg_of KX G a, kp, sub, ty⟩
end Y

/-! Y10: xs[::-1], of lists and of tuples. -/
namespace Y
open PySem PySem.Spec PyProof.Rows HT
section
variable {prog : Program} {w : World} {A : Around} {E : Value → Shared → Prop} {s : Shared}
theorem applied_rev {sl : Addr} {vl vu vs : Value} {n : Nat} {Q : Int × Int × Nat → Shared → Prop} (hs : s.heap.IsSliceOf sl vl vu vs) (pl : IsPart vl none) (pu : IsPart vu none) (ps : IsPart vs (some (-1)))
    (h : Q ((n : Int) - 1, -1, n) s) : wpAny (model prog w) A (Builtin.Slice.sliceApplied (.ref sl) (pure (n : Int))) Q E s := by
  obtain ⟨os, hos, hcs, hds⟩ := id hs
  unfold Builtin.Slice.sliceApplied Builtin.Slice.sliceFields
  refine wpAny_bind (wpAny_bind (wpAny_field hos hds (x := vl) rfl (wpAny_bind (wpAny_field hos hds (x := vu) rfl (wpAny_bind (wpAny_field hos hds (x := vs) rfl (wpAny_pure ?_)))))))
  refine wpAny_bind (slicePart_ ps ?_)
  show wpAny _ _ (if ((-1 : Int) == 0) = true then _ else _) _ _ s
  rw [if_neg (by decide)]
  refine wpAny_bind (slicePart_ pl (wpAny_bind (slicePart_ pu (wpAny_bind (wpAny_pure ?_)))))
  show wpAny _ _ (match Builtin.Slice.sliceAdjust none none (-1) (n : Int) with | (lo, hi) => pure (lo, (-1 : Int), Builtin.Slice.slicePlaces lo hi (-1))) _ _ s
  have e1 : Builtin.Slice.sliceAdjust none none (-1) (n : Int) = ((n : Int) - 1, -1) := rfl
  rw [e1]
  show wpAny _ _ (pure ((n : Int) - 1, (-1 : Int), Builtin.Slice.slicePlaces ((n : Int) - 1) (-1) (-1))) _ _ s
  have e2 : Builtin.Slice.slicePlaces ((n : Int) - 1) (-1) (-1) = n := by
    unfold Builtin.Slice.slicePlaces
    simp
    omega
  rw [e2]
  exact wpAny_pure h
theorem fm_congr {f g : Nat → Option Value} : ∀ {l : List Nat}, (∀ x ∈ l, f x = g x) → l.filterMap f = l.filterMap g
  | [], _ => rfl
  | x :: l, h => by
    rw [List.filterMap_cons, List.filterMap_cons, h x List.mem_cons_self, fm_congr fun y hy => h y (List.mem_cons_of_mem _ hy)]
theorem pick_rev (xs : Array Value) : ((List.range xs.size).filterMap fun (m : Nat) => xs[((xs.size : Int) - 1 + (m : Int) * -1).toNat]?).toArray = xs.toList.reverse.toArray := by
  have e : ((List.range xs.size).filterMap fun (m : Nat) => xs[((xs.size : Int) - 1 + (m : Int) * -1).toNat]?) = ((List.range xs.size).map fun k => xs.size - 1 - k).filterMap (xs[·]?) := by
    rw [List.filterMap_map]
    refine fm_congr fun m hm => ?_
    have := List.mem_range.mp hm
    show _ = xs[xs.size - 1 - m]?
    congr 1
    omega
  rw [e, PySem.W.krv_range, List.filterMap_reverse, PySem.W.krv_all]
theorem getItem_tuple_rev {t sl : Addr} {items : Array Value} {vl vu vs : Value} {Q : Value → Shared → Prop} (ht : IsTup s.heap t items) (hs : s.heap.IsSliceOf sl vl vu vs) (pl : IsPart vl none) (pu : IsPart vu none) (ps : IsPart vs (some (-1)))
    (h : Q (.ref s.heap.objs.size) { s with heap := s.heap.push { cls := .type "tuple", data := .seq (items.toList.reverse).toArray } })
    (hsz : items.size ≤ sizeLine) : wpAny (model prog w) A (getItem (.ref t) (.ref sl)) Q E s := by
  have htake : sizeOk (.seq (items.toList.reverse).toArray) := by
    show (items.toList.reverse).toArray.size ≤ sizeLine
    rw [List.size_toArray, List.length_reverse, Array.length_toList]
    exact hsz
  obtain ⟨os, hos, hcs, hds⟩ := id hs
  have hTs : s.TypeIs (.ref sl) "slice" := ⟨os, hos, hcs⟩
  unfold getItem
  try with_reducible refine wpAny_holding ?_
  first | refine wpAny_bind (wpAny_pure ?_) | skip
  refine wpAny_bind (wpAny_sequenceKey ht.typeIs (by decide) ?_)
  refine wpAny_bind (wpAny_callSpecial?_slot (name := Str.ofString "__getitem__") ht.typeIs PyProof.Rows.slot_tuple_getitem
    (wpAny_call_entry PyProof.Rows.slot_tuple_getitem ht.typeIs entry_tuple_getitem ?_ (args_tuple_getitem _ _)))
  show wpAny _ _ (Builtin.Tuple.tupleItemsOf (.ref t) >>= _) _ _ s
  refine wpAny_bind (tupleItemsOf_ ht ?_)
  refine wpAny_bind (wpAny_typeOf hTs ?_)
  rw [if_pos (by decide)]
  refine wpAny_bind (applied_rev hs pl pu ps ?_)
  have hno : ¬ (((((items.size : Int) - 1)) == 0 && (-1 : Int) == 1 && items.size == items.size) = true) := by
    intro q
    rw [Bool.and_eq_true, Bool.and_eq_true] at q
    exact absurd q.1.2 (by decide)
  show wpAny _ _ (if ((((items.size : Int) - 1)) == 0 && (-1 : Int) == 1 && items.size == items.size) = true then _ else _) _ _ s
  rw [if_neg hno, pick_rev]
  first
    | exact wpAny_bind (m := Builtin.Tuple.tupleExact _) (wpAny_newObj_type (wpAny_pure ⟨_, rfl, wpAny_pure h⟩) htake)
    | exact wpAny_bind (m := Builtin.Tuple.tupleExact _) (wpAny_newObj_type (wpAny_bind (wpAny_pure (wpAny_pure ⟨_, rfl, wpAny_pure h⟩))) htake)
    | exact wpAny_bind (wpAny_bind (m := Builtin.Tuple.tupleExact _) (wpAny_newObj_type (wpAny_pure (wpAny_pure ⟨_, rfl, wpAny_pure h⟩)) htake))
    | exact wpAny_bind (wpAny_bind (m := Builtin.Tuple.tupleExact _) (wpAny_newObj_type (wpAny_pure ⟨_, rfl, wpAny_pure h⟩) htake))
end
end Y
namespace Y
open PySem PySem.Spec PyProof.Rows HT L2
section
variable {X : Cx} {t : Tb} {W : XW}
def tRevA (K : PySem.W.Frag) (te : TE) : TE := fun σ H Q => te σ H fun x H1 => ∃ a xs, x = .ref a ∧ ((SqL K H1 a xs ∧ ∀ p, H1 p = none → Q (.ref p) (upd H1 p (.lst xs.reverse))) ∨ (SqT K H1 a xs ∧ ∀ p, H1 p = none → Q (.ref p) (upd H1 p (.tup xs.reverse))))
theorem pe_revA {e : Expr} {te : TE} {k : Nat} {p1 p2 p3 pos : Pos} (he : PE X e te) : PE X (.Subscript e (.Slice none none (some (.UnaryOp .USub (.Constant (.int 1) k p1) p2)) p3) pos) (tRevA X.K te) := by
  refine ⟨fun pins s σ H Q I h => ?_⟩
  refine Subscript_ (thn (he.run pins s σ H _ I h) fun v s1 ⟨x, H1, I1, r1, q1⟩ => ?_)
  obtain ⟨a, xs, ex, q⟩ := q1
  subst ex
  cases r1
  have hst : PO X (some (.UnaryOp .USub (.Constant (.int 1) k p1) p2)) (tPart (tUn (rU fun i => .int (-i)) (tC (.int 1)))) := po_some (pe_un un_neg pe_int)
  refine wpAny_Slice (thn (po_none.run pins s1 σ H1 (fun o H2 => o = none ∧ H2 = H1) I1 ⟨rfl, rfl⟩) fun vl s2 ⟨l, H2, I2, pl, el, e2⟩ => ?_)
  subst el e2
  refine thn (po_none.run pins s2 σ H2 (fun o H3 => o = none ∧ H3 = H2) I2 ⟨rfl, rfl⟩) fun vu s3 ⟨u, H3, I3, pu, eu, e3⟩ => ?_
  subst eu e3
  refine thn (hst.run pins s3 σ H3 (fun o H4 => o = some (-1) ∧ H4 = H3) I3 ⟨1, rfl, -1, rfl, rfl, rfl⟩) fun vs s4 ⟨o, H4, I4, ps, eo, e4⟩ => ?_
  subst eo e4
  have I5 : Inv X pins σ H4 { s4 with heap := s4.heap.push { cls := .type "slice", data := .fields #[vl, vu, vs] } } := I4.kept (t' := s4.toks) fun b ob q => Heap.get?_push_of_some _ q
  rcases q with ⟨hx, q⟩ | ⟨hx, q⟩
  · obtain ⟨its, r, ht, hz⟩ := I5.list hx
    have hlen := r.length
    show wpAny (model X.prog X.w) X.A (subscriptTail e (.Slice none none (some (.UnaryOp .USub (.Constant (.int 1) k p1) p2)) p3) (.ref a) (.ref s4.heap.objs.size)) (EP X pins σ Q) X.xe { s4 with heap := s4.heap.push { cls := .type "slice", data := .fields #[vl, vu, vs] } }
    refine tail_any (ops := [.ref a, .ref s4.heap.objs.size]) ht.isList.typeIs (PySem.slot_list_getitem.lookup) ?_ (by with_unfolding_all rfl)
    refine wpAny_getItem_list_slice ht.isList (Heap.IsSliceOf.new _ vl vu vs) pl pu ps (by decide) ?_ (by rw [List.size_toArray]; omega)
    rw [PySem.W.krv_pick]
    refine ⟨.ref _, _, I5.laid (t' := s4.toks) (o := .lst xs.reverse) (fun b ob q => Heap.get?_push_of_some _ q) (Nat.le_refl _) ?_, rfl, q _ (I5.hok.fresh (Nat.le_refl _))⟩
    exact ⟨by rw [List.length_reverse]; exact hz, _, 0, r.reverse, Heap.get?_push_size _ rfl⟩
  · obtain ⟨its, r, ht, hz⟩ := I5.tuple hx
    have hlen := r.length
    show wpAny (model X.prog X.w) X.A (subscriptTail e (.Slice none none (some (.UnaryOp .USub (.Constant (.int 1) k p1) p2)) p3) (.ref a) (.ref s4.heap.objs.size)) (EP X pins σ Q) X.xe { s4 with heap := s4.heap.push { cls := .type "slice", data := .fields #[vl, vu, vs] } }
    refine tail_any (ops := [.ref a, .ref s4.heap.objs.size]) ht.typeIs (PyProof.Rows.slot_tuple_getitem.lookup) ?_ (by with_unfolding_all rfl)
    refine getItem_tuple_rev ht (Heap.IsSliceOf.new _ vl vu vs) pl pu ps ?_ (by rw [List.size_toArray]; omega)
    refine ⟨.ref _, _, I5.laid (t' := s4.toks) (o := .tup xs.reverse) (fun b ob q => Heap.get?_push_of_some _ q) (Nat.le_refl _) ?_, rfl, q _ (I5.hok.fresh (Nat.le_refl _))⟩
    exact ⟨by rw [List.length_reverse]; exact hz, _, r.reverse, IsTup.new _ _⟩
theorem s_rev {e : Expr} {m : E} {k : Nat} {p1 p2 p3 pos : Pos} (hK : X.K = t.K) (he : SE X t W e m) : SE X t W (.Subscript e (.Slice none none (some (.UnaryOp .USub (.Constant (.int 1) k p1) p2)) p3) pos) (e1 oRev m) :=
  (pe_revA he).imp fun σ H Q ⟨am, r, s, en, mm, h⟩ => tyE.of en mm h fun d1 s1 am1 H1 v1 en1 m1 p1 r1 h1 => by
    rw [hK]
    unfold oRev at h1
    split at h1
    · rename_i xs
      obtain ⟨a, vs, rfl, h4, h5⟩ := r1.tupE
      exact ⟨a, vs, rfl, .inr ⟨h4, new_tup m1 h1 h5.reverse⟩⟩
    · split at h1
      · rename_i xs e
        obtain ⟨a, vs, rfl, rv, hs⟩ := seqL_of m1 r1 e
        exact ⟨a, vs, rfl, .inl ⟨hs, new_list m1 h1 rv.reverse⟩⟩
      · exact h1.elim
end
end Y

/-! YL: reckoning in the plain semantics. -/
namespace Y
open PySem (Str PyData)

/-! ### what reduces by itself -/
section
variable {α β : Type} {r : Env} {s s1 : S} {d x y : D} {a b c : E} {t u : T} {as : A} {p : P1} {q q' : P2} {pn : PN}
@[simp] theorem bind_ok (a : α) (s : S) (f : α → S → Rs β) : (Rs.ok a s).bind f = f a s := rfl
@[simp] theorem bind_exc (c fs) (s : S) (f : α → S → Rs β) : (Rs.exc c fs s : Rs α).bind f = .exc c fs s := rfl
@[simp] theorem bind_stk (f : α → S → Rs β) : (Rs.stk : Rs α).bind f = .stk := rfl
@[simp] theorem then_ok (a : α) (s : S) (r) (f : α → S → F) : (Rs.ok a s).then r f = f a s := rfl
@[simp] theorem then_exc (c fs) (s : S) (r) (f : α → S → F) : (Rs.exc c fs s : Rs α).then r f = .exc c fs r s := rfl
@[simp] theorem then_stk (r) (f : α → S → F) : (Rs.stk : Rs α).then r f = .stk := rfl
@[simp] theorem andThen_nx (r : Env) (s : S) (f : Env → S → F) : (F.nx r s).andThen f = f r s := rfl
@[simp] theorem andThen_rt (d : D) (s : S) (f : Env → S → F) : (F.rt d s).andThen f = .rt d s := rfl
@[simp] theorem andThen_bk (r : Env) (s : S) (f : Env → S → F) : (F.bk r s).andThen f = .bk r s := rfl
@[simp] theorem andThen_ct (r : Env) (s : S) (f : Env → S → F) : (F.ct r s).andThen f = .ct r s := rfl
@[simp] theorem andThen_exc (c fs) (r : Env) (s : S) (f : Env → S → F) : (F.exc c fs r s).andThen f = .exc c fs r s := rfl
@[simp] theorem andThen_stk (f : Env → S → F) : (F.stk).andThen f = .stk := rfl
@[simp] theorem turn_nx (r : Env) (s : S) (f : Env → S → F) : (F.nx r s).turn f = f r s := rfl
@[simp] theorem turn_ct (r : Env) (s : S) (f : Env → S → F) : (F.ct r s).turn f = f r s := rfl
@[simp] theorem turn_bk (r : Env) (s : S) (f : Env → S → F) : (F.bk r s).turn f = .nx r s := rfl
@[simp] theorem turn_rt (d : D) (s : S) (f : Env → S → F) : (F.rt d s).turn f = .rt d s := rfl
@[simp] theorem turn_exc (c fs) (r : Env) (s : S) (f : Env → S → F) : (F.exc c fs r s).turn f = .exc c fs r s := rfl
@[simp] theorem turn_stk (f : Env → S → F) : (F.stk).turn f = .stk := rfl
@[simp] theorem ap_eC : eC d r s = .ok d s := rfl
@[simp] theorem ap_e1 : e1 p a r s = (a r s).bind fun x s1 => p x s1 := rfl
@[simp] theorem ap_e2 : e2 q a b r s = (a r s).bind fun x s1 => (b r s1).bind fun y s2 => q x y s2 := rfl
@[simp] theorem ap_aN : aN r s = .ok [] s := rfl
@[simp] theorem ap_aC : aC a as r s = (a r s).bind fun x s1 => (as r s1).bind fun xs s2 => .ok (x :: xs) s2 := rfl
@[simp] theorem ap_eN : eN pn as r s = (as r s).bind fun xs s1 => pn xs s1 := rfl
@[simp] theorem ap_tAnd : tAnd t u r s = (t r s).bind fun c s1 => if c = true then u r s1 else .ok false s1 := rfl
@[simp] theorem ap_tOr : tOr t u r s = (t r s).bind fun c s1 => if c = true then .ok true s1 else u r s1 := rfl
@[simp] theorem ap_tNot : tNot t r s = (t r s).bind fun c s1 => .ok (!c) s1 := rfl
@[simp] theorem ap_eIf : eIf t a b r s = (t r s).bind fun c s1 => if c = true then a r s1 else b r s1 := rfl
/-- a bool that is told -/
def Bl (x : D) (s : S) (f : Bool → S → Rs α) : Rs α := match x with
  | .bl b => f b s
  | _ => .stk
@[simp] theorem Bl_bl (b : Bool) (f : Bool → S → Rs α) : Bl (.bl b) s f = f b s := rfl
@[simp] theorem ap_tst : tst a r s = (a r s).bind fun x s1 => Bl x s1 .ok := rfl
theorem ap_eAnd' : eAnd a b r s = (a r s).bind fun x s1 => Bl x s1 fun k s2 => if k = true then b r s2 else .ok (.bl false) s2 := by
  unfold eAnd Bl
  congr 1
  funext x s1
  cases x with
  | bl k => cases k <;> rfl
  | _ => rfl
@[simp] theorem ap_eAnd : eAnd a b r s = (a r s).bind fun x s1 => Bl x s1 fun k s2 => if k = true then b r s2 else .ok (.bl false) s2 := ap_eAnd'
@[simp] theorem ap_eOr : eOr a b r s = (a r s).bind fun x s1 => Bl x s1 fun k s2 => if k = true then .ok (.bl true) s2 else b r s2 := by
  unfold eOr Bl
  congr 1
  funext x s1
  cases x with
  | bl k => cases k <;> rfl
  | _ => rfl
@[simp] theorem ap_eNot : eNot a r s = (a r s).bind fun x s1 => Bl x s1 fun k s2 => .ok (.bl (!k)) s2 := rfl
@[simp] theorem ap_eCh : eCh q q' a b c r s = (a r s).bind fun x s1 => (b r s1).bind fun y s2 => (q x y s2).bind fun z s3 => Bl z s3 fun k s3 => if k = true then (c r s3).bind fun w s4 => q' y w s4 else .ok (.bl false) s3 := by
  unfold eCh Bl
  cases a r s with
  | ok x s1 =>
    simp only [Rs.bind_ok]
    cases b r s1 with
    | ok y s2 =>
      simp only [Rs.bind_ok]
      cases q x y s2 with
      | ok z s3 =>
        simp only [Rs.bind_ok]
        cases z with
        | bl k => cases k <;> rfl
        | _ => rfl
      | exc => rfl
      | stk => rfl
    | exc => rfl
    | stk => rfl
  | exc => rfl
  | stk => rfl
@[simp] theorem ap_eTup : eTup as r s = (as r s).bind fun xs s1 => if xs.length ≤ 1000000 then .ok (.tup xs) s1 else .stk := rfl
@[simp] theorem ap_eLst : eLst as r s = (as r s).bind fun xs s1 => if xs.length ≤ 1000000 then .ok (.ref s1.length) (s1 ++ [.lst xs]) else .stk := rfl
@[simp] theorem eV_succ {i : Nat} : eV (i + 1) (d :: r) s = eV i r s := rfl
@[simp] theorem eV_non : eV 0 (.non :: r) s = .ok .non s := rfl
@[simp] theorem eV_bl {k : Bool} : eV 0 (.bl k :: r) s = .ok (.bl k) s := rfl
@[simp] theorem eV_int {i : Int} : eV 0 (.int i :: r) s = .ok (.int i) s := rfl
@[simp] theorem eV_str {x : Str} : eV 0 (.str x :: r) s = .ok (.str x) s := rfl
@[simp] theorem eV_tup {xs : List D} : eV 0 (.tup xs :: r) s = .ok (.tup xs) s := rfl
@[simp] theorem eV_frl {xs : List D} : eV 0 (.frl xs :: r) s = .ok (.frl xs) s := rfl
@[simp] theorem eV_ref {n : Nat} : eV 0 (.ref n :: r) s = .ok (.ref n) s := rfl
@[simp] theorem eV_fn {n : Nat} : eV 0 (.fn n :: r) s = .ok (.fn n) s := rfl
theorem eV_any (hu : d ≠ .undef) : eV 0 (d :: r) s = .ok d s := by cases d <;> first | rfl | exact absurd rfl hu
theorem ap_eV {i : Nat} (h : r[i]? = some d) (hu : d ≠ .undef) : eV i r s = .ok d s := by
  unfold eV
  rw [h]
  cases d <;> first | rfl | exact absurd rfl hu
end
section
variable {r : Env} {s s1 : S} {e : E} {b c : Sm} {t : T} {g : Tg} {i j : Nat}
@[simp] theorem ap_zCons : zCons b c r s = (b r s).andThen c := rfl
@[simp] theorem ap_zNil : zNil r s = .nx r s := rfl
@[simp] theorem ap_zRet : zRet e r s = (e r s).then r fun d s1 => .rt d s1 := rfl
@[simp] theorem ap_zRetN : zRetN r s = .rt .non s := rfl
@[simp] theorem ap_zEx : zEx e r s = (e r s).then r fun _ s1 => .nx r s1 := rfl
@[simp] theorem ap_zIf : zIf t b c r s = (t r s).then r fun k s1 => if k = true then b r s1 else c r s1 := rfl
@[simp] theorem ap_zPass : zPass r s = .nx r s := rfl
@[simp] theorem ap_zCnt : zCnt r s = .ct r s := rfl
@[simp] theorem ap_zBrk : zBrk r s = .bk r s := rfl
@[simp] theorem ap_zStk : zStk r s = .stk := rfl
@[simp] theorem ap_zRaise {c : Nat} : zRaise c r s = .exc c [] r s := rfl
/-- what a target leaves -/
def Go (x : Option (Env × S)) (f : Env → S → F) : F := match x with
  | some (r, s) => f r s
  | none => .stk
@[simp] theorem Go_some (r : Env) (s : S) (f : Env → S → F) : Go (some (r, s)) f = f r s := rfl
@[simp] theorem ap_zSet : zSet g e r s = (e r s).then r fun d s1 => Go (g d r s1) .nx := rfl
@[simp] theorem ap_zPar {x y : E} : zPar i j x y r s = (x r s).then r fun x s1 => (y r s1).then r fun y s2 => if i < r.length ∧ j < r.length then .nx ((r.set i x).set j y) s2 else .stk := rfl
@[simp] theorem ap_gV {d : D} : gV i d r s = if i < r.length then some (r.set i d, s) else none := rfl
@[simp] theorem ap_gsN {ds : List D} : gsN ds r s = if ds.isEmpty then some (r, s) else none := rfl
@[simp] theorem ap_gsC {d : D} {ds : List D} {t : List D → Env → S → Option (Env × S)} : gsC g t (d :: ds) r s = (g d r s).bind fun p => t ds p.1 p.2 := by
  unfold gsC
  simp only
  cases g d r s <;> rfl
@[simp] theorem ap_gT {ds : List D} {t : List D → Env → S → Option (Env × S)} : gT t (.tup ds) r s = t ds r s := rfl
/-- xs[i] = e where the list stands -/
def Pu (x : Option S) (r : Env) : F := match x with
  | some s => .nx r s
  | none => .stk
@[simp] theorem Pu_some (s : S) (r : Env) : Pu (some s) r = .nx r s := rfl
@[simp] theorem ap_zPutL {o k : E} : zPutL o k e r s = (e r s).then r fun v s1 => (o r s1).then r fun x s2 => (k r s2).then r fun k s3 => Pu (putL x k v s3) r := rfl
end
section
variable {s : S} {i j : Int} {xs ys : List D} {n m : Nat}
@[simp] theorem v_addI : oAdd (.int i) (.int j) s = .ok (.int (i + j)) s := rfl
@[simp] theorem v_subI : oSub (.int i) (.int j) s = .ok (.int (i - j)) s := rfl
theorem v_mulI (h : mulOk i j = true) : oMul (.int i) (.int j) s = .ok (.int (i * j)) s := by unfold oMul; simp [h]
theorem v_mul64 (h : i.natAbs < 18446744073709551616) : oMul (.int i) (.int j) s = .ok (.int (i * j)) s := v_mulI (by unfold mulOk; simp [h])
theorem v_mul64r (h : j.natAbs < 18446744073709551616) : oMul (.int i) (.int j) s = .ok (.int (i * j)) s := v_mulI (by unfold mulOk; simp [h])
theorem log2_lt {a k : Nat} (hk : 0 < k) (h : a < 2 ^ k) : a.log2 < k := by
  by_cases h0 : a = 0
  · subst h0; simpa using hk
  · exact (Nat.log2_lt h0).mpr h
theorem v_divP (h : 0 < j) (h2 : j.natAbs.log2 < 9000) : oDiv (.int i) (.int j) s = .ok (.int (i / j)) s := by
  unfold oDiv pdiv
  simp [h, h2, show j ≠ 0 by omega]
theorem v_div64 (h : 0 < j) (h2 : j < 18446744073709551616) : oDiv (.int i) (.int j) s = .ok (.int (i / j)) s :=
  v_divP h (Nat.lt_of_lt_of_le (log2_lt (k := 64) (by decide) (by omega)) (by decide))
theorem v_modP (h : 0 < j) : oMod (.int i) (.int j) s = .ok (.int (i % j)) s := by
  unfold oMod pmod
  simp [h, show j ≠ 0 by omega]
@[simp] theorem v_neg : oNeg (.int i) s = .ok (.int (-i)) s := rfl
@[simp] theorem v_lt : oLt (.int i) (.int j) s = .ok (.bl (decide (i < j))) s := rfl
@[simp] theorem v_le : oLe (.int i) (.int j) s = .ok (.bl (decide (i ≤ j))) s := rfl
@[simp] theorem v_gt : oGt (.int i) (.int j) s = .ok (.bl (decide (j < i))) s := rfl
@[simp] theorem v_ge : oGe (.int i) (.int j) s = .ok (.bl (decide (j ≤ i))) s := rfl
@[simp] theorem v_eqI : oEq (.int i) (.int j) s = .ok (.bl (decide (i = j))) s := by
  unfold oEq eqD
  have e : (i == j) = decide (i = j) := by by_cases h : i = j <;> simp [h]
  simp [D.py, PySem.SeqAt.shaped, PyData.canLay0, PyData.depth, PyData.eqv, e]
@[simp] theorem v_neI : oNe (.int i) (.int j) s = .ok (.bl (decide (i ≠ j))) s := by
  unfold oNe eqD
  have e : (i == j) = decide (i = j) := by by_cases h : i = j <;> simp [h]
  simp [D.py, PySem.SeqAt.shaped, PyData.canLay0, PyData.depth, PyData.eqv, e]
@[simp] theorem v_isN_non : oIsN .non s = .ok (.bl true) s := rfl
@[simp] theorem v_isN_int : oIsN (.int i) s = .ok (.bl false) s := rfl
@[simp] theorem v_isN_tup : oIsN (.tup xs) s = .ok (.bl false) s := rfl
@[simp] theorem v_isN_ref : oIsN (.ref n) s = .ok (.bl false) s := rfl
@[simp] theorem v_isN_bl {b : Bool} : oIsN (.bl b) s = .ok (.bl false) s := rfl
@[simp] theorem v_isN_str {x : Str} : oIsN (.str x) s = .ok (.bl false) s := rfl
@[simp] theorem v_isN_frl : oIsN (.frl xs) s = .ok (.bl false) s := rfl
@[simp] theorem v_notN_bl {b : Bool} : oNotN (.bl b) s = .ok (.bl true) s := rfl
@[simp] theorem v_notN_str {x : Str} : oNotN (.str x) s = .ok (.bl true) s := rfl
@[simp] theorem v_isB {a b : Bool} : oIsB (.bl a) (.bl b) s = .ok (.bl (decide (a = b))) s := rfl
@[simp] theorem v_notB {a b : Bool} : oNotB (.bl a) (.bl b) s = .ok (.bl (!decide (a = b))) s := rfl
@[simp] theorem v_notN_non : oNotN .non s = .ok (.bl false) s := rfl
@[simp] theorem v_notN_int : oNotN (.int i) s = .ok (.bl true) s := rfl
@[simp] theorem v_notN_tup : oNotN (.tup xs) s = .ok (.bl true) s := rfl
@[simp] theorem v_notN_ref : oNotN (.ref n) s = .ok (.bl true) s := rfl
@[simp] theorem v_intI : bInt [.int i] s = .ok (.int i) s := rfl
@[simp] theorem v_abs : bAbs [.int i] s = .ok (.int (if i < 0 then -i else i)) s := rfl
@[simp] theorem v_min : bMin2 [.int i, .int j] s = .ok (.int (if j < i then j else i)) s := rfl
@[simp] theorem v_max : bMax2 [.int i, .int j] s = .ok (.int (if j > i then j else i)) s := rfl
@[simp] theorem v_lenT : bLen [.tup xs] s = .ok (.int xs.length) s := rfl
theorem v_lenL (h : s[n]? = some (.lst xs)) : bLen [.ref n] s = .ok (.int xs.length) s := by unfold bLen; simp [h]
theorem v_ixT {d : D} (h : atD xs i = some d) : oIx (.tup xs) (.int i) s = .ok d s := by unfold oIx seqX; simp [h]
theorem v_ixL {d : D} (hs : s[n]? = some (.lst xs)) (h : atD xs i = some d) : oIx (.ref n) (.int i) s = .ok d s := by unfold oIx seqX seqL; simp [hs, h]
theorem atD_nat {k : Nat} {d : D} (h : xs[k]? = some d) : atD xs (k : Int) = some d := by
  have hl := (List.getElem?_eq_some_iff.mp h).1
  unfold atD
  rw [if_pos (by omega), if_pos (by omega)]
  simpa using h
@[simp] theorem atD_0 {d : D} : atD (d :: xs) 0 = some d := atD_nat (k := 0) rfl
@[simp] theorem atD_1 {d e : D} : atD (d :: e :: xs) 1 = some e := atD_nat (k := 1) rfl
@[simp] theorem atD_2 {d e f : D} : atD (d :: e :: f :: xs) 2 = some f := atD_nat (k := 2) rfl
/-- the list at a place of the store, once it is looked up -/
def lstO (x : Option O) : Option (List D) := match x with
  | some (.lst xs) => some xs
  | _ => none
@[simp] theorem lstO_some : lstO (some (.lst xs)) = some xs := rfl
def OkO (x : Option D) (s : S) : Rs D := match x with
  | some d => .ok d s
  | none => .stk
@[simp] theorem OkO_some (d : D) : OkO (some d) s = .ok d s := rfl
@[simp] theorem seqL_ref : seqL (.ref n) s = lstO s[n]? := by
  unfold seqL lstO
  dsimp only
  all_goals (cases s[n]? with
  | none => rfl
  | some o => cases o <;> rfl)
@[simp] theorem seqL_frl : seqL (.frl xs) s = some xs := rfl
@[simp] theorem seqX_tup : seqX (.tup xs) s = some xs := rfl
@[simp] theorem seqX_ref : seqX (.ref n) s = lstO s[n]? := by
  show seqL (.ref n) s = _
  exact seqL_ref
@[simp] theorem seqX_frl : seqX (.frl xs) s = some xs := rfl
theorem ix_seq (d : D) : oIx d (.int i) s = OkO ((seqX d s).bind fun xs => atD xs i) s := by
  unfold oIx OkO
  dsimp only
  cases seqX d s with
  | none => rfl
  | some xs =>
    simp only [Option.bind_some]
    all_goals (cases atD xs i <;> rfl)
@[simp] theorem ix_ref : oIx (.ref n) (.int i) s = OkO ((lstO s[n]?).bind fun xs => atD xs i) s := by rw [ix_seq, seqX_ref]
@[simp] theorem ix_tup : oIx (.tup xs) (.int i) s = OkO (atD xs i) s := by rw [ix_seq]; rfl
@[simp] theorem ix_frl : oIx (.frl xs) (.int i) s = OkO (atD xs i) s := by rw [ix_seq]; rfl
@[simp] theorem len_ref : bLen [.ref n] s = OkO ((lstO s[n]?).map fun xs => .int xs.length) s := by
  unfold bLen lstO OkO
  dsimp only
  cases s[n]? with
  | none => rfl
  | some o => cases o <;> rfl
@[simp] theorem len_frl : bLen [.frl xs] s = .ok (.int xs.length) s := rfl
@[simp] theorem putL_ref {v : D} : putL (.ref n) (.int i) v s = (lstO s[n]?).bind fun xs => (ixN xs.length i).map fun j => s.set n (.lst (xs.set j v)) := by
  unfold putL lstO
  simp only
  cases s[n]? with
  | none => rfl
  | some o =>
    cases o with
    | lst xs =>
      simp only [Option.bind_some]
      cases ixN xs.length i <;> rfl
    | _ => rfl
@[simp] theorem app_ref {v : D} : mApp (.ref n) [v] s = match (lstO s[n]?).bind fun xs => if xs.length < LINE then some (s.set n (.lst (xs ++ [v]))) else none with | some s1 => .ok .non s1 | none => .stk := by
  unfold mApp appendAt lstO
  simp only
  cases s[n]? with
  | none => rfl
  | some o => cases o <;> rfl
@[simp] theorem list_seq (d : D) : bList [d] s = match seqX d s with | some xs => .ok (.ref s.length) (s ++ [.lst xs]) | none => .stk := rfl
@[simp] theorem tuple_seq (d : D) : bTuple [d] s = match seqX d s with | some xs => .ok (.tup xs) s | none => .stk := rfl
@[simp] theorem isL_ref : isL (.ref n) s = (lstO s[n]?).isSome := by
  unfold isL
  rw [seqL_ref]
/-- isinstance by the kind -/
@[simp] theorem ty_int {t : Ty} : oIsI t (.int i) s = .ok (.bl (t == .int)) s := rfl
@[simp] theorem ty_bl {t : Ty} {b : Bool} : oIsI t (.bl b) s = .ok (.bl (t == .bool || t == .int)) s := rfl
@[simp] theorem ty_non {t : Ty} : oIsI t .non s = .ok (.bl false) s := rfl
@[simp] theorem ty_str {t : Ty} {x : Str} : oIsI t (.str x) s = .ok (.bl (t == .str)) s := rfl
@[simp] theorem ty_tup {t : Ty} : oIsI t (.tup xs) s = .ok (.bl (t == .tuple)) s := rfl
theorem ty_lst {t : Ty} (h : s[n]? = some (.lst xs)) : oIsI t (.ref n) s = .ok (.bl (t == .list)) s := by unfold oIsI isTy; simp [h]
end

/-! ### calls -/
theorem refs_pure : ∀ {ds : List D}, D.pureL ds = true → refsOf ds = [] ∧ (∀ k, renum k ds = ds) ∧ ds.all argOk = true
  | [], _ => ⟨rfl, fun _ => rfl, rfl⟩
  | d :: ds, h => by
    unfold D.pureL at h
    rw [Bool.and_eq_true] at h
    obtain ⟨h1, h2, h3⟩ := refs_pure h.2
    cases d with
    | ref n => exact absurd h.1 (by unfold D.pure; exact Bool.false_ne_true)
    | undef => exact absurd h.1 (by unfold D.pure; exact Bool.false_ne_true)
    | _ => exact ⟨h1, fun k => by show _ :: renum k ds = _; rw [h2], by rw [List.all_cons, h3, Bool.and_true]; exact h.1⟩
/-- pure arguments, a pure result -/
theorem callK_val {f : Fn} {ds : List D} {s g : S} {d : D} (hp : D.pureL ds = true) (h : f ds [] = .ok d g) (hd : d.pure = true) : callK f ds s = .ok d s := by
  obtain ⟨h1, h2, h3⟩ := refs_pure hp
  unfold callK
  rw [h1, h2, h3, if_pos ⟨rfl, rfl⟩]
  simp only [getAll, h, putAll, List.length_nil, List.take_zero, List.all_nil, if_true]
  cases d <;> first | (simp only [hd, if_true]; done) | (simp only [D.pure] at hd; exact absurd hd Bool.false_ne_true) | simp [D.pure]
/-- pure arguments, a new object -/
theorem callK_new {f : Fn} {ds : List D} {s g : S} {j : Nat} {o : O} (hp : D.pureL ds = true) (h : f ds [] = .ok (.ref j) g) (ho : g[j]? = some o) (hd : o.pure = true) : callK f ds s = .ok (.ref s.length) (s ++ [o]) := by
  obtain ⟨h1, h2, h3⟩ := refs_pure hp
  unfold callK
  rw [h1, h2, h3, if_pos ⟨rfl, rfl⟩]
  simp only [getAll, h, putAll, List.length_nil, List.take_zero, List.all_nil, if_true, ho, hd, List.getElem?_nil]
/-- pure arguments, an error -/
theorem callK_exc {f : Fn} {ds : List D} {s g : S} {c : Nat} {fs : List D} (hp : D.pureL ds = true) (h : f ds [] = .exc c fs g) (hd : D.pureL fs = true) : callK f ds s = .exc c fs s := by
  obtain ⟨h1, h2, h3⟩ := refs_pure hp
  unfold callK
  rw [h1, h2, h3, if_pos ⟨rfl, rfl⟩]
  simp only [getAll, h, putAll, List.length_nil, List.take_zero, List.all_nil, hd, if_true, and_self]
/-- the first argument an object, the others pure; a pure result -/
theorem callK_ref {f : Fn} {ds : List D} {s g : S} {n : Nat} {o o' : O} {d : D} (hp : D.pureL ds = true) (hs : s[n]? = some o) (ho : o.pure = true) (h : f (.ref 0 :: ds) [o] = .ok d (o' :: g)) (ho' : o'.pure = true) (hd : d.pure = true) :
    callK f (.ref n :: ds) s = .ok d (s.set n o') := by
  obtain ⟨h1, h2, h3⟩ := refs_pure hp
  unfold callK
  simp only [refsOf, renum, h1, h2, List.all_cons, h3, Bool.and_true, argOk, nodupN, List.contains_nil, Bool.not_false, and_self, if_true, getAll, hs, ho, h, List.length_singleton, List.take_succ_cons, List.take_zero, List.all_nil, ho', putAll]
  cases d <;> first | (simp only [hd, if_true]; done) | (simp only [D.pure] at hd; exact absurd hd Bool.false_ne_true) | simp [D.pure]
/-- .. a new object -/
theorem callK_ref_new {f : Fn} {ds : List D} {s g : S} {n j : Nat} {o o' o2 : O} (hp : D.pureL ds = true) (hs : s[n]? = some o) (ho : o.pure = true) (h : f (.ref 0 :: ds) [o] = .ok (.ref (j + 1)) (o' :: g)) (ho' : o'.pure = true) (hj : g[j]? = some o2) (ho2 : o2.pure = true) :
    callK f (.ref n :: ds) s = .ok (.ref s.length) (s.set n o' ++ [o2]) := by
  obtain ⟨h1, h2, h3⟩ := refs_pure hp
  unfold callK
  simp only [refsOf, renum, h1, h2, List.all_cons, h3, Bool.and_true, argOk, nodupN, List.contains_nil, Bool.not_false, and_self, if_true, getAll, hs, ho, h, List.length_singleton, List.take_succ_cons, List.take_zero, List.all_nil, ho', putAll, List.getElem?_cons_succ, List.getElem?_nil, hj, ho2]
@[simp] theorem nArgs1 {g : Fn} {a : D} {s : S} : nArgs 1 g [a] s = g [a] s := rfl
@[simp] theorem nArgs2 {g : Fn} {a b : D} {s : S} : nArgs 2 g [a, b] s = g [a, b] s := rfl
@[simp] theorem nArgs3 {g : Fn} {a b c : D} {s : S} : nArgs 3 g [a, b, c] s = g [a, b, c] s := rfl
@[simp] theorem nArgs4 {g : Fn} {a b c d : D} {s : S} : nArgs 4 g [a, b, c, d] s = g [a, b, c, d] s := rfl
@[simp] theorem ap_eCallK {k : Nat} {g : Fn} {as : A} {r : Env} {s : S} : eCallK k g as r s = (as r s).bind fun xs s1 => nArgs k (callK g) xs s1 := rfl
@[simp] theorem ap_eCall {k : Nat} {g : Fn} {as : A} {r : Env} {s : S} : eCall k g as r s = (as r s).bind fun xs s1 => nArgs k g xs s1 := rfl
/-- what a body's end hands back -/
def F.out (x : F) : Rs D := match x with
  | .nx _ s => .ok .non s
  | .rt d s => .ok d s
  | .exc c fs _ s => .exc c fs s
  | _ => .stk
@[simp] theorem out_rt (d : D) (s : S) : (F.rt d s).out = .ok d s := rfl
@[simp] theorem out_nx (r : Env) (s : S) : (F.nx r s).out = .ok .non s := rfl
@[simp] theorem out_exc (c fs) (r : Env) (s : S) : (F.exc c fs r s).out = .exc c fs s := rfl
theorem ap_mkFn {n k : Nat} {b : Sm} {ds : List D} {s : S} (h : ds.length = k) : mkFn n k b ds s = (b (ds ++ List.replicate (n - k) .undef) s).out := by
  unfold mkFn F.out
  rw [if_pos h]
  all_goals (cases b (ds ++ List.replicate (n - k) .undef) s <;> rfl)

/-! ### loops -/
/-- what holds between two turns -/
theorem forM_inv {g : Tg} {b : Sm} (P : Nat → Env → S → Prop) : ∀ (xs : List D) (i : Nat) (r : Env) (s : S), P i r s →
    (∀ j x r s, xs[j]? = some x → P (i + j) r s → ∃ r1 s1 r2 s2, g x r s = some (r1, s1) ∧ (b r1 s1 = .nx r2 s2 ∨ b r1 s1 = .ct r2 s2) ∧ P (i + j + 1) r2 s2) →
    ∃ r' s', forM g b xs r s = .nx r' s' ∧ P (i + xs.length) r' s'
  | [], i, r, s, h0, _ => ⟨r, s, rfl, by simpa using h0⟩
  | x :: xs, i, r, s, h0, hs => by
    obtain ⟨r1, s1, r2, s2, e1, e2, p⟩ := hs 0 x r s rfl (by simpa using h0)
    obtain ⟨r', s', e3, p3⟩ := forM_inv P xs (i + 1) r2 s2 (by simpa using p) fun j y r s e q => by
      obtain ⟨a, b, c, d, z1, z2, z3⟩ := hs (j + 1) y r s (by simpa using e) (by rw [show i + (j + 1) = i + 1 + j by omega]; exact q)
      exact ⟨a, b, c, d, z1, z2, by rw [show i + 1 + j + 1 = i + (j + 1) + 1 by omega]; exact z3⟩
    refine ⟨r', s', ?_, by rw [List.length_cons, show i + (xs.length + 1) = i + 1 + xs.length by omega]; exact p3⟩
    unfold forM
    rw [e1]
    rcases e2 with e2 | e2 <;> (simp only [e2]; exact e3)
theorem whileM_inv {c : T} {b : Sm} (P : Env → S → Prop) (Z : Env → S → Prop) (μ : Env → S → Nat)
    (step : ∀ r s, P r s → ∃ k s1, c r s = .ok k s1 ∧ (k = false → Z r s1) ∧ (k = true → ∃ r2 s2, (b r s1 = .nx r2 s2 ∨ b r s1 = .ct r2 s2) ∧ P r2 s2 ∧ μ r2 s2 < μ r s)) :
    ∀ (n : Nat) (r : Env) (s : S), P r s → μ r s < n → ∃ r' s', whileM c b n r s = .nx r' s' ∧ Z r' s'
  | 0, _, _, _, h => absurd h (Nat.not_lt_zero _)
  | n + 1, r, s, h, hm => by
    obtain ⟨k, s1, e, z, st⟩ := step r s h
    unfold whileM
    simp only [e, then_ok]
    cases k with
    | false => exact ⟨r, s1, rfl, z rfl⟩
    | true =>
      obtain ⟨r2, s2, e2, p2, m2⟩ := st rfl
      rw [if_pos rfl]
      have ih := whileM_inv P Z μ step n r2 s2 p2 (by omega)
      rcases e2 with e2 | e2 <;> (rw [e2]; exact ih)
/-- great numbers: what is below may be multiplied, and counted down -/
def B0 : Nat := 2 ^ 3000
def B1 : Nat := 2 ^ 4000
theorem B01 : 1000000000000 * B0 ≤ B1 := by decide +kernel
theorem B0_big : 1000000000000000000000000000000000000000000000000000000000000 ≤ B0 := by decide +kernel
theorem B1_fuel : B1 ≤ FUEL := by decide +kernel
theorem log2_B1 {i : Nat} (h : i < B1) : i.log2 < 4000 := log2_lt (by decide) h
theorem zWhile_invB {c : T} {b : Sm} (P : Env → S → Prop) (Z : Env → S → Prop) (μ : Env → S → Nat)
    (step : ∀ r s, P r s → ∃ k s1, c r s = .ok k s1 ∧ (k = false → Z r s1) ∧ (k = true → ∃ r2 s2, (b r s1 = .nx r2 s2 ∨ b r s1 = .ct r2 s2) ∧ P r2 s2 ∧ μ r2 s2 < μ r s)) {r : Env} {s : S} (h : P r s) (hm : μ r s < B1) :
    ∃ r' s', zWhile c b r s = .nx r' s' ∧ Z r' s' := whileM_inv P Z μ step _ r s h (Nat.lt_of_lt_of_le hm B1_fuel)
theorem mul_big {i j : Int} {s : S} (hi : i.natAbs < B1) (hj : j.natAbs < B1) : oMul (.int i) (.int j) s = .ok (.int (i * j)) s := v_mulI (by
  unfold mulOk
  have a := log2_B1 hi
  have b := log2_B1 hj
  have : i.natAbs.log2 + j.natAbs.log2 < 1000000 := by omega
  simp [this])
theorem div_big {i j : Int} {s : S} (h : 0 < j) (hj : j.natAbs < B1) : oDiv (.int i) (.int j) s = .ok (.int (i / j)) s := v_divP h (by have := log2_B1 hj; omega)
theorem zWhile_inv {c : T} {b : Sm} (P : Env → S → Prop) (Z : Env → S → Prop) (μ : Env → S → Nat)
    (step : ∀ r s, P r s → ∃ k s1, c r s = .ok k s1 ∧ (k = false → Z r s1) ∧ (k = true → ∃ r2 s2, (b r s1 = .nx r2 s2 ∨ b r s1 = .ct r2 s2) ∧ P r2 s2 ∧ μ r2 s2 < μ r s)) {r : Env} {s : S} (h : P r s) (hm : μ r s < 1000000000000) :
    ∃ r' s', zWhile c b r s = .nx r' s' ∧ Z r' s' := whileM_inv P Z μ step _ r s h (by have h1 := B1_fuel; have h2 := B01; have h3 := B0_big; omega)
/-- a loop's walk told -/
theorem ap_zFor {it : IW} {g : Tg} {b : Sm} {r : Env} {s s1 : S} {xs : List D} (h : it r s = .ok (.items xs) s1) : zFor it g b r s = forM g b xs r s1 := by
  unfold zFor
  rw [h]; rfl
@[simp] theorem ap_iRng1 {a : E} {r : Env} {s s1 : S} {j : Int} (h : a r s = .ok (.int j) s1) (hj : j.natAbs < 4611686018427387904) : iRng1 a r s = .ok (.items (range2 0 j)) s1 := by
  unfold iRng1
  simp only [h, bind_ok, hj, if_true]
@[simp] theorem ap_iRng2 {a b : E} {r : Env} {s s1 s2 : S} {i j : Int} (h : a r s = .ok (.int i) s1) (h' : b r s1 = .ok (.int j) s2) (hi : i.natAbs < 4611686018427387904) (hj : j.natAbs < 4611686018427387904) : iRng2 a b r s = .ok (.items (range2 i j)) s2 := by
  unfold iRng2
  simp only [h, h', bind_ok, hi, hj, and_self, if_true]
theorem range2_get {i j : Int} {k : Nat} {x : D} (h : (range2 i j)[k]? = some x) : x = .int (i + k) ∧ k < (j - i).toNat := by
  unfold range2 at h
  rw [List.getElem?_map] at h
  cases e : (List.range (j - i).toNat)[k]? with
  | none => rw [e] at h; cases h
  | some n =>
    rw [e] at h
    obtain ⟨hl, hv⟩ := List.getElem?_eq_some_iff.mp e
    rw [List.getElem_range] at hv
    rw [List.length_range] at hl
    subst hv
    cases h
    exact ⟨rfl, hl⟩
theorem range2_len (i j : Int) : (range2 i j).length = (j - i).toNat := by unfold range2; simp
/-- an int, a tuple that is told -/
def NI (x : D) (f : Int → F) : F := match x with
  | .int j => f j
  | _ => .stk
@[simp] theorem NI_int (j : Int) (f : Int → F) : NI (.int j) f = f j := rfl
def NT (x : D) (f : List D → F) : F := match x with
  | .tup xs => f xs
  | _ => .stk
@[simp] theorem NT_tup (xs : List D) (f : List D → F) : NT (.tup xs) f = f xs := rfl
section
variable {g : Tg} {b : Sm} {r : Env} {s : S} {a c : E}
@[simp] theorem zFor_rng1 : zFor (iRng1 a) g b r s = (a r s).then r fun x s1 => NI x fun j => if j.natAbs < 4611686018427387904 then forM g b (range2 0 j) r s1 else .stk := by
  unfold zFor iRng1
  cases a r s with
  | ok x s1 =>
    cases x with
    | int j =>
      by_cases h : j.natAbs < 4611686018427387904 <;> simp [h]
    | _ => rfl
  | exc => rfl
  | stk => rfl
@[simp] theorem zFor_rng2 : zFor (iRng2 a c) g b r s = (a r s).then r fun x s1 => (c r s1).then r fun y s2 => NI x fun i => NI y fun j => if i.natAbs < 4611686018427387904 ∧ j.natAbs < 4611686018427387904 then forM g b (range2 i j) r s2 else .stk := by
  unfold zFor iRng2
  cases a r s with
  | ok x s1 =>
    simp only [bind_ok, then_ok]
    cases c r s1 with
    | ok y s2 =>
      simp only [bind_ok, then_ok]
      cases x with
      | int i =>
        cases y with
        | int j =>
          simp only [NI_int]
          by_cases h : i.natAbs < 4611686018427387904 ∧ j.natAbs < 4611686018427387904
          · simp only [h, and_self, if_true, then_ok]
          · simp only [h, if_false, then_stk]
        | _ => rfl
      | _ => rfl
    | exc => rfl
    | stk => rfl
  | exc => rfl
  | stk => rfl
@[simp] theorem zFor_tup : zFor (iTup a) g b r s = (a r s).then r fun x s1 => NT x fun xs => forM g b xs r s1 := by
  unfold zFor iTup
  cases a r s with
  | ok x s1 => cases x <;> rfl
  | exc => rfl
  | stk => rfl
/-- a list's walk: of the text's own script, or of the store -/
def NL (x : D) (s : S) (f : List D → F) (f' : Nat → F) : F := match x with
  | .frl xs => f xs
  | .ref n => if (lstO s[n]?).isSome = true then f' n else .stk
  | _ => .stk
@[simp] theorem NL_frl (xs : List D) (s : S) (f f') : NL (.frl xs) s f f' = f xs := rfl
@[simp] theorem NL_ref (n : Nat) (s : S) (f f') : NL (.ref n) s f f' = if (lstO s[n]?).isSome = true then f' n else .stk := rfl
@[simp] theorem zFor_lst : zFor (iLst a) g b r s = (a r s).then r fun x s1 => NL x s1 (fun xs => forM g b xs r s1) fun n => forR g b n FUEL 0 r s1 := by
  unfold zFor iLst
  cases a r s with
  | ok x s1 =>
    simp only [bind_ok, then_ok]
    cases x with
    | ref n =>
      simp only [NL_ref, lstO]
      cases s1[n]? with
      | none => rfl
      | some o => cases o <;> rfl
    | _ => rfl
  | exc => rfl
  | stk => rfl
/-- a list of the store that the loop leaves as it is -/
theorem forR_forM {n : Nat} {xs : List D} : ∀ (k i : Nat) (r : Env) (s : S) (P : Nat → Env → S → Prop), xs.length < k + i → P i r s → (∀ j r s, P j r s → s[n]? = some (.lst xs)) →
    (∀ j x r s, xs[j]? = some x → P j r s → ∃ r1 s1 r2 s2, g x r s = some (r1, s1) ∧ (b r1 s1 = .nx r2 s2 ∨ b r1 s1 = .ct r2 s2) ∧ P (j + 1) r2 s2) → i ≤ xs.length →
    ∃ r' s', forR g b n k i r s = .nx r' s' ∧ P xs.length r' s'
  | 0, i, r, s, P, h, _, _, _, hi => by omega
  | k + 1, i, r, s, P, h, p, hs, step, hi => by
    unfold forR
    rw [hs i r s p]
    simp only
    by_cases hl : i < xs.length
    · obtain ⟨r1, s1, r2, s2, e1, e2, p2⟩ := step i xs[i] r s (List.getElem?_eq_getElem hl) p
      rw [List.getElem?_eq_getElem hl]
      simp only [e1]
      obtain ⟨r', s', e3, p3⟩ := forR_forM k (i + 1) r2 s2 P (by omega) p2 hs step hl
      refine ⟨r', s', ?_, p3⟩
      rcases e2 with e2 | e2 <;> (rw [e2]; exact e3)
    · have e : i = xs.length := by omega
      subst e
      rw [List.getElem?_eq_none (Nat.le_refl _)]
      exact ⟨r, s, rfl, p⟩
end
/-- a comprehension whose parts leave the store alone -/
theorem compM_items {g : Tg} {t : T} {e : E} {n : Nat} {r : Env} {s : S} (hn : n = s.length) (rr : D → Env) (p : D → Bool) (f : D → D) : ∀ (xs acc : List D),
    (∀ x ∈ xs, ∀ acc, g x r (s ++ [.lst acc]) = some (rr x, s ++ [.lst acc]) ∧ t (rr x) (s ++ [.lst acc]) = .ok (p x) (s ++ [.lst acc]) ∧ (p x = true → e (rr x) (s ++ [.lst acc]) = .ok (f x) (s ++ [.lst acc]))) →
    acc.length + xs.length ≤ 1000000 → compM g t e n xs r (s ++ [.lst acc]) = .ok (.ref n) (s ++ [.lst (acc ++ (xs.filter p).map f)])
  | [], acc, _, _ => by unfold compM; simp
  | x :: xs, acc, h, hl => by
    obtain ⟨h1, h2, h3⟩ := h x List.mem_cons_self acc
    rw [List.length_cons] at hl
    have ih := fun acc' hl' => compM_items hn rr p f xs acc' (fun y hy => h y (List.mem_cons_of_mem _ hy)) hl'
    unfold compM
    simp only [h1, h2]
    cases hp : p x with
    | false =>
      simp only
      rw [ih acc (by omega), List.filter_cons, hp]
      simp
    | true =>
      simp only [h3 hp]
      have ha : appendAt n (f x) (s ++ [.lst acc]) = some (s ++ [.lst (acc ++ [f x])]) := by
        unfold appendAt
        subst hn
        simp only [List.getElem?_concat_length]
        rw [if_pos (show acc.length < LINE from by unfold LINE; omega)]
        simp
      simp only [ha]
      rw [ih (acc ++ [f x]) (by rw [List.length_append, List.length_singleton]; omega), List.filter_cons, hp]
      simp
theorem eLc_items {it : IW} {g : Tg} {t : T} {e : E} {own : List Nat} {r : Env} {s s1 : S} {xs : List D} (hit : it r s = .ok (.items xs) s1) (rr : D → Env) (p : D → Bool) (f : D → D)
    (h : ∀ x ∈ xs, ∀ acc, g x (wipeD r own) (s1 ++ [.lst acc]) = some (rr x, s1 ++ [.lst acc]) ∧ t (rr x) (s1 ++ [.lst acc]) = .ok (p x) (s1 ++ [.lst acc]) ∧ (p x = true → e (rr x) (s1 ++ [.lst acc]) = .ok (f x) (s1 ++ [.lst acc]))) (hl : xs.length ≤ 1000000) :
    eLc it g t e own r s = .ok (.ref s1.length) (s1 ++ [.lst ((xs.filter p).map f)]) := by
  unfold eLc
  rw [hit]
  show compM g t e s1.length xs (wipeD r own) (s1 ++ [.lst []]) = _
  rw [compM_items rfl rr p f xs [] h (by simpa using hl), List.nil_append]

/-! ### loops as goals -/
def Nx (P : Env → S → Prop) (f : F) : Prop := ∃ r s, (f = .nx r s ∨ f = .ct r s) ∧ P r s
theorem Nx_nx {P : Env → S → Prop} {r : Env} {s : S} (h : P r s) : Nx P (.nx r s) := ⟨r, s, .inl rfl, h⟩
theorem Nx_ct {P : Env → S → Prop} {r : Env} {s : S} (h : P r s) : Nx P (.ct r s) := ⟨r, s, .inr rfl, h⟩
theorem forM_nx {g : Tg} {b : Sm} {xs : List D} {r : Env} {s : S} (P : Nat → Env → S → Prop) (h0 : P 0 r s)
    (step : ∀ j x r s, xs[j]? = some x → P j r s → ∃ r1 s1, g x r s = some (r1, s1) ∧ ∀ Q : Env → S → Prop, (∀ r s, P (j + 1) r s → Q r s) → Nx Q (b r1 s1)) :
    ∃ r' s', forM g b xs r s = .nx r' s' ∧ P xs.length r' s' := by
  obtain ⟨r', s', e, p⟩ := forM_inv (g := g) (b := b) P xs 0 r s h0 fun j x r s hx hp => by
    rw [Nat.zero_add] at hp
    obtain ⟨r1, s1, e1, q⟩ := step j x r s hx hp
    obtain ⟨r2, s2, e2, p2⟩ := q _ fun _ _ h => h
    exact ⟨r1, s1, r2, s2, e1, e2, by rw [Nat.zero_add]; exact p2⟩
  exact ⟨r', s', e, by rwa [Nat.zero_add] at p⟩
theorem for_out {g : Tg} {b : Sm} {xs : List D} {r : Env} {s : S} {k : Env → S → F} {d : D} (P : Nat → Env → S → Prop) (h0 : P 0 r s)
    (step : ∀ j x r s, xs[j]? = some x → P j r s → ∃ r1 s1, g x r s = some (r1, s1) ∧ ∀ Q : Env → S → Prop, (∀ r s, P (j + 1) r s → Q r s) → Nx Q (b r1 s1))
    (fin : ∀ r' s', P xs.length r' s' → ∃ s2, (k r' s').out = .ok d s2) : ∃ s2, ((forM g b xs r s).andThen k).out = .ok d s2 := by
  obtain ⟨r', s', e, p⟩ := forM_nx P h0 step
  rw [e]; exact fin r' s' p
theorem for_nx {g : Tg} {b : Sm} {xs : List D} {r : Env} {s : S} {k : Env → S → F} {Q : Env → S → Prop} (P : Nat → Env → S → Prop) (h0 : P 0 r s)
    (step : ∀ j x r s, xs[j]? = some x → P j r s → ∃ r1 s1, g x r s = some (r1, s1) ∧ ∀ Q : Env → S → Prop, (∀ r s, P (j + 1) r s → Q r s) → Nx Q (b r1 s1))
    (fin : ∀ r' s', P xs.length r' s' → Nx Q (k r' s')) : Nx Q ((forM g b xs r s).andThen k) := by
  obtain ⟨r', s', e, p⟩ := forM_nx P h0 step
  rw [e]; exact fin r' s' p
theorem nx_then {f : F} {k : Env → S → F} {Q : Env → S → Prop} (P1 : Env → S → Prop) (h : ∀ Q : Env → S → Prop, (∀ r s, P1 r s → Q r s) → ∃ r s, f = .nx r s ∧ Q r s) (h2 : ∀ r s, P1 r s → Nx Q (k r s)) : Nx Q (f.andThen k) := by
  obtain ⟨r, s, rfl, p⟩ := h P1 fun _ _ h => h
  exact h2 r s p
@[simp] theorem ap_zPar3 {i j l : Nat} {a b c : E} {r : Env} {s : S} : zPar3 i j l a b c r s = (a r s).then r fun x s1 => (b r s1).then r fun y s2 => (c r s2).then r fun z s3 => if i < r.length ∧ j < r.length ∧ l < r.length then .nx (((r.set i x).set j y).set l z) s3 else .stk := rfl
theorem while_nx {c : T} {b : Sm} {r : Env} {s : S} {k : Env → S → F} {Q : Env → S → Prop} (P : Env → S → Prop) (Z : Env → S → Prop) (μ : Env → S → Nat) (h : P r s) (hm : μ r s < 1000000000000)
    (step : ∀ r s, P r s → ∃ k s1, c r s = .ok k s1 ∧ (k = false → Z r s1) ∧ (k = true → ∀ Q : Env → S → Prop, (∀ r2 s2, P r2 s2 → μ r2 s2 < μ r s → Q r2 s2) → Nx Q (b r s1)))
    (fin : ∀ r' s', Z r' s' → Nx Q (k r' s')) : Nx Q ((zWhile c b r s).andThen k) := by
  obtain ⟨r', s', e, z⟩ := zWhile_inv (c := c) (b := b) P Z μ (fun r s hp => by
    obtain ⟨k, s1, e, h1, h2⟩ := step r s hp
    exact ⟨k, s1, e, h1, fun hk => by
      obtain ⟨r2, s2, e2, p2, m2⟩ := h2 hk (fun r2 s2 => P r2 s2 ∧ μ r2 s2 < μ r s) fun _ _ a b => ⟨a, b⟩
      exact ⟨r2, s2, e2, p2, m2⟩⟩) h hm
  rw [e]; exact fin r' s' z
/-- a loop that counts up one number -/
theorem while_cnt {c : T} {b : Sm} (E : Int → Env) {s : S} (p : Int → Bool) {h0 hi : Int} (h01 : h0 ≤ hi) (hw : hi - h0 < 900000000000) (hend : p hi = false)
    (hc : ∀ h, h0 ≤ h → h ≤ hi → c (E h) s = .ok (p h) s) (hb : ∀ h, h0 ≤ h → h < hi → p h = true → b (E h) s = .nx (E (h + 1)) s) :
    ∃ m, h0 ≤ m ∧ m ≤ hi ∧ p m = false ∧ (∀ k, h0 ≤ k → k < m → p k = true) ∧ zWhile c b (E h0) s = .nx (E m) s := by
  have key : ∀ (n : Nat) (h : Int), h0 ≤ h → h ≤ hi → (hi - h).toNat < n → (∀ k, h0 ≤ k → k < h → p k = true) → ∃ m, h0 ≤ m ∧ m ≤ hi ∧ p m = false ∧ (∀ k, h0 ≤ k → k < m → p k = true) ∧ whileM c b n (E h) s = .nx (E m) s := by
    intro n
    induction n with
    | zero => intro h _ _ hn _; omega
    | succ n ih =>
      intro h a1 a2 a3 a4
      unfold whileM
      simp only [hc h a1 a2, then_ok]
      cases hp : p h with
      | false => exact ⟨h, a1, a2, hp, a4, by simp⟩
      | true =>
        have hne : h ≠ hi := by rintro rfl; rw [hend] at hp; cases hp
        obtain ⟨m, m1, m2, m3, m4, m5⟩ := ih (h + 1) (by omega) (by omega) (by omega) fun k k1 k2 => by
          by_cases hk : k = h
          · rw [hk]; exact hp
          · exact a4 k k1 (by omega)
        exact ⟨m, m1, m2, m3, m4, by simp [hb h a1 (by omega) hp, m5]⟩
  exact key FUEL h0 (Int.le_refl _) h01 (by have h1 := B1_fuel; have h2 := B01; have h3 := B0_big; omega) (fun k k1 k2 => by omega)
theorem while_cnt_nx {c : T} {b : Sm} (E : Int → Env) {s : S} (p : Int → Bool) {h0 hi : Int} {k : Env → S → F} {Q : Env → S → Prop} (h01 : h0 ≤ hi) (hw : hi - h0 < 900000000000) (hend : p hi = false)
    (hc : ∀ h, h0 ≤ h → h ≤ hi → c (E h) s = .ok (p h) s) (hb : ∀ h, h0 ≤ h → h < hi → p h = true → b (E h) s = .nx (E (h + 1)) s)
    (fin : ∀ m, h0 ≤ m → m ≤ hi → p m = false → (∀ k, h0 ≤ k → k < m → p k = true) → Nx Q (k (E m) s)) : Nx Q ((zWhile c b (E h0) s).andThen k) := by
  obtain ⟨m, m1, m2, m3, m4, e⟩ := while_cnt (c := c) (b := b) E p h01 hw hend hc hb
  rw [e]; exact fin m m1 m2 m3 m4
@[simp] theorem ap_eMe {ck : D → S → Bool} {p : PM} {a : E} {as : A} {r : Env} {s : S} : eMe ck p a as r s = (a r s).bind fun x s1 => if ck x s1 = true then (as r s1).bind fun xs s2 => p x xs s2 else .stk := rfl
@[simp] theorem ap_eMe0 {ck : D → S → Bool} {p : PM} {a : E} {r : Env} {s : S} : eMe0 ck p a r s = (a r s).bind fun x s1 => if ck x s1 = true then p x [] s1 else .stk := rfl
theorem callK_tup {f : Fn} {ds : List D} {s g : S} {xs : List D} (hp : D.pureL ds = true) (h : f ds [] = .ok (.tup xs) g) (hd : D.pureL xs = true) : callK f ds s = .ok (.tup xs) s := callK_val hp h (by show D.pureL xs = true; exact hd)
end Y

/-! YN: the defs that many laws share, and what they come to. -/
namespace YN
open Y
open PySem (Str PyData)
def b_fits_whole : Sm :=
  (zRet (eAnd (e1 (oIsI .int) (eV 0)) (eAnd (eNot (e1 (oIsI .bool) (eV 0))) (eCh oLe oLe (eV 1) (eV 0) (eV 2)))))
def D_fits_whole : Fn := mkFn 3 3 b_fits_whole
def b_need_whole : Sm :=
  (zIf (tNot (tst (eCallK 3 D_fits_whole (aC (eV 0) (aC (eV 1) (aC (eV 2) aN))))))
     (zRaise 1)
     zNil)
def D_need_whole : Fn := mkFn 3 3 b_need_whole
def b_root_in : Sm :=
  (zCons (zIf (tst (e2 oEq (eV 0) (eC (.int 0))))
     (zRet (eC (.int 0)))
     zNil)
    (zCons (zSet (gT (gsC (gV 1) (gsC (gV 2) gsN))) (eTup (aC (eC (.int 1)) (aC (eC (.int 1)) aN))))
    (zCons (zWhile (tst (e2 oLe (e2 oMul (eV 2) (eV 2)) (eV 0)))
     (zSet (gV 2) (e2 oMul (eC (.int 2)) (eV 2))))
    (zCons (zWhile (tst (e2 oGt (e2 oSub (eV 2) (eV 1)) (eC (.int 1))))
     (zCons (zSet (gV 3) (e2 oDiv (e2 oAdd (eV 1) (eV 2)) (eC (.int 2))))
    (zSet (gT (gsC (gV 1) (gsC (gV 2) gsN))) (eIf (tst (e2 oLe (e2 oMul (eV 3) (eV 3)) (eV 0))) (eTup (aC (eV 3) (aC (eV 2) aN))) (eTup (aC (eV 1) (aC (eV 3) aN)))))))
    (zRet (eV 1))))))
def D_root_in : Fn := mkFn 4 1 b_root_in
def b__law_cup (k1 k2 k3 k4 k5 : Int) : Sm :=
  (zCons (zSet (gV 1) (eN bAbs (aC (e2 oIx (e2 oAdd (eN bList (aC (eV 0) aN)) (eLst (aC (eC (.int 0)) aN))) (eC (.int 0))) aN)))
    (zRet (eLst (aC (eIf (tst (e2 oGe (eV 1) (e2 oPow (eC (.int 10)) (eC (.int 18))))) (e2 oDiv (eV 1) (eC (.int k1))) (eC (.int 0))) (aC (e2 oAdd (e2 oMod (eN bInt (aC (e2 oAdd (e2 oMul (eV 1) (eC (.int k2))) (eC (.int k3))) aN)) (eC (.int k4))) (eC (.int k5))) aN)))))
def D__law_cup (k1 k2 k3 k4 k5 : Int) : Fn := mkFn 2 1 (b__law_cup k1 k2 k3 k4 k5)
def b__law_roll (k1 k2 k3 k4 : Int) : Sm :=
  (zCons (zIf (tst (e2 oGt (e2 oIx (eV 0) (eC (.int 0))) (eC (.int 0))))
     (zCons (zSet (gV 2) (e2 oMod (eN bInt (aC (e2 oIx (eV 0) (eC (.int 0))) aN)) (eV 1)))
    (zCons (zPutL (eV 0) (eC (.int 0)) (e2 oDiv (e2 oIx (eV 0) (eC (.int 0))) (eV 1)))
    (zRet (eV 2))))
     zNil)
    (zCons (zPutL (eV 0) (eC (.int 1)) (e2 oMod (eN bInt (aC (e2 oAdd (e2 oMul (e2 oIx (eV 0) (eC (.int 1))) (eC (.int k1))) (eC (.int k2))) aN)) (eC (.int 2147483423))))
    (zCons (zSet (gV 3) (e2 oMod (eN bInt (aC (e2 oMul (e2 oIx (eV 0) (eC (.int 1))) (e2 oAdd (e2 oIx (eV 0) (eC (.int 1))) (eC (.int k3)))) aN)) (eC (.int 2147483587))))
    (zRet (e2 oMod (eN bInt (aC (e2 oDiv (eV 3) (eC (.int k4))) aN)) (eV 1))))))
def D__law_roll (k1 k2 k3 k4 : Int) : Fn := mkFn 4 2 (b__law_roll k1 k2 k3 k4)
def b__law_same (self : Fn) : Sm :=
  (zCons (zIf (tOr (tst (e1 (oIsI .tuple) (eV 1))) (tst (e1 (oIsI .list) (eV 1))))
     (zCons (zIf (tOr (tst (e2 oNe (e1 (oIsI .tuple) (eV 0)) (e1 (oIsI .tuple) (eV 1)))) (tOr (tst (e2 oNe (e1 (oIsI .list) (eV 0)) (e1 (oIsI .list) (eV 1)))) (tst (e2 oNe (eN bLen (aC (eV 0) aN)) (eN bLen (aC (eV 1) aN))))))
     (zRet (eC (.bl false)))
     zNil)
    (zRet (e2 oEq (eLc (iRng1 (eN bLen (aC (eV 1) aN))) (gV 2) (tNot (tst (eCallK 2 self (aC (e2 oIx (eV 0) (eV 2)) (aC (e2 oIx (eV 1) (eV 2)) aN))))) (eC (.int 1)) [2]) (eLst aN))))
     zNil)
    (zCons (zIf (tst (e1 oIsN (eV 1)))
     (zRet (e1 oIsN (eV 0)))
     zNil)
    (zCons (zIf (tst (e1 (oIsI .bool) (eV 1)))
     (zRet (eIf (tst (eV 1)) (e2 oIsB (eV 0) (eC (.bl true))) (e2 oIsB (eV 0) (eC (.bl false)))))
     zNil)
    (zCons (zIf (tst (e1 (oIsI .int) (eV 1)))
     (zRet (eAnd (e1 (oIsI .int) (eV 0)) (eAnd (eNot (e1 (oIsI .bool) (eV 0))) (e2 oEq (eN bInt (aC (eV 0) aN)) (eV 1)))))
     zNil)
    (zRet (eAnd (e1 (oIsI .str) (eV 0)) (e2 oEq (eN bStr (aC (eV 0) aN)) (eV 1))))))))
def D__law_same : Nat → Fn
  | 0 => fun _ _ => .stk
  | n + 1 => mkFn 3 2 (b__law_same (D__law_same n))

def b__law_power : Sm :=
  (zCons (zSet (gV 2) (eC (.int 1)))
    (zCons (zFor (iRng1 (eV 1)) (gV 3)
     (zSet (gV 2) (e2 oMul (eV 2) (eV 0))))
    (zRet (eV 2))))
def D__law_power : Fn := mkFn 4 2 b__law_power
def b_power_in : Sm :=
  (zCons (zSet (gV 2) (eC (.int 1)))
    (zCons (zFor (iRng1 (eV 1)) (gV 3)
     (zSet (gV 2) (e2 oMul (eV 2) (eV 0))))
    (zRet (eV 2))))
def D_power_in : Fn := mkFn 4 2 b_power_in
def b__law_root : Sm :=
  (zCons (zIf (tst (e2 oEq (eV 0) (eC (.int 0))))
     (zRet (eC (.int 0)))
     zNil)
    (zCons (zSet (gV 1) (eCallK 2 D__law_power (aC (eC (.int 2)) (aC (e2 oMul (eN bLen (aC (eN bStr (aC (eV 0) aN)) aN)) (eC (.int 2))) aN))))
    (zCons (zWhile (tst (e2 oGt (e2 oMul (eV 1) (eV 1)) (eV 0)))
     (zSet (gV 1) (eN bInt (aC (e2 oDiv (e2 oAdd (eV 1) (e2 oDiv (eV 0) (eV 1))) (eC (.int 2))) aN))))
    (zRet (eV 1)))))
def D__law_root : Fn := mkFn 2 1 b__law_root

/-! ### numbers -/
theorem fits_whole_ok {i lo hi : Int} {s : S} : D_fits_whole [.int i, .int lo, .int hi] s = .ok (.bl (decide (lo ≤ i ∧ i ≤ hi))) s := by
  unfold D_fits_whole
  rw [ap_mkFn (k := 3) (ds := [.int i, .int lo, .int hi]) rfl]
  unfold b_fits_whole
  by_cases h1 : lo ≤ i <;> by_cases h2 : i ≤ hi <;> simp [h1, h2]
theorem fits_whole_k {i lo hi : Int} {s : S} : callK D_fits_whole [.int i, .int lo, .int hi] s = .ok (.bl (decide (lo ≤ i ∧ i ≤ hi))) s := callK_val rfl fits_whole_ok rfl
theorem need_whole_k {i lo hi : Int} {s : S} (h1 : lo ≤ i) (h2 : i ≤ hi) : callK D_need_whole [.int i, .int lo, .int hi] s = .ok .non s := by
  refine callK_val rfl (g := []) ?_ rfl
  unfold D_need_whole
  rw [ap_mkFn (k := 3) (ds := [.int i, .int lo, .int hi]) rfl]
  unfold b_need_whole
  simp [fits_whole_k, h1, h2]
theorem pureL_mem {xs : List D} (h : D.pureL xs = true) : ∀ x ∈ xs, x.pure = true := pureL_all h
theorem set_same {α : Type} {s : List α} {a : Nat} {o : α} (h : s[a]? = some o) : s.set a o = s := by
  refine List.ext_getElem? fun k => ?_
  by_cases hk : a = k
  · subst hk; rw [List.getElem?_set_self (List.getElem?_eq_some_iff.mp h).1, h]
  · rw [List.getElem?_set_ne hk]
/-! ### draws -/
/-- the state of the draws -/
structure Cup (a b : Int) : Prop where
  a0 : 0 ≤ a
  b0 : 0 ≤ b
  b1 : b < 1099511627776
theorem roll_ok {k1 k2 k3 k4 a b m : Int} (h : Cup a b) (hm : 0 < m) (hm2 : m < 1000000000000) (g1 : 0 ≤ k1) (g2 : 0 ≤ k2) (g4 : 0 < k4 ∧ k4 < 1000000000) :
    ∃ r a' b', 0 ≤ r ∧ r < m ∧ Cup a' b' ∧ D__law_roll k1 k2 k3 k4 [.ref 0, .int m] [.lst [.int a, .int b]] = .ok (.int r) [.lst [.int a', .int b']] := by
  obtain ⟨a0, b0, b1⟩ := h
  unfold D__law_roll
  simp only [ap_mkFn (n := 4) (k := 2) (ds := [.ref 0, .int m]) rfl]
  unfold b__law_roll
  by_cases h1 : 0 < a
  · refine ⟨a % m, a / m, b, Int.emod_nonneg _ (by omega), Int.emod_lt_of_pos _ hm, ⟨Int.ediv_nonneg a0 (by omega), b0, b1⟩, ?_⟩
    simp [h1, v_modP hm, v_div64 hm (show m < 18446744073709551616 by omega), ixN]
  · have e1 : (0 : Int) ≤ b * k1 + k2 := Int.add_nonneg (Int.mul_nonneg b0 g1) g2
    have hb := Int.emod_nonneg (b * k1 + k2) (show (2147483423 : Int) ≠ 0 by decide)
    have hb2 := Int.emod_lt_of_pos (b * k1 + k2) (show (0 : Int) < 2147483423 by decide)
    generalize hb' : (b * k1 + k2) % 2147483423 = b' at hb hb2
    refine ⟨(b' * (b' + k3) % 2147483587 / k4) % m, a, b', Int.emod_nonneg _ (by omega), Int.emod_lt_of_pos _ hm, ⟨a0, hb, by omega⟩, ?_⟩
    simp [h1, v_mul64 (i := b) (by omega), v_mul64 (i := b') (by omega), v_modP, ixN, hb', v_div64 g4.1 (show k4 < 18446744073709551616 by omega), v_modP hm]
/-- a draw: the store's cup is turned on -/
theorem roll_k {k1 k2 k3 k4 a b m : Int} (h : Cup a b) (hm : 0 < m) (hm2 : m < 1000000000000) (g1 : 0 ≤ k1) (g2 : 0 ≤ k2) (g4 : 0 < k4 ∧ k4 < 1000000000) :
    ∃ r a' b', 0 ≤ r ∧ r < m ∧ Cup a' b' ∧ ∀ (n : Nat) (s : S), s[n]? = some (.lst [.int a, .int b]) → callK (D__law_roll k1 k2 k3 k4) [.ref n, .int m] s = .ok (.int r) (s.set n (.lst [.int a', .int b'])) := by
  obtain ⟨r, a', b', h1, h2, h3, h4⟩ := roll_ok (k3 := k3) h hm hm2 g1 g2 g4
  exact ⟨r, a', b', h1, h2, h3, fun n s hs => callK_ref rfl hs rfl h4 rfl rfl⟩
theorem ints_pure : ∀ ns : List Int, D.pureL (ns.map D.int) = true
  | [] => rfl
  | n :: ns => by
    show (D.pure (.int n) && D.pureL (ns.map D.int)) = true
    rw [ints_pure ns]; rfl
theorem cup_k {k1 k2 k3 k4 k5 : Int} (g1 : 0 < k1 ∧ k1 < 1000000000) (g2 : k2.natAbs < 1000000000) (g4 : 0 < k4 ∧ k4 < 100000000000) (g5 : 0 ≤ k5 ∧ k5 < 100000000000) (ns : List Int) (hl : ns.length ≤ 63) :
    ∃ a b, Cup a b ∧ ∀ s, callK (D__law_cup k1 k2 k3 k4 k5) [.frl (ns.map D.int)] s = .ok (.ref s.length) (s ++ [.lst [.int a, .int b]]) := by
  have hx : ∃ i, ((ns.map D.int) ++ [D.int 0])[0]? = some (.int i) := by
    cases ns with
    | nil => exact ⟨0, rfl⟩
    | cons n r => exact ⟨n, rfl⟩
  obtain ⟨i, hi⟩ := hx
  have ha : atD ((ns.map D.int) ++ [D.int 0]) 0 = some (.int i) := atD_nat (k := 0) hi
  have hc : (0 : Int) ≤ if i < 0 then -i else i := by split <;> omega
  generalize hcell : (if i < 0 then -i else i) = cell at hc
  refine ⟨if (1000000000000000000 : Int) ≤ cell then cell / k1 else 0, (cell * k2 + k3) % k4 + k5, ⟨?_, ?_, ?_⟩, fun s => ?_⟩
  · split
    · exact Int.ediv_nonneg hc (by omega)
    · omega
  · have := Int.emod_nonneg (cell * k2 + k3) (show k4 ≠ 0 by omega); omega
  · have := Int.emod_lt_of_pos (cell * k2 + k3) g4.1; omega
  · refine callK_new (g := [.lst (ns.map D.int), .lst [.int 0], .lst (ns.map D.int ++ [.int 0]), .lst [.int (if (1000000000000000000 : Int) ≤ cell then cell / k1 else 0), .int ((cell * k2 + k3) % k4 + k5)]]) (j := 3) ?_ ?_ rfl rfl
    · show (D.pure (.frl (ns.map D.int)) && true) = true
      rw [Bool.and_true]; exact ints_pure ns
    · unfold D__law_cup
      rw [ap_mkFn (n := 2) (k := 1) (ds := [.frl (ns.map D.int)]) rfl]
      unfold b__law_cup
      have hadd : oAdd (.ref 0) (.ref 1) [.lst (ns.map D.int), .lst [.int 0]] = .ok (.ref 2) [.lst (ns.map D.int), .lst [.int 0], .lst (ns.map D.int ++ [.int 0])] := by
        unfold oAdd
        simp
        unfold LINE; omega
      have hpow : oPow (.int 10) (.int 18) = fun s => .ok (.int 1000000000000000000) s := rfl
      by_cases hge : (1000000000000000000 : Int) ≤ cell
      · simp [hadd, ha, hcell, hpow, hge, v_mul64r (j := k2) (by omega), v_modP g4.1, v_div64 g1.1 (show k1 < 18446744073709551616 by omega)]
      · simp [hadd, ha, hcell, hpow, hge, v_mul64r (j := k2) (by omega), v_modP g4.1, v_div64 g1.1 (show k1 < 18446744073709551616 by omega)]
/-- a def that draws -/
def RollOk (f : Fn) : Prop := ∀ {a b m : Int}, Cup a b → 0 < m → m < 1000000000000 → ∃ r a' b', 0 ≤ r ∧ r < m ∧ Cup a' b' ∧ ∀ (n : Nat) (s : S), s[n]? = some (.lst [.int a, .int b]) → callK f [.ref n, .int m] s = .ok (.int r) (s.set n (.lst [.int a', .int b']))
theorem rollOk {k1 k2 k3 k4 : Int} (g1 : 0 ≤ k1) (g2 : 0 ≤ k2) (g4 : 0 < k4 ∧ k4 < 1000000000) : RollOk (D__law_roll k1 k2 k3 k4) := fun h hm hm2 => roll_k h hm hm2 g1 g2 g4
def b_someG (roll : Fn) : Sm := (zRet (e2 oIx (eV 1) (eCallK 2 roll (aC (eV 0) (aC (eN bLen (aC (eV 1) aN)) aN)))))
def D_someG (roll : Fn) : Fn := mkFn 2 2 (b_someG roll)
theorem some_run {f : Fn} (R : RollOk f) {a b : Int} (h : Cup a b) {xs : List D} (h0 : 0 < xs.length) (h1 : xs.length < 1000000) {d : D} {s0 : List O} (hl : ∀ o, seqX d (o :: s0) = some xs) (hd : d ≠ .undef) (hd2 : ∀ o, bLen [d] (o :: s0) = .ok (.int xs.length) (o :: s0)) :
    ∃ k a' b', ∃ (hk : k < xs.length), Cup a' b' ∧ D_someG f [.ref 0, d] (.lst [.int a, .int b] :: s0) = .ok xs[k] (.lst [.int a', .int b'] :: s0) := by
  obtain ⟨r, a', b', r0, r1, hc, hr⟩ := R h (show (0 : Int) < (xs.length : Int) by omega) (by omega)
  refine ⟨r.toNat, a', b', by omega, hc, ?_⟩
  unfold D_someG
  rw [ap_mkFn (k := 2) (ds := [.ref 0, d]) rfl]
  unfold b_someG
  have e := hr 0 (.lst [.int a, .int b] :: s0) rfl
  have e2 : atD xs r = some xs[r.toNat] := by
    have := atD_nat (List.getElem?_eq_getElem (show r.toNat < xs.length by omega))
    rwa [Int.toNat_of_nonneg r0] at this
  simp [eV_any hd, hd2, e, ix_seq, hl, e2]
/-- one of a tuple -/
theorem some_tup {f : Fn} (R : RollOk f) {a b : Int} (h : Cup a b) {xs : List D} (h0 : 0 < xs.length) (h1 : xs.length < 1000000) (hp : D.pureL xs = true) :
    ∃ k a' b', ∃ (hk : k < xs.length), Cup a' b' ∧ ∀ (n : Nat) (s : S), s[n]? = some (.lst [.int a, .int b]) → callK (D_someG f) [.ref n, .tup xs] s = .ok xs[k] (s.set n (.lst [.int a', .int b'])) := by
  obtain ⟨k, a', b', hk, hc, e⟩ := some_run R h h0 h1 (d := .tup xs) (s0 := []) (fun _ => rfl) (by simp) (fun _ => rfl)
  exact ⟨k, a', b', hk, hc, fun n s hs => callK_ref (by show (D.pure (.tup xs) && true) = true; rw [Bool.and_true]; exact hp) hs rfl e rfl (pureL_mem hp _ (List.getElem_mem hk))⟩
/-- one of a list -/
theorem some_lst {f : Fn} (R : RollOk f) {a b : Int} (h : Cup a b) {xs : List D} (h0 : 0 < xs.length) (h1 : xs.length < 1000000) (hp : D.pureL xs = true) :
    ∃ k a' b', ∃ (hk : k < xs.length), Cup a' b' ∧ ∀ (n m : Nat) (s : S), n ≠ m → s[n]? = some (.lst [.int a, .int b]) → s[m]? = some (.lst xs) → callK (D_someG f) [.ref n, .ref m] s = .ok xs[k] (s.set n (.lst [.int a', .int b'])) := by
  obtain ⟨k, a', b', hk, hc, e⟩ := some_run R h h0 h1 (d := .ref 1) (s0 := [.lst xs]) (fun o => by simp) (by simp) (fun o => by simp)
  refine ⟨k, a', b', hk, hc, fun n m s hnm hs hm => ?_⟩
  have px := pureL_mem hp _ (List.getElem_mem hk)
  have pu : (O.lst xs).pure = true := hp
  have p1 : (O.lst [.int a, .int b]).pure = true := rfl
  have p2 : (O.lst [.int a', .int b']).pure = true := rfl
  have hm' : (s.set n (.lst [.int a', .int b']))[m]? = some (.lst xs) := by rw [List.getElem?_set_ne hnm]; exact hm
  unfold callK
  simp only [refsOf, renum, nodupN, List.contains_cons, List.contains_nil, Bool.or_false, Bool.not_false, Bool.and_true, beq_eq_false_iff_ne.mpr hnm, List.all_cons, List.all_nil, argOk, and_self, if_true, getAll, hs, hm, pu, p1, e, List.length_cons, List.length_nil, List.take_succ_cons, List.take_zero, p2, putAll, set_same hm', Bool.true_and]
  generalize xs[k] = y at px
  cases y <;> first | (simp only [px, if_true]; done) | (simp only [D.pure] at px; exact absurd px Bool.false_ne_true) | simp [D.pure]
/-! ### two plain values alike -/
mutual
/-- a value that is compared with itself: tuples, numbers, texts, to a depth -/
def dep : D → Nat
  | .tup xs => depL xs + 1
  | _ => 0
def depL : List D → Nat
  | [] => 0
  | x :: xs => max (dep x) (depL xs)
end
mutual
def plainD : D → Bool
  | .non => true
  | .bl _ => true
  | .int _ => true
  | .tup xs => plainL xs && decide (xs.length ≤ 1000000)
  | _ => false
def plainL : List D → Bool
  | [] => true
  | x :: xs => plainD x && plainL xs
end
theorem plainL_mem : ∀ {xs : List D}, plainL xs = true → ∀ x ∈ xs, plainD x = true
  | [], _, _, h => by cases h
  | y :: xs, h, x, hx => by
    unfold plainL at h
    rw [Bool.and_eq_true] at h
    rcases List.mem_cons.mp hx with e | e
    · rw [e]; exact h.1
    · exact plainL_mem h.2 x e
mutual
theorem plain_pure : ∀ {d : D}, plainD d = true → d.pure = true
  | .non, _ => rfl
  | .bl _, _ => rfl
  | .int _, _ => rfl
  | .tup xs, h => by
    unfold plainD at h
    rw [Bool.and_eq_true] at h
    exact plainL_pure h.1
  | .undef, h => h
  | .str _, h => absurd h (by unfold plainD; exact Bool.false_ne_true)
  | .ref _, h => h
  | .fn _, h => absurd h (by unfold plainD; exact Bool.false_ne_true)
  | .frl _, h => absurd h (by unfold plainD; exact Bool.false_ne_true)
theorem plainL_pure : ∀ {ds : List D}, plainL ds = true → D.pureL ds = true
  | [], _ => rfl
  | d :: ds, h => by
    unfold plainL at h
    rw [Bool.and_eq_true] at h
    show (d.pure && D.pureL ds) = true
    rw [plain_pure h.1, plainL_pure h.2]; rfl
end
theorem depL_mem : ∀ {xs : List D}, ∀ x ∈ xs, dep x ≤ depL xs
  | [], _, h => by cases h
  | y :: xs, x, hx => by
    unfold depL
    rcases List.mem_cons.mp hx with e | e
    · rw [e]; exact Nat.le_max_left _ _
    · exact Nat.le_trans (depL_mem x e) (Nat.le_max_right _ _)
theorem plain_ne {d : D} (h : plainD d = true) : d ≠ .undef := by
  rintro rfl
  exact absurd h (by unfold plainD; exact Bool.false_ne_true)
@[simp] theorem eq_nil2 {s : S} {a b : Nat} (h1 : s[a]? = some (.lst [])) (h2 : s[b]? = some (.lst [])) : oEq (.ref a) (.ref b) s = .ok (.bl true) s := by
  unfold oEq eqD
  simp [D.py, h1, h2, mapO, PySem.SeqAt.shaped, PyData.canLay0, PyData.canLayAll0, PyData.depth, PyData.depthAll, PyData.eqv, PyData.eqvAll]
@[simp] theorem v_neB {a b : Bool} {s : S} : oNe (.bl a) (.bl b) s = .ok (.bl (a != b)) s := by
  unfold oNe eqD
  simp [D.py, PySem.SeqAt.shaped, PyData.canLay0, PyData.depth, PyData.eqv]
  cases a <;> cases b <;> rfl
theorem lt_of_get {xs : List D} {k : Nat} {x : D} (h : xs[k]? = some x) : k < xs.length := (List.getElem?_eq_some_iff.mp h).1
/-- items at places -/
theorem same_items {self : Fn} {told due : D} {xs : List D} {s : S} (hlen : xs.length ≤ 1000000) (hl : bLen [due] s = .ok (.int xs.length) s) (ht : ∀ acc, seqX told (s ++ [.lst acc]) = some xs) (hd : ∀ acc, seqX due (s ++ [.lst acc]) = some xs) (nt : told ≠ .undef) (nd : due ≠ .undef)
    (h : ∀ x ∈ xs, ∀ s, callK self [x, x] s = .ok (.bl true) s) :
    eLc (iRng1 (eN bLen (aC (eV 1) aN))) (gV 2) (tNot (tst (eCallK 2 self (aC (e2 oIx (eV 0) (eV 2)) (aC (e2 oIx (eV 1) (eV 2)) aN))))) (eC (.int 1)) [2] [told, due, .undef] s = .ok (.ref s.length) (s ++ [.lst []]) := by
  have hit : iRng1 (eN bLen (aC (eV 1) aN)) [told, due, .undef] s = .ok (.items (range2 0 xs.length)) s := ap_iRng1 (by simp [eV_any nd, hl]) (by omega)
  rw [eLc_items (xs := range2 0 xs.length) hit (fun x => [told, due, x]) (fun _ => false) (fun _ => .int 1) (fun x hx acc => ?_) (by rw [range2_len]; omega)]
  · simp
  · obtain ⟨k, hk⟩ := List.getElem?_of_mem hx
    obtain ⟨rfl, hk2⟩ := range2_get hk
    have hk3 : k < xs.length := by omega
    have e : atD xs (k : Int) = some xs[k] := atD_nat (List.getElem?_eq_getElem hk3)
    refine ⟨by simp [wipeD], ?_, fun q => by cases q⟩
    simp [eV_any nt, eV_any nd, ix_seq, ht, hd, e, h xs[k] (List.getElem_mem hk3)]
theorem same_n : ∀ (n : Nat) (d : D) (s : S), plainD d = true → dep d ≤ n → ∃ g, D__law_same (n + 1) [d, d] s = .ok (.bl true) g := by
  intro n
  induction n with
  | zero =>
    intro d s hp hd
    show ∃ g, mkFn 3 2 (b__law_same (D__law_same 0)) [d, d] s = _
    rw [ap_mkFn (k := 2) (ds := [d, d]) rfl]
    unfold b__law_same
    cases d with
    | non => exact ⟨s, by simp⟩
    | bl b => cases b <;> exact ⟨s, by simp [oIsB]⟩
    | int i => exact ⟨s, by simp⟩
    | tup xs => unfold dep at hd; omega
    | _ => exact absurd hp (by unfold plainD; exact Bool.false_ne_true)
  | succ n ih =>
    intro d s hp hd
    show ∃ g, mkFn 3 2 (b__law_same (D__law_same (n + 1))) [d, d] s = _
    rw [ap_mkFn (k := 2) (ds := [d, d]) rfl]
    unfold b__law_same
    cases d with
    | non => exact ⟨s, by simp⟩
    | bl b => cases b <;> exact ⟨s, by simp [oIsB]⟩
    | int i => exact ⟨s, by simp⟩
    | tup xs =>
      unfold plainD at hp
      rw [Bool.and_eq_true] at hp
      have hlen : xs.length ≤ 1000000 := of_decide_eq_true hp.2
      unfold dep at hd
      have hx : ∀ x ∈ xs, ∀ s, callK (D__law_same (n + 1)) [x, x] s = .ok (.bl true) s := fun x hx s => by
        have px := plainL_mem hp.1 x hx
        obtain ⟨g, hg⟩ := ih x [] px (by have := depL_mem x hx; omega)
        refine callK_val ?_ hg rfl
        show (x.pure && (x.pure && true)) = true
        rw [plain_pure px]; rfl
      have key := same_items (self := D__law_same (n + 1)) (told := .tup xs) (due := .tup xs) (xs := xs) (s := s) hlen rfl (fun _ => rfl) (fun _ => rfl) (by simp) (by simp) hx
      refine ⟨s ++ [.lst []] ++ [.lst []], ?_⟩
      simp [key]
    | _ => exact absurd hp (by unfold plainD; exact Bool.false_ne_true)
/-- one value twice -/
theorem same_k {n : Nat} {d : D} {s : S} (hp : plainD d = true) (hd : dep d ≤ n) : callK (D__law_same (n + 1)) [d, d] s = .ok (.bl true) s := by
  obtain ⟨g, hg⟩ := same_n n d [] hp hd
  refine callK_val ?_ hg rfl
  show (d.pure && (d.pure && true)) = true
  rw [plain_pure hp]; rfl
/-- two lists of the same -/
theorem same_list {n : Nat} {xs : List D} {s : S} {a b : Nat} (hab : a ≠ b) (ha : s[a]? = some (.lst xs)) (hb : s[b]? = some (.lst xs)) (hl : xs.length ≤ 1000000) (hp : plainL xs = true) (hd : depL xs ≤ n) : callK (D__law_same (n + 2)) [.ref a, .ref b] s = .ok (.bl true) s := by
  have hx : ∀ x ∈ xs, ∀ s, callK (D__law_same (n + 1)) [x, x] s = .ok (.bl true) s := fun x hx s => same_k (plainL_mem hp x hx) (by have := depL_mem x hx; omega)
  have key := same_items (self := D__law_same (n + 1)) (told := .ref 0) (due := .ref 1) (xs := xs) (s := [.lst xs, .lst xs]) hl (by simp) (fun _ => by simp) (fun _ => by simp) (by simp) (by simp) hx
  have run : D__law_same (n + 2) [.ref 0, .ref 1] [.lst xs, .lst xs] = .ok (.bl true) [.lst xs, .lst xs, .lst [], .lst []] := by
    show mkFn 3 2 (b__law_same (D__law_same (n + 1))) [.ref 0, .ref 1] _ = _
    rw [ap_mkFn (k := 2) (ds := [.ref 0, .ref 1]) rfl]
    unfold b__law_same
    simp [key, oIsI, isTy]
  have pu : (O.lst xs).pure = true := plainL_pure hp
  unfold callK
  simp [refsOf, renum, argOk, nodupN, hab, getAll, ha, hb, pu, run, putAll, D.pure]
  rw [set_same ha, set_same hb]
/-! ### plain values compared -/
mutual
def pyP : D → PyData
  | .bl b => .bool b
  | .int i => .int i
  | .tup xs => .tuple (pyPL xs)
  | _ => .none
def pyPL : List D → List PyData
  | [] => []
  | x :: xs => pyP x :: pyPL xs
end
theorem mapO_plain {s : S} {k : Nat} (h : ∀ d, plainD d = true → dep d ≤ k → D.py s k d = some (pyP d)) : ∀ xs : List D, plainL xs = true → depL xs ≤ k → mapO (D.py s k) xs = some (pyPL xs)
  | [], _, _ => rfl
  | x :: xs, hp, hd => by
    unfold plainL at hp
    rw [Bool.and_eq_true] at hp
    unfold depL at hd
    unfold mapO
    rw [h x hp.1 (by omega), mapO_plain h xs hp.2 (by omega)]
    rfl
theorem py_plain {s : S} : ∀ (k : Nat) (d : D), plainD d = true → dep d ≤ k → D.py s k d = some (pyP d)
  | 0, d, hp, hd => by
    cases d with
    | non => rfl
    | bl b => rfl
    | int i => rfl
    | tup xs => unfold dep at hd; omega
    | _ => exact absurd hp (by unfold plainD; exact Bool.false_ne_true)
  | k + 1, d, hp, hd => by
    cases d with
    | non => rfl
    | bl b => rfl
    | int i => rfl
    | tup xs =>
      unfold plainD at hp
      rw [Bool.and_eq_true] at hp
      unfold dep at hd
      show (mapO (D.py s k) xs).map PyData.tuple = _
      rw [mapO_plain (fun d => py_plain k d) xs hp.1 (by omega)]
      rfl
    | _ => exact absurd hp (by unfold plainD; exact Bool.false_ne_true)
mutual
theorem lay_plain : ∀ d : D, plainD d = true → (pyP d).canLay0 = true ∧ (pyP d).depth = dep d
  | .non, _ => ⟨rfl, rfl⟩
  | .bl _, _ => ⟨rfl, rfl⟩
  | .int _, _ => ⟨rfl, rfl⟩
  | .tup xs, h => by
    unfold plainD at h
    rw [Bool.and_eq_true] at h
    obtain ⟨h1, h2⟩ := layL_plain xs h.1
    refine ⟨?_, ?_⟩
    · show PyData.canLayAll0 (pyPL xs) = true
      exact h1
    · show PyData.depthAll (pyPL xs) + 1 = depL xs + 1
      rw [h2]
  | .undef, h => absurd h (by unfold plainD; exact Bool.false_ne_true)
  | .str _, h => absurd h (by unfold plainD; exact Bool.false_ne_true)
  | .ref _, h => absurd h (by unfold plainD; exact Bool.false_ne_true)
  | .fn _, h => absurd h (by unfold plainD; exact Bool.false_ne_true)
  | .frl _, h => absurd h (by unfold plainD; exact Bool.false_ne_true)
theorem layL_plain : ∀ xs : List D, plainL xs = true → PyData.canLayAll0 (pyPL xs) = true ∧ PyData.depthAll (pyPL xs) = depL xs
  | [], _ => ⟨rfl, rfl⟩
  | x :: xs, h => by
    unfold plainL at h
    rw [Bool.and_eq_true] at h
    obtain ⟨a1, a2⟩ := lay_plain x h.1
    obtain ⟨b1, b2⟩ := layL_plain xs h.2
    refine ⟨?_, ?_⟩
    · show ((pyP x).canLay0 && PyData.canLayAll0 (pyPL xs)) = true
      rw [a1, b1]; rfl
    · show max (pyP x).depth (PyData.depthAll (pyPL xs)) = max (dep x) (depL xs)
      rw [a2, b2]
end
theorem shaped_plain {d : D} (h : plainD d = true) (hd : dep d ≤ 64) : PySem.SeqAt.shaped (pyP d) = true := by
  obtain ⟨a, b⟩ := lay_plain d h
  unfold PySem.SeqAt.shaped
  rw [a, b]
  simpa using hd
theorem eq_plain {x y : D} {s : S} (hx : plainD x = true) (hy : plainD y = true) (dx : dep x ≤ 20) (dy : dep y ≤ 20) : oEq x y s = .ok (.bl (PyData.eqv (pyP x) (pyP y))) s := by
  unfold oEq eqD
  rw [py_plain 20 x hx dx, py_plain 20 y hy dy]
  simp [shaped_plain hx (by omega), shaped_plain hy (by omega)]
theorem ne_plain {x y : D} {s : S} (hx : plainD x = true) (hy : plainD y = true) (dx : dep x ≤ 20) (dy : dep y ≤ 20) : oNe x y s = .ok (.bl (!PyData.eqv (pyP x) (pyP y))) s := by
  unfold oNe eqD
  rw [py_plain 20 x hx dx, py_plain 20 y hy dy]
  simp [shaped_plain hx (by omega), shaped_plain hy (by omega)]
theorem py_lst {s : S} {a : Nat} {xs : List D} (ha : s[a]? = some (.lst xs)) (hp : plainL xs = true) (hd : depL xs ≤ 19) : D.py s 20 (.ref a) = some (.list (pyPL xs)) ∧ PySem.SeqAt.shaped (.list (pyPL xs)) = true := by
  obtain ⟨b1, b2⟩ := layL_plain xs hp
  refine ⟨?_, ?_⟩
  · show (match s[a]? with
      | some (.lst xs) => (mapO (D.py s 19) xs).map PyData.list
      | _ => none) = _
    rw [ha]
    simp only
    rw [mapO_plain (fun d => py_plain 19 d) xs hp hd]
    rfl
  · unfold PySem.SeqAt.shaped
    show (PyData.canLayAll0 (pyPL xs) && decide (PyData.depthAll (pyPL xs) + 1 ≤ 64)) = true
    rw [b1, b2]
    simp; omega
theorem eq_lists {s : S} {a b : Nat} {xs ys : List D} (ha : s[a]? = some (.lst xs)) (hb : s[b]? = some (.lst ys)) (hp : plainL xs = true) (hq : plainL ys = true) (hd : depL xs ≤ 19) (he : depL ys ≤ 19) :
    oEq (.ref a) (.ref b) s = .ok (.bl (PyData.eqvAll (pyPL xs) (pyPL ys))) s := by
  obtain ⟨a1, a2⟩ := py_lst ha hp hd
  obtain ⟨b1, b2⟩ := py_lst hb hq he
  unfold oEq eqD
  rw [a1, b1]
  simp [a2, b2, PyData.eqv]
theorem ne_lists {s : S} {a b : Nat} {xs ys : List D} (ha : s[a]? = some (.lst xs)) (hb : s[b]? = some (.lst ys)) (hp : plainL xs = true) (hq : plainL ys = true) (hd : depL xs ≤ 19) (he : depL ys ≤ 19) :
    oNe (.ref a) (.ref b) s = .ok (.bl (!PyData.eqvAll (pyPL xs) (pyPL ys))) s := by
  obtain ⟨a1, a2⟩ := py_lst ha hp hd
  obtain ⟨b1, b2⟩ := py_lst hb hq he
  unfold oNe eqD
  rw [a1, b1]
  simp [a2, b2, PyData.eqv]
@[simp] theorem eqvAll_nil (xs : List D) : PyData.eqvAll (pyPL xs) [] = xs.isEmpty := by cases xs <;> rfl
@[simp] theorem eqvAll_00 : PyData.eqvAll [] [] = true := rfl
@[simp] theorem eqvAll_c0 (x : PyData) (xs : List PyData) : PyData.eqvAll (x :: xs) [] = false := rfl
@[simp] theorem pyPL_nil : pyPL [] = [] := rfl
@[simp] theorem pyPL_cons (x : D) (xs : List D) : pyPL (x :: xs) = pyP x :: pyPL xs := rfl
/-! ### whole roots -/
def isqN : Nat → Nat
  | 0 => 0
  | n + 1 => if (isqN n + 1) * (isqN n + 1) ≤ n + 1 then isqN n + 1 else isqN n
theorem isqN_spec : ∀ n : Nat, isqN n * isqN n ≤ n ∧ n < (isqN n + 1) * (isqN n + 1)
  | 0 => by simp [isqN]
  | n + 1 => by
    obtain ⟨h1, h2⟩ := isqN_spec n
    unfold isqN
    split
    · rename_i h
      refine ⟨h, ?_⟩
      have : (isqN n + 1 + 1) * (isqN n + 1 + 1) = (isqN n + 1) * (isqN n + 1) + 2 * (isqN n + 1) + 1 := by
        generalize isqN n + 1 = k
        rw [Nat.add_mul, Nat.mul_add]; omega
      omega
    · omega
def isq (n : Int) : Int := isqN n.toNat
theorem isq_spec {n : Int} (h : 0 ≤ n) : 0 ≤ isq n ∧ isq n * isq n ≤ n ∧ n < (isq n + 1) * (isq n + 1) := by
  obtain ⟨h1, h2⟩ := isqN_spec n.toNat
  unfold isq
  refine ⟨by omega, ?_, ?_⟩
  · have : ((isqN n.toNat * isqN n.toNat : Nat) : Int) ≤ (n.toNat : Int) := by exact_mod_cast h1
    rw [Int.natCast_mul] at this; omega
  · have : (n.toNat : Int) < (((isqN n.toNat + 1) * (isqN n.toNat + 1) : Nat) : Int) := by exact_mod_cast h2
    rw [Int.natCast_mul] at this; push_cast at this; omega
theorem sq_lt {a b : Int} (ha : 0 ≤ a) (hb : 0 ≤ b) (h : a * a < b * b) : a < b := by
  by_cases hlt : a < b
  · exact hlt
  · exact absurd (Int.mul_le_mul (show b ≤ a by omega) (show b ≤ a by omega) hb ha) (by omega)
theorem isq_eq {n r : Int} (h0 : 0 ≤ r) (h1 : r * r ≤ n) (h2 : n < (r + 1) * (r + 1)) : isq n = r := by
  have hn : 0 ≤ n := Int.le_trans (Int.mul_nonneg h0 h0) h1
  obtain ⟨a, b, c⟩ := isq_spec hn
  have l1 := sq_lt h0 (show 0 ≤ isq n + 1 by omega) (by omega)
  have l2 := sq_lt a (show 0 ≤ r + 1 by omega) (by omega)
  omega
theorem isq_sq {r : Int} (h0 : 0 ≤ r) : isq (r * r) = r := isq_eq h0 (Int.le_refl _) (by
  have : (r + 1) * (r + 1) = r * r + 2 * r + 1 := by rw [Int.add_mul, Int.mul_add]; omega
  omega)
theorem root_in_ok {n : Int} {s : S} (h : 0 ≤ n) (hb : n < B0) : ∃ g, D_root_in [.int n] s = .ok (.int (isq n)) g := by
  unfold D_root_in
  rw [ap_mkFn (k := 1) (ds := [.int n]) rfl]
  unfold b_root_in
  by_cases h0 : n = 0
  · subst h0
    exact ⟨s, by simp [show isq 0 = 0 from rfl]⟩
  · have b01 := B01
    -- the first loop: some power of two lies above
    obtain ⟨r1, s1, e1, hi, hz, hq, rfl, rfl⟩ := zWhile_invB (c := tst (e2 oLe (e2 oMul (eV 2) (eV 2)) (eV 0))) (b := zSet (gV 2) (e2 oMul (eC (.int 2)) (eV 2)))
      (fun r t => ∃ hi : Int, 1 ≤ hi ∧ hi ≤ 2 * n ∧ r = [.int n, .int 1, .int hi, .undef] ∧ t = s) (fun r t => ∃ hi : Int, (1 ≤ hi ∧ hi ≤ 2 * n) ∧ n < hi * hi ∧ r = [.int n, .int 1, .int hi, .undef] ∧ t = s)
      (fun r _ => match r with | [_, _, .int hi, _] => (2 * n + 1 - hi).toNat | _ => 0) (by
        rintro r t ⟨hi, h1, h2, rfl, rfl⟩
        have m1 := mul_big (i := hi) (j := hi) (s := t) (by omega) (by omega)
        refine ⟨decide (hi * hi ≤ n), t, by simp [m1], fun q => ⟨hi, ⟨h1, h2⟩, by simpa using q, rfl, rfl⟩, fun q => ?_⟩
        have q : hi * hi ≤ n := by simpa using q
        have hle : hi ≤ n := Int.le_trans (by have := Int.mul_le_mul_of_nonneg_left h1 (show 0 ≤ hi by omega); omega) q
        refine ⟨[.int n, .int 1, .int (2 * hi), .undef], t, .inl (by simp [v_mul64 (i := 2) (by decide)]), ⟨2 * hi, by omega, by omega, rfl, rfl⟩, ?_⟩
        show (2 * n + 1 - 2 * hi).toNat < (2 * n + 1 - hi).toNat
        omega) (r := [.int n, .int 1, .int 1, .undef]) (s := s) ⟨1, by omega, by omega, rfl, rfl⟩ (by
        show (2 * n + 1 - 1).toNat < B1
        omega)
    -- the second loop: both come together
    obtain ⟨r2, s2, e2, lo, h3, h4, h5, ⟨hi2, md, rfl⟩, rfl⟩ := zWhile_invB (c := tst (e2 oGt (e2 oSub (eV 2) (eV 1)) (eC (.int 1))))
      (b := zCons (zSet (gV 3) (e2 oDiv (e2 oAdd (eV 1) (eV 2)) (eC (.int 2)))) (zSet (gT (gsC (gV 1) (gsC (gV 2) gsN))) (eIf (tst (e2 oLe (e2 oMul (eV 3) (eV 3)) (eV 0))) (eTup (aC (eV 3) (aC (eV 2) aN))) (eTup (aC (eV 1) (aC (eV 3) aN))))))
      (fun r t => ∃ lo hi : Int, 0 ≤ lo ∧ lo < hi ∧ hi ≤ 2 * n ∧ lo * lo ≤ n ∧ n < hi * hi ∧ (∃ md, r = [.int n, .int lo, .int hi, md]) ∧ t = s1)
      (fun r t => ∃ lo : Int, 0 ≤ lo ∧ lo * lo ≤ n ∧ n < (lo + 1) * (lo + 1) ∧ (∃ hi md, r = [.int n, .int lo, hi, md]) ∧ t = s1)
      (fun r _ => match r with | [_, .int lo, .int hi, _] => (hi - lo).toNat | _ => 0) (by
        rintro r t ⟨lo, hi, h1, h2, h3, h4, h5, ⟨md, rfl⟩, rfl⟩
        refine ⟨decide (1 < hi - lo), t, by simp, fun q => ?_, fun q => ?_⟩
        · have q : ¬ 1 < hi - lo := by simpa using q
          have e : hi = lo + 1 := by omega
          subst e
          exact ⟨lo, h1, h4, h5, ⟨_, _, rfl⟩, rfl⟩
        · have q : 1 < hi - lo := by simpa using q
          have m1 := mul_big (i := (lo + hi) / 2) (j := (lo + hi) / 2) (s := t) (by omega) (by omega)
          have d1 := v_div64 (i := lo + hi) (j := 2) (s := t) (by decide) (by decide)
          by_cases hm : (lo + hi) / 2 * ((lo + hi) / 2) ≤ n
          · refine ⟨[.int n, .int ((lo + hi) / 2), .int hi, .int ((lo + hi) / 2)], t, .inl (by simp [m1, d1, hm]), ⟨(lo + hi) / 2, hi, by omega, by omega, h3, hm, h5, ⟨_, rfl⟩, rfl⟩, ?_⟩
            show (hi - (lo + hi) / 2).toNat < (hi - lo).toNat
            omega
          · refine ⟨[.int n, .int lo, .int ((lo + hi) / 2), .int ((lo + hi) / 2)], t, .inl (by simp [m1, d1, hm]), ⟨lo, (lo + hi) / 2, by omega, by omega, by omega, h4, by omega, ⟨_, rfl⟩, rfl⟩, ?_⟩
            show ((lo + hi) / 2 - lo).toNat < (hi - lo).toNat
            omega) (r := [.int n, .int 1, .int hi, .undef]) (s := s1) (by
        by_cases h1 : hi = 1
        · subst h1; omega
        · exact ⟨1, hi, by omega, by omega, by omega, by omega, hq, ⟨_, rfl⟩, rfl⟩) (by
        show (hi - 1).toNat < B1
        omega)
    refine ⟨s2, ?_⟩
    simp [h0, e1, e2, isq_eq h3 h4 h5]
theorem root_in_k {n : Int} {s : S} (h : 0 ≤ n) (hb : n < B0) : callK D_root_in [.int n] s = .ok (.int (isq n)) s := by
  obtain ⟨g, hg⟩ := root_in_ok (s := []) h hb
  exact callK_val rfl hg rfl
/-! ### powers -/
theorem power_ok {b : Int} {k : Int} {s : S} (hb : b.natAbs < 18446744073709551616) (h0 : 0 ≤ k) (hk : k < 4611686018427387904) : D_power_in [.int b, .int k] s = .ok (.int (b ^ k.toNat)) s := by
  unfold D_power_in
  rw [ap_mkFn (k := 2) (ds := [.int b, .int k]) rfl]
  unfold b_power_in
  obtain ⟨r', s', e, x, rfl, rfl⟩ := forM_inv (g := gV 3) (b := zSet (gV 2) (e2 oMul (eV 2) (eV 0))) (fun i r t => ∃ x, r = [.int b, .int k, .int (b ^ i), x] ∧ t = s) (range2 0 k) 0 [.int b, .int k, .int 1, .undef] s ⟨.undef, by simp, rfl⟩ (by
    rintro j x r t hx ⟨y, rfl, rfl⟩
    exact ⟨_, _, [.int b, .int k, .int (b ^ (0 + j + 1)), x], t, by simp; exact ⟨rfl, rfl⟩, .inl (by simp [v_mul64r hb, Int.pow_succ]), x, rfl, rfl⟩)
  rw [range2_len] at e
  simp [show k.natAbs < 4611686018427387904 by omega, e]
theorem power_k {b : Int} {k : Int} {s : S} (hb : b.natAbs < 18446744073709551616) (h0 : 0 ≤ k) (hk : k < 4611686018427387904) : callK D_power_in [.int b, .int k] s = .ok (.int (b ^ k.toNat)) s := callK_val rfl (power_ok hb h0 hk) rfl
theorem law_power_k {b : Int} {k : Int} {s : S} (hb : b.natAbs < 18446744073709551616) (h0 : 0 ≤ k) (hk : k < 4611686018427387904) : callK D__law_power [.int b, .int k] s = .ok (.int (b ^ k.toNat)) s := power_k hb h0 hk
/-! ### Newton's roots -/
def B2 : Nat := 2 ^ 1900
theorem B2_lt : B2 < 10 ^ 600 := by decide +kernel
theorem B2_B0 : B2 ≤ B0 := by decide +kernel
/-- a number's text, by its length -/
theorem text_len {n : Int} (h : 0 ≤ n) (hb : n < B2) : ∃ L : Nat, (Str.ofString (toString n)).length = L ∧ 1 ≤ L ∧ L ≤ 600 ∧ n < 10 ^ L := by
  obtain ⟨m, rfl⟩ := Int.eq_ofNat_of_zero_le h
  have e : toString ((m : Nat) : Int) = Nat.repr m := rfl
  rw [e, PySem.ofString_length]
  have hm : m < 10 ^ 600 := Nat.lt_trans (by omega) B2_lt
  have h1 : (Nat.repr m).length ≤ 600 := (Nat.length_repr_le_iff (by decide)).mpr hm
  have h0 : 0 < (Nat.repr m).length := Nat.length_repr_pos
  refine ⟨_, rfl, h0, h1, ?_⟩
  have := (Nat.length_repr_le_iff h0).mp (Nat.le_refl (Nat.repr m).length)
  exact_mod_cast this
theorem newton {n h : Int} (hn : 1 ≤ n) (h1 : 1 ≤ h) (hr : isq n ≤ h) (hlt : n < h * h) : isq n ≤ (h + n / h) / 2 ∧ (h + n / h) / 2 < h ∧ 1 ≤ (h + n / h) / 2 := by
  obtain ⟨a, b, c⟩ := isq_spec (show 0 ≤ n by omega)
  have hq : n / h < h := Int.ediv_lt_of_lt_mul (by omega) hlt
  have hq1 : n < (n / h + 1) * h := Int.lt_ediv_add_one_mul_self n (by omega)
  generalize n / h = q at hq hq1
  generalize isq n = r at a b c hr
  have r1 : 1 ≤ r := by
    by_cases h0 : r = 0
    · subst h0; omega
    · omega
  have key : r ≤ (h + q) / 2 := by
    by_cases hk : r ≤ (h + q) / 2
    · exact hk
    · exfalso
      have h2 : q + 1 ≤ 2 * r - h := by omega
      have h3 : (q + 1) * h ≤ (2 * r - h) * h := Int.mul_le_mul_of_nonneg_right h2 (by omega)
      have h4 : (2 * r - h) * h = r * r - (r - h) * (r - h) := by
        rw [Int.sub_mul, Int.sub_mul, Int.mul_sub, Int.mul_sub, Int.mul_comm h r, Int.mul_assoc]
        omega
      have h5 : 0 ≤ (r - h) * (r - h) := by
        rcases Int.le_total 0 (r - h) with z | z
        · exact Int.mul_nonneg z z
        · exact Int.mul_nonneg_of_nonpos_of_nonpos z z
      omega
  omega
theorem law_root_ok {n : Int} {s : S} (h : 0 ≤ n) (hb : n < B2) : ∃ g, D__law_root [.int n] s = .ok (.int (isq n)) g := by
  unfold D__law_root
  rw [ap_mkFn (k := 1) (ds := [.int n]) rfl]
  unfold b__law_root
  by_cases h0 : n = 0
  · subst h0
    exact ⟨s, by simp [show isq 0 = 0 from rfl]⟩
  · obtain ⟨L, e1, l1, l2, l3⟩ := text_len h hb
    have b01 := B01
    have b00 := B0_big
    have b20 := B2_B0
    have hlog : n.natAbs.log2 < 1920 := Nat.lt_of_lt_of_le (log2_lt (k := 1900) (by decide) (show n.natAbs < B2 by omega)) (by decide)
    have hp : (2 : Int) ^ ((L : Int) * 2).toNat = ((4 ^ L : Nat) : Int) := by
      rw [show ((L : Int) * 2).toNat = 2 * L by omega, Int.pow_mul]
      exact_mod_cast rfl
    have hbig : 4 ^ L < B1 := Nat.lt_of_le_of_lt (Nat.pow_le_pow_right (by decide) l2) (by decide +kernel)
    have hsq : (n : Int) < ((4 ^ L : Nat) : Int) * ((4 ^ L : Nat) : Int) := by
      have : 10 ^ L ≤ 4 ^ L * 4 ^ L := by
        rw [← Nat.mul_pow]
        exact Nat.pow_le_pow_left (by decide) L
      have e : (((10 ^ L : Nat)) : Int) ≤ ((4 ^ L * 4 ^ L : Nat) : Int) := by exact_mod_cast this
      rw [Int.natCast_mul] at e
      have l3' : n < ((10 ^ L : Nat) : Int) := by exact_mod_cast l3
      omega
    have hpos : 1 ≤ 4 ^ L := Nat.pow_pos (by decide)
    generalize hx : 4 ^ L = x at hp hbig hsq hpos
    obtain ⟨i1, i2, i3⟩ := isq_spec h
    obtain ⟨r2, s2, e2, y, z1, z2, rfl, rfl⟩ := zWhile_invB (c := tst (e2 oGt (e2 oMul (eV 1) (eV 1)) (eV 0))) (b := zSet (gV 1) (eN bInt (aC (e2 oDiv (e2 oAdd (eV 1) (e2 oDiv (eV 0) (eV 1))) (eC (.int 2))) aN)))
      (fun r t => ∃ y : Int, isq n ≤ y ∧ 1 ≤ y ∧ y ≤ x ∧ r = [.int n, .int y] ∧ t = s) (fun r t => ∃ y : Int, isq n ≤ y ∧ y * y ≤ n ∧ r = [.int n, .int y] ∧ t = s)
      (fun r _ => match r with | [_, .int y] => y.toNat | _ => 0) (by
        rintro r t ⟨y, h1, h2, h3, rfl, rfl⟩
        have m1 := mul_big (i := y) (j := y) (s := t) (by omega) (by omega)
        refine ⟨decide (n < y * y), t, by simp [m1], fun q => ⟨y, h1, by simpa using q, rfl, rfl⟩, fun q => ?_⟩
        have q : n < y * y := by simpa using q
        obtain ⟨n1, n2, n3⟩ := newton (show 1 ≤ n by omega) h2 h1 q
        have d1 := div_big (i := n) (j := y) (s := t) (by omega) (by omega)
        have d2 := v_div64 (i := y + n / y) (j := 2) (s := t) (by decide) (by decide)
        refine ⟨[.int n, .int ((y + n / y) / 2)], t, .inl (by simp [d1, d2]), ⟨_, n1, n3, by omega, rfl, rfl⟩, ?_⟩
        show ((y + n / y) / 2).toNat < y.toNat
        omega) (r := [.int n, .int x]) (s := s) ⟨x, by
          have := sq_lt i1 (show (0 : Int) ≤ x by omega) (by omega)
          omega, by omega, by omega, rfl, rfl⟩ (by
        show (x : Int).toNat < B1
        omega)
    have y0 : isq n = y := by
      have := sq_lt (show 0 ≤ y by omega) (show 0 ≤ isq n + 1 by omega) (by omega)
      omega
    refine ⟨s2, ?_⟩
    have lp := law_power_k (b := 2) (k := (L : Int) * 2) (s := s2) (by decide) (by omega) (by omega)
    rw [hp] at lp
    have mm := v_mul64r (i := (L : Int)) (j := 2) (s := s2) (by decide)
    have e1 : (Str.ofString n.repr).length = L := e1
    have sl : L ≤ LINE := by unfold LINE; omega
    simp [h0, bStr, hlog, bLen, sl, e1, mm, lp, e2, y0]
theorem law_root_k {n : Int} {s : S} (h : 0 ≤ n) (hb : n < B2) : callK D__law_root [.int n] s = .ok (.int (isq n)) s := by
  obtain ⟨g, hg⟩ := law_root_ok (s := []) h hb
  exact callK_val rfl hg rfl
end YN

namespace K79
open Y
open PySem (Str)
abbrev b_fits_whole : Sm := YN.b_fits_whole
abbrev D_fits_whole : Fn := YN.D_fits_whole
abbrev b_need_whole : Sm := YN.b_need_whole
abbrev D_need_whole : Fn := YN.D_need_whole
def b_digits_in : Sm :=
  (zCons (zSet (gV 2) (eLst aN))
    (zCons (zWhile (tOr (tst (e2 oGt (eV 0) (eC (.int 0)))) (tst (e2 oEq (eV 2) (eLst aN))))
     (zCons (zEx (eMe isL mApp (eV 2) (aC (e2 oSub (eV 0) (e2 oMul (e2 oDiv (eV 0) (eV 1)) (eV 1))) aN)))
    (zSet (gV 0) (e2 oDiv (eV 0) (eV 1)))))
    (zRet (e1 oRev (eV 2)))))
def D_digits_in : Fn := mkFn 3 2 b_digits_in
theorem r_digits_in {a0 a1 : D} {s : S} : D_digits_in [a0, a1] s = (b_digits_in [a0, a1, .undef] s).out := ap_mkFn rfl
def b_number_in : Sm :=
  (zCons (zSet (gV 2) (eC (.int 0)))
    (zCons (zFor (iLst (eV 0)) (gV 3)
     (zSet (gV 2) (e2 oAdd (e2 oMul (eV 1) (eV 2)) (eV 3))))
    (zRet (eV 2))))
def D_number_in : Fn := mkFn 4 2 b_number_in
theorem r_number_in {a0 a1 : D} {s : S} : D_number_in [a0, a1] s = (b_number_in [a0, a1, .undef, .undef] s).out := ap_mkFn rfl
def b_padded_in : Sm :=
  (zCons (zSet (gV 3) (eIf (tst (e2 oGt (eV 0) (eC (.int 0)))) (eCallK 2 D_digits_in (aC (eV 0) (aC (eV 1) aN))) (eLst aN)))
    (zRet (e2 oAdd (e2 oMul (eLst (aC (eC (.int 0)) aN)) (e2 oSub (eV 2) (eN bLen (aC (eV 3) aN)))) (eV 3))))
def D_padded_in : Fn := mkFn 4 3 b_padded_in
theorem r_padded_in {a0 a1 a2 : D} {s : S} : D_padded_in [a0, a1, a2] s = (b_padded_in [a0, a1, a2, .undef] s).out := ap_mkFn rfl
def b_turned_sum : Sm :=
  (zCons (zEx (eCallK 3 D_need_whole (aC (eV 0) (aC (eC (.int 2)) (aC (eC (.int 36)) aN)))))
    (zCons (zEx (eCallK 3 D_need_whole (aC (eV 1) (aC (eC (.int 0)) (aC (e2 oPow (eC (.int 10)) (eC (.int 30))) aN)))))
    (zCons (zSet (gV 2) (eCallK 2 D_digits_in (aC (eV 1) (aC (eV 0) aN))))
    (zRet (e2 oAdd (eV 1) (eCallK 2 D_number_in (aC (e1 oRev (eV 2)) (aC (eV 0) aN))))))))
def D_turned_sum : Fn := mkFn 3 2 b_turned_sum
theorem r_turned_sum {a0 a1 : D} {s : S} : D_turned_sum [a0, a1] s = (b_turned_sum [a0, a1, .undef] s).out := ap_mkFn rfl
def b_is_mirrored : Sm :=
  (zCons (zEx (eCallK 3 D_need_whole (aC (eV 0) (aC (eC (.int 2)) (aC (eC (.int 36)) aN)))))
    (zCons (zEx (eCallK 3 D_need_whole (aC (eV 1) (aC (eC (.int 0)) (aC (e2 oPow (eC (.int 10)) (eC (.int 30))) aN)))))
    (zCons (zSet (gV 2) (eCallK 2 D_digits_in (aC (eV 1) (aC (eV 0) aN))))
    (zRet (e2 oEq (eV 2) (e1 oRev (eV 2)))))))
def D_is_mirrored : Fn := mkFn 3 2 b_is_mirrored
theorem r_is_mirrored {a0 a1 : D} {s : S} : D_is_mirrored [a0, a1] s = (b_is_mirrored [a0, a1, .undef] s).out := ap_mkFn rfl
def b_turned_steps : Sm :=
  (zCons (zEx (eCallK 3 D_need_whole (aC (eV 0) (aC (eC (.int 2)) (aC (eC (.int 36)) aN)))))
    (zCons (zEx (eCallK 3 D_need_whole (aC (eV 1) (aC (eC (.int 0)) (aC (e2 oPow (eC (.int 10)) (eC (.int 30))) aN)))))
    (zCons (zEx (eCallK 3 D_need_whole (aC (eV 2) (aC (eC (.int 0)) (aC (eC (.int 200)) aN)))))
    (zCons (zSet (gV 3) (eLst (aC (eV 1) aN)))
    (zCons (zWhile (tst (e2 oLe (eN bLen (aC (eV 3) aN)) (eV 2)))
     (zCons (zSet (gV 4) (eCallK 2 D_digits_in (aC (e2 oIx (eV 3) (e1 oNeg (eC (.int 1)))) (aC (eV 0) aN))))
    (zCons (zIf (tst (e2 oEq (eV 4) (e1 oRev (eV 4))))
     (zRet (eN bTuple (aC (eV 3) aN)))
     zNil)
    (zEx (eMe isL mApp (eV 3) (aC (e2 oAdd (e2 oIx (eV 3) (e1 oNeg (eC (.int 1)))) (eCallK 2 D_number_in (aC (e1 oRev (eV 4)) (aC (eV 0) aN)))) aN))))))
    (zCons (zSet (gV 4) (eCallK 2 D_digits_in (aC (e2 oIx (eV 3) (e1 oNeg (eC (.int 1)))) (aC (eV 0) aN))))
    (zRet (eIf (tst (e2 oEq (eV 4) (e1 oRev (eV 4)))) (eN bTuple (aC (eV 3) aN)) (eC .non)))))))))
def D_turned_steps : Fn := mkFn 5 3 b_turned_steps
theorem r_turned_steps {a0 a1 a2 : D} {s : S} : D_turned_steps [a0, a1, a2] s = (b_turned_steps [a0, a1, a2, .undef, .undef] s).out := ap_mkFn rfl
def b_next_mirrored : Sm :=
  (zCons (zEx (eCallK 3 D_need_whole (aC (eV 0) (aC (eC (.int 2)) (aC (eC (.int 36)) aN)))))
    (zCons (zEx (eCallK 3 D_need_whole (aC (eV 1) (aC (eC (.int 0)) (aC (e2 oPow (eC (.int 10)) (eC (.int 30))) aN)))))
    (zCons (zSet (gV 2) (eCallK 2 D_digits_in (aC (e2 oAdd (eV 1) (eC (.int 1))) (aC (eV 0) aN))))
    (zCons (zSet (gV 3) (e2 oDiv (e2 oAdd (eN bLen (aC (eV 2) aN)) (eC (.int 1))) (eC (.int 2))))
    (zCons (zSet (gV 4) (eCallK 2 D_number_in (aC (eCut (eV 2) .no (.at (eV 3))) (aC (eV 0) aN))))
    (zCons (zFor (iTup (eTup (aC (eV 4) (aC (e2 oAdd (eV 4) (eC (.int 1))) aN)))) (gV 5)
     (zCons (zSet (gV 6) (eCallK 3 D_padded_in (aC (eV 5) (aC (eV 0) (aC (eV 3) aN)))))
    (zIf (tst (e2 oEq (eN bLen (aC (eV 6) aN)) (eV 3)))
     (zCons (zSet (gV 7) (eCallK 2 D_number_in (aC (e2 oAdd (eV 6) (e1 oRev (eCut (eV 6) .no (.at (e2 oDiv (eN bLen (aC (eV 2) aN)) (eC (.int 2))))))) (aC (eV 0) aN))))
    (zIf (tst (e2 oGt (eV 7) (eV 1)))
     (zRet (eV 7))
     zNil))
     zNil)))
    (zRet (e2 oAdd (eCallK 2 D_number_in (aC (e2 oAdd (eLst (aC (eC (.int 1)) aN)) (e2 oMul (eLst (aC (eC (.int 0)) aN)) (eN bLen (aC (eV 2) aN)))) (aC (eV 0) aN))) (eC (.int 1))))))))))
def D_next_mirrored : Fn := mkFn 8 2 b_next_mirrored
theorem r_next_mirrored {a0 a1 : D} {s : S} : D_next_mirrored [a0, a1] s = (b_next_mirrored [a0, a1, .undef, .undef, .undef, .undef, .undef, .undef] s).out := ap_mkFn rfl
def b_count_mirrored : Sm :=
  (zCons (zEx (eCallK 3 D_need_whole (aC (eV 0) (aC (eC (.int 2)) (aC (eC (.int 36)) aN)))))
    (zCons (zEx (eCallK 3 D_need_whole (aC (eV 1) (aC (eC (.int 1)) (aC (eC (.int 30)) aN)))))
    (zCons (zSet (gV 2) (e2 oSub (eV 0) (eC (.int 1))))
    (zCons (zFor (iRng1 (e2 oDiv (e2 oSub (eV 1) (eC (.int 1))) (eC (.int 2)))) (gV 3)
     (zSet (gV 2) (e2 oMul (eV 2) (eV 0))))
    (zRet (eIf (tst (e2 oEq (eV 1) (eC (.int 1)))) (e2 oAdd (eV 2) (eC (.int 1))) (eV 2)))))))
def D_count_mirrored : Fn := mkFn 4 2 b_count_mirrored
theorem r_count_mirrored {a0 a1 : D} {s : S} : D_count_mirrored [a0, a1] s = (b_count_mirrored [a0, a1, .undef, .undef] s).out := ap_mkFn rfl
abbrev b__law_cup : Sm := YN.b__law_cup 163 2287 3643 2041033051 1657
abbrev D__law_cup : Fn := YN.D__law_cup 163 2287 3643 2041033051 1657
abbrev b__law_roll : Sm := YN.b__law_roll 33159 5179 2819 1013
abbrev D__law_roll : Fn := YN.D__law_roll 33159 5179 2819 1013
abbrev b__law_some : Sm := YN.b_someG D__law_roll
abbrev D__law_some : Fn := YN.D_someG D__law_roll
abbrev b__law_same : Fn → Sm := YN.b__law_same
abbrev D__law_same : Nat → Fn := YN.D__law_same
def b__law_number : Sm :=
  (zCons (zSet (gV 2) (eC (.int 0)))
    (zCons (zFor (iRng1 (e2 oAdd (eC (.int 1)) (eCallK 2 D__law_roll (aC (eV 0) (aC (eC (.int 12)) aN))))) (gV 3)
     (zSet (gV 2) (e2 oAdd (e2 oMul (eC (.int 1000)) (eV 2)) (eCallK 2 D__law_roll (aC (eV 0) (aC (eC (.int 1000)) aN))))))
    (zRet (e2 oMod (eN bInt (aC (eV 2) aN)) (e2 oAdd (eV 1) (eC (.int 1)))))))
def D__law_number : Fn := mkFn 4 2 b__law_number
theorem r__law_number {a0 a1 : D} {s : S} : D__law_number [a0, a1] s = (b__law_number [a0, a1, .undef, .undef] s).out := ap_mkFn rfl
abbrev b__law_power : Sm := YN.b__law_power
abbrev D__law_power : Fn := YN.D__law_power
def b__law_digits : Sm :=
  (zCons (zSet (gV 3) (eTup aN))
    (zCons (zWhile (tOr (tst (e2 oGt (eV 0) (eC (.int 0)))) (tst (e2 oLt (eN bLen (aC (eV 3) aN)) (eN bMax2 (aC (eC (.int 1)) (aC (eV 2) aN))))))
     (zPar 3 0 (e2 oAdd (eTup (aC (e2 oMod (eN bInt (aC (eV 0) aN)) (eV 1)) aN)) (eV 3)) (eN bInt (aC (e2 oDiv (eV 0) (eV 1)) aN))))
    (zRet (eV 3))))
def D__law_digits : Fn := mkFn 4 3 b__law_digits
theorem r__law_digits {a0 a1 a2 : D} {s : S} : D__law_digits [a0, a1, a2] s = (b__law_digits [a0, a1, a2, .undef] s).out := ap_mkFn rfl
def b__law_value : Sm :=
  (zCons (zSet (gV 2) (eC (.int 0)))
    (zCons (zFor (iTup (eV 0)) (gV 3)
     (zSet (gV 2) (e2 oAdd (e2 oMul (eV 2) (eV 1)) (eV 3))))
    (zRet (eV 2))))
def D__law_value : Fn := mkFn 4 2 b__law_value
theorem r__law_value {a0 a1 : D} {s : S} : D__law_value [a0, a1] s = (b__law_value [a0, a1, .undef, .undef] s).out := ap_mkFn rfl
def b__law_turned : Sm :=
  (zRet (eCallK 2 D__law_value (aC (e1 oRev (eCallK 3 D__law_digits (aC (eV 0) (aC (eV 1) (aC (eC (.int 1)) aN))))) (aC (eV 1) aN))))
def D__law_turned : Fn := mkFn 2 2 b__law_turned
theorem r__law_turned {a0 a1 : D} {s : S} : D__law_turned [a0, a1] s = (b__law_turned [a0, a1] s).out := ap_mkFn rfl
def b_law : Sm :=
  (zCons (zSet (gV 1) (eCallK 1 D__law_cup (aC (eV 0) aN)))
    (zCons (zFor (iRng1 (eC (.int 8))) (gV 2)
     (zCons (zSet (gV 3) (eCallK 2 D__law_some (aC (eV 1) (aC (eLst (aC (eC (.int 2)) (aC (eC (.int 10)) (aC (e2 oAdd (eC (.int 2)) (eCallK 2 D__law_roll (aC (eV 1) (aC (eC (.int 35)) aN)))) aN)))) aN))))
    (zCons (zSet (gV 4) (eCallK 2 D__law_number (aC (eV 1) (aC (eCallK 2 D__law_some (aC (eV 1) (aC (eLst (aC (eC (.int 9)) (aC (eC (.int 999)) (aC (e2 oPow (eC (.int 10)) (eC (.int 30))) aN)))) aN))) aN))))
    (zCons (zSet (gV 5) (eCallK 3 D__law_digits (aC (eV 4) (aC (eV 3) (aC (eC (.int 1)) aN)))))
    (zCons (zSet (gV 6) (eCallK 2 D__law_value (aC (e2 oAdd (eV 5) (e1 oRev (eV 5))) (aC (eV 3) aN))))
    (zCons (zFor (iTup (eTup (aC (eV 4) (aC (eN bMin2 (aC (eV 6) (aC (e2 oPow (eC (.int 10)) (eC (.int 30))) aN))) (aC (e2 oMul (e2 oDiv (eV 4) (eV 3)) (eV 3)) aN))))) (gV 7)
     (zCons (zSet (gV 8) (eCallK 2 D__law_turned (aC (eV 7) (aC (eV 3) aN))))
    (zCons (zSet (gV 9) (eLst (aC (eCallK 2 D_turned_sum (aC (eV 3) (aC (eV 7) aN))) (aC (eCallK 2 D_is_mirrored (aC (eV 3) (aC (eV 7) aN))) aN))))
    (zIf (tNot (tst (eCallK 2 (D__law_same 10) (aC (eV 9) (aC (eLst (aC (e2 oAdd (eV 7) (eV 8)) (aC (e2 oEq (eCallK 3 D__law_digits (aC (eV 7) (aC (eV 3) (aC (eC (.int 1)) aN)))) (e1 oRev (eCallK 3 D__law_digits (aC (eV 7) (aC (eV 3) (aC (eC (.int 1)) aN)))))) aN))) aN)))))
     (zRet (eC (.bl false)))
     zNil))))
    (zCons (zSet (gV 10) (eCallK 2 D__law_number (aC (eV 1) (aC (eC (.int 3000)) aN))))
    (zCons (zSet (gV 11) (e2 oAdd (eV 10) (eC (.int 1))))
    (zCons (zWhile (tOr (tst (e2 oNe (eCallK 2 D__law_turned (aC (eV 11) (aC (eV 3) aN))) (eV 11))) (tst (e2 oEq (e2 oMod (eN bInt (aC (eV 11) aN)) (eV 3)) (eC (.int 0)))))
     (zSet (gV 11) (e2 oAdd (eV 11) (eC (.int 1)))))
    (zCons (zIf (tNot (tst (eCallK 2 (D__law_same 10) (aC (eCallK 2 D_next_mirrored (aC (eV 3) (aC (eV 10) aN))) (aC (eV 11) aN)))))
     (zRet (eC (.bl false)))
     zNil)
    (zCons (zSet (gV 12) (eCallK 2 D_next_mirrored (aC (eV 3) (aC (eV 4) aN))))
    (zCons (zIf (tOr (tst (e2 oLe (eV 12) (eV 4))) (tst (e2 oNe (eCallK 3 D__law_digits (aC (eV 12) (aC (eV 3) (aC (eC (.int 1)) aN)))) (e1 oRev (eCallK 3 D__law_digits (aC (eV 12) (aC (eV 3) (aC (eC (.int 1)) aN))))))))
     (zRet (eC (.bl false)))
     zNil)
    (zCons (zSet (gV 13) (eCallK 2 D__law_roll (aC (eV 1) (aC (eC (.int 25)) aN))))
    (zCons (zSet (gV 14) (eLst (aC (eV 4) aN)))
    (zCons (zWhile (tAnd (tst (e2 oLe (eN bLen (aC (eV 14) aN)) (eV 13))) (tst (e2 oNe (eCallK 3 D__law_digits (aC (e2 oIx (eV 14) (e1 oNeg (eC (.int 1)))) (aC (eV 3) (aC (eC (.int 1)) aN)))) (e1 oRev (eCallK 3 D__law_digits (aC (e2 oIx (eV 14) (e1 oNeg (eC (.int 1)))) (aC (eV 3) (aC (eC (.int 1)) aN))))))))
     (zEx (eMe isL mApp (eV 14) (aC (e2 oAdd (e2 oIx (eV 14) (e1 oNeg (eC (.int 1)))) (eCallK 2 D__law_turned (aC (e2 oIx (eV 14) (e1 oNeg (eC (.int 1)))) (aC (eV 3) aN)))) aN))))
    (zCons (zSet (gV 15) (e2 oEq (eCallK 3 D__law_digits (aC (e2 oIx (eV 14) (e1 oNeg (eC (.int 1)))) (aC (eV 3) (aC (eC (.int 1)) aN)))) (e1 oRev (eCallK 3 D__law_digits (aC (e2 oIx (eV 14) (e1 oNeg (eC (.int 1)))) (aC (eV 3) (aC (eC (.int 1)) aN)))))))
    (zIf (tNot (tst (eCallK 2 (D__law_same 10) (aC (eCallK 3 D_turned_steps (aC (eV 3) (aC (eV 4) (aC (eV 13) aN)))) (aC (eIf (tst (eV 15)) (eN bTuple (aC (eV 14) aN)) (eC .non)) aN)))))
     (zRet (eC (.bl false)))
     zNil)))))))))))))))))
    (zCons (zSet (gT (gsC (gV 3) (gsC (gV 16) gsN))) (eTup (aC (eCallK 2 D__law_some (aC (eV 1) (aC (eLst (aC (eC (.int 2)) (aC (eC (.int 3)) (aC (eC (.int 5)) (aC (eC (.int 10)) aN))))) aN))) (aC (e2 oAdd (eC (.int 1)) (eCallK 2 D__law_roll (aC (eV 1) (aC (eC (.int 3)) aN)))) aN))))
    (zCons (zSet (gV 17) (eIf (tst (e2 oGt (eV 16) (eC (.int 1)))) (eCallK 2 D__law_power (aC (eV 3) (aC (e2 oSub (eV 16) (eC (.int 1))) aN))) (eC (.int 0))))
    (zCons (zSet (gV 18) (eN bLen (aC (eLc (iRng2 (eV 17) (eCallK 2 D__law_power (aC (eV 3) (aC (eV 16) aN)))) (gV 7) (tst (eCallK 2 D_is_mirrored (aC (eV 3) (aC (eV 7) aN)))) (eC (.int 1)) [7]) aN)))
    (zCons (zSet (gV 9) (eLst (aC (eCallK 2 D_count_mirrored (aC (eV 3) (aC (eV 16) aN))) (aC (eCallK 2 D_count_mirrored (aC (eC (.int 10)) (aC (eC (.int 30)) aN))) (aC (eCallK 3 D_turned_steps (aC (eC (.int 10)) (aC (eC (.int 196)) (aC (eC (.int 200)) aN)))) (aC (eN bLen (aC (eCallK 3 D_turned_steps (aC (eC (.int 10)) (aC (eC (.int 89)) (aC (eC (.int 30)) aN)))) aN)) aN))))))
    (zRet (eCallK 2 (D__law_same 10) (aC (eV 9) (aC (eLst (aC (eV 18) (aC (e2 oMul (eC (.int 9)) (e2 oPow (eC (.int 10)) (eC (.int 14)))) (aC (eC .non) (aC (eC (.int 25)) aN))))) aN))))))))))
def D_law : Fn := mkFn 19 1 b_law
theorem r_law {a0 : D} {s : S} : D_law [a0] s = (b_law [a0, .undef, .undef, .undef, .undef, .undef, .undef, .undef, .undef, .undef, .undef, .undef, .undef, .undef, .undef, .undef, .undef, .undef, .undef] s).out := ap_mkFn rfl
end K79

namespace K79
open Y YN
open PySem (Str PyData)
/-- digits, the last first -/
def ldF : Nat → Int → Int → List Int
  | 0, _, _ => []
  | f + 1, b, n => if 0 < n then n % b :: ldF f b (n / b) else []
theorem half_lt {b n : Int} {f : Nat} (hb : 2 ≤ b) (hn : n < 2 ^ (f + 1)) (h0 : 0 < n) : n / b < 2 ^ f := by
  have h1 : n / b * b ≤ n := Int.ediv_mul_le n (by omega)
  have h2 : 0 ≤ n / b := Int.ediv_nonneg (by omega) (by omega)
  have h3 : n / b * 2 ≤ n / b * b := Int.mul_le_mul_of_nonneg_left hb h2
  have h4 : (2 : Int) ^ (f + 1) = 2 ^ f * 2 := Int.pow_succ ..
  omega
theorem ldF_eq {b : Int} (hb : 2 ≤ b) : ∀ (f g : Nat) (n : Int), n < 2 ^ f → n < 2 ^ g → ldF f b n = ldF g b n
  | 0, 0, _, _, _ => rfl
  | 0, g + 1, n, h, _ => by
    have : ¬ 0 < n := by simp at h; omega
    unfold ldF; rw [if_neg this]
  | f + 1, 0, n, _, h => by
    have : ¬ 0 < n := by simp at h; omega
    unfold ldF; rw [if_neg this]
  | f + 1, g + 1, n, h1, h2 => by
    unfold ldF
    by_cases h : 0 < n
    · rw [if_pos h, if_pos h, ldF_eq hb f g (n / b) (half_lt hb h1 h) (half_lt hb h2 h)]
    · rw [if_neg h, if_neg h]
def ld (b n : Int) : List Int := ldF (n.toNat.log2 + 1) b n
theorem lt_log (n : Int) : n < 2 ^ (n.toNat.log2 + 1) := by
  have h : n.toNat < 2 ^ (n.toNat.log2 + 1) := Nat.lt_log2_self
  have : ((n.toNat : Nat) : Int) < ((2 ^ (n.toNat.log2 + 1) : Nat) : Int) := Int.ofNat_lt.mpr h
  rw [Int.natCast_pow] at this
  have h2 : n ≤ (n.toNat : Int) := Int.self_le_toNat n
  exact Int.lt_of_le_of_lt h2 this
theorem ld_pos {b n : Int} (hb : 2 ≤ b) (h : 0 < n) : ld b n = n % b :: ld b (n / b) := by
  have e : ld b n = ldF (n.toNat.log2 + 2) b n := ldF_eq hb _ _ _ (lt_log n) (by
    have := lt_log n
    have h4 : (2 : Int) ^ (n.toNat.log2 + 2) = 2 ^ (n.toNat.log2 + 1) * 2 := Int.pow_succ ..
    omega)
  rw [e]
  unfold ldF
  rw [if_pos h]
  congr 1
  exact ldF_eq hb _ _ _ (half_lt hb (by
    have := lt_log n
    have h4 : (2 : Int) ^ (n.toNat.log2 + 1 + 1) = 2 ^ (n.toNat.log2 + 1) * 2 := Int.pow_succ ..
    omega) h) (lt_log _)
theorem ld_0 (b : Int) : ld b 0 = [] := rfl
/-- the digits -/
def dg (b n : Int) : List Int := if n = 0 then [0] else (ld b n).reverse
/-- the worth of digits -/
def val (b : Int) (l : List Int) : Int := l.foldl (fun a d => b * a + d) 0
theorem val_snoc (b : Int) (l : List Int) (d : Int) : val b (l ++ [d]) = b * val b l + d := by unfold val; rw [List.foldl_append]; rfl
theorem div_lt {b n : Int} (hb : 2 ≤ b) (h : 0 < n) : 0 ≤ n / b ∧ n / b < n := by
  have h1 : n / b * b ≤ n := Int.ediv_mul_le n (by omega)
  have h2 : 0 ≤ n / b := Int.ediv_nonneg (by omega) (by omega)
  have h3 : n / b * 2 ≤ n / b * b := Int.mul_le_mul_of_nonneg_left hb h2
  exact ⟨h2, by omega⟩
theorem ld_ind {b : Int} (hb : 2 ≤ b) {P : Int → Prop} (h0 : P 0) (hs : ∀ n, 0 < n → P (n / b) → P n) : ∀ n, 0 ≤ n → P n := by
  have key : ∀ k : Nat, ∀ n : Int, 0 ≤ n → n < k → P n := by
    intro k
    induction k with
    | zero => intro n h1 h2; simp at h2; omega
    | succ k ih =>
      intro n h1 h2
      by_cases h : 0 < n
      · have := div_lt hb h
        exact hs n h (ih _ this.1 (by omega))
      · have : n = 0 := by omega
        rw [this]; exact h0
  exact fun n hn => key (n.toNat + 1) n hn (by omega)
theorem val_ld {b : Int} (hb : 2 ≤ b) : ∀ n, 0 ≤ n → val b (ld b n).reverse = n := ld_ind hb rfl fun n h ih => by
  rw [ld_pos hb h, List.reverse_cons, val_snoc, ih]
  have := Int.mul_ediv_add_emod n b
  omega
theorem val_dg {b n : Int} (hb : 2 ≤ b) (hn : 0 ≤ n) : val b (dg b n) = n := by
  unfold dg
  split
  · rename_i h; rw [h]; simp [val]
  · exact val_ld hb n hn
/-- digits they are -/
def Dig (b : Int) (l : List Int) : Prop := ∀ d ∈ l, 0 ≤ d ∧ d < b
theorem dig_ld {b : Int} (hb : 2 ≤ b) : ∀ n, 0 ≤ n → Dig b (ld b n) := ld_ind hb (fun d h => by cases h) fun n h ih => by
  rw [ld_pos hb h]
  intro d hd
  rcases List.mem_cons.mp hd with rfl | hd
  · exact ⟨Int.emod_nonneg _ (by omega), Int.emod_lt_of_pos _ (by omega)⟩
  · exact ih d hd
theorem dig_dg {b n : Int} (hb : 2 ≤ b) (hn : 0 ≤ n) : Dig b (dg b n) := by
  unfold dg
  split
  · intro d hd; simp at hd; omega
  · intro d hd; exact dig_ld hb n hn d (List.mem_reverse.mp hd)
theorem val_app (b : Int) (l r : List Int) : val b (l ++ r) = val b l * b ^ r.length + val b r := by
  suffices h : ∀ (r : List Int) (a : Int), r.foldl (fun a d => b * a + d) a = a * b ^ r.length + val b r by
    unfold val; rw [List.foldl_append, h]; rfl
  intro r
  induction r with
  | nil => intro a; simp [val]
  | cons d r ih =>
    intro a
    have e : val b (d :: r) = (b * 0 + d) * b ^ r.length + val b r := by unfold val; rw [List.foldl_cons, ih]; rfl
    rw [List.foldl_cons, ih, e, List.length_cons, Int.pow_succ]
    grind
theorem pow_pos' {b : Int} (hb : 2 ≤ b) (k : Nat) : 0 < b ^ k := Int.pow_pos (by omega)
theorem val_lt {b : Int} (hb : 2 ≤ b) : ∀ l : List Int, Dig b l → 0 ≤ val b l ∧ val b l < b ^ l.length
  | [], _ => by simp [val]
  | d :: l, h => by
    obtain ⟨a1, a2⟩ := val_lt hb l fun x hx => h x (List.mem_cons_of_mem _ hx)
    obtain ⟨d1, d2⟩ := h d List.mem_cons_self
    have e : val b (d :: l) = d * b ^ l.length + val b l := by
      have := val_app b [d] l
      simpa [val] using this
    have p := pow_pos' hb l.length
    have m1 : 0 ≤ d * b ^ l.length := Int.mul_nonneg d1 (by omega)
    have m2 : (d + 1) * b ^ l.length ≤ b * b ^ l.length := Int.mul_le_mul_of_nonneg_right (by omega) (by omega)
    rw [e, List.length_cons, Int.pow_succ]
    have m3 : (d + 1) * b ^ l.length = d * b ^ l.length + b ^ l.length := by grind
    have m4 : b ^ l.length * b = b * b ^ l.length := Int.mul_comm ..
    omega
/-- one worth, one row -/
theorem val_inj {b : Int} (hb : 2 ≤ b) : ∀ l r : List Int, l.length = r.length → Dig b l → Dig b r → val b l = val b r → l = r
  | [], [], _, _, _, _ => rfl
  | [], _ :: _, h, _, _, _ => by simp at h
  | _ :: _, [], h, _, _, _ => by simp at h
  | d :: l, e :: r, hl, h1, h2, hv => by
    have hl' : l.length = r.length := by simpa using hl
    have g1 : Dig b l := fun x hx => h1 x (List.mem_cons_of_mem _ hx)
    have g2 : Dig b r := fun x hx => h2 x (List.mem_cons_of_mem _ hx)
    obtain ⟨a1, a2⟩ := val_lt hb l g1
    obtain ⟨c1, c2⟩ := val_lt hb r g2
    have e1 : val b (d :: l) = d * b ^ l.length + val b l := by have := val_app b [d] l; simpa [val] using this
    have e2 : val b (e :: r) = e * b ^ r.length + val b r := by have := val_app b [e] r; simpa [val] using this
    rw [← hl'] at e2 c2
    have p := pow_pos' hb l.length
    rw [e1, e2] at hv
    have hd : d = e := by
      rcases Int.lt_trichotomy d e with h | h | h
      · have m : (d + 1) * b ^ l.length ≤ e * b ^ l.length := Int.mul_le_mul_of_nonneg_right (by omega) (by omega)
        have m3 : (d + 1) * b ^ l.length = d * b ^ l.length + b ^ l.length := by grind
        omega
      · exact h
      · have m : (e + 1) * b ^ l.length ≤ d * b ^ l.length := Int.mul_le_mul_of_nonneg_right (by omega) (by omega)
        have m3 : (e + 1) * b ^ l.length = e * b ^ l.length + b ^ l.length := by grind
        omega
    subst hd
    rw [val_inj hb l r hl' g1 g2 (by omega)]
/-- how many digits -/
theorem dg_bounds {b n : Int} (hb : 2 ≤ b) (hn : 0 < n) : ∃ k, (dg b n).length = k + 1 ∧ b ^ k ≤ n ∧ n < b ^ (k + 1) := by
  have h1 := (val_lt hb _ (dig_dg hb (show 0 ≤ n by omega))).2
  rw [val_dg hb (by omega)] at h1
  have key : ∀ n, 0 ≤ n → (0 < n → ∃ k, (ld b n).length = k + 1 ∧ b ^ k ≤ n) := ld_ind hb (by intro h; omega) fun n h ih _ => by
    rw [ld_pos hb h]
    by_cases h2 : 0 < n / b
    · obtain ⟨k, k1, k2⟩ := ih h2
      refine ⟨k + 1, by rw [List.length_cons, k1], ?_⟩
      rw [Int.pow_succ]
      have h1 : n / b * b ≤ n := Int.ediv_mul_le n (by omega)
      have h3 : b ^ k * b ≤ n / b * b := Int.mul_le_mul_of_nonneg_right k2 (by omega)
      omega
    · have : n / b = 0 := by have := (div_lt hb h).1; omega
      rw [this, ld_0]
      exact ⟨0, rfl, by simp; omega⟩
  obtain ⟨k, k1, k2⟩ := key n (by omega) hn
  have hl : (dg b n).length = k + 1 := by unfold dg; rw [if_neg (by omega), List.length_reverse, k1]
  rw [hl] at h1
  exact ⟨k, hl, k2, h1⟩
theorem pow_lt {b : Int} (hb : 2 ≤ b) {i j : Nat} (h : i ≤ j) : b ^ i ≤ b ^ j := by
  obtain ⟨k, rfl⟩ := Nat.exists_eq_add_of_le h
  have p1 := pow_pos' hb i
  have p2 := pow_pos' hb k
  have : b ^ i * 1 ≤ b ^ i * b ^ k := Int.mul_le_mul_of_nonneg_left (by omega) (by omega)
  rw [Int.pow_add]
  omega
theorem dg_len {b n : Int} (hb : 2 ≤ b) {k : Nat} (h1 : b ^ k ≤ n) (h2 : n < b ^ (k + 1)) : (dg b n).length = k + 1 := by
  have p := pow_pos' hb k
  obtain ⟨j, j1, j2, j3⟩ := dg_bounds hb (show 0 < n by omega)
  have : j = k := by
    rcases Nat.lt_trichotomy j k with h | h | h
    · have := pow_lt hb (show j + 1 ≤ k by omega); omega
    · exact h
    · have := pow_lt hb (show k + 1 ≤ j by omega); omega
  rw [j1, this]
/-- the digits of a worth -/
theorem dg_val {b d : Int} {l : List Int} (hb : 2 ≤ b) (h : Dig b (d :: l)) (hd : d ≠ 0) : dg b (val b (d :: l)) = d :: l := by
  obtain ⟨d1, d2⟩ := h d List.mem_cons_self
  obtain ⟨a1, a2⟩ := val_lt hb l fun x hx => h x (List.mem_cons_of_mem _ hx)
  have e1 : val b (d :: l) = d * b ^ l.length + val b l := by have := val_app b [d] l; simpa [val] using this
  obtain ⟨b1, b2⟩ := val_lt hb _ h
  have p := pow_pos' hb l.length
  have m : 1 * b ^ l.length ≤ d * b ^ l.length := Int.mul_le_mul_of_nonneg_right (by omega) (by omega)
  have hl := dg_len hb (k := l.length) (n := val b (d :: l)) (by omega) (by rw [List.length_cons] at b2; exact b2)
  refine val_inj hb _ _ (by rw [hl, List.length_cons]) (dig_dg hb b1) h (val_dg hb b1)
end K79

namespace K79
open Y YN
open PySem (Str PyData)
def pal (b n : Int) : Bool := decide (dg b n = (dg b n).reverse)
def rv (b n : Int) : Int := val b (dg b n).reverse
/-- a row and its own mirror -/
def fold (l : List Int) (k : Nat) : List Int := l ++ (l.take k).reverse
/-- what next_mirrored tells -/
def hd0 (b n : Int) : Int := val b ((dg b (n + 1)).take (((dg b (n + 1)).length + 1) / 2))
def fnd (b n x : Int) : Int := val b (fold (dg b x) ((dg b (n + 1)).length / 2))
def nm (b n : Int) : Int := if n < fnd b n (hd0 b n) then fnd b n (hd0 b n) else fnd b n (hd0 b n + 1)
theorem dg_cons {b n : Int} (hb : 2 ≤ b) (hn : 0 < n) : ∃ d l, dg b n = d :: l ∧ d ≠ 0 := by
  obtain ⟨k, k1, k2, k3⟩ := dg_bounds hb hn
  cases h : dg b n with
  | nil => rw [h] at k1; simp at k1
  | cons d l =>
    refine ⟨d, l, rfl, ?_⟩
    rintro rfl
    have hv := val_dg hb (show 0 ≤ n by omega)
    have hD := dig_dg hb (show 0 ≤ n by omega)
    rw [h] at hv hD k1
    obtain ⟨a1, a2⟩ := val_lt hb l fun x hx => hD x (List.mem_cons_of_mem _ hx)
    have e1 : val b (0 :: l) = 0 * b ^ l.length + val b l := by have := val_app b [0] l; simpa [val] using this
    rw [List.length_cons] at k1
    have : l.length = k := by omega
    rw [this] at a2
    omega
theorem Dig.app {b : Int} {l r : List Int} (h1 : Dig b l) (h2 : Dig b r) : Dig b (l ++ r) := fun d hd => (List.mem_append.mp hd).elim (h1 d) (h2 d)
theorem Dig.rev {b : Int} {l : List Int} (h : Dig b l) : Dig b l.reverse := fun d hd => h d (List.mem_reverse.mp hd)
theorem Dig.take {b : Int} {l : List Int} (h : Dig b l) (k : Nat) : Dig b (l.take k) := fun d hd => h d (List.mem_of_mem_take hd)
theorem fold_pal (l : List Int) (k : Nat) (h1 : l.length = k ∨ l.length = k + 1) : (fold l k).reverse = fold l k := by
  unfold fold
  rw [List.reverse_append, List.reverse_reverse]
  rcases h1 with h | h
  · rw [List.take_of_length_le (by omega)]
  · have e : l = l.take k ++ l.drop k := (List.take_append_drop k l).symm
    have hd : (l.drop k).length = 1 := by rw [List.length_drop]; omega
    match hq : l.drop k, hd with
    | [x], _ =>
      rw [hq] at e
      have e2 : l.reverse = x :: (l.take k).reverse := by
        conv => lhs; rw [e]
        simp
      rw [e2]
      conv => rhs; lhs; rw [e]
      simp
/-- a row that is its own mirror is folded -/
theorem pal_fold (l : List Int) (h : l.reverse = l) : l = fold (l.take ((l.length + 1) / 2)) (l.length / 2) := by
  unfold fold
  rw [List.take_take, Nat.min_eq_left (by omega)]
  have e : l = l.take ((l.length + 1) / 2) ++ l.drop ((l.length + 1) / 2) := (List.take_append_drop _ l).symm
  conv => lhs; rw [e]
  congr 1
  have : (l.take (l.length / 2)).reverse = l.reverse.drop (l.length - l.length / 2) := by rw [List.reverse_take]
  rw [this, h]
  congr 1
  omega
section
variable {b n : Int}
theorem hd0_facts (hb : 2 ≤ b) (hn : 0 ≤ n) : ∃ k : Nat, (dg b (n + 1)).length = k + 1 ∧ b ^ ((k + 2) / 2 - 1) ≤ hd0 b n ∧ hd0 b n < b ^ ((k + 2) / 2) ∧ dg b (hd0 b n) = (dg b (n + 1)).take ((k + 2) / 2) ∧
    hd0 b n * b ^ ((k + 1) / 2) ≤ n + 1 ∧ n + 1 < (hd0 b n + 1) * b ^ ((k + 1) / 2) := by
  obtain ⟨k, k1, k2, k3⟩ := dg_bounds hb (show 0 < n + 1 by omega)
  obtain ⟨d, l, hdl, d0⟩ := dg_cons hb (show 0 < n + 1 by omega)
  have hD := dig_dg hb (show 0 ≤ n + 1 by omega)
  have hv := val_dg hb (show 0 ≤ n + 1 by omega)
  have e0 : hd0 b n = val b ((dg b (n + 1)).take ((k + 2) / 2)) := by unfold hd0; rw [k1]
  have ht : (dg b (n + 1)).take ((k + 2) / 2) = d :: l.take ((k + 2) / 2 - 1) := by
    rw [hdl, show (k + 2) / 2 = ((k + 2) / 2 - 1) + 1 by omega, List.take_succ_cons]; rfl
  have hDt := hD.take ((k + 2) / 2)
  have hlt : ((dg b (n + 1)).take ((k + 2) / 2)).length = (k + 2) / 2 := by rw [List.length_take, k1]; omega
  have hdg : dg b (hd0 b n) = (dg b (n + 1)).take ((k + 2) / 2) := by
    rw [e0, ht]; rw [ht] at hDt; exact dg_val hb hDt d0
  obtain ⟨v1, v2⟩ := val_lt hb _ hDt
  rw [← e0, hlt] at v2
  rw [← e0] at v1
  have hp : 0 < hd0 b n := by
    by_cases h : hd0 b n = 0
    · rw [h] at hdg
      have : dg b 0 = [0] := rfl
      rw [this, ht] at hdg
      injection hdg with h1 _
      exact absurd h1.symm d0
    · omega
  obtain ⟨j, j1, j2, j3⟩ := dg_bounds hb hp
  rw [hdg, hlt] at j1
  have hs : dg b (n + 1) = (dg b (n + 1)).take ((k + 2) / 2) ++ (dg b (n + 1)).drop ((k + 2) / 2) := (List.take_append_drop _ _).symm
  have hsum : n + 1 = hd0 b n * b ^ ((k + 1) / 2) + val b ((dg b (n + 1)).drop ((k + 2) / 2)) := by
    have := val_app b ((dg b (n + 1)).take ((k + 2) / 2)) ((dg b (n + 1)).drop ((k + 2) / 2))
    rw [← hs, hv, List.length_drop, k1, ← e0, show k + 1 - (k + 2) / 2 = (k + 1) / 2 by omega] at this
    exact this
  have hDd : Dig b ((dg b (n + 1)).drop ((k + 2) / 2)) := fun x hx => hD x (List.mem_of_mem_drop hx)
  obtain ⟨w1, w2⟩ := val_lt hb _ hDd
  rw [List.length_drop, k1, show k + 1 - (k + 2) / 2 = (k + 1) / 2 by omega] at w2
  refine ⟨k, k1, by rw [show (k + 2) / 2 - 1 = j by omega]; exact j2, v2, hdg, by omega, ?_⟩
  have : (hd0 b n + 1) * b ^ ((k + 1) / 2) = hd0 b n * b ^ ((k + 1) / 2) + b ^ ((k + 1) / 2) := by grind
  omega
/-- a folded head -/
theorem fnd_facts (hb : 2 ≤ b) {k : Nat} (k1 : (dg b (n + 1)).length = k + 1) {x : Int} (h1 : b ^ ((k + 2) / 2 - 1) ≤ x) (h2 : x < b ^ ((k + 2) / 2)) :
    dg b (fnd b n x) = fold (dg b x) ((k + 1) / 2) ∧ pal b (fnd b n x) = true ∧ x * b ^ ((k + 1) / 2) ≤ fnd b n x ∧ fnd b n x < (x + 1) * b ^ ((k + 1) / 2) ∧ rv b (fnd b n x) = fnd b n x ∧ fnd b n x % b ≠ 0 ∧ fnd b n x < b ^ (k + 1) := by
  have p0 := pow_pos' hb ((k + 2) / 2 - 1)
  have hl : (dg b x).length = (k + 2) / 2 := by
    have := dg_len hb (k := (k + 2) / 2 - 1) h1 (by rw [show (k + 2) / 2 - 1 + 1 = (k + 2) / 2 by omega]; exact h2)
    omega
  have hD := dig_dg hb (show 0 ≤ x by omega)
  obtain ⟨d, l, hdl, d0⟩ := dg_cons hb (show 0 < x by omega)
  have hF : Dig b (fold (dg b x) ((k + 1) / 2)) := hD.app (hD.take _).rev
  have ef : fnd b n x = val b (fold (dg b x) ((k + 1) / 2)) := by unfold fnd; rw [k1]
  have hdg : dg b (fnd b n x) = fold (dg b x) ((k + 1) / 2) := by
    rw [ef]
    have e : fold (dg b x) ((k + 1) / 2) = d :: (l ++ ((dg b x).take ((k + 1) / 2)).reverse) := by unfold fold; rw [hdl]; rfl
    rw [e] at hF ⊢
    exact dg_val hb hF d0
  have hp : (fold (dg b x) ((k + 1) / 2)).reverse = fold (dg b x) ((k + 1) / 2) := fold_pal _ _ (by rw [hl]; omega)
  have hsum : fnd b n x = x * b ^ ((k + 1) / 2) + val b ((dg b x).take ((k + 1) / 2)).reverse := by
    rw [ef]
    unfold fold
    rw [val_app, val_dg hb (by omega), List.length_reverse, List.length_take, hl, Nat.min_eq_left (by omega)]
  obtain ⟨w1, w2⟩ := val_lt hb _ (hD.take ((k + 1) / 2)).rev
  rw [List.length_reverse, List.length_take, hl, Nat.min_eq_left (by omega)] at w2
  have hrv : rv b (fnd b n x) = fnd b n x := by
    unfold rv; rw [hdg, hp, ← hdg]
    exact val_dg hb (by have := Int.mul_nonneg (show 0 ≤ x by omega) (show 0 ≤ b ^ ((k + 1) / 2) from Int.le_of_lt (pow_pos' hb _)); omega)
  refine ⟨hdg, ?_, by omega, ?_, hrv, ?_, ?_⟩
  · unfold pal; rw [hdg, hp]; simp
  · have : (x + 1) * b ^ ((k + 1) / 2) = x * b ^ ((k + 1) / 2) + b ^ ((k + 1) / 2) := by grind
    omega
  · -- the last digit is the first
    have hx : ∃ q, fold (dg b x) ((k + 1) / 2) = q ++ [d] := by
      have : (fold (dg b x) ((k + 1) / 2)).reverse = d :: (l ++ ((dg b x).take ((k + 1) / 2)).reverse) := by rw [hp]; unfold fold; rw [hdl]; rfl
      refine ⟨(l ++ ((dg b x).take ((k + 1) / 2)).reverse).reverse, ?_⟩
      rw [← List.reverse_reverse (fold (dg b x) ((k + 1) / 2)), this, List.reverse_cons]
    obtain ⟨q, hq⟩ := hx
    rw [ef, hq, val_snoc]
    rw [hdl] at hD
    obtain ⟨d1, d2⟩ := hD d List.mem_cons_self
    rw [Int.add_comm, Int.add_mul_emod_self_left, Int.emod_eq_of_lt d1 d2]
    exact d0
  · have := (val_lt hb _ hF).2
    rw [← ef] at this
    have hlen : (fold (dg b x) ((k + 1) / 2)).length = k + 1 := by unfold fold; rw [List.length_append, List.length_reverse, List.length_take, hl]; omega
    rw [hlen] at this
    exact this
end
end K79

namespace K79
open Y YN
open PySem (Str PyData)
theorem val_rep (b : Int) : ∀ h : Nat, val b (List.replicate h (b - 1)) = b ^ h - 1
  | 0 => by simp [val]
  | h + 1 => by rw [List.replicate_succ', val_snoc, val_rep b h, Int.pow_succ]; grind
theorem dig_rep {b : Int} (hb : 2 ≤ b) (h : Nat) : Dig b (List.replicate h (b - 1)) := fun d hd => by
  have := List.eq_of_mem_replicate hd
  omega
section
variable {b n : Int}
theorem full (hb : 2 ≤ b) (hn : 0 ≤ n) {k : Nat} (k1 : (dg b (n + 1)).length = k + 1) (h : hd0 b n + 1 = b ^ ((k + 2) / 2)) (h1 : b ^ ((k + 2) / 2 - 1) ≤ hd0 b n) : n < fnd b n (hd0 b n) := by
  have hl : (dg b (hd0 b n)).length = (k + 2) / 2 := by
    have := dg_len hb (k := (k + 2) / 2 - 1) h1 (by rw [show (k + 2) / 2 - 1 + 1 = (k + 2) / 2 by omega]; omega)
    omega
  have p0 := pow_pos' hb ((k + 2) / 2 - 1)
  have hr : dg b (hd0 b n) = List.replicate ((k + 2) / 2) (b - 1) := by
    refine val_inj hb _ _ (by rw [hl, List.length_replicate]) (dig_dg hb (by omega)) (dig_rep hb _) ?_
    rw [val_dg hb (by omega), val_rep]; omega
  have hf : fnd b n (hd0 b n) = b ^ (k + 1) - 1 := by
    unfold fnd fold
    rw [k1, hr, List.take_replicate, List.reverse_replicate, List.replicate_append_replicate, val_rep]
    congr 2
    omega
  obtain ⟨j, j1, j2, j3⟩ := dg_bounds hb (show 0 < n + 1 by omega)
  have : j = k := by omega
  subst this
  omega
theorem nm_facts (hb : 2 ≤ b) (hn : 0 ≤ n) : n < nm b n ∧ pal b (nm b n) = true ∧ rv b (nm b n) = nm b n ∧ nm b n % b ≠ 0 ∧ nm b n ≤ b * (n + 1) ∧ (∀ x, n < x → x < nm b n → ¬ (rv b x = x ∧ x % b ≠ 0)) ∧
    ∃ k : Nat, (dg b (n + 1)).length = k + 1 ∧ dg b (hd0 b n) = (dg b (n + 1)).take ((k + 2) / 2) ∧ 0 < hd0 b n ∧ ((dg b (n + 1)).take ((k + 2) / 2)).length = (k + 2) / 2 ∧
      (¬ n < fnd b n (hd0 b n) → (dg b (hd0 b n + 1)).length = (k + 2) / 2 ∧ n < fnd b n (hd0 b n + 1)) := by
  obtain ⟨k, k1, h1, h2, h3, h4, h5⟩ := hd0_facts hb hn
  have p0 := pow_pos' hb ((k + 2) / 2 - 1)
  have pm := pow_pos' hb ((k + 1) / 2)
  obtain ⟨j, j1, j2, j3⟩ := dg_bounds hb (show 0 < n + 1 by omega)
  have hj : j = k := by omega
  subst hj
  obtain ⟨a1, a2, a3, a4, a5, a6, a7⟩ := fnd_facts (n := n) hb k1 h1 h2
  have hmul : ∀ u v : Int, u ≤ v → u * b ^ ((j + 1) / 2) ≤ v * b ^ ((j + 1) / 2) := fun u v h => Int.mul_le_mul_of_nonneg_right h (by omega)
  have hx : ∀ x, n < x → rv b x = x → x % b ≠ 0 → (b ^ (j + 1) ≤ x) ∨ ∃ y, hd0 b n ≤ y ∧ x = fnd b n y ∧ y * b ^ ((j + 1) / 2) ≤ x := by
    intro x hnx hrx hxb
    have hx0 : x ≠ 0 := by omega
    have hD := dig_ld hb x (by omega)
    have e1 : (dg b x).reverse = ld b x := by unfold dg; rw [if_neg hx0, List.reverse_reverse]
    have e2 : dg b x = (dg b x).reverse := by
      have : val b (ld b x) = x := by rw [← e1]; exact hrx
      rw [e1]
      rw [ld_pos hb (by omega)] at hD this ⊢
      have := dg_val hb hD hxb
      rw [show val b (x % b :: ld b (x / b)) = x by assumption] at this
      exact this
    obtain ⟨i, i1, i2, i3⟩ := dg_bounds hb (show 0 < x by omega)
    by_cases hij : j < i
    · left
      have := pow_lt hb (show j + 1 ≤ i by omega); omega
    · right
      have hij2 : i = j := by
        by_cases h : i < j
        · have := pow_lt hb (show i + 1 ≤ j by omega); omega
        · omega
      subst hij2
      obtain ⟨k', k1', h1', h2', h3', h4', h5'⟩ := hd0_facts (n := x - 1) hb (by omega)
      rw [show x - 1 + 1 = x by omega] at k1' h3' h4' h5'
      have : k' = i := by omega
      subst this
      refine ⟨hd0 b (x - 1), ?_, ?_, h4'⟩
      · by_cases h : hd0 b n ≤ hd0 b (x - 1)
        · exact h
        · have := hmul (hd0 b (x - 1) + 1) (hd0 b n) (by omega); omega
      · unfold fnd
        rw [k1, h3']
        have := pal_fold (dg b x) e2.symm
        rw [i1] at this
        rw [← this, val_dg hb (by omega)]
  have hB : ¬ n < fnd b n (hd0 b n) → hd0 b n + 1 < b ^ ((j + 2) / 2) := by
    intro h
    by_cases h' : hd0 b n + 1 = b ^ ((j + 2) / 2)
    · exact absurd (full hb hn k1 h' h1) h
    · omega
  have hlt : ((dg b (n + 1)).take ((j + 2) / 2)).length = (j + 2) / 2 := by rw [List.length_take, k1]; omega
  have hbn : b ^ (j + 1) ≤ b * (n + 1) := by
    rw [Int.pow_succ, Int.mul_comm b (n + 1)]
    exact Int.mul_le_mul_of_nonneg_right j2 (by omega)
  by_cases hc : n < fnd b n (hd0 b n)
  · have e : nm b n = fnd b n (hd0 b n) := by unfold nm; rw [if_pos hc]
    rw [e]
    refine ⟨hc, a2, a5, a6, by omega, fun x x1 x2 ⟨x3, x4⟩ => ?_, j, k1, h3, by omega, hlt, fun h => absurd hc h⟩
    rcases hx x x1 x3 x4 with h | ⟨y, y1, y2, y3⟩
    · omega
    · by_cases hy : y = hd0 b n
      · rw [hy] at y2; omega
      · have := hmul (hd0 b n + 1) y (by omega); omega
  · have e : nm b n = fnd b n (hd0 b n + 1) := by unfold nm; rw [if_neg hc]
    have hB' := hB hc
    obtain ⟨c1, c2, c3, c4, c5, c6, c7⟩ := fnd_facts (n := n) hb k1 (show b ^ ((j + 2) / 2 - 1) ≤ hd0 b n + 1 by omega) hB'
    have hgt : n < fnd b n (hd0 b n + 1) := by omega
    have hl : (dg b (hd0 b n + 1)).length = (j + 2) / 2 := by
      have := dg_len hb (k := (j + 2) / 2 - 1) (n := hd0 b n + 1) (by omega) (by rw [show (j + 2) / 2 - 1 + 1 = (j + 2) / 2 by omega]; omega)
      omega
    rw [e]
    refine ⟨hgt, c2, c5, c6, by omega, fun x x1 x2 ⟨x3, x4⟩ => ?_, j, k1, h3, by omega, hlt, fun _ => ⟨hl, hgt⟩⟩
    rcases hx x x1 x3 x4 with h | ⟨y, y1, y2, y3⟩
    · omega
    · by_cases hy : y = hd0 b n
      · rw [hy] at y2; omega
      · by_cases hy2 : y = hd0 b n + 1
        · rw [hy2] at y2; omega
        · have := hmul (hd0 b n + 1 + 1) y (by omega); omega
/-- the path of sums -/
def pth (b : Int) : Nat → Int → List Int
  | 0, n => [n]
  | k + 1, n => if pal b n = true then [n] else n :: pth b k (n + rv b n)
theorem rv_bd (hb : 2 ≤ b) (hb2 : b ≤ 36) (hn : 0 ≤ n) : 0 ≤ rv b n ∧ rv b n ≤ 36 * n := by
  have h := val_lt hb _ (dig_dg hb hn).rev
  by_cases h0 : n = 0
  · subst h0
    have : rv b 0 = 0 := by unfold rv; rw [show dg b 0 = [0] from rfl]; simp [val]
    omega
  · obtain ⟨k, k1, k2, k3⟩ := dg_bounds hb (show 0 < n by omega)
    rw [List.length_reverse, k1] at h
    refine ⟨h.1, ?_⟩
    have h1 : b ^ (k + 1) ≤ 36 * n := by
      rw [Int.pow_succ, Int.mul_comm]
      exact Int.mul_le_mul hb2 k2 (Int.le_of_lt (pow_pos' hb k)) (by omega)
    have : rv b n < b ^ (k + 1) := h.2
    omega
end
end K79

namespace K79
open Y YN
open PySem (Str PyData)
def ii (l : List Int) : List D := l.map D.int
theorem ii_len (l : List Int) : (ii l).length = l.length := List.length_map ..
theorem ii_app (l r : List Int) : ii (l ++ r) = ii l ++ ii r := List.map_append ..
theorem ii_rev (l : List Int) : ii l.reverse = (ii l).reverse := List.map_reverse ..
theorem ii_take (l : List Int) (k : Nat) : ii (l.take k) = (ii l).take k := List.map_take ..
theorem ii_nil : ii [] = [] := rfl
theorem ii_one (x : Int) : ii [x] = [.int x] := rfl
theorem ii_cons (x : Int) (l : List Int) : ii (x :: l) = .int x :: ii l := rfl
theorem ii_pure (l : List Int) : D.pureL (ii l) = true := ints_pure l
theorem ii_plain : ∀ l : List Int, plainL (ii l) = true ∧ depL (ii l) = 0
  | [] => ⟨rfl, rfl⟩
  | x :: l => by
    obtain ⟨a, b⟩ := ii_plain l
    refine ⟨?_, ?_⟩
    · show (plainD (.int x) && plainL (ii l)) = true
      rw [a]; rfl
    · show max (dep (.int x)) (depL (ii l)) = 0
      rw [b]; rfl
theorem eqv_ii : ∀ xs ys : List Int, PyData.eqvAll (pyPL (ii xs)) (pyPL (ii ys)) = decide (xs = ys)
  | [], [] => rfl
  | [], _ :: _ => by simp [ii_cons, ii_nil, PyData.eqvAll]
  | _ :: _, [] => by simp [ii_cons, ii_nil, PyData.eqvAll]
  | x :: xs, y :: ys => by
    rw [ii_cons, ii_cons, pyPL_cons, pyPL_cons]
    unfold PyData.eqvAll
    rw [eqv_ii xs ys]
    by_cases h : x = y <;> by_cases h2 : xs = ys <;> simp [pyP, PyData.eqv, h, h2]
theorem eq_refs {s : S} {i j : Nat} {xs ys : List Int} (ha : s[i]? = some (.lst (ii xs))) (hb : s[j]? = some (.lst (ii ys))) : oEq (.ref i) (.ref j) s = .ok (.bl (decide (xs = ys))) s := by
  rw [eq_lists ha hb (ii_plain xs).1 (ii_plain ys).1 (by rw [(ii_plain xs).2]; omega) (by rw [(ii_plain ys).2]; omega), eqv_ii]
theorem tup_plain {xs : List Int} (h : xs.length ≤ 1000000) : plainD (.tup (ii xs)) = true ∧ dep (.tup (ii xs)) = 1 := by
  refine ⟨?_, ?_⟩
  · unfold plainD; simp [(ii_plain xs).1, ii_len, h]
  · unfold dep; rw [(ii_plain xs).2]
theorem eq_tups {s : S} {xs ys : List Int} (h1 : xs.length ≤ 1000000) (h2 : ys.length ≤ 1000000) : oEq (.tup (ii xs)) (.tup (ii ys)) s = .ok (.bl (decide (xs = ys))) s := by
  rw [eq_plain (tup_plain h1).1 (tup_plain h2).1 (by rw [(tup_plain h1).2]; omega) (by rw [(tup_plain h2).2]; omega)]
  unfold pyP PyData.eqv
  rw [eqv_ii]
theorem ne_tups {s : S} {xs ys : List Int} (h1 : xs.length ≤ 1000000) (h2 : ys.length ≤ 1000000) : oNe (.tup (ii xs)) (.tup (ii ys)) s = .ok (.bl (!decide (xs = ys))) s := by
  rw [ne_plain (tup_plain h1).1 (tup_plain h2).1 (by rw [(tup_plain h1).2]; omega) (by rw [(tup_plain h2).2]; omega)]
  unfold pyP PyData.eqv
  rw [eqv_ii]
theorem ldF_len (b : Int) : ∀ (f : Nat) (n : Int), (ldF f b n).length ≤ f
  | 0, _ => Nat.le_refl 0
  | f + 1, n => by
    unfold ldF
    split
    · rw [List.length_cons]; have := ldF_len b f (n / b); omega
    · exact Nat.zero_le _
theorem ld_len {b n : Int} (hb : 2 ≤ b) (hn : n < (B1 : Int)) : (ld b n).length ≤ 4000 := by
  have e : (B1 : Int) = (2 : Int) ^ 4000 := by unfold B1; exact Int.natCast_pow 2 4000
  rw [e] at hn
  have : ld b n = ldF 4000 b n := ldF_eq hb _ _ _ (lt_log n) hn
  rw [this]
  exact ldF_len b 4000 n
theorem dg_len2 {b n : Int} (hb : 2 ≤ b) (hn : n < (B1 : Int)) : (dg b n).length ≤ 4000 := by
  unfold dg
  split
  · simp
  · rw [List.length_reverse]; exact ld_len hb hn
def mu (r : Env) (s : S) : Nat := match r, s with
  | .int m :: _, .lst [] :: _ => m.toNat + 1
  | .int m :: _, _ => m.toNat
  | _, _ => 0
theorem mu_eq (m : Int) (r : Env) (acc : List Int) (g : S) : mu (.int m :: r) (.lst (ii acc) :: g) = if acc = [] then m.toNat + 1 else m.toNat := by
  cases acc <;> rfl
theorem digits_in_ok {b n : Int} (hb : 2 ≤ b) (hb2 : b ≤ 36) (h0 : 0 ≤ n) (hn : n + 1 < (B1 : Int)) : ∃ g j, D_digits_in [.int n, .int b] [] = .ok (.ref j) g ∧ g[j]? = some (.lst (ii (dg b n))) := by
  rw [r_digits_in]
  unfold b_digits_in
  have m1 := fun i st => v_mul64r (i := i) (j := b) (s := st) (by omega)
  have d1 := fun i st => v_div64 (i := i) (j := b) (s := st) (by omega) (by omega)
  have hl := ld_len (b := b) (n := n) hb (by omega)
  simp only [ap_zCons, ap_zSet, ap_eLst, ap_aN, bind_ok, List.length_nil, then_ok, ap_gV, List.length_cons, Nat.reduceAdd, Nat.reduceLT, if_true, List.set_cons_succ, List.set_cons_zero, Go_some, andThen_nx, Nat.zero_le, List.nil_append]
  obtain ⟨r', s', e, g, rfl, rfl⟩ := zWhile_invB (c := tOr (tst (e2 oGt (eV 0) (eC (.int 0)))) (tst (e2 oEq (eV 2) (eLst aN)))) (b := zCons (zEx (eMe isL mApp (eV 2) (aC (e2 oSub (eV 0) (e2 oMul (e2 oDiv (eV 0) (eV 1)) (eV 1))) aN))) (zSet (gV 0) (e2 oDiv (eV 0) (eV 1))))
    (fun r s => ∃ m acc g, r = [.int m, .int b, .ref 0] ∧ s = .lst (ii acc) :: g ∧ 0 ≤ m ∧ m < B1 ∧ acc.length ≤ 4000 ∧ (acc = [] → m = n) ∧ (acc ≠ [] → acc ++ ld b m = (dg b n).reverse))
    (fun r s => ∃ g, r = [.int 0, .int b, .ref 0] ∧ s = .lst (ii (dg b n).reverse) :: g)
    mu (by
      rintro _ _ ⟨m, acc, g, rfl, rfl, hm, hm1, hacc, ha1, ha2⟩
      have step : ∀ g2 : List O, ((0 < m) ∨ acc = []) → ∃ r2 s2, (zCons (zEx (eMe isL mApp (eV 2) (aC (e2 oSub (eV 0) (e2 oMul (e2 oDiv (eV 0) (eV 1)) (eV 1))) aN))) (zSet (gV 0) (e2 oDiv (eV 0) (eV 1))) [.int m, .int b, .ref 0] (.lst (ii acc) :: g2) = .nx r2 s2 ∨ zCons (zEx (eMe isL mApp (eV 2) (aC (e2 oSub (eV 0) (e2 oMul (e2 oDiv (eV 0) (eV 1)) (eV 1))) aN))) (zSet (gV 0) (e2 oDiv (eV 0) (eV 1))) [.int m, .int b, .ref 0] (.lst (ii acc) :: g2) = .ct r2 s2) ∧ (∃ m acc g, r2 = [.int m, .int b, .ref 0] ∧ s2 = .lst (ii acc) :: g ∧ 0 ≤ m ∧ m < B1 ∧ acc.length ≤ 4000 ∧ (acc = [] → m = n) ∧ (acc ≠ [] → acc ++ ld b m = (dg b n).reverse)) ∧ mu r2 s2 < (if acc = [] then m.toNat + 1 else m.toNat) := by
        intro g2 hcase
        have hmod : m - m / b * b = m % b := by have := Int.mul_ediv_add_emod m b; have := Int.mul_comm b (m / b); omega
        have hnew : (acc ++ [m % b]) ++ ld b (m / b) = (dg b n).reverse := by
          by_cases hp : 0 < m
          · have e3 : acc ++ [m % b] ++ ld b (m / b) = acc ++ ld b m := by rw [ld_pos hb hp]; simp
            rw [e3]
            by_cases hn' : acc = []
            · subst hn'
              have := ha1 rfl
              subst this
              unfold dg
              rw [if_neg (by omega), List.reverse_reverse]; rfl
            · exact ha2 hn'
          · have hn' : acc = [] := by rcases hcase with h | h; exact absurd h hp; exact h
            have hm0 : m = 0 := by omega
            subst hn'
            have := ha1 rfl
            subst this
            subst hm0
            rw [Int.zero_emod, Int.zero_ediv]; rfl
        have hlen : acc.length + 1 ≤ 4000 := by
          have h1 := congrArg List.length hnew
          rw [List.length_append, List.length_append, List.length_reverse] at h1
          have h2 := dg_len2 (b := b) (n := n) hb (by omega)
          simp at h1
          omega
        have hap : (ii acc).length < LINE := by rw [ii_len]; unfold LINE; omega
        refine ⟨[.int (m / b), .int b, .ref 0], .lst (ii (acc ++ [m % b])) :: g2, .inl ?_, ⟨m / b, acc ++ [m % b], g2, rfl, rfl, Int.ediv_nonneg hm (by omega), ?_, by simp; omega, fun h => by simp at h, fun _ => hnew⟩, ?_⟩
        · simp [d1, m1, hmod, hap, ii_app, ii_one]
        · have : m / b ≤ m := Int.ediv_le_self _ hm
          omega
        · rw [mu_eq, if_neg (by simp)]
          by_cases hp : 0 < m
          · have := (div_lt hb hp)
            split <;> omega
          · have hn' : acc = [] := by rcases hcase with h | h; exact absurd h hp; exact h
            have hm0 : m = 0 := by omega
            rw [if_pos hn', hm0, Int.zero_ediv]
            omega
      by_cases hp : 0 < m
      · refine ⟨true, .lst (ii acc) :: g, by simp [hp], fun h => by simp at h, fun _ => ?_⟩
        rw [mu_eq]
        exact step g (.inl hp)
      · have hm0 : m = 0 := by omega
        refine ⟨decide (acc = []), .lst (ii acc) :: (g ++ [.lst (ii [])]), ?_, ?_, ?_⟩
        · have := eq_refs (s := .lst (ii acc) :: (g ++ [.lst (ii [])])) (i := 0) (j := g.length + 1) (xs := acc) (ys := []) rfl (by simp)
          simp [hp, ii_nil] at this ⊢
          simp [this]
        · intro h
          have h' : acc ≠ [] := by simpa using h
          refine ⟨g ++ [.lst (ii [])], by rw [hm0], ?_⟩
          have := ha2 h'
          rw [hm0, ld_0, List.append_nil] at this
          rw [this]
        · intro h
          rw [mu_eq]
          exact step _ (.inr (by simpa using h))) (r := [.int n, .int b, .ref 0]) (s := [.lst []]) ⟨n, [], [], rfl, rfl, h0, by omega, by simp, fun _ => rfl, fun h => absurd rfl h⟩ (by
      show n.toNat + 1 < B1
      omega)
  rw [e]
  refine ⟨.lst (ii (dg b n).reverse) :: (g ++ [.lst (ii (dg b n))]), g.length + 1, ?_, by simp⟩
  simp [oRev, ← ii_rev]
end K79

namespace K79
open Y YN
open PySem (Str PyData)
theorem digits_in_k {b n : Int} {s : S} (hb : 2 ≤ b) (hb2 : b ≤ 36) (h0 : 0 ≤ n) (hn : n + 1 < (B1 : Int)) : callK D_digits_in [.int n, .int b] s = .ok (.ref s.length) (s ++ [.lst (ii (dg b n))]) := by
  obtain ⟨g, j, e, h⟩ := digits_in_ok hb hb2 h0 hn
  exact callK_new rfl e h (by show D.pureL _ = true; exact ii_pure _)
theorem number_in_k {b : Int} {k : Nat} {l : List Int} {s : S} (hb : 2 ≤ b) (hb2 : b ≤ 36) (hl : l.length ≤ 1000000) (hs : s[k]? = some (.lst (ii l))) : callK D_number_in [.ref k, .int b] s = .ok (.int (val b l)) s := by
  have hp : (O.lst (ii l)).pure = true := ii_pure l
  have h := callK_ref (f := D_number_in) (ds := [.int b]) (s := s) (n := k) (o := .lst (ii l)) (o' := .lst (ii l)) (g := []) (d := .int (val b l)) rfl hs hp (by
    rw [r_number_in]
    unfold b_number_in
    have m1 := fun j st => v_mul64 (i := b) (j := j) (s := st) (by omega)
    obtain ⟨r', s', e, x, rfl, rfl⟩ := forR_forM (g := gV 3) (b := zSet (gV 2) (e2 oAdd (e2 oMul (eV 1) (eV 2)) (eV 3))) (n := 0) (xs := ii l) FUEL 0 [.ref 0, .int b, .int 0, .undef] [.lst (ii l)] (fun j r s => ∃ x, r = [.ref 0, .int b, .int (val b (l.take j)), x] ∧ s = [.lst (ii l)]) (by
        rw [ii_len]; have h1 := B1_fuel; have h2 := B01; have h3 := B0_big; omega) ⟨.undef, by simp [val], rfl⟩ (by rintro j _ _ ⟨x, rfl, rfl⟩; rfl) (by
        rintro j x _ _ hx ⟨y, rfl, rfl⟩
        obtain ⟨d, hd, rfl⟩ : ∃ d, l[j]? = some d ∧ D.int d = x := by
          unfold ii at hx
          rw [List.getElem?_map] at hx
          cases h : l[j]? with
          | none => rw [h] at hx; cases hx
          | some d => rw [h] at hx; exact ⟨d, rfl, by simpa using hx⟩
        have e2 : l.take (j + 1) = l.take j ++ [d] := by rw [List.take_succ, hd]; rfl
        exact ⟨_, _, [.ref 0, .int b, .int (val b (l.take (j + 1))), .int d], [.lst (ii l)], by simp; exact ⟨rfl, rfl⟩, .inl (by simp [m1, e2, val_snoc]), _, rfl, rfl⟩) (Nat.zero_le _)
    rw [ii_len, List.take_length] at e
    simp [e]) hp rfl
  rw [set_same hs] at h
  exact h
theorem law_value_k {b : Int} {l : List Int} {s : S} (hb : 2 ≤ b) (hb2 : b ≤ 36) (hl : l.length ≤ 1000000) : callK D__law_value [.tup (ii l), .int b] s = .ok (.int (val b l)) s := by
  refine callK_val (g := []) (by show (D.pureL (ii l) && true) = true; rw [ii_pure]; rfl) ?_ rfl
  rw [r__law_value]
  unfold b__law_value
  have m1 := fun i st => v_mul64r (i := i) (j := b) (s := st) (by omega)
  obtain ⟨r', s', e, x, rfl, rfl⟩ := forM_nx (g := gV 3) (b := zSet (gV 2) (e2 oAdd (e2 oMul (eV 2) (eV 1)) (eV 3))) (fun j r s => ∃ x, r = [.tup (ii l), .int b, .int (val b (l.take j)), x] ∧ s = []) (xs := ii l) (r := [.tup (ii l), .int b, .int 0, .undef]) (s := []) ⟨.undef, by simp [val], rfl⟩ (by
    rintro j x _ _ hx ⟨y, rfl, rfl⟩
    obtain ⟨d, hd, rfl⟩ : ∃ d, l[j]? = some d ∧ D.int d = x := by
      unfold ii at hx
      rw [List.getElem?_map] at hx
      cases h : l[j]? with
      | none => rw [h] at hx; cases hx
      | some d => rw [h] at hx; exact ⟨d, rfl, by simpa using hx⟩
    have e2 : l.take (j + 1) = l.take j ++ [d] := by rw [List.take_succ, hd]; rfl
    refine ⟨_, _, by simp; exact ⟨rfl, rfl⟩, fun Q hQ => ?_⟩
    simp [m1]
    exact Nx_nx (hQ _ _ ⟨_, by rw [e2, val_snoc, Int.mul_comm b], rfl⟩))
  rw [ii_len, List.take_length] at e
  simp [e]
def mu2 (r : Env) : Nat := match r with
  | [.int m, _, _, .tup []] => m.toNat + 1
  | .int m :: _ => m.toNat
  | _ => 0
theorem mu2_eq (b m : Int) (acc : List Int) : mu2 [.int m, .int b, .int 1, .tup (ii acc)] = if acc = [] then m.toNat + 1 else m.toNat := by cases acc <;> rfl
theorem law_digits_k {b n : Int} {s : S} (hb : 2 ≤ b) (hb2 : b ≤ 36) (h0 : 0 ≤ n) (hn : n + 1 < (B1 : Int)) : callK D__law_digits [.int n, .int b, .int 1] s = .ok (.tup (ii (dg b n))) s := by
  refine callK_tup (g := []) rfl ?_ (ii_pure _)
  rw [r__law_digits]
  unfold b__law_digits
  have d1 := fun i st => v_div64 (i := i) (j := b) (s := st) (by omega) (by omega)
  have md := fun i st => v_modP (i := i) (j := b) (s := st) (by omega)
  simp only [ap_zCons, ap_zSet, ap_eTup, ap_aN, bind_ok, List.length_nil, then_ok, ap_gV, List.length_cons, Nat.reduceAdd, Nat.reduceLT, if_true, List.set_cons_succ, List.set_cons_zero, Go_some, andThen_nx, Nat.zero_le]
  obtain ⟨r', s', e, rfl, rfl⟩ := zWhile_invB (c := tOr (tst (e2 oGt (eV 0) (eC (.int 0)))) (tst (e2 oLt (eN bLen (aC (eV 3) aN)) (eN bMax2 (aC (eC (.int 1)) (aC (eV 2) aN)))))) (b := zPar 3 0 (e2 oAdd (eTup (aC (e2 oMod (eN bInt (aC (eV 0) aN)) (eV 1)) aN)) (eV 3)) (eN bInt (aC (e2 oDiv (eV 0) (eV 1)) aN)))
    (fun r s => ∃ m acc, r = [.int m, .int b, .int 1, .tup (ii acc)] ∧ s = [] ∧ 0 ≤ m ∧ m < B1 ∧ acc.length ≤ 4000 ∧ (acc = [] → m = n) ∧ (acc ≠ [] → (ld b m).reverse ++ acc = dg b n))
    (fun r s => r = [.int 0, .int b, .int 1, .tup (ii (dg b n))] ∧ s = [])
    (fun r _ => mu2 r) (by
      rintro _ _ ⟨m, acc, rfl, rfl, hm, hm1, hacc, ha1, ha2⟩
      refine ⟨decide (0 < m ∨ acc = []), [], ?_, ?_, ?_⟩
      · by_cases hp : 0 < m
        · simp [hp]
        · cases acc with
          | nil => simp [hp, ii_nil]
          | cons x l => simp [hp, ii_len]; omega
      · intro h
        have h' : ¬ (0 < m ∨ acc = []) := by simpa using h
        have h1 : m = 0 := by omega
        have h2 : acc ≠ [] := fun h => h' (.inr h)
        have := ha2 h2
        rw [h1, ld_0] at this
        rw [h1]
        exact ⟨by rw [← this]; rfl, rfl⟩
      · intro h
        have hcase : 0 < m ∨ acc = [] := by simpa using h
        have hnew : (ld b (m / b)).reverse ++ (m % b :: acc) = dg b n := by
          by_cases hp : 0 < m
          · have e3 : (ld b (m / b)).reverse ++ (m % b :: acc) = (ld b m).reverse ++ acc := by rw [ld_pos hb hp]; simp
            rw [e3]
            by_cases hn' : acc = []
            · subst hn'
              have := ha1 rfl
              subst this
              unfold dg
              rw [if_neg (by omega), List.append_nil]
            · exact ha2 hn'
          · have hn' : acc = [] := by rcases hcase with h | h; exact absurd h hp; exact h
            have hm0 : m = 0 := by omega
            subst hn'
            have := ha1 rfl
            subst this
            subst hm0
            rw [Int.zero_emod, Int.zero_ediv]; rfl
        have hlen : acc.length + 1 ≤ 4000 := by
          have h1 := congrArg List.length hnew
          rw [List.length_append, List.length_cons] at h1
          have h2 := dg_len2 (b := b) (n := n) hb (by omega)
          omega
        have hap : 1 + (ii acc).length ≤ LINE := by rw [ii_len]; unfold LINE; omega
        have hadd : ∀ st, oAdd (.tup [.int (m % b)]) (.tup (ii acc)) st = .ok (.tup (.int (m % b) :: ii acc)) st := fun st => by
          unfold oAdd; simp; omega
        refine ⟨[.int (m / b), .int b, .int 1, .tup (ii (m % b :: acc))], [], .inl (by simp [d1, md, hadd, ii_cons]), ⟨m / b, m % b :: acc, rfl, rfl, Int.ediv_nonneg hm (by omega), ?_, by rw [List.length_cons]; exact hlen, fun h => by simp at h, fun _ => hnew⟩, ?_⟩
        · have : m / b ≤ m := Int.ediv_le_self _ hm
          omega
        · show mu2 _ < mu2 _
          rw [mu2_eq, mu2_eq, if_neg (by simp)]
          by_cases hp : 0 < m
          · have := (div_lt hb hp)
            split <;> omega
          · have hn' : acc = [] := by rcases hcase with h | h; exact absurd h hp; exact h
            have hm0 : m = 0 := by omega
            rw [if_pos hn', hm0, Int.zero_ediv]
            omega) (r := [.int n, .int b, .int 1, .tup []]) (s := []) ⟨n, [], rfl, rfl, h0, by omega, by simp, fun _ => rfl, fun h => absurd rfl h⟩ (by
      show n.toNat + 1 < B1
      omega)
  rw [e]
  simp
theorem law_turned_k {b n : Int} {s : S} (hb : 2 ≤ b) (hb2 : b ≤ 36) (h0 : 0 ≤ n) (hn : n + 1 < (B1 : Int)) : callK D__law_turned [.int n, .int b] s = .ok (.int (rv b n)) s := by
  refine callK_val (g := []) rfl ?_ rfl
  rw [r__law_turned]
  unfold b__law_turned
  have h1 := law_value_k (l := (dg b n).reverse) (s := []) hb hb2 (by rw [List.length_reverse]; have := dg_len2 (b := b) (n := n) hb (by omega); omega)
  simp [law_digits_k hb hb2 h0 hn, oRev, ← ii_rev, h1, rv]
end K79

namespace K79
open Y YN
open PySem (Str PyData)
theorem B1_30 : (1000000000000000000000000000000000000000000000000000000000000 : Int) < (B1 : Int) := by
  have h2 := B01; have h3 := B0_big; omega
theorem add_refs {i j : Nat} {xs ys : List D} {s : S} (ha : s[i]? = some (.lst xs)) (hb : s[j]? = some (.lst ys)) (h : xs.length + ys.length ≤ 1000000) : oAdd (.ref i) (.ref j) s = .ok (.ref s.length) (s ++ [.lst (xs ++ ys)]) := by
  unfold oAdd
  simp [ha, hb]
  unfold LINE; omega
theorem p30 (s : S) : oPow (.int 10) (.int 30) s = .ok (.int 1000000000000000000000000000000) s := rfl
theorem turned_sum_k {b n : Int} {s : S} (hb : 2 ≤ b) (hb2 : b ≤ 36) (h0 : 0 ≤ n) (hn : n ≤ 1000000000000000000000000000000) : callK D_turned_sum [.int b, .int n] s = .ok (.int (n + rv b n)) s := by
  refine callK_val (g := [.lst (ii (dg b n)), .lst (ii (dg b n).reverse)]) rfl ?_ rfl
  rw [r_turned_sum]
  unfold b_turned_sum
  have hB := B1_30
  have hl := dg_len2 (b := b) (n := n) hb (by omega)
  have nk := number_in_k (k := 1) (l := (dg b n).reverse) (s := [.lst (ii (dg b n)), .lst (ii (dg b n).reverse)]) hb hb2 (by rw [List.length_reverse]; omega) rfl
  simp [need_whole_k hb hb2, p30, need_whole_k h0 hn, digits_in_k hb hb2 h0 (show n + 1 < (B1 : Int) by omega), oRev, ← ii_rev, nk, rv]
theorem is_mirrored_k {b n : Int} {s : S} (hb : 2 ≤ b) (hb2 : b ≤ 36) (h0 : 0 ≤ n) (hn : n ≤ 1000000000000000000000000000000) : callK D_is_mirrored [.int b, .int n] s = .ok (.bl (pal b n)) s := by
  refine callK_val (g := [.lst (ii (dg b n)), .lst (ii (dg b n).reverse)]) rfl ?_ rfl
  rw [r_is_mirrored]
  unfold b_is_mirrored
  have hB := B1_30
  have ek := eq_refs (i := 0) (j := 1) (xs := dg b n) (ys := (dg b n).reverse) (s := [.lst (ii (dg b n)), .lst (ii (dg b n).reverse)]) rfl rfl
  simp [need_whole_k hb hb2, p30, need_whole_k h0 hn, digits_in_k hb hb2 h0 (show n + 1 < (B1 : Int) by omega), oRev, ← ii_rev, ek, pal]
theorem mul_list {i : Nat} {xs : List D} {s : S} (ha : s[i]? = some (.lst xs)) : oMul (.ref i) (.int 0) s = .ok (.ref s.length) (s ++ [.lst []]) := by
  unfold oMul
  simp [ha]
theorem padded_in_k {b x h : Int} {s : S} (hb : 2 ≤ b) (hb2 : b ≤ 36) (h0 : 0 < x) (hx : x + 1 < (B1 : Int)) (hl : h = (dg b x).length) : callK D_padded_in [.int x, .int b, .int h] s = .ok (.ref s.length) (s ++ [.lst (ii (dg b x))]) := by
  refine callK_new (g := [.lst (ii (dg b x)), .lst [.int 0], .lst [], .lst (ii (dg b x))]) (j := 3) rfl ?_ rfl (by show D.pureL _ = true; exact ii_pure _)
  rw [r_padded_in]
  unfold b_padded_in
  have hlen := dg_len2 (b := b) (n := x) hb (by omega)
  have ml := mul_list (i := 1) (xs := [.int 0]) (s := [.lst (ii (dg b x)), .lst [.int 0]]) rfl
  have ad := add_refs (i := 2) (j := 0) (xs := []) (ys := ii (dg b x)) (s := [.lst (ii (dg b x)), .lst [.int 0], .lst []]) rfl rfl (by rw [ii_len]; simp; omega)
  simp [h0, digits_in_k hb hb2 (show 0 ≤ x by omega) hx, hl, ii_len, ml, ad]
theorem cutD_take {xs : List D} {k : Nat} (h : k ≤ xs.length) : cutD xs none (some (k : Int)) = xs.take k := by
  unfold cutD
  simp [cutIx]
  rw [if_neg (by omega)]
  omega
theorem forM_cons' {g : Tg} {b : Sm} {x : D} {xs : List D} {r : Env} {s : S} : Y.forM g b (x :: xs) r s = Go (g x r s) fun r1 s1 => (b r1 s1).turn (Y.forM g b xs) := by
  show (match g x r s with | some (r1, s1) => (b r1 s1).turn (Y.forM g b xs) | none => .stk) = _
  cases g x r s <;> rfl
theorem forM_nil' {g : Tg} {b : Sm} {r : Env} {s : S} : Y.forM g b [] r s = .nx r s := rfl
theorem next_mirrored_k {b n : Int} {s : S} (hb : 2 ≤ b) (hb2 : b ≤ 36) (h0 : 0 ≤ n) (hn : n ≤ 1000000000000000000000000000000) : callK D_next_mirrored [.int b, .int n] s = .ok (.int (nm b n)) s := by
  have hB := B1_30
  obtain ⟨n1, n2, n3, n4, n5, n6, k, k1, k2, k3, k4, k5⟩ := nm_facts hb h0
  have hlen := dg_len2 (b := b) (n := n + 1) hb (by omega)
  rw [k1] at hlen
  obtain ⟨h, hdef⟩ : ∃ h, h = (k + 2) / 2 := ⟨_, rfl⟩
  obtain ⟨m, mdef⟩ : ∃ m, m = (k + 1) / 2 := ⟨_, rfl⟩
  have hh : (((dg b (n + 1)).length : Int) + 1) / 2 = (h : Int) := by omega
  have hh2 : ((dg b (n + 1)).length : Int) / 2 = (m : Int) := by omega
  have d2 := fun i st => v_div64 (i := i) (j := 2) (s := st) (by decide) (by decide)
  have hhd : hd0 b n < n + 2 := by
    obtain ⟨k', _, _, _, _, q, _⟩ := hd0_facts hb h0
    have p := pow_pos' hb ((k' + 1) / 2)
    have : hd0 b n * 1 ≤ hd0 b n * b ^ ((k' + 1) / 2) := Int.mul_le_mul_of_nonneg_left (by omega) (by omega)
    omega
  have dk := digits_in_k (b := b) (n := n + 1) (s := []) hb hb2 (by omega) (by omega)
  have c1 : cutD (ii (dg b (n + 1))) none (some (h : Int)) = ii ((dg b (n + 1)).take (h)) := by
    rw [cutD_take (by rw [ii_len, k1]; omega), ii_take]
  rw [← hdef] at k2 k4 k5
  have hv0 : val b ((dg b (n + 1)).take (h)) = hd0 b n := by unfold hd0; rw [k1, show (k + 1 + 1) / 2 = h by omega]
  have nk := number_in_k (k := 1) (l := (dg b (n + 1)).take (h)) (s := [.lst (ii (dg b (n + 1))), .lst (ii ((dg b (n + 1)).take (h)))]) hb hb2 (by rw [k4]; omega) rfl
  rw [hv0] at nk
  have hl1 : (dg b (hd0 b n)).length = h := by rw [k2, k4]
  have pk1 := fun st => padded_in_k (b := b) (x := hd0 b n) (h := (h : Int)) (s := st) hb hb2 k3 (by omega) (by rw [hl1])
  have c2 : ∀ l : List Int, l.length = h → cutD (ii l) none (some (m : Int)) = ii (l.take (m)) := fun l hl => by
    rw [cutD_take (by rw [ii_len, hl]; omega), ii_take]
  have fl : ∀ l : List Int, l.length = h → (fold l (m)).length ≤ 1000000 := fun l hl => by
    unfold fold; rw [List.length_append, List.length_reverse, List.length_take, hl]; omega
  have ef : ∀ x, val b (fold (dg b x) (m)) = fnd b n x := fun x => by unfold fnd; rw [k1, show (k + 1) / 2 = m by omega]
  have nf : ∀ (x : Int) (j : Nat) (st : S), (dg b x).length = h → st[j]? = some (.lst (ii (fold (dg b x) (m)))) → callK D_number_in [.ref j, .int b] st = .ok (.int (fnd b n x)) st := fun x j st hl hs => by
    rw [number_in_k hb hb2 (fl _ hl) hs, ef]
  have ad : ∀ (x : Int) (i j : Nat) (st : S), (dg b x).length = h → st[i]? = some (.lst (ii (dg b x))) → st[j]? = some (.lst (ii ((dg b x).take (m)).reverse)) → oAdd (.ref i) (.ref j) st = .ok (.ref st.length) (st ++ [.lst (ii (fold (dg b x) (m)))]) := fun x i j st hl hi hj => by
    rw [add_refs hi hj (by rw [ii_len, ii_len, List.length_reverse, List.length_take, hl]; omega), ← ii_app]; rfl
  have run : ∃ g, D_next_mirrored [.int b, .int n] [] = .ok (.int (nm b n)) g := by
    rw [r_next_mirrored]
    unfold b_next_mirrored
    by_cases hc : n < fnd b n (hd0 b n)
    · have e : nm b n = fnd b n (hd0 b n) := by unfold nm; rw [if_pos hc]
      rw [e]
      simp [need_whole_k hb hb2, p30, need_whole_k h0 hn, dk, ii_len, d2, hh, hh2, eCut, Part.run, c1, nk, forM_cons', forM_nil', pk1, hl1, c2 _ hl1, oRev, ← ii_rev, ad _ _ _ _ hl1, nf _ _ _ hl1, hc]
    · obtain ⟨k6, k7⟩ := k5 hc
      have e : nm b n = fnd b n (hd0 b n + 1) := by unfold nm; rw [if_neg hc]
      rw [e]
      have pk2 := fun st => padded_in_k (b := b) (x := hd0 b n + 1) (h := (h : Int)) (s := st) hb hb2 (by omega) (by omega) (by rw [k6])
      simp [need_whole_k hb hb2, p30, need_whole_k h0 hn, dk, ii_len, d2, hh, hh2, eCut, Part.run, c1, nk, forM_cons', forM_nil', pk1, pk2, hl1, k6, c2 _ hl1, c2 _ k6, oRev, ← ii_rev, ad _ _ _ _ hl1, ad _ _ _ _ k6, nf _ _ _ hl1, nf _ _ _ k6, hc, k7]
  obtain ⟨g, run⟩ := run
  exact callK_val rfl run rfl
end K79

namespace K79
open Y YN
open PySem (Str PyData)
theorem roll79 : RollOk D__law_roll := rollOk (by decide) (by decide) (by decide)
/-- a number drawn -/
theorem law_number_k {a b most : Int} (h : Cup a b) (hm : 0 ≤ most) : ∃ r a' b', 0 ≤ r ∧ r ≤ most ∧ Cup a' b' ∧ ∀ (n : Nat) (s : S), s[n]? = some (.lst [.int a, .int b]) → callK D__law_number [.ref n, .int most] s = .ok (.int r) (s.set n (.lst [.int a', .int b'])) := by
  obtain ⟨w, a1, b1, w0, w1, hc1, hr1⟩ := roll79 h (show (0 : Int) < 12 by decide) (by decide)
  have m1 := fun j st => v_mul64 (i := 1000) (j := j) (s := st) (by decide)
  have md := fun i st => v_modP (i := i) (j := most + 1) (s := st) (by omega)
  obtain ⟨r', s', e, x, f, a2, b2, rfl, rfl, hc2⟩ := forM_nx (g := gV 3) (b := zSet (gV 2) (e2 oAdd (e2 oMul (eC (.int 1000)) (eV 2)) (eCallK 2 D__law_roll (aC (eV 0) (aC (eC (.int 1000)) aN))))) (fun j r s => ∃ x f a b, r = [.ref 0, .int most, .int f, x] ∧ s = [.lst [.int a, .int b]] ∧ Cup a b) (xs := range2 0 (1 + w)) (r := [.ref 0, .int most, .int 0, .undef]) (s := [.lst [.int a1, .int b1]]) ⟨_, _, _, _, rfl, rfl, hc1⟩ (by
    rintro j x _ _ hx ⟨y, f, a2, b2, rfl, rfl, hc⟩
    obtain ⟨v, a3, b3, v0, v1, hc3, hr3⟩ := roll79 hc (show (0 : Int) < 1000 by decide) (by decide)
    refine ⟨_, _, by simp; exact ⟨rfl, rfl⟩, fun Q hQ => ?_⟩
    simp [m1, hr3]
    exact Nx_nx (hQ _ _ ⟨_, _, _, _, rfl, rfl, hc3⟩))
  refine ⟨f % (most + 1), a2, b2, Int.emod_nonneg _ (by omega), by have := Int.emod_lt_of_pos f (show 0 < most + 1 by omega); omega, hc2, fun n s hs => callK_ref (g := []) rfl hs rfl ?_ rfl rfl⟩
  rw [r__law_number]
  unfold b__law_number
  simp [hr1, show (1 + w).natAbs < 4611686018427387904 by omega, e, md]
theorem count_mirrored_k {b k : Int} {s : S} (hb : 2 ≤ b) (hb2 : b ≤ 36) (h0 : 1 ≤ k) (hk : k ≤ 30) : callK D_count_mirrored [.int b, .int k] s = .ok (.int (if k = 1 then (b - 1) * b ^ ((k - 1) / 2).toNat + 1 else (b - 1) * b ^ ((k - 1) / 2).toNat)) s := by
  refine callK_val (g := []) rfl ?_ rfl
  rw [r_count_mirrored]
  unfold b_count_mirrored
  have m1 := fun i st => v_mul64r (i := i) (j := b) (s := st) (by omega)
  have d2 := fun i st => v_div64 (i := i) (j := 2) (s := st) (by decide) (by decide)
  obtain ⟨r', s', e, x, rfl, rfl⟩ := forM_nx (g := gV 3) (b := zSet (gV 2) (e2 oMul (eV 2) (eV 0))) (fun j r s => ∃ x, r = [.int b, .int k, .int ((b - 1) * b ^ j), x] ∧ s = []) (xs := range2 0 ((k - 1) / 2)) (r := [.int b, .int k, .int (b - 1), .undef]) (s := []) ⟨.undef, by simp, rfl⟩ (by
    rintro j x _ _ hx ⟨y, rfl, rfl⟩
    refine ⟨_, _, by simp; exact ⟨rfl, rfl⟩, fun Q hQ => ?_⟩
    simp [m1]
    exact Nx_nx (hQ _ _ ⟨_, by rw [Int.pow_succ, Int.mul_assoc], rfl⟩))
  rw [range2_len, show ((k - 1) / 2 - 0).toNat = ((k - 1) / 2).toNat by omega] at e
  by_cases h1 : k = 1
  · subst h1
    simp at e
    simp [need_whole_k hb hb2, need_whole_k (show (1 : Int) ≤ 1 by omega) (show (1 : Int) ≤ 30 by omega), d2, m1, e]
  · simp [need_whole_k hb hb2, need_whole_k h0 hk, d2, m1, e, h1, show ((k - 1) / 2).natAbs < 4611686018427387904 by omega]
/-! ### steps -/
theorem atD_last (xs : List D) (x : D) : atD (xs ++ [x]) (-1) = some x := by
  unfold atD
  rw [if_neg (by decide), if_pos (by rw [List.length_append, List.length_singleton]; omega)]
  have : ((-1 : Int) + ((xs ++ [x]).length : Int)).toNat = xs.length := by rw [List.length_append, List.length_singleton]; omega
  first
    | (rw [this]; simp)
    | simp
def Lst (l : List Int) : Int := l.getLastD 0
def stp (b : Int) (k : Nat) (n : Int) : D := if pal b ((pth b k n).getLastD 0) = true then .tup (ii (pth b k n)) else .non
theorem pth_len (b : Int) : ∀ (k : Nat) (n : Int), (pth b k n).length ≤ k + 1
  | 0, _ => Nat.le_refl _
  | k + 1, n => by
    unfold pth
    split
    · simp
    · rw [List.length_cons]; have := pth_len b k (n + rv b n); omega
theorem pth_ne (b : Int) (k : Nat) (n : Int) : pth b k n ≠ [] := by
  cases k with
  | zero => exact List.cons_ne_nil _ _
  | succ k => unfold pth; split <;> exact List.cons_ne_nil _ _
end K79

namespace K79
open Y YN
open PySem (Str PyData)
theorem last_snoc {l : List Int} (h : l ≠ []) : ∃ q, l = q ++ [l.getLastD 0] := by
  refine ⟨l.dropLast, ?_⟩
  have := List.dropLast_concat_getLast h
  rw [List.getLastD_eq_getLast?, List.getLast?_eq_some_getLast h]
  exact this.symm
theorem pth_last (b : Int) (k : Nat) (n : Int) : ∃ q, pth b k n = q ++ [(pth b k n).getLastD 0] := last_snoc (pth_ne b k n)
theorem last_app (l r : List Int) (h : r ≠ []) : (l ++ r).getLastD 0 = r.getLastD 0 := by
  obtain ⟨q, hq⟩ := last_snoc h
  rw [hq, ← List.append_assoc]; simp
theorem step_bd {b x : Int} {k : Nat} (hb : 2 ≤ b) (hb2 : b ≤ 36) (h0 : 0 ≤ x) (h : x * 37 ^ (k + 1) + 1 < (B1 : Int)) : 0 ≤ x + rv b x ∧ (x + rv b x) * 37 ^ k + 1 < (B1 : Int) := by
  obtain ⟨r1, r2⟩ := rv_bd hb hb2 h0
  refine ⟨by omega, ?_⟩
  have h1 : (x + rv b x) * 37 ^ k ≤ 37 * x * 37 ^ k := Int.mul_le_mul_of_nonneg_right (by omega) (Int.le_of_lt (Int.pow_pos (by decide)))
  have h2 : x * 37 ^ (k + 1) = 37 * x * 37 ^ k := by rw [Int.pow_succ]; grind
  omega
theorem bd_one {x : Int} {k : Nat} (h0 : 0 ≤ x) (h : x * 37 ^ k + 1 < (B1 : Int)) : x + 1 < (B1 : Int) := by
  have p : (0 : Int) < 37 ^ k := Int.pow_pos (by decide)
  have : x * 1 ≤ x * 37 ^ k := Int.mul_le_mul_of_nonneg_left (by omega) h0
  omega
theorem turned_steps_run {b n : Int} {M : Nat} (hb : 2 ≤ b) (hb2 : b ≤ 36) (hM : M ≤ 200) : ∀ (k : Nat) (acc : List Int) (x : Int) (g : S) (l : D) (N : Nat), acc.length + k = M → k < N → 0 ≤ x → x * 37 ^ k + 1 < (B1 : Int) →
    ∃ st, ((whileM (tst (e2 oLe (eN bLen (aC (eV 3) aN)) (eV 2))) (zCons (zSet (gV 4) (eCallK 2 D_digits_in (aC (e2 oIx (eV 3) (e1 oNeg (eC (.int 1)))) (aC (eV 0) aN))))
    (zCons (zIf (tst (e2 oEq (eV 4) (e1 oRev (eV 4))))
     (zRet (eN bTuple (aC (eV 3) aN)))
     zNil)
    (zEx (eMe isL mApp (eV 3) (aC (e2 oAdd (e2 oIx (eV 3) (e1 oNeg (eC (.int 1)))) (eCallK 2 D_number_in (aC (e1 oRev (eV 4)) (aC (eV 0) aN)))) aN))))) N [.int b, .int n, .int M, .ref 0, l] (.lst (ii (acc ++ [x])) :: g)).andThen (zCons (zSet (gV 4) (eCallK 2 D_digits_in (aC (e2 oIx (eV 3) (e1 oNeg (eC (.int 1)))) (aC (eV 0) aN))))
    (zRet (eIf (tst (e2 oEq (eV 4) (e1 oRev (eV 4)))) (eN bTuple (aC (eV 3) aN)) (eC .non))))).out = .ok (if pal b ((pth b k x).getLastD 0) = true then .tup (ii (acc ++ pth b k x)) else .non) st := by
  intro k
  induction k with
  | zero =>
    intro acc x g l N hk hN h0 hx
    obtain ⟨N, rfl⟩ : ∃ N', N = N' + 1 := ⟨N - 1, by omega⟩
    have hx1 := bd_one h0 hx
    have dk := fun st => digits_in_k (b := b) (n := x) (s := st) hb hb2 h0 hx1
    have ek := eq_refs (i := g.length + 1) (j := g.length + 1 + 1) (xs := dg b x) (ys := (dg b x).reverse) (s := .lst (ii acc ++ [.int x]) :: (g ++ [.lst (ii (dg b x)), .lst (ii (dg b x).reverse)])) (by simp) (by simp)
    unfold whileM
    by_cases hp : dg b x = (dg b x).reverse
    · have hpal : pal b x = true := by unfold pal; simpa using hp
      rw [← hp] at ek
      simp [ii_app, ii_one, ii_len, show ¬ ((acc.length : Int) + 1 ≤ M) by omega, atD_last, dk, oRev, ← ii_rev, ← hp, ek, pth, hpal]
    · have hpal : pal b x = false := by unfold pal; simpa using hp
      rw [decide_eq_false hp] at ek
      simp [ii_app, ii_one, ii_len, show ¬ ((acc.length : Int) + 1 ≤ M) by omega, atD_last, dk, oRev, ← ii_rev, ek, pth, hpal]
  | succ k ih =>
    intro acc x g l N hk hN h0 hx
    obtain ⟨N, rfl⟩ : ∃ N', N = N' + 1 := ⟨N - 1, by omega⟩
    have hx1 := bd_one h0 hx
    obtain ⟨y0, y1⟩ := step_bd hb hb2 h0 hx
    have dk := fun st => digits_in_k (b := b) (n := x) (s := st) hb hb2 h0 hx1
    have dl := dg_len2 (b := b) (n := x) hb (by omega)
    have ek := eq_refs (i := g.length + 1) (j := g.length + 1 + 1) (xs := dg b x) (ys := (dg b x).reverse) (s := .lst (ii acc ++ [.int x]) :: (g ++ [.lst (ii (dg b x)), .lst (ii (dg b x).reverse)])) (by simp) (by simp)
    unfold whileM
    by_cases hp : dg b x = (dg b x).reverse
    · have hpal : pal b x = true := by unfold pal; simpa using hp
      rw [← hp] at ek
      simp [ii_app, ii_one, ii_len, show ((acc.length : Int) + 1 ≤ M) by omega, atD_last, dk, oRev, ← ii_rev, ← hp, ek, pth, hpal]
    · have hpal : pal b x = false := by unfold pal; simpa using hp
      rw [decide_eq_false hp] at ek
      have nk := number_in_k (k := g.length + 1 + 1 + 1) (l := (dg b x).reverse) (s := .lst (ii acc ++ [.int x]) :: (g ++ [.lst (ii (dg b x)), .lst (ii (dg b x).reverse), .lst (ii (dg b x).reverse)])) hb hb2 (by rw [List.length_reverse]; omega) (by simp)
      have hrv : val b (dg b x).reverse = rv b x := rfl
      rw [hrv] at nk
      obtain ⟨st, e⟩ := ih (acc ++ [x]) (x + rv b x) (g ++ [.lst (ii (dg b x)), .lst (ii (dg b x).reverse), .lst (ii (dg b x).reverse)]) (.ref (g.length + 1)) N (by rw [List.length_append, List.length_singleton]; omega) (by omega) y0 y1
      have ep : pth b (k + 1) x = x :: pth b k (x + rv b x) := by show (if pal b x = true then _ else _) = _; rw [hpal]; rfl
      have el : (pth b (k + 1) x).getLastD 0 = (pth b k (x + rv b x)).getLastD 0 := by rw [ep]; exact last_app [x] _ (pth_ne _ _ _)
      rw [el, ep]
      refine ⟨st, ?_⟩
      have e5 : acc ++ x :: pth b k (x + rv b x) = acc ++ [x] ++ pth b k (x + rv b x) := by simp
      rw [e5, ← e]
      simp [ii_app, ii_cons, ii_nil, ii_len, show ((acc.length : Int) + 1 ≤ M) by omega, atD_last, dk, oRev, ← ii_rev, ek, nk, show acc.length + 1 < LINE by unfold LINE; omega]
theorem start_bd {n : Int} {k : Nat} (h0 : 0 ≤ n) (hn : n ≤ 1000000000000000000000000000000) (hk : k ≤ 200) : n * 37 ^ k + 1 < (B1 : Int) := by
  have h1 : (37 : Int) ^ k ≤ 37 ^ 200 := pow_lt (by decide) hk
  have h2 : n * 37 ^ k ≤ 1000000000000000000000000000000 * 37 ^ 200 := Int.mul_le_mul hn h1 (Int.le_of_lt (Int.pow_pos (by decide))) (by decide)
  have h3 : (1000000000000000000000000000000 * 37 ^ 200 + 1 : Int) < (B1 : Int) := by decide +kernel
  omega
theorem stp_pure (b : Int) (k : Nat) (n : Int) : (stp b k n).pure = true := by
  unfold stp
  split
  · exact ii_pure _
  · rfl
theorem turned_steps_k {b n : Int} {M : Nat} {s : S} (hb : 2 ≤ b) (hb2 : b ≤ 36) (h0 : 0 ≤ n) (hn : n ≤ 1000000000000000000000000000000) (hM : M ≤ 200) : callK D_turned_steps [.int b, .int n, .int M] s = .ok (stp b M n) s := by
  obtain ⟨st, e⟩ := turned_steps_run (n := n) hb hb2 hM M [] n [] .undef FUEL (by simp) (by have h1 := B1_fuel; have h2 := B01; have h3 := B0_big; omega) h0 (start_bd h0 hn hM)
  refine callK_val (g := st) rfl ?_ (stp_pure _ _ _)
  rw [r_turned_steps]
  unfold b_turned_steps
  simp [need_whole_k hb hb2, p30, need_whole_k h0 hn, need_whole_k (show (0 : Int) ≤ M by omega) (show (M : Int) ≤ 200 by omega)]
  exact e
/-- the law's own path -/
theorem path_while {b : Int} {M p : Nat} {r : Env} (hb : 2 ≤ b) (hb2 : b ≤ 36) (hM : M ≤ 200) (h14 : r[14]? = some (.ref p)) (h13 : r[13]? = some (.int M)) (h3 : r[3]? = some (.int b)) : ∀ (k : Nat) (acc : List Int) (x : Int) (s : S) (N : Nat), s[p]? = some (.lst (ii (acc ++ [x]))) → acc.length + k = M → k < N → 0 ≤ x → x * 37 ^ k + 1 < (B1 : Int) →
    whileM (tAnd (tst (e2 oLe (eN bLen (aC (eV 14) aN)) (eV 13))) (tst (e2 oNe (eCallK 3 D__law_digits (aC (e2 oIx (eV 14) (e1 oNeg (eC (.int 1)))) (aC (eV 3) (aC (eC (.int 1)) aN)))) (e1 oRev (eCallK 3 D__law_digits (aC (e2 oIx (eV 14) (e1 oNeg (eC (.int 1)))) (aC (eV 3) (aC (eC (.int 1)) aN))))))))
     (zEx (eMe isL mApp (eV 14) (aC (e2 oAdd (e2 oIx (eV 14) (e1 oNeg (eC (.int 1)))) (eCallK 2 D__law_turned (aC (e2 oIx (eV 14) (e1 oNeg (eC (.int 1)))) (aC (eV 3) aN)))) aN))) N r s = .nx r (s.set p (.lst (ii (acc ++ pth b k x)))) := by
  have e14 : ∀ s, eV 14 r s = .ok (.ref p) s := fun s => ap_eV h14 (by simp)
  have e13 : ∀ s, eV 13 r s = .ok (.int M) s := fun s => ap_eV h13 (by simp)
  have e3 : ∀ s, eV 3 r s = .ok (.int b) s := fun s => ap_eV h3 (by simp)
  intro k
  induction k with
  | zero =>
    intro acc x s N hs hk hN h0 hx
    obtain ⟨N, rfl⟩ : ∃ N', N = N' + 1 := ⟨N - 1, by omega⟩
    unfold whileM
    have es : s.set p (.lst (ii (acc ++ pth b 0 x))) = s := set_same hs
    rw [es]
    simp [e14, e13, e3, hs, ii_len, show ¬ ((acc.length : Int) + 1 ≤ M) by omega]
  | succ k ih =>
    intro acc x s N hs hk hN h0 hx
    obtain ⟨N, rfl⟩ : ∃ N', N = N' + 1 := ⟨N - 1, by omega⟩
    have hx1 := bd_one h0 hx
    obtain ⟨y0, y1⟩ := step_bd hb hb2 h0 hx
    have dl := dg_len2 (b := b) (n := x) hb (by omega)
    have hs' : s[p]? = some (.lst (ii acc ++ [.int x])) := by rw [hs, ii_app, ii_one]
    have nt := fun st => ne_tups (s := st) (xs := dg b x) (ys := (dg b x).reverse) (by omega) (by rw [List.length_reverse]; omega)
    have ld := fun st => law_digits_k (s := st) (n := x) hb hb2 h0 hx1
    have lt := fun st => law_turned_k (s := st) (n := x) hb hb2 h0 hx1
    unfold whileM
    by_cases hp : dg b x = (dg b x).reverse
    · have hpal : pal b x = true := by unfold pal; simpa using hp
      have ep : pth b (k + 1) x = [x] := by show (if pal b x = true then _ else _) = _; rw [hpal]; rfl
      rw [ep, set_same hs]
      rw [← hp] at nt
      simp [e14, e13, e3, hs', ii_len, show ((acc.length : Int) + 1 ≤ M) by omega, atD_last, ld, oRev, ← ii_rev, ← hp, nt]
    · have hpal : pal b x = false := by unfold pal; simpa using hp
      have ep : pth b (k + 1) x = x :: pth b k (x + rv b x) := by show (if pal b x = true then _ else _) = _; rw [hpal]; rfl
      rw [ep]
      have hpl : p < s.length := (List.getElem?_eq_some_iff.mp hs).1
      have := ih (acc ++ [x]) (x + rv b x) (s.set p (.lst (ii acc ++ [.int x] ++ [.int (x + rv b x)]))) N (by rw [List.getElem?_set_self hpl, ii_app, ii_app, ii_one, ii_one]) (by rw [List.length_append, List.length_singleton]; omega) (by omega) y0 y1
      rw [List.set_set] at this
      have e5 : acc ++ x :: pth b k (x + rv b x) = acc ++ [x] ++ pth b k (x + rv b x) := by simp
      rw [e5, ← this]
      rw [show decide (dg b x = (dg b x).reverse) = false from decide_eq_false hp] at nt
      simp [e14, e13, e3, hs', ii_len, show ((acc.length : Int) + 1 ≤ M) by omega, atD_last, ld, oRev, ← ii_rev, nt, lt, show acc.length + 1 < LINE by unfold LINE; omega]
end K79

namespace K79
open Y YN
open PySem (Str PyData)
theorem steps196 : pal 10 ((pth 10 200 196).getLastD 0) = false := by decide +kernel
theorem steps89 : pal 10 ((pth 10 30 89).getLastD 0) = true := by decide +kernel
theorem steps89l : (pth 10 30 89).length = 25 := by decide +kernel
def P79 (ns' : List D) (r : Env) (s : S) : Prop := ∃ e a b g, r = .frl ns' :: .ref 0 :: e ∧ e.length = 17 ∧ s = .lst [.int a, .int b] :: g ∧ Cup a b
theorem pick3 {p q t : Int} {k : Nat} (hk : k < ([.int p, .int q, .int t] : List D).length) : ∃ z : Int, ([.int p, .int q, .int t] : List D)[k] = .int z ∧ (z = p ∨ z = q ∨ z = t) := by
  match k, hk with
  | 0, _ => exact ⟨p, rfl, .inl rfl⟩
  | 1, _ => exact ⟨q, rfl, .inr (.inl rfl)⟩
  | 2, _ => exact ⟨t, rfl, .inr (.inr rfl)⟩
theorem same_ok {n : Nat} {d : D} (hp : plainD d = true) (hd : dep d ≤ n) (s : S) : callK (D__law_same (n + 1)) [d, d] s = .ok (.bl true) s := same_k hp hd
theorem turn_a {ns' : List D} {x2 x3 x4 x5 x6 x7 x8 x9 x10 x11 x12 x13 x14 x15 x16 x17 x18 : D} {a b : Int} {g : List O} (hc : Cup a b) {Q : Env → S → Prop} {k : Env → S → F}
    (hk : ∀ a b z n m g, Cup a b → 2 ≤ z → z ≤ 36 → 0 ≤ n → n ≤ 1000000000000000000000000000000 → 0 ≤ m → Nx Q (k [.frl ns', .ref 0, x2, .int z, .int n, .tup (ii (dg z n)), .int m, x7, x8, x9, x10, x11, x12, x13, x14, x15, x16, x17, x18] (.lst [.int a, .int b] :: g))) :
    Nx Q ((zCons (zSet (gV 3) (eCallK 2 D__law_some (aC (eV 1) (aC (eLst (aC (eC (.int 2)) (aC (eC (.int 10)) (aC (e2 oAdd (eC (.int 2)) (eCallK 2 D__law_roll (aC (eV 1) (aC (eC (.int 35)) aN)))) aN)))) aN))))
    (zCons (zSet (gV 4) (eCallK 2 D__law_number (aC (eV 1) (aC (eCallK 2 D__law_some (aC (eV 1) (aC (eLst (aC (eC (.int 9)) (aC (eC (.int 999)) (aC (e2 oPow (eC (.int 10)) (eC (.int 30))) aN)))) aN))) aN))))
    (zCons (zSet (gV 5) (eCallK 3 D__law_digits (aC (eV 4) (aC (eV 3) (aC (eC (.int 1)) aN)))))
    (zCons (zSet (gV 6) (eCallK 2 D__law_value (aC (e2 oAdd (eV 5) (e1 oRev (eV 5))) (aC (eV 3) aN)))) k)))) [.frl ns', .ref 0, x2, x3, x4, x5, x6, x7, x8, x9, x10, x11, x12, x13, x14, x15, x16, x17, x18] (.lst [.int a, .int b] :: g)) := by
  obtain ⟨w, a1, b1, w0, w1, hc1, hr1⟩ := roll79 hc (show (0 : Int) < 35 by decide) (by decide)
  obtain ⟨k1, a2, b2, hk1, hc2, hr2⟩ := some_lst roll79 hc1 (xs := [.int 2, .int 10, .int (2 + w)]) (by simp) (by simp) (by rfl)
  obtain ⟨z, hz, z1⟩ := pick3 hk1
  rw [hz] at hr2
  obtain ⟨k2, a3, b3, hk2, hc3, hr3⟩ := some_lst roll79 hc2 (xs := [.int 9, .int 999, .int 1000000000000000000000000000000]) (by simp) (by simp) (by rfl)
  obtain ⟨y, hy, y1⟩ := pick3 hk2
  rw [hy] at hr3
  obtain ⟨n, a4, b4, n0, n1, hc4, hr4⟩ := law_number_k hc3 (show 0 ≤ y by omega)
  have hz1 : 2 ≤ z := by omega
  have hz2 : z ≤ 36 := by omega
  have hn1 : n ≤ 1000000000000000000000000000000 := by omega
  have hB := B1_30
  have dk := fun st => law_digits_k (b := z) (n := n) (s := st) hz1 hz2 n0 (by omega)
  have dl := dg_len2 (b := z) (n := n) hz1 (by omega)
  have ad : ∀ st, oAdd (.tup (ii (dg z n))) (.tup (ii (dg z n).reverse)) st = .ok (.tup (ii (dg z n ++ (dg z n).reverse))) st := fun st => by
    unfold oAdd
    simp only [ii_len, List.length_reverse]
    rw [if_pos (by unfold LINE; omega), ← ii_app]
  have vk := fun st => law_value_k (b := z) (l := dg z n ++ (dg z n).reverse) (s := st) hz1 hz2 (by rw [List.length_append, List.length_reverse]; omega)
  have hm := (val_lt hz1 (dg z n ++ (dg z n).reverse) ((dig_dg hz1 n0).app (dig_dg hz1 n0).rev)).1
  simp [hr1, hr2, p30, hr3, hr4, dk, oRev, ← ii_rev, ad, vk]
  exact hk _ _ _ _ _ _ hc4 hz1 hz2 n0 hn1 hm
theorem turn_b {ns' : List D} {x2 x5 x7 x8 x9 x10 x11 x12 x13 x14 x15 x16 x17 x18 : D} {a b z n m : Int} {g : List O} (hc : Cup a b) (hz1 : 2 ≤ z) (hz2 : z ≤ 36) (n0 : 0 ≤ n) (n1 : n ≤ 1000000000000000000000000000000) (hm : 0 ≤ m) {Q : Env → S → Prop} {k : Env → S → F}
    (hk : ∀ x7 x8 x9 g, Nx Q (k [.frl ns', .ref 0, x2, .int z, .int n, x5, .int m, x7, x8, x9, x10, x11, x12, x13, x14, x15, x16, x17, x18] (.lst [.int a, .int b] :: g))) :
    Nx Q ((zCons (zFor (iTup (eTup (aC (eV 4) (aC (eN bMin2 (aC (eV 6) (aC (e2 oPow (eC (.int 10)) (eC (.int 30))) aN))) (aC (e2 oMul (e2 oDiv (eV 4) (eV 3)) (eV 3)) aN))))) (gV 7)
     (zCons (zSet (gV 8) (eCallK 2 D__law_turned (aC (eV 7) (aC (eV 3) aN))))
    (zCons (zSet (gV 9) (eLst (aC (eCallK 2 D_turned_sum (aC (eV 3) (aC (eV 7) aN))) (aC (eCallK 2 D_is_mirrored (aC (eV 3) (aC (eV 7) aN))) aN))))
    (zIf (tNot (tst (eCallK 2 (D__law_same 10) (aC (eV 9) (aC (eLst (aC (e2 oAdd (eV 7) (eV 8)) (aC (e2 oEq (eCallK 3 D__law_digits (aC (eV 7) (aC (eV 3) (aC (eC (.int 1)) aN)))) (e1 oRev (eCallK 3 D__law_digits (aC (eV 7) (aC (eV 3) (aC (eC (.int 1)) aN)))))) aN))) aN)))))
     (zRet (eC (.bl false)))
     zNil)))) k) [.frl ns', .ref 0, x2, .int z, .int n, x5, .int m, x7, x8, x9, x10, x11, x12, x13, x14, x15, x16, x17, x18] (.lst [.int a, .int b] :: g)) := by
  have hB := B1_30
  have d1 := fun i st => v_div64 (i := i) (j := z) (s := st) (by omega) (by omega)
  have m1 := fun i st => v_mul64r (i := i) (j := z) (s := st) (by omega)
  have q1 : 0 ≤ n / z := Int.ediv_nonneg n0 (by omega)
  have q2 : n / z * z ≤ n := Int.ediv_mul_le n (by omega)
  have q3 : 0 ≤ n / z * z := Int.mul_nonneg q1 (by omega)
  simp [p30, d1, m1]
  refine for_nx (fun j r s => ∃ x7 x8 x9 g, r = [.frl ns', .ref 0, x2, .int z, .int n, x5, .int m, x7, x8, x9, x10, x11, x12, x13, x14, x15, x16, x17, x18] ∧ s = .lst [.int a, .int b] :: g) ⟨_, _, _, _, rfl, rfl⟩ ?_ ?_
  · rintro j x _ _ hx ⟨x7, x8, x9, g, rfl, rfl⟩
    obtain ⟨N, rfl, o1, o2⟩ : ∃ N : Int, x = .int N ∧ 0 ≤ N ∧ N ≤ 1000000000000000000000000000000 := by
      have := List.mem_of_getElem? hx
      simp only [List.mem_cons, List.not_mem_nil, or_false] at this
      rcases this with rfl | rfl | rfl
      · exact ⟨_, rfl, n0, n1⟩
      · exact ⟨_, rfl, by split <;> omega, by split <;> omega⟩
      · exact ⟨_, rfl, by omega, by omega⟩
    refine ⟨_, _, by simp; exact ⟨rfl, rfl⟩, fun Q hQ => ?_⟩
    have tk := fun st => law_turned_k (b := z) (n := N) (s := st) hz1 hz2 o1 (by omega)
    have ts := fun st => turned_sum_k (b := z) (n := N) (s := st) hz1 hz2 o1 o2
    have im := fun st => is_mirrored_k (b := z) (n := N) (s := st) hz1 hz2 o1 o2
    have dk := fun st => law_digits_k (b := z) (n := N) (s := st) hz1 hz2 o1 (by omega)
    have dl := dg_len2 (b := z) (n := N) hz1 (by omega)
    have et := fun st => eq_tups (s := st) (xs := dg z N) (ys := (dg z N).reverse) (by omega) (by rw [List.length_reverse]; omega)
    have hp : decide (dg z N = (dg z N).reverse) = pal z N := rfl
    simp only [hp] at et
    have sl := same_list (n := 8) (xs := [.int (N + rv z N), .bl (pal z N)]) (a := g.length + 1) (b := g.length + 1 + 1) (s := .lst [.int a, .int b] :: (g ++ [.lst [.int (N + rv z N), .bl (pal z N)], .lst [.int (N + rv z N), .bl (pal z N)]])) (by omega) (by simp) (by simp) (by simp) (by rfl) (by simp [dep, depL])
    simp [tk, ts, im, dk, oRev, ← ii_rev, et, sl]
    exact Nx_nx (hQ _ _ ⟨_, _, _, _, rfl, rfl⟩)
  · rintro _ _ ⟨x7, x8, x9, g, rfl, rfl⟩
    exact hk _ _ _ _
theorem turn_c {ns' : List D} {x2 x5 x6 x7 x8 x9 x10 x11 x12 x13 x14 x15 x16 x17 x18 : D} {a b z n : Int} {g : List O} (hc : Cup a b) (hz1 : 2 ≤ z) (hz2 : z ≤ 36) (n0 : 0 ≤ n) (n1 : n ≤ 1000000000000000000000000000000) {Q : Env → S → Prop} {k : Env → S → F}
    (hk : ∀ a b x10 x11 x12, Cup a b → Nx Q (k [.frl ns', .ref 0, x2, .int z, .int n, x5, x6, x7, x8, x9, x10, x11, x12, x13, x14, x15, x16, x17, x18] (.lst [.int a, .int b] :: g))) :
    Nx Q ((zCons (zSet (gV 10) (eCallK 2 D__law_number (aC (eV 1) (aC (eC (.int 3000)) aN))))
    (zCons (zSet (gV 11) (e2 oAdd (eV 10) (eC (.int 1))))
    (zCons (zWhile (tOr (tst (e2 oNe (eCallK 2 D__law_turned (aC (eV 11) (aC (eV 3) aN))) (eV 11))) (tst (e2 oEq (e2 oMod (eN bInt (aC (eV 11) aN)) (eV 3)) (eC (.int 0)))))
     (zSet (gV 11) (e2 oAdd (eV 11) (eC (.int 1)))))
    (zCons (zIf (tNot (tst (eCallK 2 (D__law_same 10) (aC (eCallK 2 D_next_mirrored (aC (eV 3) (aC (eV 10) aN))) (aC (eV 11) aN)))))
     (zRet (eC (.bl false)))
     zNil)
    (zCons (zSet (gV 12) (eCallK 2 D_next_mirrored (aC (eV 3) (aC (eV 4) aN))))
    (zCons (zIf (tOr (tst (e2 oLe (eV 12) (eV 4))) (tst (e2 oNe (eCallK 3 D__law_digits (aC (eV 12) (aC (eV 3) (aC (eC (.int 1)) aN)))) (e1 oRev (eCallK 3 D__law_digits (aC (eV 12) (aC (eV 3) (aC (eC (.int 1)) aN))))))))
     (zRet (eC (.bl false)))
     zNil) k)))))) [.frl ns', .ref 0, x2, .int z, .int n, x5, x6, x7, x8, x9, x10, x11, x12, x13, x14, x15, x16, x17, x18] (.lst [.int a, .int b] :: g)) := by
  have hB := B1_30
  obtain ⟨w, a1, b1, w0, w1, hc1, hr1⟩ := law_number_k hc (show (0 : Int) ≤ 3000 by decide)
  obtain ⟨f1, f2, f3, f4, f5, f6, _⟩ := nm_facts hz1 w0
  have f7 : z * (w + 1) ≤ 36 * 3001 := Int.mul_le_mul hz2 (by omega) (by omega) (by decide)
  simp [hr1]
  refine while_cnt_nx (fun h => [.frl ns', .ref 0, x2, .int z, .int n, x5, x6, x7, x8, x9, .int w, .int h, x12, x13, x14, x15, x16, x17, x18]) (fun h => decide (rv z h ≠ h) || decide (h % z = 0)) (h0 := w + 1) (hi := nm z w) (by omega) (by omega) (by simp [f3, f4]) ?_ ?_ ?_
  · intro h h1 h2
    have tk := fun st => law_turned_k (b := z) (n := h) (s := st) hz1 hz2 (by omega) (by omega)
    have md := fun i st => v_modP (i := i) (j := z) (s := st) (by omega)
    by_cases c : rv z h = h <;> simp [tk, md, c]
  · intro h h1 h2 h3
    simp
  intro t t1 t2 t3 t4
  have ht : t = nm z w := by
    by_cases h : t = nm z w
    · exact h
    · have := f6 t (by omega) (by omega)
      simp at t3
      exact absurd t3 this
  have nk := fun st => next_mirrored_k (b := z) (n := w) (s := st) hz1 hz2 w0 (by omega)
  rw [← ht] at nk
  have sk := same_ok (n := 9) (d := .int t) rfl (Nat.zero_le 9)
  obtain ⟨e1, e2, e3, e4, e5, _⟩ := nm_facts hz1 n0
  have e7 : z * (n + 1) ≤ 36 * (n + 1) := Int.mul_le_mul_of_nonneg_right hz2 (by omega)
  have nk2 := fun st => next_mirrored_k (b := z) (n := n) (s := st) hz1 hz2 n0 n1
  have dk := fun st => law_digits_k (b := z) (n := nm z n) (s := st) hz1 hz2 (by omega) (by omega)
  have dl := dg_len2 (b := z) (n := nm z n) hz1 (by omega)
  have nt := fun st => ne_tups (s := st) (xs := dg z (nm z n)) (ys := (dg z (nm z n)).reverse) (by omega) (by rw [List.length_reverse]; omega)
  have hpal : dg z (nm z n) = (dg z (nm z n)).reverse := by unfold pal at e2; simpa using e2
  rw [decide_eq_true hpal] at nt
  simp [nk, sk, nk2, show ¬ nm z n ≤ n by omega, dk, oRev, ← ii_rev, nt]
  exact hk _ _ _ _ _ hc1
end K79

namespace K79
open Y YN
open PySem (Str PyData)
theorem stp_plain {b : Int} {k : Nat} {n : Int} (hk : k ≤ 200) : plainD (stp b k n) = true ∧ dep (stp b k n) ≤ 9 := by
  have := pth_len b k n
  unfold stp
  split
  · obtain ⟨h1, h2⟩ := tup_plain (xs := pth b k n) (by omega)
    exact ⟨h1, by omega⟩
  · exact ⟨rfl, Nat.zero_le 9⟩
theorem turn_d {ns' : List D} {x2 x5 x6 x7 x8 x9 x10 x11 x12 x13 x14 x15 x16 x17 x18 : D} {a b z n : Int} {g : List O} (hc : Cup a b) (hz1 : 2 ≤ z) (hz2 : z ≤ 36) (n0 : 0 ≤ n) (n1 : n ≤ 1000000000000000000000000000000) {Q : Env → S → Prop} (hQ : ∀ r s, P79 ns' r s → Q r s) :
    Nx Q ((zCons (zSet (gV 13) (eCallK 2 D__law_roll (aC (eV 1) (aC (eC (.int 25)) aN))))
    (zCons (zSet (gV 14) (eLst (aC (eV 4) aN)))
    (zCons (zWhile (tAnd (tst (e2 oLe (eN bLen (aC (eV 14) aN)) (eV 13))) (tst (e2 oNe (eCallK 3 D__law_digits (aC (e2 oIx (eV 14) (e1 oNeg (eC (.int 1)))) (aC (eV 3) (aC (eC (.int 1)) aN)))) (e1 oRev (eCallK 3 D__law_digits (aC (e2 oIx (eV 14) (e1 oNeg (eC (.int 1)))) (aC (eV 3) (aC (eC (.int 1)) aN))))))))
     (zEx (eMe isL mApp (eV 14) (aC (e2 oAdd (e2 oIx (eV 14) (e1 oNeg (eC (.int 1)))) (eCallK 2 D__law_turned (aC (e2 oIx (eV 14) (e1 oNeg (eC (.int 1)))) (aC (eV 3) aN)))) aN))))
    (zCons (zSet (gV 15) (e2 oEq (eCallK 3 D__law_digits (aC (e2 oIx (eV 14) (e1 oNeg (eC (.int 1)))) (aC (eV 3) (aC (eC (.int 1)) aN)))) (e1 oRev (eCallK 3 D__law_digits (aC (e2 oIx (eV 14) (e1 oNeg (eC (.int 1)))) (aC (eV 3) (aC (eC (.int 1)) aN)))))))
    (zIf (tNot (tst (eCallK 2 (D__law_same 10) (aC (eCallK 3 D_turned_steps (aC (eV 3) (aC (eV 4) (aC (eV 13) aN)))) (aC (eIf (tst (eV 15)) (eN bTuple (aC (eV 14) aN)) (eC .non)) aN)))))
     (zRet (eC (.bl false)))
     zNil))))) [.frl ns', .ref 0, x2, .int z, .int n, x5, x6, x7, x8, x9, x10, x11, x12, x13, x14, x15, x16, x17, x18] (.lst [.int a, .int b] :: g)) := by
  obtain ⟨w, a1, b1, w0, w1, hc1, hr1⟩ := roll79 hc (show (0 : Int) < 25 by decide) (by decide)
  obtain ⟨M, rfl⟩ : ∃ M : Nat, w = M := ⟨w.toNat, by omega⟩
  have hM : M ≤ 200 := by omega
  have pw := path_while (b := z) (M := M) (p := g.length + 1) (r := [.frl ns', .ref 0, x2, .int z, .int n, x5, x6, x7, x8, x9, x10, x11, x12, .int M, .ref (g.length + 1), x15, x16, x17, x18]) hz1 hz2 hM rfl rfl rfl M [] n (.lst [.int a1, .int b1] :: (g ++ [.lst [.int n]])) FUEL (by simp [ii_one]) (by simp) (by have h1 := B1_fuel; have h2 := B01; have h3 := B0_big; omega) n0 (start_bd n0 n1 hM)
  rw [List.nil_append] at pw
  obtain ⟨q, hq⟩ := pth_last z M n
  -- the last number lies in reach
  have bound : ∀ (k : Nat) (x : Int), 0 ≤ x → x * 37 ^ k + 1 < (B1 : Int) → 0 ≤ (pth z k x).getLastD 0 ∧ (pth z k x).getLastD 0 + 1 < (B1 : Int) := by
    intro k
    induction k with
    | zero => intro x h0 h1; exact ⟨h0, bd_one h0 h1⟩
    | succ k ih =>
      intro x h0 h1
      obtain ⟨y0, y1⟩ := step_bd hz1 hz2 h0 h1
      by_cases hp : pal z x = true
      · have ep : pth z (k + 1) x = [x] := by show (if pal z x = true then _ else _) = _; rw [hp]; rfl
        rw [ep]; exact ⟨h0, bd_one h0 h1⟩
      · have ep : pth z (k + 1) x = x :: pth z k (x + rv z x) := by show (if pal z x = true then _ else _) = _; rw [if_neg hp]
        have el : (pth z (k + 1) x).getLastD 0 = (pth z k (x + rv z x)).getLastD 0 := by rw [ep]; exact last_app [x] _ (pth_ne _ _ _)
        rw [el]; exact ih _ y0 y1
  obtain ⟨l0, l1⟩ := bound M n n0 (start_bd n0 n1 hM)
  have st := fun s => turned_steps_k (b := z) (n := n) (M := M) (s := s) hz1 hz2 n0 n1 hM
  have hsp := stp_plain (b := z) (k := M) (n := n) hM
  have sk := same_ok (n := 9) hsp.1 hsp.2
  have hstp : stp z M n = if pal z ((pth z M n).getLastD 0) = true then .tup (ii (pth z M n)) else .non := rfl
  generalize hL : (pth z M n).getLastD 0 = L at *
  have dk := fun s => law_digits_k (b := z) (n := L) (s := s) hz1 hz2 l0 l1
  have dl := dg_len2 (b := z) (n := L) hz1 (by omega)
  have et := fun s => eq_tups (s := s) (xs := dg z L) (ys := (dg z L).reverse) (by omega) (by rw [List.length_reverse]; omega)
  have hp : decide (dg z L = (dg z L).reverse) = pal z L := rfl
  simp only [hp] at et
  have hat : atD (ii (pth z M n)) (-1) = some (.int L) := by rw [hq, ii_app, ii_one]; exact atD_last _ _
  simp [hr1]
  unfold zWhile
  rw [pw]
  cases hc0 : pal z L with
  | true =>
    rw [hc0] at et hstp
    simp only [if_true] at hstp
    rw [hstp] at st sk
    simp [hat, dk, oRev, ← ii_rev, et, st, sk]
    exact Nx_nx (hQ _ _ ⟨_, _, _, _, rfl, rfl, rfl, hc1⟩)
  | false =>
    rw [hc0] at et hstp
    simp only [Bool.false_eq_true, if_false] at hstp
    rw [hstp] at st sk
    simp [hat, dk, oRev, ← ii_rev, et, st, sk]
    exact Nx_nx (hQ _ _ ⟨_, _, _, _, rfl, rfl, rfl, hc1⟩)
/-- mirrored ones, counted -/
def cnt (b : Int) (lo hi : Nat) : Nat := ((List.range (hi - lo)).filter fun (k : Nat) => pal b ((lo : Int) + (k : Int))).length
theorem cnts : cnt 2 0 2 = 2 ∧ cnt 2 2 4 = 1 ∧ cnt 2 4 8 = 2 ∧ cnt 3 0 3 = 3 ∧ cnt 3 3 9 = 2 ∧ cnt 3 9 27 = 6 ∧ cnt 5 0 5 = 5 ∧ cnt 5 5 25 = 4 ∧ cnt 5 25 125 = 20 ∧ cnt 10 0 10 = 10 ∧ cnt 10 10 100 = 9 ∧ cnt 10 100 1000 = 90 := by decide +kernel
def isM (b : Int) (x : D) : Bool := match x with
  | .int k => pal b k
  | _ => false
theorem filt_cnt (b : Int) (lo hi : Nat) : ((range2 lo hi).filter (isM b)).length = cnt b lo hi := by
  unfold range2 cnt
  rw [List.filter_map, List.length_map]
  have : ((hi : Int) - (lo : Int)).toNat = hi - lo := by omega
  rw [this]
  rfl
theorem pick4 {p q t u : Int} {k : Nat} (hk : k < ([.int p, .int q, .int t, .int u] : List D).length) : ∃ z : Int, ([.int p, .int q, .int t, .int u] : List D)[k] = .int z ∧ (z = p ∨ z = q ∨ z = t ∨ z = u) := by
  match k, hk with
  | 0, _ => exact ⟨p, rfl, .inl rfl⟩
  | 1, _ => exact ⟨q, rfl, .inr (.inl rfl)⟩
  | 2, _ => exact ⟨t, rfl, .inr (.inr (.inl rfl))⟩
  | 3, _ => exact ⟨u, rfl, .inr (.inr (.inr rfl))⟩
/-- the range's ends and its count -/
theorem ends {z k : Int} (hz : z = 2 ∨ z = 3 ∨ z = 5 ∨ z = 10) (hk : k = 1 ∨ k = 2 ∨ k = 3) : ∃ lo hi : Nat, hi ≤ 1000 ∧ (if 1 < k then z ^ (k - 1).toNat else 0) = (lo : Int) ∧ z ^ k.toNat = (hi : Int) ∧ ((cnt z lo hi : Nat) : Int) = (if k = 1 then (z - 1) * z ^ ((k - 1) / 2).toNat + 1 else (z - 1) * z ^ ((k - 1) / 2).toNat) := by
  obtain ⟨c1, c2, c3, c4, c5, c6, c7, c8, c9, c10, c11, c12⟩ := cnts
  rcases hz with rfl | rfl | rfl | rfl <;> rcases hk with rfl | rfl | rfl
  · exact ⟨0, 2, by decide, rfl, rfl, by rw [show (2 : Int) = ((2 : Nat) : Int) from rfl] at *; rw [c1]; rfl⟩
  · exact ⟨2, 4, by decide, rfl, rfl, by rw [c2]; rfl⟩
  · exact ⟨4, 8, by decide, rfl, rfl, by rw [c3]; rfl⟩
  · exact ⟨0, 3, by decide, rfl, rfl, by rw [c4]; rfl⟩
  · exact ⟨3, 9, by decide, rfl, rfl, by rw [c5]; rfl⟩
  · exact ⟨9, 27, by decide, rfl, rfl, by rw [c6]; rfl⟩
  · exact ⟨0, 5, by decide, rfl, rfl, by rw [c7]; rfl⟩
  · exact ⟨5, 25, by decide, rfl, rfl, by rw [c8]; rfl⟩
  · exact ⟨25, 125, by decide, rfl, rfl, by rw [c9]; rfl⟩
  · exact ⟨0, 10, by decide, rfl, rfl, by rw [c10]; rfl⟩
  · exact ⟨10, 100, by decide, rfl, rfl, by rw [c11]; rfl⟩
  · exact ⟨100, 1000, by decide, rfl, rfl, by rw [c12]; rfl⟩
theorem fact1 : stp 10 200 196 = .non := by unfold stp; rw [if_neg (by rw [steps196]; decide)]
theorem fact2 : stp 10 30 89 = .tup (ii (pth 10 30 89)) := by unfold stp; rw [if_pos steps89]
theorem told1 (st : S) : callK D_turned_steps [.int 10, .int 196, .int 200] st = .ok .non st := by
  have h := turned_steps_k (b := 10) (n := 196) (M := 200) (s := st) (by decide) (by decide) (by decide) (by decide) (by decide)
  rw [show (((200 : Nat) : Int)) = 200 from rfl, fact1] at h
  exact h
theorem told2 : ∃ T : List D, T.length = 25 ∧ ∀ st, callK D_turned_steps [.int 10, .int 89, .int 30] st = .ok (.tup T) st := by
  refine ⟨ii (pth 10 30 89), by rw [ii_len]; exact steps89l, fun st => ?_⟩
  have h := turned_steps_k (b := 10) (n := 89) (M := 30) (s := st) (by decide) (by decide) (by decide) (by decide) (by decide)
  rw [show (((30 : Nat) : Int)) = 30 from rfl, fact2] at h
  exact h
theorem told3 (st : S) : callK D_count_mirrored [.int 10, .int 30] st = .ok (.int 900000000000000) st := by
  have c2 := fun st => count_mirrored_k (b := 10) (k := 30) (s := st) (by decide) (by decide) (by decide) (by decide)
  rw [show (if (30 : Int) = 1 then ((10 : Int) - 1) * 10 ^ (((30 : Int) - 1) / 2).toNat + 1 else (10 - 1) * 10 ^ ((30 - 1) / 2 : Int).toNat) = 900000000000000 by decide] at c2
  exact c2 st
theorem told4 (s : S) : oPow (.int 10) (.int 14) s = .ok (.int 100000000000000) s := rfl
theorem tail79 {fC fT fS : Fn} {fr x2 x4 x5 x6 x7 x8 x9 x10 x11 x12 x13 x14 x15 x17 : D} {z k C : Int} {T : List D} {st : S} (c1 : ∀ st, callK fC [.int z, .int k] st = .ok (.int C) st) (c2 : ∀ st, callK fC [.int 10, .int 30] st = .ok (.int 900000000000000) st)
    (t1 : ∀ st, callK fT [.int 10, .int 196, .int 200] st = .ok .non st) (t2 : ∀ st, callK fT [.int 10, .int 89, .int 30] st = .ok (.tup T) st) (l89 : T.length = 25)
    (sl : ∀ (i j : Nat) (st : S), i ≠ j → st[i]? = some (.lst [.int C, .int 900000000000000, .non, .int 25]) → st[j]? = some (.lst [.int C, .int 900000000000000, .non, .int 25]) → callK fS [.ref i, .ref j] st = .ok (.bl true) st) :
    ∃ s2, (zCons (zSet (gV 9) (eLst (aC (eCallK 2 fC (aC (eV 3) (aC (eV 16) aN))) (aC (eCallK 2 fC (aC (eC (.int 10)) (aC (eC (.int 30)) aN))) (aC (eCallK 3 fT (aC (eC (.int 10)) (aC (eC (.int 196)) (aC (eC (.int 200)) aN)))) (aC (eN bLen (aC (eCallK 3 fT (aC (eC (.int 10)) (aC (eC (.int 89)) (aC (eC (.int 30)) aN)))) aN)) aN))))))
    (zRet (eCallK 2 fS (aC (eV 9) (aC (eLst (aC (eV 18) (aC (e2 oMul (eC (.int 9)) (e2 oPow (eC (.int 10)) (eC (.int 14)))) (aC (eC .non) (aC (eC (.int 25)) aN))))) aN)))) [fr, .ref 0, x2, .int z, x4, x5, x6, x7, x8, x9, x10, x11, x12, x13, x14, x15, .int k, x17, .int C] st).out = .ok (.bl true) s2 := by
  have p14 := told4
  have m9 := fun j st => v_mul64 (i := 9) (j := j) (s := st) (by decide)
  simp [c1, c2, t1, t2, l89, p14, m9, sl]
theorem law_true : ∀ ns : List Int, ns.length ≤ 63 → ∃ s', D_law [.frl (ns.map Y.D.int)] [] = .ok (.bl true) s' := by
  intro ns hl
  obtain ⟨a, b, hc, hcup⟩ := cup_k (k1 := 163) (k2 := 2287) (k3 := 3643) (k4 := 2041033051) (k5 := 1657) (by decide) (by decide) (by decide) (by decide) ns hl
  generalize ns.map Y.D.int = ns' at *
  rw [r_law]
  unfold b_law
  simp only [ap_zCons, ap_zSet, ap_eCallK, ap_aC, ap_aN, eV_frl, bind_ok, nArgs1, hcup, then_ok, ap_gV, List.length_cons, List.length_nil, Nat.reduceAdd, Nat.reduceLT, if_true, List.set_cons_succ, List.set_cons_zero, Go_some, andThen_nx, zFor_rng1, ap_eC, NI_int, List.nil_append]
  refine for_out (fun _ => P79 ns') ⟨_, a, b, [], rfl, rfl, rfl, hc⟩ ?_ ?_
  · rintro j x _ _ hx ⟨e, a, b, g, rfl, he, rfl, hc⟩
    match e, he with
    | [_, _, _, _, _, _, _, _, _, _, _, _, _, _, _, _, _], rfl =>
    refine ⟨_, _, by simp; exact ⟨rfl, rfl⟩, fun Q hQ => ?_⟩
    refine turn_a hc fun a b z n m g hc hz1 hz2 n0 n1 hm => ?_
    refine turn_b hc hz1 hz2 n0 n1 hm fun x7 x8 x9 g => ?_
    refine turn_c hc hz1 hz2 n0 n1 fun a b x10 x11 x12 hc => ?_
    exact turn_d hc hz1 hz2 n0 n1 hQ
  · rintro _ _ ⟨e, a, b, g, rfl, he, rfl, hc⟩
    match e, he with
    | [x2, x3, x4, x5, x6, x7, x8, x9, x10, x11, x12, x13, x14, x15, x16, x17, x18], rfl =>
    obtain ⟨k1, a1, b1, hk1, hc1, hr1⟩ := some_lst roll79 hc (xs := [.int 2, .int 3, .int 5, .int 10]) (by decide) (by decide) (by decide)
    obtain ⟨z, hz, z1⟩ := pick4 hk1
    rw [hz] at hr1
    obtain ⟨v, a2, b2, v0, v1, hc2, hr2⟩ := roll79 hc1 (show (0 : Int) < 3 by decide) (by decide)
    obtain ⟨k, hk⟩ : ∃ k, k = 1 + v := ⟨_, rfl⟩
    obtain ⟨lo, hi, hhi, ea, eb, ec⟩ := ends (z := z) (k := k) z1 (by omega)
    have pw1 := fun st => law_power_k (b := z) (k := k - 1) (s := st) (by omega) (by omega) (by omega)
    have pw2 := fun st => law_power_k (b := z) (k := k) (s := st) (by omega) (by omega) (by omega)
    rw [eb] at pw2
    have c1 := fun st => count_mirrored_k (b := z) (k := k) (s := st) (by omega) (by omega) (by omega) (by omega)
    rw [← ec] at c1
    have t1 := told1
    obtain ⟨T, l89, t2⟩ := told2
    have c2 := told3
    have p14 := told4
    have m9 := fun j st => v_mul64 (i := 9) (j := j) (s := st) (by decide)
    have lc : ∀ (L : Int), L = lo → ∀ st, eLc (iRng2 (eV 17) (eCallK 2 D__law_power (aC (eV 3) (aC (eV 16) aN)))) (gV 7) (tst (eCallK 2 D_is_mirrored (aC (eV 3) (aC (eV 7) aN)))) (eC (.int 1)) [7] [.frl ns', .ref 0, x2, .int z, x4, x5, x6, x7, x8, x9, x10, x11, x12, x13, x14, x15, .int k, .int L, x18] st = .ok (.ref st.length) (st ++ [.lst (((range2 lo hi).filter (isM z)).map fun _ => .int 1)]) := by
      intro L hLo st
      subst hLo
      have hlo : lo ≤ 1000000 := by
        by_cases h : lo ≤ hi
        · omega
        · exfalso
          split at ea
          · rename_i h1
            have := pow_lt (b := z) (by omega) (show (k - 1).toNat ≤ k.toNat by omega)
            omega
          · omega
      refine eLc_items (ap_iRng2 (s1 := st) (by simp) (by simp [pw2]) (by omega) (by omega)) (fun x => [.frl ns', .ref 0, x2, .int z, x4, x5, x6, x, x8, x9, x10, x11, x12, x13, x14, x15, .int k, .int lo, x18]) (isM z) (fun _ => .int 1) (fun x hx acc => ?_) (by rw [range2_len]; omega)
      obtain ⟨j, hj⟩ := List.getElem?_of_mem hx
      obtain ⟨rfl, hj2⟩ := range2_get hj
      have im := fun st => is_mirrored_k (b := z) (n := (lo : Int) + j) (s := st) (by omega) (by omega) (by omega) (by omega)
      refine ⟨by simp [wipeD], by simp [im, isM], fun _ => by simp⟩
    have hlen := filt_cnt z lo hi
    have hlen2 : ((((range2 lo hi).filter (isM z)).map fun _ => D.int 1).length : Int) = (cnt z lo hi : Nat) := by rw [List.length_map, hlen]
    generalize ((range2 lo hi).filter (isM z)).map (fun _ => D.int 1) = Y at lc hlen2
    generalize ((cnt z lo hi : Nat) : Int) = C at *
    have sl : ∀ (i j : Nat) (st : S), i ≠ j → st[i]? = some (.lst [.int C, .int 900000000000000, .non, .int 25]) → st[j]? = some (.lst [.int C, .int 900000000000000, .non, .int 25]) → callK (D__law_same 10) [.ref i, .ref j] st = .ok (.bl true) st := fun i j st hij hi hj => same_list (n := 8) hij hi hj (by simp) (by rfl) (by simp [dep, depL])
    by_cases h1 : 1 < k
    · rw [if_pos h1] at ea
      rw [ea] at pw1
      simp [hr1, hr2, ← hk, h1, pw1]
      rw [lc lo rfl]
      simp only [bind_ok, len_ref]
      have hx : ∀ (q : S) (y : O), (q ++ [y])[q.length]? = some y := fun q y => by simp
      simp only [hx, lstO_some, Option.map_some, OkO_some, hlen2, then_ok, ap_gV]
      simp only [List.length_cons, List.length_nil, Nat.reduceAdd, Nat.reduceLT, if_true, List.set_cons_succ, List.set_cons_zero, Go_some, andThen_nx]
      exact tail79 c1 c2 t1 t2 l89 sl
    · rw [if_neg h1] at ea
      simp [hr1, hr2, ← hk, h1]
      rw [lc 0 ea]
      simp only [bind_ok, len_ref]
      have hx : ∀ (q : S) (y : O), (q ++ [y])[q.length]? = some y := fun q y => by simp
      simp only [hx, lstO_some, Option.map_some, OkO_some, hlen2, then_ok, ap_gV]
      simp only [List.length_cons, List.length_nil, Nat.reduceAdd, Nat.reduceLT, if_true, List.set_cons_succ, List.set_cons_zero, Go_some, andThen_nx]
      exact tail79 c1 c2 t1 t2 l89 sl
end K79

namespace K79
open PySem L2 Y
abbrev topS (i : Nat) : Stmt := PySem.Challenge.pw_wholeyard_k79_whole_mirrored_and_turned.main.body.getD i (.Pass ⟨0, 0, 0, 0⟩)
abbrev s_fits_whole : Stmt := topS 4
theorem sc_fits_whole : FnScope ["value", "low", "high"] ["value", "low", "high"] (defScope s_fits_whole) := ⟨rfl, rfl, rfl, by decide +kernel, rfl, by decide +kernel, by decide +kernel⟩
abbrev s_need_whole : Stmt := topS 5
theorem sc_need_whole : FnScope ["value", "low", "high"] ["value", "low", "high"] (defScope s_need_whole) := ⟨rfl, rfl, rfl, by decide +kernel, rfl, by decide +kernel, by decide +kernel⟩
abbrev s_digits_in : Stmt := topS 6
theorem sc_digits_in : FnScope ["number", "base", "found"] ["number", "base"] (defScope s_digits_in) := ⟨rfl, rfl, rfl, by decide +kernel, rfl, by decide +kernel, by decide +kernel⟩
abbrev s_number_in : Stmt := topS 7
theorem sc_number_in : FnScope ["digits", "base", "found", "digit"] ["digits", "base"] (defScope s_number_in) := ⟨rfl, rfl, rfl, by decide +kernel, rfl, by decide +kernel, by decide +kernel⟩
abbrev s_padded_in : Stmt := topS 11
theorem sc_padded_in : FnScope ["number", "base", "size", "line"] ["number", "base", "size"] (defScope s_padded_in) := ⟨rfl, rfl, rfl, by decide +kernel, rfl, by decide +kernel, by decide +kernel⟩
abbrev s_turned_sum : Stmt := topS 12
theorem sc_turned_sum : FnScope ["base", "number", "line"] ["base", "number"] (defScope s_turned_sum) := ⟨rfl, rfl, rfl, by decide +kernel, rfl, by decide +kernel, by decide +kernel⟩
abbrev s_is_mirrored : Stmt := topS 13
theorem sc_is_mirrored : FnScope ["base", "number", "line"] ["base", "number"] (defScope s_is_mirrored) := ⟨rfl, rfl, rfl, by decide +kernel, rfl, by decide +kernel, by decide +kernel⟩
abbrev s_turned_steps : Stmt := topS 14
theorem sc_turned_steps : FnScope ["base", "number", "most", "found", "line"] ["base", "number", "most"] (defScope s_turned_steps) := ⟨rfl, rfl, rfl, by decide +kernel, rfl, by decide +kernel, by decide +kernel⟩
abbrev s_next_mirrored : Stmt := topS 15
theorem sc_next_mirrored : FnScope ["base", "number", "line", "half", "head", "first", "front", "found"] ["base", "number"] (defScope s_next_mirrored) := ⟨rfl, rfl, rfl, by decide +kernel, rfl, by decide +kernel, by decide +kernel⟩
abbrev s_count_mirrored : Stmt := topS 16
theorem sc_count_mirrored : FnScope ["base", "size", "found", "place"] ["base", "size"] (defScope s_count_mirrored) := ⟨rfl, rfl, rfl, by decide +kernel, rfl, by decide +kernel, by decide +kernel⟩
abbrev s__law_cup : Stmt := topS 18
theorem sc__law_cup : FnScope ["script", "cell"] ["script"] (defScope s__law_cup) := ⟨rfl, rfl, rfl, by decide +kernel, rfl, by decide +kernel, by decide +kernel⟩
abbrev s__law_roll : Stmt := topS 19
theorem sc__law_roll : FnScope ["cup", "many", "found", "deep"] ["cup", "many"] (defScope s__law_roll) := ⟨rfl, rfl, rfl, by decide +kernel, rfl, by decide +kernel, by decide +kernel⟩
abbrev s__law_some : Stmt := topS 20
theorem sc__law_some : FnScope ["cup", "things"] ["cup", "things"] (defScope s__law_some) := ⟨rfl, rfl, rfl, by decide +kernel, rfl, by decide +kernel, by decide +kernel⟩
abbrev s__law_same : Stmt := topS 21
theorem sc__law_same : FnScope ["told", "due", "at"] ["told", "due"] (defScope s__law_same) := ⟨rfl, rfl, rfl, by decide +kernel, rfl, by decide +kernel, by decide +kernel⟩
abbrev s__law_number : Stmt := topS 22
theorem sc__law_number : FnScope ["cup", "most", "found", "turn"] ["cup", "most"] (defScope s__law_number) := ⟨rfl, rfl, rfl, by decide +kernel, rfl, by decide +kernel, by decide +kernel⟩
abbrev s__law_power : Stmt := topS 23
theorem sc__law_power : FnScope ["number", "times", "found", "turn"] ["number", "times"] (defScope s__law_power) := ⟨rfl, rfl, rfl, by decide +kernel, rfl, by decide +kernel, by decide +kernel⟩
abbrev s__law_digits : Stmt := topS 24
theorem sc__law_digits : FnScope ["number", "base", "size", "found"] ["number", "base", "size"] (defScope s__law_digits) := ⟨rfl, rfl, rfl, by decide +kernel, rfl, by decide +kernel, by decide +kernel⟩
abbrev s__law_value : Stmt := topS 25
theorem sc__law_value : FnScope ["line", "base", "found", "digit"] ["line", "base"] (defScope s__law_value) := ⟨rfl, rfl, rfl, by decide +kernel, rfl, by decide +kernel, by decide +kernel⟩
abbrev s__law_turned : Stmt := topS 26
theorem sc__law_turned : FnScope ["number", "base"] ["number", "base"] (defScope s__law_turned) := ⟨rfl, rfl, rfl, by decide +kernel, rfl, by decide +kernel, by decide +kernel⟩
abbrev s_law : Stmt := topS 27
theorem sc_law : FnScope ["script", "cup", "turn", "base", "number", "line", "mirrored", "one", "turned", "told", "small", "due", "far", "most", "path", "good", "size", "low", "many"] ["script"] (defScope s_law) := ⟨rfl, rfl, rfl, by decide +kernel, rfl, by decide +kernel, by decide +kernel⟩
structure Txt (K : PySem.W.Frag) (mg : Str → Option Value) (fa : Nat → Option Addr) (xc : Nat → Option (Addr × List Str)) where
  f_fits_whole : Addr
  d_fits_whole : FuncData
  F_fits_whole : Fun K "fits_whole" "fits_whole" s_fits_whole f_fits_whole d_fits_whole
  g_fits_whole : mg "fits_whole" = some (.ref f_fits_whole)
  b_fits_whole : Binds K d_fits_whole ["value", "low", "high"] []
  f_need_whole : Addr
  d_need_whole : FuncData
  F_need_whole : Fun K "need_whole" "need_whole" s_need_whole f_need_whole d_need_whole
  g_need_whole : mg "need_whole" = some (.ref f_need_whole)
  b_need_whole : Binds K d_need_whole ["value", "low", "high"] []
  f_digits_in : Addr
  d_digits_in : FuncData
  F_digits_in : Fun K "digits_in" "digits_in" s_digits_in f_digits_in d_digits_in
  g_digits_in : mg "digits_in" = some (.ref f_digits_in)
  b_digits_in : Binds K d_digits_in ["number", "base"] []
  f_number_in : Addr
  d_number_in : FuncData
  F_number_in : Fun K "number_in" "number_in" s_number_in f_number_in d_number_in
  g_number_in : mg "number_in" = some (.ref f_number_in)
  b_number_in : Binds K d_number_in ["digits", "base"] []
  f_padded_in : Addr
  d_padded_in : FuncData
  F_padded_in : Fun K "padded_in" "padded_in" s_padded_in f_padded_in d_padded_in
  g_padded_in : mg "padded_in" = some (.ref f_padded_in)
  b_padded_in : Binds K d_padded_in ["number", "base", "size"] []
  f_turned_sum : Addr
  d_turned_sum : FuncData
  F_turned_sum : Fun K "turned_sum" "turned_sum" s_turned_sum f_turned_sum d_turned_sum
  g_turned_sum : mg "turned_sum" = some (.ref f_turned_sum)
  b_turned_sum : Binds K d_turned_sum ["base", "number"] []
  f_is_mirrored : Addr
  d_is_mirrored : FuncData
  F_is_mirrored : Fun K "is_mirrored" "is_mirrored" s_is_mirrored f_is_mirrored d_is_mirrored
  g_is_mirrored : mg "is_mirrored" = some (.ref f_is_mirrored)
  b_is_mirrored : Binds K d_is_mirrored ["base", "number"] []
  f_turned_steps : Addr
  d_turned_steps : FuncData
  F_turned_steps : Fun K "turned_steps" "turned_steps" s_turned_steps f_turned_steps d_turned_steps
  g_turned_steps : mg "turned_steps" = some (.ref f_turned_steps)
  b_turned_steps : Binds K d_turned_steps ["base", "number", "most"] []
  f_next_mirrored : Addr
  d_next_mirrored : FuncData
  F_next_mirrored : Fun K "next_mirrored" "next_mirrored" s_next_mirrored f_next_mirrored d_next_mirrored
  g_next_mirrored : mg "next_mirrored" = some (.ref f_next_mirrored)
  b_next_mirrored : Binds K d_next_mirrored ["base", "number"] []
  f_count_mirrored : Addr
  d_count_mirrored : FuncData
  F_count_mirrored : Fun K "count_mirrored" "count_mirrored" s_count_mirrored f_count_mirrored d_count_mirrored
  g_count_mirrored : mg "count_mirrored" = some (.ref f_count_mirrored)
  b_count_mirrored : Binds K d_count_mirrored ["base", "size"] []
  f__law_cup : Addr
  d__law_cup : FuncData
  F__law_cup : Fun K "_law_cup" "_law_cup" s__law_cup f__law_cup d__law_cup
  g__law_cup : mg "_law_cup" = some (.ref f__law_cup)
  b__law_cup : Binds K d__law_cup ["script"] []
  f__law_roll : Addr
  d__law_roll : FuncData
  F__law_roll : Fun K "_law_roll" "_law_roll" s__law_roll f__law_roll d__law_roll
  g__law_roll : mg "_law_roll" = some (.ref f__law_roll)
  b__law_roll : Binds K d__law_roll ["cup", "many"] []
  f__law_some : Addr
  d__law_some : FuncData
  F__law_some : Fun K "_law_some" "_law_some" s__law_some f__law_some d__law_some
  g__law_some : mg "_law_some" = some (.ref f__law_some)
  b__law_some : Binds K d__law_some ["cup", "things"] []
  f__law_same : Addr
  d__law_same : FuncData
  F__law_same : Fun K "_law_same" "_law_same" s__law_same f__law_same d__law_same
  g__law_same : mg "_law_same" = some (.ref f__law_same)
  b__law_same : Binds K d__law_same ["told", "due"] []
  f__law_number : Addr
  d__law_number : FuncData
  F__law_number : Fun K "_law_number" "_law_number" s__law_number f__law_number d__law_number
  g__law_number : mg "_law_number" = some (.ref f__law_number)
  b__law_number : Binds K d__law_number ["cup", "most"] []
  f__law_power : Addr
  d__law_power : FuncData
  F__law_power : Fun K "_law_power" "_law_power" s__law_power f__law_power d__law_power
  g__law_power : mg "_law_power" = some (.ref f__law_power)
  b__law_power : Binds K d__law_power ["number", "times"] []
  f__law_digits : Addr
  d__law_digits : FuncData
  F__law_digits : Fun K "_law_digits" "_law_digits" s__law_digits f__law_digits d__law_digits
  g__law_digits : mg "_law_digits" = some (.ref f__law_digits)
  b__law_digits : Binds K d__law_digits ["number", "base", "size"] []
  f__law_value : Addr
  d__law_value : FuncData
  F__law_value : Fun K "_law_value" "_law_value" s__law_value f__law_value d__law_value
  g__law_value : mg "_law_value" = some (.ref f__law_value)
  b__law_value : Binds K d__law_value ["line", "base"] []
  f__law_turned : Addr
  d__law_turned : FuncData
  F__law_turned : Fun K "_law_turned" "_law_turned" s__law_turned f__law_turned d__law_turned
  g__law_turned : mg "_law_turned" = some (.ref f__law_turned)
  b__law_turned : Binds K d__law_turned ["number", "base"] []
  f_law : Addr
  d_law : FuncData
  F_law : Fun K "law" "law" s_law f_law d_law
  g_law : mg "law" = some (.ref f_law)
  b_law : Binds K d_law ["script"] []
  c_BASE : ∃ k, mg "BASE" = some (.int 36 k)
  c_SIZE : ∃ k, mg "SIZE" = some (.int 30 k)
  z_abs : mg "abs" = none
  z_bool : mg "bool" = none
  z_int : mg "int" = none
  z_isinstance : mg "isinstance" = none
  z_len : mg "len" = none
  z_list : mg "list" = none
  z_max : mg "max" = none
  z_min : mg "min" = none
  z_range : mg "range" = none
  z_str : mg "str" = none
  z_tuple : mg "tuple" = none
  x_InvalidNumber : XTxt K mg xc "InvalidNumber" 1
section
variable {P : Program} {w : World} {K : PySem.W.Frag} {mg : Str → Option Value} {base : Heap} {fa : Nat → Option Addr} {xc : Nat → Option (Addr × List Str)}
theorem ok_fits_whole (T : Txt K mg fa xc) : FnOk P w K mg base (L2.CX P w) 1 T.f_fits_whole T.d_fits_whole ["value", "low", "high"] (spF ⟨K, fa, xc⟩ 3 D_fits_whole) :=
  fn_ok (P := P) (w := w) (mg := mg) (base := base) (t := ⟨K, fa, xc⟩) T.F_fits_whole sc_fits_whole fun cdv A outer s H E hr => by
    have nd := sc_fits_whole.nd
    have hc : (cxOf (L2.CX P w) P w K mg base ["value", "low", "high"] "fits_whole" (defScope s_fits_whole) T.f_fits_whole cdv A outer s H E).calm = true := rfl
    have hu := hr.units
    have tk : Takes (cxOf (L2.CX P w) P w K mg base ["value", "low", "high"] "fits_whole" (defScope s_fits_whole) T.f_fits_whole cdv A outer s H E) (fun cls d _ H => E cls d H) := takes_of rfl rfl rfl rfl
    have O : Okc (cxOf (L2.CX P w) P w K mg base ["value", "low", "high"] "fits_whole" (defScope s_fits_whole) T.f_fits_whole cdv A outer s H E) ⟨K, fa, xc⟩ (fun _ => E) := okc_def rfl
    exact (z_one (z_ret (s_vand (s_isI .int rfl (by rfl) T.z_isinstance (by decide +kernel) (by rfl) T.z_int (by decide +kernel) (s_var 0)) (s_vand (s_vnot (s_isI .bool rfl (by rfl) T.z_isinstance (by decide +kernel) (by rfl) T.z_bool (by decide +kernel) (s_var 0))) (s_one (s_chain op_le op_le o_le o_le (s_var 1) (s_var 0) (s_var 2)))))))
theorem ok_need_whole (T : Txt K mg fa xc) : FnOk P w K mg base (L2.CX P w) 2 T.f_need_whole T.d_need_whole ["value", "low", "high"] (spF ⟨K, fa, xc⟩ 3 D_need_whole) :=
  fn_ok (P := P) (w := w) (mg := mg) (base := base) (t := ⟨K, fa, xc⟩) T.F_need_whole sc_need_whole fun cdv A outer s H E hr => by
    have nd := sc_need_whole.nd
    have hc : (cxOf (L2.CX P w) P w K mg base ["value", "low", "high"] "need_whole" (defScope s_need_whole) T.f_need_whole cdv A outer s H E).calm = true := rfl
    have hu := hr.units
    have tk : Takes (cxOf (L2.CX P w) P w K mg base ["value", "low", "high"] "need_whole" (defScope s_need_whole) T.f_need_whole cdv A outer s H E) (fun cls d _ H => E cls d H) := takes_of rfl rfl rfl rfl
    have O : Okc (cxOf (L2.CX P w) P w K mg base ["value", "low", "high"] "need_whole" (defScope s_need_whole) T.f_need_whole cdv A outer s H E) ⟨K, fa, xc⟩ (fun _ => E) := okc_def rfl
    exact (z_one (z_if (s_tnot (s_tst (s_callK O (ok_fits_whole T) (hr.mono (by decide)) (by rfl) T.g_fits_whole T.F_fits_whole.kp T.b_fits_whole (s_cons (s_var 0) (s_cons (s_var 1) (s_cons (s_var 2) s_nil)))))) (z_one (z_raise hc tk PySem.F.excBase_ValueError T.x_InvalidNumber.ex T.x_InvalidNumber.g T.x_InvalidNumber.kp (T.x_InvalidNumber.r rfl) (by rfl) T.x_InvalidNumber.xc)) z_nil))
theorem ok_digits_in (T : Txt K mg fa xc) : FnOk P w K mg base (L2.CX P w) 1 T.f_digits_in T.d_digits_in ["number", "base"] (spF ⟨K, fa, xc⟩ 2 D_digits_in) :=
  fn_ok (P := P) (w := w) (mg := mg) (base := base) (t := ⟨K, fa, xc⟩) T.F_digits_in sc_digits_in fun cdv A outer s H E hr => by
    have nd := sc_digits_in.nd
    have hc : (cxOf (L2.CX P w) P w K mg base ["number", "base", "found"] "digits_in" (defScope s_digits_in) T.f_digits_in cdv A outer s H E).calm = true := rfl
    have hu := hr.units
    have tk : Takes (cxOf (L2.CX P w) P w K mg base ["number", "base", "found"] "digits_in" (defScope s_digits_in) T.f_digits_in cdv A outer s H E) (fun cls d _ H => E cls d H) := takes_of rfl rfl rfl rfl
    have O : Okc (cxOf (L2.CX P w) P w K mg base ["number", "base", "found"] "digits_in" (defScope s_digits_in) T.f_digits_in cdv A outer s H E) ⟨K, fa, xc⟩ (fun _ => E) := okc_def rfl
    exact (z_cons (z_set (i := 2) nd rfl (.inl rfl) (s_lst s_nil))
      (z_cons (z_while pass_def (s_pw (s_or (s_tcmp op_gt o_gt (s_var 0) s_int (nomark _)) (s_or1 (s_tcmp (op_eqD hu) o_eq (s_var 2) (s_lst s_nil) (nomark _))))) (z_cons (z_expr (s_me rfl PySem.F.plainAttrs_list PySem.F.slot_list_append PySem.F.type_list_append mt_append ck_L m_app (s_var 2) (s_cons (s_op op_sub o_sub (s_var 0) (s_op op_mul2 o_mul (s_op op_divG o_div (s_var 0) (s_var 1)) (s_var 1))) s_nil)))
      (z_one (z_set (i := 0) nd rfl (.inl rfl) (s_op op_divG o_div (s_var 0) (s_var 1))))))
      (z_one (z_ret (s_rev rfl (s_var 2))))))
theorem ok_number_in (T : Txt K mg fa xc) : FnOk P w K mg base (L2.CX P w) 1 T.f_number_in T.d_number_in ["digits", "base"] (spF ⟨K, fa, xc⟩ 2 D_number_in) :=
  fn_ok (P := P) (w := w) (mg := mg) (base := base) (t := ⟨K, fa, xc⟩) T.F_number_in sc_number_in fun cdv A outer s H E hr => by
    have nd := sc_number_in.nd
    have hc : (cxOf (L2.CX P w) P w K mg base ["digits", "base", "found", "digit"] "number_in" (defScope s_number_in) T.f_number_in cdv A outer s H E).calm = true := rfl
    have hu := hr.units
    have tk : Takes (cxOf (L2.CX P w) P w K mg base ["digits", "base", "found", "digit"] "number_in" (defScope s_number_in) T.f_number_in cdv A outer s H E) (fun cls d _ H => E cls d H) := takes_of rfl rfl rfl rfl
    have O : Okc (cxOf (L2.CX P w) P w K mg base ["digits", "base", "found", "digit"] "number_in" (defScope s_number_in) T.f_number_in cdv A outer s H E) ⟨K, fa, xc⟩ (fun _ => E) := okc_def rfl
    exact (z_cons (z_set (i := 2) nd rfl (.inl rfl) s_int)
      (z_cons (z_for pass_def hc rfl (i_lst rfl (s_var 0)) (g_name (i := 3) nd rfl (.inl rfl)) (z_one (z_set (i := 2) nd rfl (.inl rfl) (s_op op_add4 o_add (s_op op_mul2 o_mul (s_var 1) (s_var 2)) (s_var 3)))))
      (z_one (z_ret (s_var 2)))))
theorem ok_padded_in (T : Txt K mg fa xc) : FnOk P w K mg base (L2.CX P w) 2 T.f_padded_in T.d_padded_in ["number", "base", "size"] (spF ⟨K, fa, xc⟩ 3 D_padded_in) :=
  fn_ok (P := P) (w := w) (mg := mg) (base := base) (t := ⟨K, fa, xc⟩) T.F_padded_in sc_padded_in fun cdv A outer s H E hr => by
    have nd := sc_padded_in.nd
    have hc : (cxOf (L2.CX P w) P w K mg base ["number", "base", "size", "line"] "padded_in" (defScope s_padded_in) T.f_padded_in cdv A outer s H E).calm = true := rfl
    have hu := hr.units
    have tk : Takes (cxOf (L2.CX P w) P w K mg base ["number", "base", "size", "line"] "padded_in" (defScope s_padded_in) T.f_padded_in cdv A outer s H E) (fun cls d _ H => E cls d H) := takes_of rfl rfl rfl rfl
    have O : Okc (cxOf (L2.CX P w) P w K mg base ["number", "base", "size", "line"] "padded_in" (defScope s_padded_in) T.f_padded_in cdv A outer s H E) ⟨K, fa, xc⟩ (fun _ => E) := okc_def rfl
    exact (z_cons (z_set (i := 3) nd rfl (.inl rfl) (s_if (s_tcmp op_gt o_gt (s_var 0) s_int (nomark _)) (s_callK O (ok_digits_in T) (hr.mono (by decide)) (by rfl) T.g_digits_in T.F_digits_in.kp T.b_digits_in (s_cons (s_var 0) (s_cons (s_var 1) s_nil))) (s_lst s_nil)))
      (z_one (z_ret (s_op op_add4 o_add (s_op op_mul2 o_mul (s_lst (s_cons s_int s_nil)) (s_op op_sub o_sub (s_var 2) (s_bltB call_len3 n_len (by rfl) T.z_len (by decide +kernel) (s_cons (s_var 3) s_nil)))) (s_var 3)))))
theorem ok_turned_sum (T : Txt K mg fa xc) : FnOk P w K mg base (L2.CX P w) 3 T.f_turned_sum T.d_turned_sum ["base", "number"] (spF ⟨K, fa, xc⟩ 2 D_turned_sum) :=
  fn_ok (P := P) (w := w) (mg := mg) (base := base) (t := ⟨K, fa, xc⟩) T.F_turned_sum sc_turned_sum fun cdv A outer s H E hr => by
    have nd := sc_turned_sum.nd
    have hc : (cxOf (L2.CX P w) P w K mg base ["base", "number", "line"] "turned_sum" (defScope s_turned_sum) T.f_turned_sum cdv A outer s H E).calm = true := rfl
    have hu := hr.units
    have tk : Takes (cxOf (L2.CX P w) P w K mg base ["base", "number", "line"] "turned_sum" (defScope s_turned_sum) T.f_turned_sum cdv A outer s H E) (fun cls d _ H => E cls d H) := takes_of rfl rfl rfl rfl
    have O : Okc (cxOf (L2.CX P w) P w K mg base ["base", "number", "line"] "turned_sum" (defScope s_turned_sum) T.f_turned_sum cdv A outer s H E) ⟨K, fa, xc⟩ (fun _ => E) := okc_def rfl
    exact (z_cons (z_expr (s_callK O (ok_need_whole T) (hr.mono (by decide)) (by rfl) T.g_need_whole T.F_need_whole.kp T.b_need_whole (s_cons (s_var 0) (s_cons s_int (s_cons (s_glob (by rfl) T.c_BASE) s_nil)))))
      (z_cons (z_expr (s_callK O (ok_need_whole T) (hr.mono (by decide)) (by rfl) T.g_need_whole T.F_need_whole.kp T.b_need_whole (s_cons (s_var 1) (s_cons s_int (s_cons (s_op op_pow o_pow s_int s_int) s_nil)))))
      (z_cons (z_set (i := 2) nd rfl (.inl rfl) (s_callK O (ok_digits_in T) (hr.mono (by decide)) (by rfl) T.g_digits_in T.F_digits_in.kp T.b_digits_in (s_cons (s_var 1) (s_cons (s_var 0) s_nil))))
      (z_one (z_ret (s_op op_add4 o_add (s_var 1) (s_callK O (ok_number_in T) (hr.mono (by decide)) (by rfl) T.g_number_in T.F_number_in.kp T.b_number_in (s_cons (s_rev rfl (s_var 2)) (s_cons (s_var 0) s_nil)))))))))
theorem ok_is_mirrored (T : Txt K mg fa xc) : FnOk P w K mg base (L2.CX P w) 3 T.f_is_mirrored T.d_is_mirrored ["base", "number"] (spF ⟨K, fa, xc⟩ 2 D_is_mirrored) :=
  fn_ok (P := P) (w := w) (mg := mg) (base := base) (t := ⟨K, fa, xc⟩) T.F_is_mirrored sc_is_mirrored fun cdv A outer s H E hr => by
    have nd := sc_is_mirrored.nd
    have hc : (cxOf (L2.CX P w) P w K mg base ["base", "number", "line"] "is_mirrored" (defScope s_is_mirrored) T.f_is_mirrored cdv A outer s H E).calm = true := rfl
    have hu := hr.units
    have tk : Takes (cxOf (L2.CX P w) P w K mg base ["base", "number", "line"] "is_mirrored" (defScope s_is_mirrored) T.f_is_mirrored cdv A outer s H E) (fun cls d _ H => E cls d H) := takes_of rfl rfl rfl rfl
    have O : Okc (cxOf (L2.CX P w) P w K mg base ["base", "number", "line"] "is_mirrored" (defScope s_is_mirrored) T.f_is_mirrored cdv A outer s H E) ⟨K, fa, xc⟩ (fun _ => E) := okc_def rfl
    exact (z_cons (z_expr (s_callK O (ok_need_whole T) (hr.mono (by decide)) (by rfl) T.g_need_whole T.F_need_whole.kp T.b_need_whole (s_cons (s_var 0) (s_cons s_int (s_cons (s_glob (by rfl) T.c_BASE) s_nil)))))
      (z_cons (z_expr (s_callK O (ok_need_whole T) (hr.mono (by decide)) (by rfl) T.g_need_whole T.F_need_whole.kp T.b_need_whole (s_cons (s_var 1) (s_cons s_int (s_cons (s_op op_pow o_pow s_int s_int) s_nil)))))
      (z_cons (z_set (i := 2) nd rfl (.inl rfl) (s_callK O (ok_digits_in T) (hr.mono (by decide)) (by rfl) T.g_digits_in T.F_digits_in.kp T.b_digits_in (s_cons (s_var 1) (s_cons (s_var 0) s_nil))))
      (z_one (z_ret (s_cmp (op_eqD hu) o_eq (s_var 2) (s_rev rfl (s_var 2)) (nomark _)))))))
theorem ok_turned_steps (T : Txt K mg fa xc) : FnOk P w K mg base (L2.CX P w) 3 T.f_turned_steps T.d_turned_steps ["base", "number", "most"] (spF ⟨K, fa, xc⟩ 3 D_turned_steps) :=
  fn_ok (P := P) (w := w) (mg := mg) (base := base) (t := ⟨K, fa, xc⟩) T.F_turned_steps sc_turned_steps fun cdv A outer s H E hr => by
    have nd := sc_turned_steps.nd
    have hc : (cxOf (L2.CX P w) P w K mg base ["base", "number", "most", "found", "line"] "turned_steps" (defScope s_turned_steps) T.f_turned_steps cdv A outer s H E).calm = true := rfl
    have hu := hr.units
    have tk : Takes (cxOf (L2.CX P w) P w K mg base ["base", "number", "most", "found", "line"] "turned_steps" (defScope s_turned_steps) T.f_turned_steps cdv A outer s H E) (fun cls d _ H => E cls d H) := takes_of rfl rfl rfl rfl
    have O : Okc (cxOf (L2.CX P w) P w K mg base ["base", "number", "most", "found", "line"] "turned_steps" (defScope s_turned_steps) T.f_turned_steps cdv A outer s H E) ⟨K, fa, xc⟩ (fun _ => E) := okc_def rfl
    exact (z_cons (z_expr (s_callK O (ok_need_whole T) (hr.mono (by decide)) (by rfl) T.g_need_whole T.F_need_whole.kp T.b_need_whole (s_cons (s_var 0) (s_cons s_int (s_cons (s_glob (by rfl) T.c_BASE) s_nil)))))
      (z_cons (z_expr (s_callK O (ok_need_whole T) (hr.mono (by decide)) (by rfl) T.g_need_whole T.F_need_whole.kp T.b_need_whole (s_cons (s_var 1) (s_cons s_int (s_cons (s_op op_pow o_pow s_int s_int) s_nil)))))
      (z_cons (z_expr (s_callK O (ok_need_whole T) (hr.mono (by decide)) (by rfl) T.g_need_whole T.F_need_whole.kp T.b_need_whole (s_cons (s_var 2) (s_cons s_int (s_cons s_int s_nil)))))
      (z_cons (z_set (i := 3) nd rfl (.inl rfl) (s_lst (s_cons (s_var 1) s_nil)))
      (z_cons (z_while pass_def (s_tcmp op_le o_le (s_bltB call_len3 n_len (by rfl) T.z_len (by decide +kernel) (s_cons (s_var 3) s_nil)) (s_var 2) (nomark _)) (z_cons (z_set (i := 4) nd rfl (.inl rfl) (s_callK O (ok_digits_in T) (hr.mono (by decide)) (by rfl) T.g_digits_in T.F_digits_in.kp T.b_digits_in (s_cons (s_ix ix_2 o_ix (s_var 3) (s_un un_neg o_neg s_int) (fun _ _ => rfl)) (s_cons (s_var 0) s_nil))))
      (z_cons (z_if (s_tcmp (op_eqD hu) o_eq (s_var 4) (s_rev rfl (s_var 4)) (nomark _)) (z_one (z_ret (s_bltT call_tuple_of n_tuple (by rfl) T.z_tuple (by decide +kernel) (s_cons (s_var 3) s_nil)))) z_nil)
      (z_one (z_expr (s_me rfl PySem.F.plainAttrs_list PySem.F.slot_list_append PySem.F.type_list_append mt_append ck_L m_app (s_var 3) (s_cons (s_op op_add4 o_add (s_ix ix_2 o_ix (s_var 3) (s_un un_neg o_neg s_int) (fun _ _ => rfl)) (s_callK O (ok_number_in T) (hr.mono (by decide)) (by rfl) T.g_number_in T.F_number_in.kp T.b_number_in (s_cons (s_rev rfl (s_var 4)) (s_cons (s_var 0) s_nil)))) s_nil)))))))
      (z_cons (z_set (i := 4) nd rfl (.inl rfl) (s_callK O (ok_digits_in T) (hr.mono (by decide)) (by rfl) T.g_digits_in T.F_digits_in.kp T.b_digits_in (s_cons (s_ix ix_2 o_ix (s_var 3) (s_un un_neg o_neg s_int) (fun _ _ => rfl)) (s_cons (s_var 0) s_nil))))
      (z_one (z_ret (s_if (s_tcmp (op_eqD hu) o_eq (s_var 4) (s_rev rfl (s_var 4)) (nomark _)) (s_bltT call_tuple_of n_tuple (by rfl) T.z_tuple (by decide +kernel) (s_cons (s_var 3) s_nil)) s_non)))))))))
theorem ok_next_mirrored (T : Txt K mg fa xc) : FnOk P w K mg base (L2.CX P w) 3 T.f_next_mirrored T.d_next_mirrored ["base", "number"] (spF ⟨K, fa, xc⟩ 2 D_next_mirrored) :=
  fn_ok (P := P) (w := w) (mg := mg) (base := base) (t := ⟨K, fa, xc⟩) T.F_next_mirrored sc_next_mirrored fun cdv A outer s H E hr => by
    have nd := sc_next_mirrored.nd
    have hc : (cxOf (L2.CX P w) P w K mg base ["base", "number", "line", "half", "head", "first", "front", "found"] "next_mirrored" (defScope s_next_mirrored) T.f_next_mirrored cdv A outer s H E).calm = true := rfl
    have hu := hr.units
    have tk : Takes (cxOf (L2.CX P w) P w K mg base ["base", "number", "line", "half", "head", "first", "front", "found"] "next_mirrored" (defScope s_next_mirrored) T.f_next_mirrored cdv A outer s H E) (fun cls d _ H => E cls d H) := takes_of rfl rfl rfl rfl
    have O : Okc (cxOf (L2.CX P w) P w K mg base ["base", "number", "line", "half", "head", "first", "front", "found"] "next_mirrored" (defScope s_next_mirrored) T.f_next_mirrored cdv A outer s H E) ⟨K, fa, xc⟩ (fun _ => E) := okc_def rfl
    exact (z_cons (z_expr (s_callK O (ok_need_whole T) (hr.mono (by decide)) (by rfl) T.g_need_whole T.F_need_whole.kp T.b_need_whole (s_cons (s_var 0) (s_cons s_int (s_cons (s_glob (by rfl) T.c_BASE) s_nil)))))
      (z_cons (z_expr (s_callK O (ok_need_whole T) (hr.mono (by decide)) (by rfl) T.g_need_whole T.F_need_whole.kp T.b_need_whole (s_cons (s_var 1) (s_cons s_int (s_cons (s_op op_pow o_pow s_int s_int) s_nil)))))
      (z_cons (z_set (i := 2) nd rfl (.inl rfl) (s_callK O (ok_digits_in T) (hr.mono (by decide)) (by rfl) T.g_digits_in T.F_digits_in.kp T.b_digits_in (s_cons (s_op op_add4 o_add (s_var 1) s_int) (s_cons (s_var 0) s_nil))))
      (z_cons (z_set (i := 3) nd rfl (.inl rfl) (s_op op_divG o_div (s_op op_add4 o_add (s_bltB call_len3 n_len (by rfl) T.z_len (by decide +kernel) (s_cons (s_var 2) s_nil)) s_int) s_int))
      (z_cons (z_set (i := 4) nd rfl (.inl rfl) (s_callK O (ok_number_in T) (hr.mono (by decide)) (by rfl) T.g_number_in T.F_number_in.kp T.b_number_in (s_cons (s_cut (pl := .no) (ph := (.at (eV 3))) rfl (s_var 2) trivial (s_var 3)) (s_cons (s_var 0) s_nil))))
      (z_cons (z_for pass_def hc rfl (i_tup rfl (s_tup (s_cons (s_var 4) (s_cons (s_op op_add4 o_add (s_var 4) s_int) s_nil)))) (g_name (i := 5) nd rfl (.inl rfl)) (z_cons (z_set (i := 6) nd rfl (.inl rfl) (s_callK O (ok_padded_in T) (hr.mono (by decide)) (by rfl) T.g_padded_in T.F_padded_in.kp T.b_padded_in (s_cons (s_var 5) (s_cons (s_var 0) (s_cons (s_var 3) s_nil)))))
      (z_one (z_if (s_tcmp (op_eqD hu) o_eq (s_bltB call_len3 n_len (by rfl) T.z_len (by decide +kernel) (s_cons (s_var 6) s_nil)) (s_var 3) (nomark _)) (z_cons (z_set (i := 7) nd rfl (.inl rfl) (s_callK O (ok_number_in T) (hr.mono (by decide)) (by rfl) T.g_number_in T.F_number_in.kp T.b_number_in (s_cons (s_op op_add4 o_add (s_var 6) (s_rev rfl (s_cut (pl := .no) (ph := (.at (e2 oDiv (eN bLen (aC (eV 2) aN)) (eC (.int 2))))) rfl (s_var 6) trivial (s_op op_divG o_div (s_bltB call_len3 n_len (by rfl) T.z_len (by decide +kernel) (s_cons (s_var 2) s_nil)) s_int)))) (s_cons (s_var 0) s_nil))))
      (z_one (z_if (s_tcmp op_gt o_gt (s_var 7) (s_var 1) (nomark _)) (z_one (z_ret (s_var 7))) z_nil))) z_nil))))
      (z_one (z_ret (s_op op_add4 o_add (s_callK O (ok_number_in T) (hr.mono (by decide)) (by rfl) T.g_number_in T.F_number_in.kp T.b_number_in (s_cons (s_op op_add4 o_add (s_lst (s_cons s_int s_nil)) (s_op op_mul2 o_mul (s_lst (s_cons s_int s_nil)) (s_bltB call_len3 n_len (by rfl) T.z_len (by decide +kernel) (s_cons (s_var 2) s_nil)))) (s_cons (s_var 0) s_nil))) s_int)))))))))
theorem ok_count_mirrored (T : Txt K mg fa xc) : FnOk P w K mg base (L2.CX P w) 3 T.f_count_mirrored T.d_count_mirrored ["base", "size"] (spF ⟨K, fa, xc⟩ 2 D_count_mirrored) :=
  fn_ok (P := P) (w := w) (mg := mg) (base := base) (t := ⟨K, fa, xc⟩) T.F_count_mirrored sc_count_mirrored fun cdv A outer s H E hr => by
    have nd := sc_count_mirrored.nd
    have hc : (cxOf (L2.CX P w) P w K mg base ["base", "size", "found", "place"] "count_mirrored" (defScope s_count_mirrored) T.f_count_mirrored cdv A outer s H E).calm = true := rfl
    have hu := hr.units
    have tk : Takes (cxOf (L2.CX P w) P w K mg base ["base", "size", "found", "place"] "count_mirrored" (defScope s_count_mirrored) T.f_count_mirrored cdv A outer s H E) (fun cls d _ H => E cls d H) := takes_of rfl rfl rfl rfl
    have O : Okc (cxOf (L2.CX P w) P w K mg base ["base", "size", "found", "place"] "count_mirrored" (defScope s_count_mirrored) T.f_count_mirrored cdv A outer s H E) ⟨K, fa, xc⟩ (fun _ => E) := okc_def rfl
    exact (z_cons (z_expr (s_callK O (ok_need_whole T) (hr.mono (by decide)) (by rfl) T.g_need_whole T.F_need_whole.kp T.b_need_whole (s_cons (s_var 0) (s_cons s_int (s_cons (s_glob (by rfl) T.c_BASE) s_nil)))))
      (z_cons (z_expr (s_callK O (ok_need_whole T) (hr.mono (by decide)) (by rfl) T.g_need_whole T.F_need_whole.kp T.b_need_whole (s_cons (s_var 1) (s_cons s_int (s_cons (s_glob (by rfl) T.c_SIZE) s_nil)))))
      (z_cons (z_set (i := 2) nd rfl (.inl rfl) (s_op op_sub o_sub (s_var 0) s_int))
      (z_cons (z_for pass_def hc rfl (i_rng1 (by rfl) T.z_range (s_op op_divG o_div (s_op op_sub o_sub (s_var 1) s_int) s_int)) (g_name (i := 3) nd rfl (.inl rfl)) (z_one (z_set (i := 2) nd rfl (.inl rfl) (s_op op_mul2 o_mul (s_var 2) (s_var 0)))))
      (z_one (z_ret (s_if (s_tcmp (op_eqD hu) o_eq (s_var 1) s_int (nomark _)) (s_op op_add4 o_add (s_var 2) s_int) (s_var 2))))))))
theorem ok__law_cup (T : Txt K mg fa xc) : FnOk P w K mg base (L2.CX P w) 1 T.f__law_cup T.d__law_cup ["script"] (spF ⟨K, fa, xc⟩ 1 D__law_cup) :=
  fn_ok (P := P) (w := w) (mg := mg) (base := base) (t := ⟨K, fa, xc⟩) T.F__law_cup sc__law_cup fun cdv A outer s H E hr => by
    have nd := sc__law_cup.nd
    have hc : (cxOf (L2.CX P w) P w K mg base ["script", "cell"] "_law_cup" (defScope s__law_cup) T.f__law_cup cdv A outer s H E).calm = true := rfl
    have hu := hr.units
    have tk : Takes (cxOf (L2.CX P w) P w K mg base ["script", "cell"] "_law_cup" (defScope s__law_cup) T.f__law_cup cdv A outer s H E) (fun cls d _ H => E cls d H) := takes_of rfl rfl rfl rfl
    have O : Okc (cxOf (L2.CX P w) P w K mg base ["script", "cell"] "_law_cup" (defScope s__law_cup) T.f__law_cup cdv A outer s H E) ⟨K, fa, xc⟩ (fun _ => E) := okc_def rfl
    exact (z_cons (z_set (i := 1) nd rfl (.inl rfl) (s_bltB call_abs n_abs (by rfl) T.z_abs (by decide +kernel) (s_cons (s_ix ix_2 o_ix (s_op op_add4 o_add (s_bltT call_list_of n_list (by rfl) T.z_list (by decide +kernel) (s_cons (s_var 0) s_nil)) (s_lst (s_cons s_int s_nil))) s_int (fun _ _ => rfl)) s_nil)))
      (z_one (z_ret (s_lst (s_cons (s_if (s_tcmp op_ge o_ge (s_var 1) (s_op op_pow o_pow s_int s_int) (nomark _)) (s_op op_divG o_div (s_var 1) s_int) s_int) (s_cons (s_op op_add4 o_add (s_op op_modG o_mod (s_bltT call_int1 n_int (by rfl) T.z_int (by decide +kernel) (s_cons (s_op op_add4 o_add (s_op op_mul2 o_mul (s_var 1) s_int) s_int) s_nil)) s_int) s_int) s_nil))))))
theorem ok__law_roll (T : Txt K mg fa xc) : FnOk P w K mg base (L2.CX P w) 1 T.f__law_roll T.d__law_roll ["cup", "many"] (spF ⟨K, fa, xc⟩ 2 D__law_roll) :=
  fn_ok (P := P) (w := w) (mg := mg) (base := base) (t := ⟨K, fa, xc⟩) T.F__law_roll sc__law_roll fun cdv A outer s H E hr => by
    have nd := sc__law_roll.nd
    have hc : (cxOf (L2.CX P w) P w K mg base ["cup", "many", "found", "deep"] "_law_roll" (defScope s__law_roll) T.f__law_roll cdv A outer s H E).calm = true := rfl
    have hu := hr.units
    have tk : Takes (cxOf (L2.CX P w) P w K mg base ["cup", "many", "found", "deep"] "_law_roll" (defScope s__law_roll) T.f__law_roll cdv A outer s H E) (fun cls d _ H => E cls d H) := takes_of rfl rfl rfl rfl
    have O : Okc (cxOf (L2.CX P w) P w K mg base ["cup", "many", "found", "deep"] "_law_roll" (defScope s__law_roll) T.f__law_roll cdv A outer s H E) ⟨K, fa, xc⟩ (fun _ => E) := okc_def rfl
    exact (z_cons (z_if (s_tcmp op_gt o_gt (s_ix ix_2 o_ix (s_var 0) s_int (fun _ _ => rfl)) s_int (nomark _)) (z_cons (z_set (i := 2) nd rfl (.inl rfl) (s_op op_modG o_mod (s_bltT call_int1 n_int (by rfl) T.z_int (by decide +kernel) (s_cons (s_ix ix_2 o_ix (s_var 0) s_int (fun _ _ => rfl)) s_nil)) (s_var 1)))
      (z_cons (z_putL (s_op op_divG o_div (s_ix ix_2 o_ix (s_var 0) s_int (fun _ _ => rfl)) (s_var 1)) (s_var 0) s_int)
      (z_one (z_ret (s_var 2))))) z_nil)
      (z_cons (z_putL (s_op op_modG o_mod (s_bltT call_int1 n_int (by rfl) T.z_int (by decide +kernel) (s_cons (s_op op_add4 o_add (s_op op_mul2 o_mul (s_ix ix_2 o_ix (s_var 0) s_int (fun _ _ => rfl)) s_int) s_int) s_nil)) s_int) (s_var 0) s_int)
      (z_cons (z_set (i := 3) nd rfl (.inl rfl) (s_op op_modG o_mod (s_bltT call_int1 n_int (by rfl) T.z_int (by decide +kernel) (s_cons (s_op op_mul2 o_mul (s_ix ix_2 o_ix (s_var 0) s_int (fun _ _ => rfl)) (s_op op_add4 o_add (s_ix ix_2 o_ix (s_var 0) s_int (fun _ _ => rfl)) s_int)) s_nil)) s_int))
      (z_one (z_ret (s_op op_modG o_mod (s_bltT call_int1 n_int (by rfl) T.z_int (by decide +kernel) (s_cons (s_op op_divG o_div (s_var 3) s_int) s_nil)) (s_var 1)))))))
theorem ok__law_some (T : Txt K mg fa xc) : FnOk P w K mg base (L2.CX P w) 2 T.f__law_some T.d__law_some ["cup", "things"] (spF ⟨K, fa, xc⟩ 2 D__law_some) :=
  fn_ok (P := P) (w := w) (mg := mg) (base := base) (t := ⟨K, fa, xc⟩) T.F__law_some sc__law_some fun cdv A outer s H E hr => by
    have nd := sc__law_some.nd
    have hc : (cxOf (L2.CX P w) P w K mg base ["cup", "things"] "_law_some" (defScope s__law_some) T.f__law_some cdv A outer s H E).calm = true := rfl
    have hu := hr.units
    have tk : Takes (cxOf (L2.CX P w) P w K mg base ["cup", "things"] "_law_some" (defScope s__law_some) T.f__law_some cdv A outer s H E) (fun cls d _ H => E cls d H) := takes_of rfl rfl rfl rfl
    have O : Okc (cxOf (L2.CX P w) P w K mg base ["cup", "things"] "_law_some" (defScope s__law_some) T.f__law_some cdv A outer s H E) ⟨K, fa, xc⟩ (fun _ => E) := okc_def rfl
    exact (z_one (z_ret (s_ix ix_2 o_ix (s_var 1) (s_callK O (ok__law_roll T) (hr.mono (by decide)) (by rfl) T.g__law_roll T.F__law_roll.kp T.b__law_roll (s_cons (s_var 0) (s_cons (s_bltB call_len3 n_len (by rfl) T.z_len (by decide +kernel) (s_cons (s_var 1) s_nil)) s_nil))) (fun _ _ => rfl))))
theorem ok__law_same (T : Txt K mg fa xc) : ∀ n : Nat, FnOk P w K mg base (L2.CX P w) (0 + n) T.f__law_same T.d__law_same ["told", "due"] (spF ⟨K, fa, xc⟩ 2 (D__law_same n))
  | 0 => fn_stk
  | n + 1 => by
    have ih := ok__law_same T n
    show FnOk P w K mg base (L2.CX P w) (0 + n + 1) T.f__law_same T.d__law_same ["told", "due"] (spF ⟨K, fa, xc⟩ 2 (mkFn 3 2 (b__law_same (D__law_same n))))
    exact fn_ok (P := P) (w := w) (mg := mg) (base := base) (t := ⟨K, fa, xc⟩) T.F__law_same sc__law_same fun cdv A outer s H E hr => by
      have nd := sc__law_same.nd
      have hc : (cxOf (L2.CX P w) P w K mg base ["told", "due", "at"] "_law_same" (defScope s__law_same) T.f__law_same cdv A outer s H E).calm = true := rfl
      have hu := hr.units
      have tk : Takes (cxOf (L2.CX P w) P w K mg base ["told", "due", "at"] "_law_same" (defScope s__law_same) T.f__law_same cdv A outer s H E) (fun cls d _ H => E cls d H) := takes_of rfl rfl rfl rfl
      have O : Okc (cxOf (L2.CX P w) P w K mg base ["told", "due", "at"] "_law_same" (defScope s__law_same) T.f__law_same cdv A outer s H E) ⟨K, fa, xc⟩ (fun _ => E) := okc_def rfl
      exact (z_cons (z_if (s_pw (s_or (s_tst (s_isI .tuple rfl (by rfl) T.z_isinstance (by decide +kernel) (by rfl) T.z_tuple (by decide +kernel) (s_var 1))) (s_or1 (s_tst (s_isI .list rfl (by rfl) T.z_isinstance (by decide +kernel) (by rfl) T.z_list (by decide +kernel) (s_var 1)))))) (z_cons (z_if (s_pw (s_or (s_tcmp (op_neD hu) o_ne (s_isI .tuple rfl (by rfl) T.z_isinstance (by decide +kernel) (by rfl) T.z_tuple (by decide +kernel) (s_var 0)) (s_isI .tuple rfl (by rfl) T.z_isinstance (by decide +kernel) (by rfl) T.z_tuple (by decide +kernel) (s_var 1)) (nomark _)) (s_or (s_tcmp (op_neD hu) o_ne (s_isI .list rfl (by rfl) T.z_isinstance (by decide +kernel) (by rfl) T.z_list (by decide +kernel) (s_var 0)) (s_isI .list rfl (by rfl) T.z_isinstance (by decide +kernel) (by rfl) T.z_list (by decide +kernel) (s_var 1)) (nomark _)) (s_or1 (s_tcmp (op_neD hu) o_ne (s_bltB call_len3 n_len (by rfl) T.z_len (by decide +kernel) (s_cons (s_var 0) s_nil)) (s_bltB call_len3 n_len (by rfl) T.z_len (by decide +kernel) (s_cons (s_var 1) s_nil)) (nomark _)))))) (z_one (z_ret s_bl)) z_nil)
        (z_one (z_ret (s_cmp (op_eqD hu) o_eq (s_lc (own := [("at", 2)]) rfl hc nd (i_rng1 (by rfl) T.z_range (s_bltB call_len3 n_len (by rfl) T.z_len (by decide +kernel) (s_cons (s_var 1) s_nil))) (blkOk_by (N := ["told", "due", "at"]) (sc := defScope s__law_same) (own := [("at", 2)]) (by decide +kernel)) (fun _ _ _ _ _ => (gw_name (i := 2) nd rfl (Or.inl rfl) (by decide))) (fun _ _ _ _ _ => (ts_one (s_tnot (s_tst (s_callK O.blk ih (hr.mono (by omega)) (by rfl) T.g__law_same T.F__law_same.kp T.b__law_same (s_cons (s_ix ix_2 o_ix (s_var 0) (s_var 2) (fun _ _ => rfl)) (s_cons (s_ix ix_2 o_ix (s_var 1) (s_var 2) (fun _ _ => rfl)) s_nil))))))) (fun _ _ _ _ _ => s_int)) (s_lst s_nil) (nomark _))))) z_nil)
        (z_cons (z_if (s_tisN (s_var 1)) (z_one (z_ret (s_isN (s_var 0)))) z_nil)
        (z_cons (z_if (s_tst (s_isI .bool rfl (by rfl) T.z_isinstance (by decide +kernel) (by rfl) T.z_bool (by decide +kernel) (s_var 1))) (z_one (z_ret (s_if (s_tst (s_var 1)) (s_isB (s_var 0) s_bl) (s_isB (s_var 0) s_bl)))) z_nil)
        (z_cons (z_if (s_tst (s_isI .int rfl (by rfl) T.z_isinstance (by decide +kernel) (by rfl) T.z_int (by decide +kernel) (s_var 1))) (z_one (z_ret (s_vand (s_isI .int rfl (by rfl) T.z_isinstance (by decide +kernel) (by rfl) T.z_int (by decide +kernel) (s_var 0)) (s_vand (s_vnot (s_isI .bool rfl (by rfl) T.z_isinstance (by decide +kernel) (by rfl) T.z_bool (by decide +kernel) (s_var 0))) (s_one (s_cmp (op_eqD hu) o_eq (s_bltT call_int1 n_int (by rfl) T.z_int (by decide +kernel) (s_cons (s_var 0) s_nil)) (s_var 1) (nomark _))))))) z_nil)
        (z_one (z_ret (s_vand (s_isI .str rfl (by rfl) T.z_isinstance (by decide +kernel) (by rfl) T.z_str (by decide +kernel) (s_var 0)) (s_one (s_cmp (op_eqD hu) o_eq (s_bltT call_str2 n_str (by rfl) T.z_str (by decide +kernel) (s_cons (s_var 0) s_nil)) (s_var 1) (nomark _))))))))))
theorem ok__law_number (T : Txt K mg fa xc) : FnOk P w K mg base (L2.CX P w) 2 T.f__law_number T.d__law_number ["cup", "most"] (spF ⟨K, fa, xc⟩ 2 D__law_number) :=
  fn_ok (P := P) (w := w) (mg := mg) (base := base) (t := ⟨K, fa, xc⟩) T.F__law_number sc__law_number fun cdv A outer s H E hr => by
    have nd := sc__law_number.nd
    have hc : (cxOf (L2.CX P w) P w K mg base ["cup", "most", "found", "turn"] "_law_number" (defScope s__law_number) T.f__law_number cdv A outer s H E).calm = true := rfl
    have hu := hr.units
    have tk : Takes (cxOf (L2.CX P w) P w K mg base ["cup", "most", "found", "turn"] "_law_number" (defScope s__law_number) T.f__law_number cdv A outer s H E) (fun cls d _ H => E cls d H) := takes_of rfl rfl rfl rfl
    have O : Okc (cxOf (L2.CX P w) P w K mg base ["cup", "most", "found", "turn"] "_law_number" (defScope s__law_number) T.f__law_number cdv A outer s H E) ⟨K, fa, xc⟩ (fun _ => E) := okc_def rfl
    exact (z_cons (z_set (i := 2) nd rfl (.inl rfl) s_int)
      (z_cons (z_for pass_def hc rfl (i_rng1 (by rfl) T.z_range (s_op op_add4 o_add s_int (s_callK O (ok__law_roll T) (hr.mono (by decide)) (by rfl) T.g__law_roll T.F__law_roll.kp T.b__law_roll (s_cons (s_var 0) (s_cons s_int s_nil))))) (g_name (i := 3) nd rfl (.inl rfl)) (z_one (z_set (i := 2) nd rfl (.inl rfl) (s_op op_add4 o_add (s_op op_mul2 o_mul s_int (s_var 2)) (s_callK O (ok__law_roll T) (hr.mono (by decide)) (by rfl) T.g__law_roll T.F__law_roll.kp T.b__law_roll (s_cons (s_var 0) (s_cons s_int s_nil)))))))
      (z_one (z_ret (s_op op_modG o_mod (s_bltT call_int1 n_int (by rfl) T.z_int (by decide +kernel) (s_cons (s_var 2) s_nil)) (s_op op_add4 o_add (s_var 1) s_int))))))
theorem ok__law_power (T : Txt K mg fa xc) : FnOk P w K mg base (L2.CX P w) 1 T.f__law_power T.d__law_power ["number", "times"] (spF ⟨K, fa, xc⟩ 2 D__law_power) :=
  fn_ok (P := P) (w := w) (mg := mg) (base := base) (t := ⟨K, fa, xc⟩) T.F__law_power sc__law_power fun cdv A outer s H E hr => by
    have nd := sc__law_power.nd
    have hc : (cxOf (L2.CX P w) P w K mg base ["number", "times", "found", "turn"] "_law_power" (defScope s__law_power) T.f__law_power cdv A outer s H E).calm = true := rfl
    have hu := hr.units
    have tk : Takes (cxOf (L2.CX P w) P w K mg base ["number", "times", "found", "turn"] "_law_power" (defScope s__law_power) T.f__law_power cdv A outer s H E) (fun cls d _ H => E cls d H) := takes_of rfl rfl rfl rfl
    have O : Okc (cxOf (L2.CX P w) P w K mg base ["number", "times", "found", "turn"] "_law_power" (defScope s__law_power) T.f__law_power cdv A outer s H E) ⟨K, fa, xc⟩ (fun _ => E) := okc_def rfl
    exact (z_cons (z_set (i := 2) nd rfl (.inl rfl) s_int)
      (z_cons (z_for pass_def hc rfl (i_rng1 (by rfl) T.z_range (s_var 1)) (g_name (i := 3) nd rfl (.inl rfl)) (z_one (z_set (i := 2) nd rfl (.inl rfl) (s_op op_mul2 o_mul (s_var 2) (s_var 0)))))
      (z_one (z_ret (s_var 2)))))
theorem ok__law_digits (T : Txt K mg fa xc) : FnOk P w K mg base (L2.CX P w) 1 T.f__law_digits T.d__law_digits ["number", "base", "size"] (spF ⟨K, fa, xc⟩ 3 D__law_digits) :=
  fn_ok (P := P) (w := w) (mg := mg) (base := base) (t := ⟨K, fa, xc⟩) T.F__law_digits sc__law_digits fun cdv A outer s H E hr => by
    have nd := sc__law_digits.nd
    have hc : (cxOf (L2.CX P w) P w K mg base ["number", "base", "size", "found"] "_law_digits" (defScope s__law_digits) T.f__law_digits cdv A outer s H E).calm = true := rfl
    have hu := hr.units
    have tk : Takes (cxOf (L2.CX P w) P w K mg base ["number", "base", "size", "found"] "_law_digits" (defScope s__law_digits) T.f__law_digits cdv A outer s H E) (fun cls d _ H => E cls d H) := takes_of rfl rfl rfl rfl
    have O : Okc (cxOf (L2.CX P w) P w K mg base ["number", "base", "size", "found"] "_law_digits" (defScope s__law_digits) T.f__law_digits cdv A outer s H E) ⟨K, fa, xc⟩ (fun _ => E) := okc_def rfl
    exact (z_cons (z_set (i := 3) nd rfl (.inl rfl) (s_tup s_nil))
      (z_cons (z_while pass_def (s_pw (s_or (s_tcmp op_gt o_gt (s_var 0) s_int (nomark _)) (s_or1 (s_tcmp op_lt o_lt (s_bltB call_len3 n_len (by rfl) T.z_len (by decide +kernel) (s_cons (s_var 3) s_nil)) (s_bltB (call_max2 hc) n_max2 (by rfl) T.z_max (by decide +kernel) (s_cons s_int (s_cons (s_var 2) s_nil))) (nomark _))))) (z_one (z_par (i := 3) (j := 0) hc nd rfl rfl (by decide) rfl rfl (s_op op_add4 o_add (s_tup (s_cons (s_op op_modG o_mod (s_bltT call_int1 n_int (by rfl) T.z_int (by decide +kernel) (s_cons (s_var 0) s_nil)) (s_var 1)) s_nil)) (s_var 3)) (s_bltT call_int1 n_int (by rfl) T.z_int (by decide +kernel) (s_cons (s_op op_divG o_div (s_var 0) (s_var 1)) s_nil)) (by rfl))))
      (z_one (z_ret (s_var 3)))))
theorem ok__law_value (T : Txt K mg fa xc) : FnOk P w K mg base (L2.CX P w) 1 T.f__law_value T.d__law_value ["line", "base"] (spF ⟨K, fa, xc⟩ 2 D__law_value) :=
  fn_ok (P := P) (w := w) (mg := mg) (base := base) (t := ⟨K, fa, xc⟩) T.F__law_value sc__law_value fun cdv A outer s H E hr => by
    have nd := sc__law_value.nd
    have hc : (cxOf (L2.CX P w) P w K mg base ["line", "base", "found", "digit"] "_law_value" (defScope s__law_value) T.f__law_value cdv A outer s H E).calm = true := rfl
    have hu := hr.units
    have tk : Takes (cxOf (L2.CX P w) P w K mg base ["line", "base", "found", "digit"] "_law_value" (defScope s__law_value) T.f__law_value cdv A outer s H E) (fun cls d _ H => E cls d H) := takes_of rfl rfl rfl rfl
    have O : Okc (cxOf (L2.CX P w) P w K mg base ["line", "base", "found", "digit"] "_law_value" (defScope s__law_value) T.f__law_value cdv A outer s H E) ⟨K, fa, xc⟩ (fun _ => E) := okc_def rfl
    exact (z_cons (z_set (i := 2) nd rfl (.inl rfl) s_int)
      (z_cons (z_for pass_def hc rfl (i_tup rfl (s_var 0)) (g_name (i := 3) nd rfl (.inl rfl)) (z_one (z_set (i := 2) nd rfl (.inl rfl) (s_op op_add4 o_add (s_op op_mul2 o_mul (s_var 2) (s_var 1)) (s_var 3)))))
      (z_one (z_ret (s_var 2)))))
theorem ok__law_turned (T : Txt K mg fa xc) : FnOk P w K mg base (L2.CX P w) 2 T.f__law_turned T.d__law_turned ["number", "base"] (spF ⟨K, fa, xc⟩ 2 D__law_turned) :=
  fn_ok (P := P) (w := w) (mg := mg) (base := base) (t := ⟨K, fa, xc⟩) T.F__law_turned sc__law_turned fun cdv A outer s H E hr => by
    have nd := sc__law_turned.nd
    have hc : (cxOf (L2.CX P w) P w K mg base ["number", "base"] "_law_turned" (defScope s__law_turned) T.f__law_turned cdv A outer s H E).calm = true := rfl
    have hu := hr.units
    have tk : Takes (cxOf (L2.CX P w) P w K mg base ["number", "base"] "_law_turned" (defScope s__law_turned) T.f__law_turned cdv A outer s H E) (fun cls d _ H => E cls d H) := takes_of rfl rfl rfl rfl
    have O : Okc (cxOf (L2.CX P w) P w K mg base ["number", "base"] "_law_turned" (defScope s__law_turned) T.f__law_turned cdv A outer s H E) ⟨K, fa, xc⟩ (fun _ => E) := okc_def rfl
    exact (z_one (z_ret (s_callK O (ok__law_value T) (hr.mono (by decide)) (by rfl) T.g__law_value T.F__law_value.kp T.b__law_value (s_cons (s_rev rfl (s_callK O (ok__law_digits T) (hr.mono (by decide)) (by rfl) T.g__law_digits T.F__law_digits.kp T.b__law_digits (s_cons (s_var 0) (s_cons (s_var 1) (s_cons s_int s_nil))))) (s_cons (s_var 1) s_nil)))))
theorem ok_law (T : Txt K mg fa xc) : FnOk P w K mg base (L2.CX P w) 12 T.f_law T.d_law ["script"] (spF ⟨K, fa, xc⟩ 1 D_law) :=
  fn_ok (P := P) (w := w) (mg := mg) (base := base) (t := ⟨K, fa, xc⟩) T.F_law sc_law fun cdv A outer s H E hr => by
    have nd := sc_law.nd
    have hc : (cxOf (L2.CX P w) P w K mg base ["script", "cup", "turn", "base", "number", "line", "mirrored", "one", "turned", "told", "small", "due", "far", "most", "path", "good", "size", "low", "many"] "law" (defScope s_law) T.f_law cdv A outer s H E).calm = true := rfl
    have hu := hr.units
    have tk : Takes (cxOf (L2.CX P w) P w K mg base ["script", "cup", "turn", "base", "number", "line", "mirrored", "one", "turned", "told", "small", "due", "far", "most", "path", "good", "size", "low", "many"] "law" (defScope s_law) T.f_law cdv A outer s H E) (fun cls d _ H => E cls d H) := takes_of rfl rfl rfl rfl
    have O : Okc (cxOf (L2.CX P w) P w K mg base ["script", "cup", "turn", "base", "number", "line", "mirrored", "one", "turned", "told", "small", "due", "far", "most", "path", "good", "size", "low", "many"] "law" (defScope s_law) T.f_law cdv A outer s H E) ⟨K, fa, xc⟩ (fun _ => E) := okc_def rfl
    exact (z_cons (z_set (i := 1) nd rfl (.inl rfl) (s_callK O (ok__law_cup T) (hr.mono (by decide)) (by rfl) T.g__law_cup T.F__law_cup.kp T.b__law_cup (s_cons (s_var 0) s_nil)))
      (z_cons (z_for pass_def hc rfl (i_rng1 (by rfl) T.z_range s_int) (g_name (i := 2) nd rfl (.inl rfl)) (z_cons (z_set (i := 3) nd rfl (.inr rfl) (s_callK O (ok__law_some T) (hr.mono (by decide)) (by rfl) T.g__law_some T.F__law_some.kp T.b__law_some (s_cons (s_var 1) (s_cons (s_lst (s_cons s_int (s_cons s_int (s_cons (s_op op_add4 o_add s_int (s_callK O (ok__law_roll T) (hr.mono (by decide)) (by rfl) T.g__law_roll T.F__law_roll.kp T.b__law_roll (s_cons (s_var 1) (s_cons s_int s_nil)))) s_nil)))) s_nil))))
      (z_cons (z_set (i := 4) nd rfl (.inl rfl) (s_callK O (ok__law_number T) (hr.mono (by decide)) (by rfl) T.g__law_number T.F__law_number.kp T.b__law_number (s_cons (s_var 1) (s_cons (s_callK O (ok__law_some T) (hr.mono (by decide)) (by rfl) T.g__law_some T.F__law_some.kp T.b__law_some (s_cons (s_var 1) (s_cons (s_lst (s_cons s_int (s_cons s_int (s_cons (s_op op_pow o_pow s_int s_int) s_nil)))) s_nil))) s_nil))))
      (z_cons (z_set (i := 5) nd rfl (.inl rfl) (s_callK O (ok__law_digits T) (hr.mono (by decide)) (by rfl) T.g__law_digits T.F__law_digits.kp T.b__law_digits (s_cons (s_var 4) (s_cons (s_var 3) (s_cons s_int s_nil)))))
      (z_cons (z_set (i := 6) nd rfl (.inl rfl) (s_callK O (ok__law_value T) (hr.mono (by decide)) (by rfl) T.g__law_value T.F__law_value.kp T.b__law_value (s_cons (s_op op_add4 o_add (s_var 5) (s_rev rfl (s_var 5))) (s_cons (s_var 3) s_nil))))
      (z_cons (z_for pass_def hc rfl (i_tup rfl (s_tup (s_cons (s_var 4) (s_cons (s_bltB (call_min2 hc) n_min2 (by rfl) T.z_min (by decide +kernel) (s_cons (s_var 6) (s_cons (s_op op_pow o_pow s_int s_int) s_nil))) (s_cons (s_op op_mul2 o_mul (s_op op_divG o_div (s_var 4) (s_var 3)) (s_var 3)) s_nil))))) (g_name (i := 7) nd rfl (.inl rfl)) (z_cons (z_set (i := 8) nd rfl (.inl rfl) (s_callK O (ok__law_turned T) (hr.mono (by decide)) (by rfl) T.g__law_turned T.F__law_turned.kp T.b__law_turned (s_cons (s_var 7) (s_cons (s_var 3) s_nil))))
      (z_cons (z_set (i := 9) nd rfl (.inl rfl) (s_lst (s_cons (s_callK O (ok_turned_sum T) (hr.mono (by decide)) (by rfl) T.g_turned_sum T.F_turned_sum.kp T.b_turned_sum (s_cons (s_var 3) (s_cons (s_var 7) s_nil))) (s_cons (s_callK O (ok_is_mirrored T) (hr.mono (by decide)) (by rfl) T.g_is_mirrored T.F_is_mirrored.kp T.b_is_mirrored (s_cons (s_var 3) (s_cons (s_var 7) s_nil))) s_nil))))
      (z_one (z_if (s_tnot (s_tst (s_callK O (ok__law_same T 10) (hr.mono (by decide)) (by rfl) T.g__law_same T.F__law_same.kp T.b__law_same (s_cons (s_var 9) (s_cons (s_lst (s_cons (s_op op_add4 o_add (s_var 7) (s_var 8)) (s_cons (s_cmp (op_eqD hu) o_eq (s_callK O (ok__law_digits T) (hr.mono (by decide)) (by rfl) T.g__law_digits T.F__law_digits.kp T.b__law_digits (s_cons (s_var 7) (s_cons (s_var 3) (s_cons s_int s_nil)))) (s_rev rfl (s_callK O (ok__law_digits T) (hr.mono (by decide)) (by rfl) T.g__law_digits T.F__law_digits.kp T.b__law_digits (s_cons (s_var 7) (s_cons (s_var 3) (s_cons s_int s_nil))))) (nomark _)) s_nil))) s_nil))))) (z_one (z_ret s_bl)) z_nil)))))
      (z_cons (z_set (i := 10) nd rfl (.inl rfl) (s_callK O (ok__law_number T) (hr.mono (by decide)) (by rfl) T.g__law_number T.F__law_number.kp T.b__law_number (s_cons (s_var 1) (s_cons s_int s_nil))))
      (z_cons (z_set (i := 11) nd rfl (.inl rfl) (s_op op_add4 o_add (s_var 10) s_int))
      (z_cons (z_while pass_def (s_pw (s_or (s_tcmp (op_neD hu) o_ne (s_callK O (ok__law_turned T) (hr.mono (by decide)) (by rfl) T.g__law_turned T.F__law_turned.kp T.b__law_turned (s_cons (s_var 11) (s_cons (s_var 3) s_nil))) (s_var 11) (nomark _)) (s_or1 (s_tcmp (op_eqD hu) o_eq (s_op op_modG o_mod (s_bltT call_int1 n_int (by rfl) T.z_int (by decide +kernel) (s_cons (s_var 11) s_nil)) (s_var 3)) s_int (nomark _))))) (z_one (z_set (i := 11) nd rfl (.inl rfl) (s_op op_add4 o_add (s_var 11) s_int))))
      (z_cons (z_if (s_tnot (s_tst (s_callK O (ok__law_same T 10) (hr.mono (by decide)) (by rfl) T.g__law_same T.F__law_same.kp T.b__law_same (s_cons (s_callK O (ok_next_mirrored T) (hr.mono (by decide)) (by rfl) T.g_next_mirrored T.F_next_mirrored.kp T.b_next_mirrored (s_cons (s_var 3) (s_cons (s_var 10) s_nil))) (s_cons (s_var 11) s_nil))))) (z_one (z_ret s_bl)) z_nil)
      (z_cons (z_set (i := 12) nd rfl (.inl rfl) (s_callK O (ok_next_mirrored T) (hr.mono (by decide)) (by rfl) T.g_next_mirrored T.F_next_mirrored.kp T.b_next_mirrored (s_cons (s_var 3) (s_cons (s_var 4) s_nil))))
      (z_cons (z_if (s_pw (s_or (s_tcmp op_le o_le (s_var 12) (s_var 4) (nomark _)) (s_or1 (s_tcmp (op_neD hu) o_ne (s_callK O (ok__law_digits T) (hr.mono (by decide)) (by rfl) T.g__law_digits T.F__law_digits.kp T.b__law_digits (s_cons (s_var 12) (s_cons (s_var 3) (s_cons s_int s_nil)))) (s_rev rfl (s_callK O (ok__law_digits T) (hr.mono (by decide)) (by rfl) T.g__law_digits T.F__law_digits.kp T.b__law_digits (s_cons (s_var 12) (s_cons (s_var 3) (s_cons s_int s_nil))))) (nomark _))))) (z_one (z_ret s_bl)) z_nil)
      (z_cons (z_set (i := 13) nd rfl (.inl rfl) (s_callK O (ok__law_roll T) (hr.mono (by decide)) (by rfl) T.g__law_roll T.F__law_roll.kp T.b__law_roll (s_cons (s_var 1) (s_cons s_int s_nil))))
      (z_cons (z_set (i := 14) nd rfl (.inl rfl) (s_lst (s_cons (s_var 4) s_nil)))
      (z_cons (z_while pass_def (s_pw (s_and (s_tcmp op_le o_le (s_bltB call_len3 n_len (by rfl) T.z_len (by decide +kernel) (s_cons (s_var 14) s_nil)) (s_var 13) (nomark _)) (s_and1 (s_tcmp (op_neD hu) o_ne (s_callK O (ok__law_digits T) (hr.mono (by decide)) (by rfl) T.g__law_digits T.F__law_digits.kp T.b__law_digits (s_cons (s_ix ix_2 o_ix (s_var 14) (s_un un_neg o_neg s_int) (fun _ _ => rfl)) (s_cons (s_var 3) (s_cons s_int s_nil)))) (s_rev rfl (s_callK O (ok__law_digits T) (hr.mono (by decide)) (by rfl) T.g__law_digits T.F__law_digits.kp T.b__law_digits (s_cons (s_ix ix_2 o_ix (s_var 14) (s_un un_neg o_neg s_int) (fun _ _ => rfl)) (s_cons (s_var 3) (s_cons s_int s_nil))))) (nomark _))))) (z_one (z_expr (s_me rfl PySem.F.plainAttrs_list PySem.F.slot_list_append PySem.F.type_list_append mt_append ck_L m_app (s_var 14) (s_cons (s_op op_add4 o_add (s_ix ix_2 o_ix (s_var 14) (s_un un_neg o_neg s_int) (fun _ _ => rfl)) (s_callK O (ok__law_turned T) (hr.mono (by decide)) (by rfl) T.g__law_turned T.F__law_turned.kp T.b__law_turned (s_cons (s_ix ix_2 o_ix (s_var 14) (s_un un_neg o_neg s_int) (fun _ _ => rfl)) (s_cons (s_var 3) s_nil)))) s_nil)))))
      (z_cons (z_set (i := 15) nd rfl (.inl rfl) (s_cmp (op_eqD hu) o_eq (s_callK O (ok__law_digits T) (hr.mono (by decide)) (by rfl) T.g__law_digits T.F__law_digits.kp T.b__law_digits (s_cons (s_ix ix_2 o_ix (s_var 14) (s_un un_neg o_neg s_int) (fun _ _ => rfl)) (s_cons (s_var 3) (s_cons s_int s_nil)))) (s_rev rfl (s_callK O (ok__law_digits T) (hr.mono (by decide)) (by rfl) T.g__law_digits T.F__law_digits.kp T.b__law_digits (s_cons (s_ix ix_2 o_ix (s_var 14) (s_un un_neg o_neg s_int) (fun _ _ => rfl)) (s_cons (s_var 3) (s_cons s_int s_nil))))) (nomark _)))
      (z_one (z_if (s_tnot (s_tst (s_callK O (ok__law_same T 10) (hr.mono (by decide)) (by rfl) T.g__law_same T.F__law_same.kp T.b__law_same (s_cons (s_callK O (ok_turned_steps T) (hr.mono (by decide)) (by rfl) T.g_turned_steps T.F_turned_steps.kp T.b_turned_steps (s_cons (s_var 3) (s_cons (s_var 4) (s_cons (s_var 13) s_nil)))) (s_cons (s_if (s_tst (s_var 15)) (s_bltT call_tuple_of n_tuple (by rfl) T.z_tuple (by decide +kernel) (s_cons (s_var 14) s_nil)) s_non) s_nil))))) (z_one (z_ret s_bl)) z_nil))))))))))))))))))
      (z_cons (z_asg (s_tup (s_cons (s_callK O (ok__law_some T) (hr.mono (by decide)) (by rfl) T.g__law_some T.F__law_some.kp T.b__law_some (s_cons (s_var 1) (s_cons (s_lst (s_cons s_int (s_cons s_int (s_cons s_int (s_cons s_int s_nil))))) s_nil))) (s_cons (s_op op_add4 o_add s_int (s_callK O (ok__law_roll T) (hr.mono (by decide)) (by rfl) T.g__law_roll T.F__law_roll.kp T.b__law_roll (s_cons (s_var 1) (s_cons s_int s_nil)))) s_nil))) (g_tup rfl hc (gs_cons (g_name (i := 3) nd rfl (.inr rfl)) (gs_cons (g_name (i := 16) nd rfl (.inl rfl)) gs_nil)) ((len_gsC ((len_gsC (fun _ _ _ _ h => len_gsN h)))))))
      (z_cons (z_set (i := 17) nd rfl (.inl rfl) (s_if (s_tcmp op_gt o_gt (s_var 16) s_int (nomark _)) (s_callK O (ok__law_power T) (hr.mono (by decide)) (by rfl) T.g__law_power T.F__law_power.kp T.b__law_power (s_cons (s_var 3) (s_cons (s_op op_sub o_sub (s_var 16) s_int) s_nil))) s_int))
      (z_cons (z_set (i := 18) nd rfl (.inl rfl) (s_bltB call_len3 n_len (by rfl) T.z_len (by decide +kernel) (s_cons (s_lc (own := [("one", 7)]) rfl hc nd (i_rng2 (by rfl) T.z_range (s_var 17) (s_callK O (ok__law_power T) (hr.mono (by decide)) (by rfl) T.g__law_power T.F__law_power.kp T.b__law_power (s_cons (s_var 3) (s_cons (s_var 16) s_nil)))) (blkOk_by (N := ["script", "cup", "turn", "base", "number", "line", "mirrored", "one", "turned", "told", "small", "due", "far", "most", "path", "good", "size", "low", "many"]) (sc := defScope s_law) (own := [("one", 7)]) (by decide +kernel)) (fun _ _ _ _ _ => (gw_name (i := 7) nd rfl (Or.inl rfl) (by decide))) (fun _ _ _ _ _ => (ts_one (s_tst (s_callK O.blk (ok_is_mirrored T) (hr.mono (by decide)) (by rfl) T.g_is_mirrored T.F_is_mirrored.kp T.b_is_mirrored (s_cons (s_var 3) (s_cons (s_var 7) s_nil)))))) (fun _ _ _ _ _ => s_int)) s_nil)))
      (z_cons (z_set (i := 9) nd rfl (.inl rfl) (s_lst (s_cons (s_callK O (ok_count_mirrored T) (hr.mono (by decide)) (by rfl) T.g_count_mirrored T.F_count_mirrored.kp T.b_count_mirrored (s_cons (s_var 3) (s_cons (s_var 16) s_nil))) (s_cons (s_callK O (ok_count_mirrored T) (hr.mono (by decide)) (by rfl) T.g_count_mirrored T.F_count_mirrored.kp T.b_count_mirrored (s_cons s_int (s_cons s_int s_nil))) (s_cons (s_callK O (ok_turned_steps T) (hr.mono (by decide)) (by rfl) T.g_turned_steps T.F_turned_steps.kp T.b_turned_steps (s_cons s_int (s_cons s_int (s_cons s_int s_nil)))) (s_cons (s_bltB call_len3 n_len (by rfl) T.z_len (by decide +kernel) (s_cons (s_callK O (ok_turned_steps T) (hr.mono (by decide)) (by rfl) T.g_turned_steps T.F_turned_steps.kp T.b_turned_steps (s_cons s_int (s_cons s_int (s_cons s_int s_nil)))) s_nil)) s_nil))))))
      (z_one (z_ret (s_callK O (ok__law_same T 10) (hr.mono (by decide)) (by rfl) T.g__law_same T.F__law_same.kp T.b__law_same (s_cons (s_var 9) (s_cons (s_lst (s_cons (s_var 18) (s_cons (s_op op_mul2 o_mul s_int (s_op op_pow o_pow s_int s_int)) (s_cons s_non (s_cons s_int s_nil))))) s_nil)))))))))))
end
end K79

open PySem PySem.W PyProof.Rows
set_option maxHeartbeats 0 in
theorem PySem.Challenge.cw_wholeyard_k79_whole_mirrored_and_turned_holds : PySem.Challenge.rw_wholeyard_k79_whole_mirrored_and_turned.Holds := by
  w_on; o_law; k_head; (case hw => w_witness2)
  k_fill
  refine Y.walk_y (l := PySem.Challenge.rw_wholeyard_k79_whole_mirrored_and_turned) (n := 63) (k := 12) (x := "script") (f := K79.D_law) rfl (by decide) rfl ⟨rfl, by decide, by decide⟩ (fun w h Y => PySem.W.kIn_of Y) ?F K79.law_true
  case F =>
    intro w mg fa h KX G LX hmg
    obtain ⟨f0, d0, F0, g0, b0, y0⟩ := Y.mkF (x := "fits_whole") (st := K79.s_fits_whole) (ps := ["value", "low", "high"]) KX G (by k_is) (by k_is) (by k_is) (by k_is) (fun _ _ _ _ _ _ us hl => match us, hl with | [_, _, _], _ => rfl)
    obtain ⟨f1, d1, F1, g1, b1, y1⟩ := Y.mkF (x := "need_whole") (st := K79.s_need_whole) (ps := ["value", "low", "high"]) KX G (by k_is) (by k_is) (by k_is) (by k_is) (fun _ _ _ _ _ _ us hl => match us, hl with | [_, _, _], _ => rfl)
    obtain ⟨f2, d2, F2, g2, b2, y2⟩ := Y.mkF (x := "digits_in") (st := K79.s_digits_in) (ps := ["number", "base"]) KX G (by k_is) (by k_is) (by k_is) (by k_is) (fun _ _ _ _ _ _ us hl => match us, hl with | [_, _], _ => rfl)
    obtain ⟨f3, d3, F3, g3, b3, y3⟩ := Y.mkF (x := "number_in") (st := K79.s_number_in) (ps := ["digits", "base"]) KX G (by k_is) (by k_is) (by k_is) (by k_is) (fun _ _ _ _ _ _ us hl => match us, hl with | [_, _], _ => rfl)
    obtain ⟨f4, d4, F4, g4, b4, y4⟩ := Y.mkF (x := "padded_in") (st := K79.s_padded_in) (ps := ["number", "base", "size"]) KX G (by k_is) (by k_is) (by k_is) (by k_is) (fun _ _ _ _ _ _ us hl => match us, hl with | [_, _, _], _ => rfl)
    obtain ⟨f5, d5, F5, g5, b5, y5⟩ := Y.mkF (x := "turned_sum") (st := K79.s_turned_sum) (ps := ["base", "number"]) KX G (by k_is) (by k_is) (by k_is) (by k_is) (fun _ _ _ _ _ _ us hl => match us, hl with | [_, _], _ => rfl)
    obtain ⟨f6, d6, F6, g6, b6, y6⟩ := Y.mkF (x := "is_mirrored") (st := K79.s_is_mirrored) (ps := ["base", "number"]) KX G (by k_is) (by k_is) (by k_is) (by k_is) (fun _ _ _ _ _ _ us hl => match us, hl with | [_, _], _ => rfl)
    obtain ⟨f7, d7, F7, g7, b7, y7⟩ := Y.mkF (x := "turned_steps") (st := K79.s_turned_steps) (ps := ["base", "number", "most"]) KX G (by k_is) (by k_is) (by k_is) (by k_is) (fun _ _ _ _ _ _ us hl => match us, hl with | [_, _, _], _ => rfl)
    obtain ⟨f8, d8, F8, g8, b8, y8⟩ := Y.mkF (x := "next_mirrored") (st := K79.s_next_mirrored) (ps := ["base", "number"]) KX G (by k_is) (by k_is) (by k_is) (by k_is) (fun _ _ _ _ _ _ us hl => match us, hl with | [_, _], _ => rfl)
    obtain ⟨f9, d9, F9, g9, b9, y9⟩ := Y.mkF (x := "count_mirrored") (st := K79.s_count_mirrored) (ps := ["base", "size"]) KX G (by k_is) (by k_is) (by k_is) (by k_is) (fun _ _ _ _ _ _ us hl => match us, hl with | [_, _], _ => rfl)
    obtain ⟨f10, d10, F10, g10, b10, y10⟩ := Y.mkF (x := "_law_cup") (st := K79.s__law_cup) (ps := ["script"]) KX G (by k_is) (by k_is) (by k_is) (by k_is) (fun _ _ _ _ _ _ us hl => match us, hl with | [_], _ => rfl)
    obtain ⟨f11, d11, F11, g11, b11, y11⟩ := Y.mkF (x := "_law_roll") (st := K79.s__law_roll) (ps := ["cup", "many"]) KX G (by k_is) (by k_is) (by k_is) (by k_is) (fun _ _ _ _ _ _ us hl => match us, hl with | [_, _], _ => rfl)
    obtain ⟨f12, d12, F12, g12, b12, y12⟩ := Y.mkF (x := "_law_some") (st := K79.s__law_some) (ps := ["cup", "things"]) KX G (by k_is) (by k_is) (by k_is) (by k_is) (fun _ _ _ _ _ _ us hl => match us, hl with | [_, _], _ => rfl)
    obtain ⟨f13, d13, F13, g13, b13, y13⟩ := Y.mkF (x := "_law_same") (st := K79.s__law_same) (ps := ["told", "due"]) KX G (by k_is) (by k_is) (by k_is) (by k_is) (fun _ _ _ _ _ _ us hl => match us, hl with | [_, _], _ => rfl)
    obtain ⟨f14, d14, F14, g14, b14, y14⟩ := Y.mkF (x := "_law_number") (st := K79.s__law_number) (ps := ["cup", "most"]) KX G (by k_is) (by k_is) (by k_is) (by k_is) (fun _ _ _ _ _ _ us hl => match us, hl with | [_, _], _ => rfl)
    obtain ⟨f15, d15, F15, g15, b15, y15⟩ := Y.mkF (x := "_law_power") (st := K79.s__law_power) (ps := ["number", "times"]) KX G (by k_is) (by k_is) (by k_is) (by k_is) (fun _ _ _ _ _ _ us hl => match us, hl with | [_, _], _ => rfl)
    obtain ⟨f16, d16, F16, g16, b16, y16⟩ := Y.mkF (x := "_law_digits") (st := K79.s__law_digits) (ps := ["number", "base", "size"]) KX G (by k_is) (by k_is) (by k_is) (by k_is) (fun _ _ _ _ _ _ us hl => match us, hl with | [_, _, _], _ => rfl)
    obtain ⟨f17, d17, F17, g17, b17, y17⟩ := Y.mkF (x := "_law_value") (st := K79.s__law_value) (ps := ["line", "base"]) KX G (by k_is) (by k_is) (by k_is) (by k_is) (fun _ _ _ _ _ _ us hl => match us, hl with | [_, _], _ => rfl)
    obtain ⟨f18, d18, F18, g18, b18, y18⟩ := Y.mkF (x := "_law_turned") (st := K79.s__law_turned) (ps := ["number", "base"]) KX G (by k_is) (by k_is) (by k_is) (by k_is) (fun _ _ _ _ _ _ us hl => match us, hl with | [_, _], _ => rfl)
    obtain ⟨f19, d19, F19, g19, b19, y19⟩ := Y.mkF (x := "law") (st := K79.s_law) (ps := ["script"]) KX G (by k_is) (by k_is) (by k_is) (by k_is) (fun _ _ _ _ _ _ us hl => match us, hl with | [_], _ => rfl)
    have e := hmg.symm.trans g19
    obtain rfl : f19 = fa := by injection e with e; injection e with e; exact e.symm
    obtain ⟨C0, xa0, xb0, xd0, xe0, xf0⟩ := Y.mkX (x := "InvalidNumber") KX G (by k_is) (by k_exc) (by k_is) (by k_is) (by k_is)
    exact ⟨d19, fun s u => y19 s [u] rfl, ⟨_, fun _ => none, fun c => ([(1, (C0, []))] : List (Nat × (Addr × List Str))).lookup c⟩, rfl, fun base _ _ => K79.ok_law ⟨f0, d0, F0, g0, b0, f1, d1, F1, g1, b1, f2, d2, F2, g2, b2, f3, d3, F3, g3, b3, f4, d4, F4, g4, b4, f5, d5, F5, g5, b5, f6, d6, F6, g6, b6, f7, d7, F7, g7, b7, f8, d8, F8, g8, b8, f9, d9, F9, g9, b9, f10, d10, F10, g10, b10, f11, d11, F11, g11, b11, f12, d12, F12, g12, b12, f13, d13, F13, g13, b13, f14, d14, F14, g14, b14, f15, d15, F15, g15, b15, f16, d16, F16, g16, b16, f17, d17, F17, g17, b17, f18, d18, F18, g18, b18, f19, d19, F19, g19, b19, Y.mkC KX G (by k_is), Y.mkC KX G (by k_is), PySem.W.mg_none_of KX G (by k_is), PySem.W.mg_none_of KX G (by k_is), PySem.W.mg_none_of KX G (by k_is), PySem.W.mg_none_of KX G (by k_is), PySem.W.mg_none_of KX G (by k_is), PySem.W.mg_none_of KX G (by k_is), PySem.W.mg_none_of KX G (by k_is), PySem.W.mg_none_of KX G (by k_is), PySem.W.mg_none_of KX G (by k_is), PySem.W.mg_none_of KX G (by k_is), PySem.W.mg_none_of KX G (by k_is), ⟨C0, xa0, xb0, xd0, xe0, xf0, rfl⟩⟩⟩

