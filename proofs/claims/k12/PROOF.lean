import PyProof.Rows.All
import Wide.All
import OpenK.AllK
import Wide.FinOn
import HandS.ForMost
import HandS.ForExc
import HandS.TupAny
import HandS.TupMul
import HandS.Deep
import HandS.IsInst
import HandS.Style
import HandS.Iter
import HandS.Defaults
import HandS.SetBool
import HandS.SetKeys
import HandS.SetFor
import HandS.MakeKwOnly
import KE.GoesEnum
import HandS.Zip
import HandS.Nested
import HandS.ExcInit
import HandS.ExcSuper
import HandS.TryMany
import KE.KExcSuper
import HandS.ExcField
import HandS.ExcIs
import HandS.DictComp
import HandS.TryOnly
import PyProof.SeqIndex
import PyProof.P3In
import HandS.TupSets
import KE.SortData
import HandS.More
import PySem.Challenge.RW_wrongshown_k12_begin
set_option Elab.async false
set_option linter.all false
set_option maxRecDepth 100000
set_option maxHeartbeats 1000000
set_option autoImplicit false
section
/-! WA: values as trees, the small heap, results; the combinators of expressions and statements. No model here. -/
namespace W3
open PySem

/-- a value: what is never changed as a tree; a list, dict or instance by its place in the small heap -/
inductive T where
  | non | bl (b : Bool) | int (i : Int) | str (s : Str) | tup (ts : List T) | ref (l : Nat) | fl (ts : List T) | cls (c : Str)

/-- what stands at a place of the small heap -/
inductive Ob where
  | lst (ts : List T) | dic (kvs : List (T × T)) | ins (c : Str) (fs : List (Str × T))

abbrev Hh := List Ob

inductive Res (α : Type) where
  | ok (a : α) (h : Hh) | exc (c : Str) (fs : List (Str × T)) (h : Hh) | stk

def Res.bind {α β : Type} (r : Res α) (f : α → Hh → Res β) : Res β :=
  match r with
  | .ok a h => f a h
  | .exc c fs h => .exc c fs h
  | .stk => .stk

@[simp] theorem Res.bind_ok {α β : Type} (a : α) (h : Hh) (f : α → Hh → Res β) : (Res.ok a h).bind f = f a h := Eq.trans rfl rfl
@[simp] theorem Res.bind_exc {α β : Type} (c : Str) (fs : List (Str × T)) (h : Hh) (f : α → Hh → Res β) : (Res.exc c fs h : Res α).bind f = .exc c fs h := Eq.trans rfl rfl
@[simp] theorem Res.bind_stk {α β : Type} (f : α → Hh → Res β) : (Res.stk : Res α).bind f = .stk := Eq.trans rfl rfl

abbrev St3 := List (Option T)
abbrev SE := St3 → Hh → Res T
abbrev ST := St3 → Hh → Res Bool
abbrev SA := St3 → Hh → Res (List T)
/-- what a callee does: by its name -/
abbrev Fs := Str → List T → Hh → Res T

/-! ### expressions -/
def sVar (i : Nat) : SE := fun σ h => match σ[i]? with | some (some t) => .ok t h | _ => .stk
def sC (t : T) : SE := fun _ h => .ok t h
def s1 (f : T → Hh → Res T) (a : SE) : SE := fun σ h => (a σ h).bind fun x h1 => f x h1
def s2 (f : T → T → Hh → Res T) (a b : SE) : SE := fun σ h => (a σ h).bind fun x h1 => (b σ h1).bind fun y h2 => f x y h2
/-- a test: the value is a bool -/
def sT (a : SE) : ST := fun σ h => (a σ h).bind fun x h1 => match x with | .bl b => .ok b h1 | _ => .stk
def stAnd (a b : ST) : ST := fun σ h => (a σ h).bind fun x h1 => if x = true then b σ h1 else .ok false h1
def stOr (a b : ST) : ST := fun σ h => (a σ h).bind fun x h1 => if x = true then .ok true h1 else b σ h1
def stNot (a : ST) : ST := fun σ h => (a σ h).bind fun x h1 => .ok (!x) h1
/-- .. as a value -/
def sB (a : ST) : SE := fun σ h => (a σ h).bind fun x h1 => .ok (.bl x) h1
def sIf (c : ST) (a b : SE) : SE := fun σ h => (c σ h).bind fun x h1 => if x = true then a σ h1 else b σ h1
/-- a op b op' c -/
def sChain (f g : T → T → Hh → Res T) (a b c : SE) : SE := fun σ h => (a σ h).bind fun x h1 => (b σ h1).bind fun y h2 => (f x y h2).bind fun z h3 => match z with
  | .bl k => if k = true then (c σ h3).bind fun w h4 => g y w h4 else .ok (.bl false) h3
  | _ => .stk
def saNil : SA := fun _ h => .ok [] h
def saCons (a : SE) (r : SA) : SA := fun σ h => (a σ h).bind fun x h1 => (r σ h1).bind fun xs h2 => .ok (x :: xs) h2
def sTup (a : SA) : SE := fun σ h => (a σ h).bind fun xs h1 => if xs.length ≤ sizeLine then .ok (.tup xs) h1 else .stk
def alloc (o : Ob) (h : Hh) : Res T := .ok (.ref h.length) (h ++ [o])
def sLst (a : SA) : SE := fun σ h => (a σ h).bind fun xs h1 => if xs.length ≤ sizeLine then alloc (.lst xs) h1 else .stk
/-- f(..) over values -/
def sCl (f : List T → Hh → Res T) (a : SA) : SE := fun σ h => (a σ h).bind fun xs h1 => f xs h1
/-- o.m(..) over values -/
def sMt (f : T → List T → Hh → Res T) (o : SE) (a : SA) : SE := fun σ h => (o σ h).bind fun x h1 => (a σ h1).bind fun xs h2 => f x xs h2

/-! ### operations on values -/
def lstAt (h : Hh) (l : Nat) : Option (List T) := match h[l]? with | some (.lst ts) => some ts | _ => none
def insAt (h : Hh) (l : Nat) : Option (Str × List (Str × T)) := match h[l]? with | some (.ins c fs) => some (c, fs) | _ => none

def oAdd (x y : T) (h : Hh) : Res T :=
  match x, y with
  | .int i, .int j => .ok (.int (i + j)) h
  | .str i, .str j => if i.length + j.length ≤ sizeLine then .ok (.str (i ++ j)) h else .stk
  | .tup xs, .tup ys => if xs.length + ys.length ≤ sizeLine then .ok (.tup (xs ++ ys)) h else .stk
  | .ref l, .ref b => match lstAt h l, lstAt h b with
    | some xs, some zs => if xs.length + zs.length ≤ sizeLine then alloc (.lst (xs ++ zs)) h else .stk
    | _, _ => .stk
  | _, _ => .stk
def oSub (x y : T) (h : Hh) : Res T :=
  match x, y with
  | .int i, .int j => .ok (.int (i - j)) h
  | _, _ => .stk
def MulOk (i j : Int) : Prop := (-(2 ^ 64) < i ∧ i < 2 ^ 64) ∨ (-(2 ^ 64) < j ∧ j < 2 ^ 64)
def PowOk (i j : Int) : Prop := 0 ≤ j ∧ j ≤ 1000000 ∧ i.natAbs < 2 ^ 64
open Classical in
noncomputable def oMul (x y : T) (h : Hh) : Res T :=
  match x, y with
  | .int i, .int j => if MulOk i j then .ok (.int (i * j)) h else .stk
  | _, _ => .stk
def oMod (x y : T) (h : Hh) : Res T :=
  match x, y with
  | .int i, .int j => if 0 < j then .ok (.int (i % j)) h else .stk
  | _, _ => .stk
def oDiv (x y : T) (h : Hh) : Res T :=
  match x, y with
  | .int i, .int j => if 0 < j ∧ j < 1073741824 then .ok (.int (i / j)) h else .stk
  | _, _ => .stk
open Classical in
noncomputable def oPow (x y : T) (h : Hh) : Res T :=
  match x, y with
  | .int i, .int j => if PowOk i j then .ok (.int (i ^ j.toNat)) h else .stk
  | _, _ => .stk
def oNeg (x : T) (h : Hh) : Res T := match x with | .int i => .ok (.int (-i)) h | _ => .stk
def oLt (x y : T) (h : Hh) : Res T := match x, y with | .int i, .int j => .ok (.bl (decide (i < j))) h | _, _ => .stk
def oLe (x y : T) (h : Hh) : Res T := match x, y with | .int i, .int j => .ok (.bl (decide (i ≤ j))) h | _, _ => .stk
def oGt (x y : T) (h : Hh) : Res T := match x, y with | .int i, .int j => .ok (.bl (decide (j < i))) h | _, _ => .stk
def oGe (x y : T) (h : Hh) : Res T := match x, y with | .int i, .int j => .ok (.bl (decide (j ≤ i))) h | _, _ => .stk
def isNonT : T → Bool | .non => true | _ => false
/-- x is None, x is not None -/
def oIsN (x : T) (h : Hh) : Res T := .ok (.bl (isNonT x)) h
def oNotN (x : T) (h : Hh) : Res T := .ok (.bl (!isNonT x)) h

def oIs (x y : T) (h : Hh) : Res T :=
  match y with
  | .non => .ok (.bl (isNonT x)) h
  | .bl b => match x with | .bl a => .ok (.bl (decide (a = b))) h | _ => .stk
  | _ => .stk
def oIsNot (x y : T) (h : Hh) : Res T :=
  match y with
  | .non => .ok (.bl (!isNonT x)) h
  | .bl b => match x with | .bl a => .ok (.bl (!decide (a = b))) h | _ => .stk
  | _ => .stk
def optL {α : Type} (f : T → Option α) : List T → Option (List α)
  | [] => some []
  | t :: ts => match f t, optL f ts with | some d, some ds => some (d :: ds) | _, _ => none
/-- plain data: None, bools, ints, texts, tuples and lists of these, less than n deep -/
def toD (h : Hh) : Nat → T → Option PyData
  | 0 => fun _ => none
  | n + 1 => fun t => match t with
    | .non => some .none
    | .bl b => some (.bool b)
    | .int i => some (.int i)
    | .str s => some (.str s)
    | .tup ts => (optL (toD h n) ts).map .tuple
    | .fl ts => (optL (toD h n) ts).map .list
    | .ref l => match h[l]? with | some (.lst ts) => (optL (toD h n) ts).map .list | _ => none
    | .cls _ => none
def oEq (x y : T) (h : Hh) : Res T := match toD h 24 x, toD h 24 y with | some d, some e => .ok (.bl (PyData.eqv d e)) h | _, _ => .stk
def oNe (x y : T) (h : Hh) : Res T := match toD h 24 x, toD h 24 y with | some d, some e => .ok (.bl (!PyData.eqv d e)) h | _, _ => .stk
/-- x in y: a text in a text, or an item of a list or tuple -/
def inT (x y : T) (h : Hh) : Option Bool :=
  match x, y with
  | .str i, .str j => some (!(Builtin.Str.occurrences j i 0 j.length 1).isEmpty)
  | x, y => match toD h 24 x, toD h 24 y with
    | some d, some (.list ds) => some (ds.any fun z => PyData.eqv z d)
    | some d, some (.tuple ds) => some (ds.any fun z => PyData.eqv z d)
    | _, _ => none
def oIn (x y : T) (h : Hh) : Res T := match inT x y h with | some b => .ok (.bl b) h | none => .stk
def oNotIn (x y : T) (h : Hh) : Res T := match inT x y h with | some b => .ok (.bl (!b)) h | none => .stk
/-- x[i] -/
def oIx (x y : T) (h : Hh) : Res T :=
  match y with
  | .int i => match x with
    | .tup ts => match L2.atI ts i with | some t => .ok t h | none => .stk
    | .fl ts => match L2.atI ts i with | some t => .ok t h | none => .stk
    | .ref l => match lstAt h l with
      | some ts => match L2.atI ts i with | some t => .ok t h | none => .stk
      | none => .stk
    | .str z => if z.length ≤ sizeLine then (match L2.atI z.cps.toList i with | some c => .ok (.str ⟨#[c]⟩) h | none => .stk) else .stk
    | _ => .stk
  | _ => .stk
def cutT {α : Type} (xs : List α) (lo hi : Option Int) : List α := (xs.drop (HT.sIx xs.length 0 lo)).take (HT.sIx xs.length xs.length hi - HT.sIx xs.length 0 lo)
/-- an end of a slice -/
abbrev SO := St3 → Hh → Res (Option Int)
def soNone : SO := fun _ h => .ok none h
def soSome (a : SE) : SO := fun σ h => (a σ h).bind fun x h1 => match x with | .int i => .ok (some i) h1 | _ => .stk
def oSl (x : T) (lo hi : Option Int) (h : Hh) : Res T :=
  match x with
  | .tup ts => .ok (.tup (cutT ts lo hi)) h
  | .fl ts => alloc (.lst (cutT ts lo hi)) h
  | .ref l => match lstAt h l with | some ts => alloc (.lst (cutT ts lo hi)) h | none => .stk
  | .str z => if z.length ≤ sizeLine then .ok (.str (L2.cutS z lo hi)) h else .stk
  | _ => .stk
def sSl (a : SE) (lo hi : SO) : SE := fun σ h => (a σ h).bind fun x h1 => (lo σ h1).bind fun l h2 => (hi σ h2).bind fun u h3 => oSl x l u h3
/-- o.f of an instance -/
def oFld (f : Str) (x : T) (h : Hh) : Res T :=
  match x with
  | .ref l => match insAt h l with
    | some (_, fs) => match fs.lookup f with | some t => .ok t h | none => .stk
    | none => .stk
  | _ => .stk
def putT (f : Str) (v : T) : List (Str × T) → List (Str × T)
  | [] => [(f, v)]
  | (g, w) :: r => if g = f then (g, v) :: r else (g, w) :: putT f v r

/-! ### built-in functions on values -/
def bLen (xs : List T) (h : Hh) : Res T :=
  match xs with
  | [.tup ts] => .ok (.int ts.length) h
  | [.fl ts] => .ok (.int ts.length) h
  | [.str z] => if z.length ≤ sizeLine then .ok (.int z.length) h else .stk
  | [.ref l] => match lstAt h l with | some ts => .ok (.int ts.length) h | none => .stk
  | _ => .stk
def bInt (xs : List T) (h : Hh) : Res T :=
  match xs with
  | [.int i] => .ok (.int i) h
  | _ => .stk
def blsOf : List T → Option (List Bool)
  | [] => some []
  | .bl b :: r => (blsOf r).map (b :: ·)
  | _ => none
/-- all(..), any(..), tuple(..) of a list's items -/
def bAll (ts : List T) (h : Hh) : Res T := match blsOf ts with | some bs => .ok (.bl (bs.all id)) h | none => .stk
def bAny (ts : List T) (h : Hh) : Res T := match blsOf ts with | some bs => .ok (.bl (bs.any id)) h | none => .stk
def bTup (ts : List T) (h : Hh) : Res T := .ok (.tup ts) h
/-- over a list value: all(xs), tuple(xs) .. -/
def overL (f : List T → Hh → Res T) (xs : List T) (h : Hh) : Res T :=
  match xs with
  | [.ref l] => match lstAt h l with | some ts => f ts h | none => .stk
  | _ => .stk
def bTuple (xs : List T) (h : Hh) : Res T :=
  match xs with
  | [.tup ts] => .ok (.tup ts) h
  | [.fl ts] => .ok (.tup ts) h
  | [.ref l] => match lstAt h l with | some ts => .ok (.tup ts) h | none => .stk
  | _ => .stk
def bList (xs : List T) (h : Hh) : Res T :=
  match xs with
  | [.tup ts] => alloc (.lst ts) h
  | [.fl ts] => alloc (.lst ts) h
  | [.ref l] => match lstAt h l with | some ts => alloc (.lst ts) h | none => .stk
  | _ => .stk
/-- isinstance(x, c) for the built-in kinds -/
inductive Kd where | int | bool | str | tuple | list | dict
  deriving DecidableEq
def isK (k : Kd) (x : T) (h : Hh) : Option Bool :=
  match x with
  | .non => some false
  | .bl _ => some (k == .bool || k == .int)
  | .int _ => some (k == .int)
  | .str _ => some (k == .str)
  | .tup _ => some (k == .tuple)
  | .fl _ => some (k == .list)
  | .ref l => match h[l]? with
    | some (.lst _) => some (k == .list)
    | some (.dic _) => some (k == .dict)
    | some (.ins _ _) => none
    | none => none
  | .cls _ => none
def oIsK (k : Kd) (x : T) (h : Hh) : Res T := match isK k x h with | some b => .ok (.bl b) h | none => .stk
/-- isinstance(x, C), C a class of the program (no class below it) -/
def oIsC (c : Str) (x : T) (h : Hh) : Res T :=
  match x with
  | .cls _ => .stk
  | .ref l => match h[l]? with
    | some (.ins d _) => .ok (.bl (decide (d = c))) h
    | some _ => .ok (.bl false) h
    | none => .stk
  | _ => .ok (.bl false) h

/-! ### methods of lists -/
def mAppend (x : T) (vs : List T) (h : Hh) : Res T :=
  match x, vs with
  | .ref l, [y] => match lstAt h l with
    | some ts => if ts.length < sizeLine then .ok .non (h.set l (.lst (ts ++ [y]))) else .stk
    | none => .stk
  | _, _ => .stk
def mClear (x : T) (vs : List T) (h : Hh) : Res T :=
  match x, vs with
  | .ref l, [] => match lstAt h l with
    | some _ => .ok .non (h.set l (.lst []))
    | none => .stk
  | _, _ => .stk
def mExtend (x : T) (vs : List T) (h : Hh) : Res T :=
  match x, vs with
  | .ref l, [.ref b] => match lstAt h l, lstAt h b with
    | some ts, some zs => if ts.length + zs.length ≤ sizeLine then .ok .non (h.set l (.lst (ts ++ zs))) else .stk
    | _, _ => .stk
  | _, _ => .stk
/-- the first place of an equal item -/
def findE (d : PyData) : List PyData → Nat → Option Nat
  | [], _ => none
  | z :: r, j => if PyData.eqv z d then some j else findE d r (j + 1)
def mIndex (x : T) (vs : List T) (h : Hh) : Res T :=
  match vs with
  | [y] => match toD h 24 x, toD h 24 y with
    | some (.list ds), some d => match findE d ds 0 with | some j => .ok (.int j) h | none => .stk
    | some (.tuple ds), some d => match findE d ds 0 with | some j => .ok (.int j) h | none => .stk
    | _, _ => .stk
  | _ => .stk

def isL (x : T) (h : Hh) : Bool := match x with | .ref l => (lstAt h l).isSome | .fl _ => true | _ => false
/-- o.m(..), o a list -/
def sMtL (f : T → List T → Hh → Res T) (o : SE) (a : SA) : SE := fun σ h => (o σ h).bind fun x h1 => if isL x h1 = true then (a σ h1).bind fun xs h2 => f x xs h2 else .stk
/-- the arity -/
def arN (n : Nat) (f : List T → Hh → Res T) (xs : List T) (h : Hh) : Res T := if xs.length = n then f xs h else .stk
/-- o.m(..) of an instance of c: the def gets o first -/
def sMeth (c m : Str) (n : Nat) (f : List T → Hh → Res T) (o : SE) (a : SA) : SE := fun σ h => (o σ h).bind fun x h1 => match x with
  | .ref l => match insAt h1 l with
    | some (d, fs) => if d = c ∧ fs.lookup m = none then (a σ h1).bind fun xs h2 => arN n f (x :: xs) h2 else .stk
    | none => .stk
  | _ => .stk
/-- the keyword-only values in order: true from the call, false the default -/
def weave {α : Type} : List Bool → List α → List α → List α
  | [], _, _ => []
  | true :: r, ds, z :: zs => z :: weave r ds zs
  | true :: _, _, [] => []
  | false :: r, d :: ds, zs => d :: weave r ds zs
  | false :: _, [], _ => []
/-- f(.., k = v, ..): n positional, q keyword values -/
def sClK (n q : Nat) (pat : List Bool) (ds : List T) (f : List T → Hh → Res T) (a kw : SA) : SE := fun σ h => (a σ h).bind fun xs h1 => (kw σ h1).bind fun zs h2 => if xs.length = n ∧ zs.length = q then f (xs ++ weave pat ds zs) h2 else .stk
/-! ### what is walked -/
inductive Src where
  | its (ts : List T) | live (l : Nat)
abbrev SI := St3 → Hh → Res Src
def Src.len (s : Src) (h : Hh) : Nat := match s with | .its ts => ts.length | .live l => match lstAt h l with | some ts => ts.length | none => 0
/-- none: it is no list any more; some none: the end -/
def Src.at (s : Src) (h : Hh) (i : Nat) : Option (Option T) :=
  match s with
  | .its ts => some ts[i]?
  | .live l => match lstAt h l with | some ts => some ts[i]? | none => none
def srcOf (x : T) (h : Hh) : Res Src :=
  match x with
  | .tup ts => .ok (.its ts) h
  | .fl ts => .ok (.its ts) h
  | .str z => .ok (.its (z.cps.toList.map fun c => .str ⟨#[c]⟩)) h
  | .ref l => match lstAt h l with | some _ => .ok (.live l) h | none => .stk
  | _ => .stk
def siE (a : SE) : SI := fun σ h => (a σ h).bind fun x h1 => srcOf x h1
def rangeT (lo : Int) : Nat → List T
  | 0 => []
  | n + 1 => .int lo :: rangeT (lo + 1) n
def RngOk (j : Int) : Prop := -(2 ^ 62) ≤ j ∧ j < 2 ^ 62
open Classical in
noncomputable def rngOf (xs : List T) (h1 : Hh) : Res Src := match xs with
  | [.int j] => if RngOk j then .ok (.its (rangeT 0 j.toNat)) h1 else .stk
  | _ => .stk
noncomputable def siRange1 (a : SA) : SI := fun σ h => (a σ h).bind rngOf

/-! ### targets -/
abbrev SG := T → St3 → Option St3
def sgName (i : Nat) : SG := fun t σ => some (σ.set i (some t))
abbrev SGs := List T → St3 → Option St3
def sgsNil : SGs := fun ts σ => match ts with | [] => some σ | _ => none
def sgsCons (g : SG) (r : SGs) : SGs := fun ts σ => match ts with
  | t :: more => match g t σ with | some σ1 => r more σ1 | none => none
  | [] => none
def sgTup (n : Nat) (g : SGs) : SG := fun t σ => match t with
  | .tup ts => if ts.length = n then g ts σ else none
  | _ => none

/-! ### list comprehensions: the items made -/
def wipeT (σ : St3) : List Nat → St3
  | [] => σ
  | v :: vs => (wipeT σ vs).set v none
def lcRun (s : Src) (g : SG) (tt : ST) (te : SE) (σ : St3) : Nat → Nat → List T → Hh → Res (List T)
  | k, i, acc, h => match s.at h i with
    | none => .stk
    | some none => .ok acc h
    | some (some x) => match k with
      | 0 => .stk
      | k + 1 => match g x σ with
        | none => .stk
        | some σ1 => match tt σ1 h with
          | .ok b h1 => if b = true then (match te σ1 h1 with
              | .ok t h2 => if acc.length < sizeLine then lcRun s g tt te σ k (i + 1) (acc ++ [t]) h2 else .stk
              | _ => .stk) else lcRun s g tt te σ k (i + 1) acc h1
          | _ => .stk
def stYes : ST := fun _ h => .ok true h
/-- the items of [te for g in si if tt] -/
def saLc (si : SI) (g : SG) (tt : ST) (te : SE) (vs : List Nat) : SA := fun σ h => (si σ h).bind fun s h1 => lcRun s g tt te (wipeT σ vs) (s.len h1) 0 [] h1
/-- the list itself -/
def sLc (a : SA) : SE := fun σ h => (a σ h).bind fun xs h1 => alloc (.lst xs) h1
/-- f([..]) of a list that nobody keeps -/
def sOver (f : List T → Hh → Res T) (a : SA) : SE := fun σ h => (a σ h).bind fun xs h1 => f xs h1

/-! ### statements -/
inductive Flo where
  | nx (σ : St3) (h : Hh) | rt (t : T) (h : Hh) | bk (σ : St3) (h : Hh) | ct (σ : St3) (h : Hh) | exc (c : Str) (fs : List (Str × T)) (σ : St3) (h : Hh) | stk
abbrev SS := St3 → Hh → Flo
def Flo.seq (r : Flo) (k : SS) : Flo := match r with | .nx σ h => k σ h | r => r
@[simp] theorem Flo.seq_nx (σ : St3) (h : Hh) (k : SS) : (Flo.nx σ h).seq k = k σ h := Eq.trans rfl rfl
@[simp] theorem Flo.seq_rt (t : T) (h : Hh) (k : SS) : (Flo.rt t h).seq k = .rt t h := Eq.trans rfl rfl
def Res.flo {α : Type} (r : Res α) (σ : St3) (k : α → Hh → Flo) : Flo := match r with | .ok a h => k a h | .exc c fs h => .exc c fs σ h | .stk => .stk
@[simp] theorem Res.flo_ok {α : Type} (a : α) (h : Hh) (σ : St3) (k : α → Hh → Flo) : (Res.ok a h).flo σ k = k a h := Eq.trans rfl rfl
def ssNil : SS := fun σ h => .nx σ h
def ssCons (a b : SS) : SS := fun σ h => (a σ h).seq b
def ssIf (c : ST) (a b : SS) : SS := fun σ h => (c σ h).flo σ fun x h1 => if x = true then a σ h1 else b σ h1
def ssRet (a : SE) : SS := fun σ h => (a σ h).flo σ fun x h1 => .rt x h1
def ssRetN : SS := fun _ h => .rt .non h
def ssExpr (a : SE) : SS := fun σ h => (a σ h).flo σ fun _ h1 => .nx σ h1
def ssAsg (a : SE) (g : SG) : SS := fun σ h => (a σ h).flo σ fun x h1 => match g x σ with | some σ1 => .nx σ1 h1 | none => .stk
/-- a, b = x, y: plain names, from one row of values -/
def ssPar (is : List Nat) (a : SA) : SS := fun σ h => (a σ h).flo σ fun xs h1 => if xs.length = is.length then .nx ((is.zip xs).foldl (fun s p => s.set p.1 (some p.2)) σ) h1 else .stk
def ssFld (o v : SE) (f : Str) : SS := fun σ h => (v σ h).flo σ fun y h1 => (o σ h1).flo σ fun x h2 => match x with
  | .ref l => match insAt h2 l with
    | some (c, fs) => if fs.length < 1000 then .nx σ (h2.set l (.ins c (putT f y fs))) else .stk
    | none => .stk
  | _ => .stk
/-- o.f = v, the classes' own attributes told -/
def ssFldC (cs : List (Str × List Str)) (o v : SE) (f : Str) : SS := fun σ h => (v σ h).flo σ fun y h1 => (o σ h1).flo σ fun x h2 => match x with
  | .ref l => match insAt h2 l with
    | some (c, fs) => match cs.lookup c with
      | some as => if as.contains f && decide (fs.length < 1000) then .nx σ (h2.set l (.ins c (putT f y fs))) else .stk
      | none => .stk
    | none => .stk
  | _ => .stk
/-- o[i] = v of a list -/
def ssSub (o i v : SE) : SS := fun σ h => (v σ h).flo σ fun y h1 => (o σ h1).flo σ fun x h2 => (i σ h2).flo σ fun k h3 => match x, k with
  | .ref l, .int n => match lstAt h3 l with
    | some ts => match L2.ixN ts.length n with | some j => .nx σ (h3.set l (.lst (ts.set j y))) | none => .stk
    | none => .stk
  | _, _ => .stk
def ssRaise (c : Str) (ns : List Str) (a : SA) : SS := fun σ h => (a σ h).flo σ fun xs h1 => if xs.length = ns.length then .exc c (ns.zip xs) σ h1 else .stk
def ssBreak : SS := fun σ h => .bk σ h
def ssCont : SS := fun σ h => .ct σ h
def forRun (s : Src) (g : SG) (b : SS) : Nat → Nat → St3 → Hh → Flo
  | k, i, σ, h => match s.at h i with
    | none => .stk
    | some none => .nx σ h
    | some (some x) => match k with
      | 0 => .stk
      | k + 1 => match g x σ with
        | none => .stk
        | some σ1 => match b σ1 h with
          | .nx σ2 h2 => forRun s g b k (i + 1) σ2 h2
          | .ct σ2 h2 => forRun s g b k (i + 1) σ2 h2
          | .bk σ2 h2 => .nx σ2 h2
          | r => r
def ssFor (si : SI) (g : SG) (b : SS) : SS := fun σ h => (si σ h).flo σ fun s h1 => forRun s g b (s.len h1) 0 σ h1
def whileRun (c : ST) (b : SS) : Nat → St3 → Hh → Flo
  | 0, _, _ => .stk
  | k + 1, σ, h => (c σ h).flo σ fun x h1 => if x = true then (match b σ h1 with
      | .nx σ2 h2 => whileRun c b k σ2 h2
      | .ct σ2 h2 => whileRun c b k σ2 h2
      | .bk σ2 h2 => .nx σ2 h2
      | r => r) else .nx σ h1
/-- try: a except c1 as x: k1 ..; k1 gets the error's fields; the slot (as x) is empty behind -/
def ssTry (a : SS) (hs : Str → Option ((List (Str × T)) → SS)) : SS := fun σ h => match a σ h with
  | .exc c fs σ1 h1 => match hs c with
    | some k => k fs σ1 h1
    | none => .exc c fs σ1 h1
  | r => r
/-- a def: its body runs on its arguments -/
def startT (n : Nat) (ts : List T) : St3 := ts.map some ++ List.replicate (n - ts.length) none
def defRun (n : Nat) (b : SS) (ts : List T) (h : Hh) : Res T := match b (startT n ts) h with
  | .nx _ h1 => .ok .non h1
  | .rt t h1 => .ok t h1
  | .exc c fs _ h1 => .exc c fs h1
  | _ => .stk
/-- C(..): a new instance, then __init__ -/
def bMake (c : Str) (n : Nat) (f : List T → Hh → Res T) (xs : List T) (h : Hh) : Res T :=
  (arN n f (.ref h.length :: xs) (h ++ [.ins c []])).bind fun t h1 => match t with | .non => .ok (.ref h.length) h1 | _ => .stk
end W3
end

section
/-! WB: trees and the layer's values; the small heap and the abstract heap; what a run promises. -/
namespace W3
open PySem L2

/-- a list that nobody writes: locked, or of the module -/
def SqF (K : PySem.W.Frag) (H : Hp) (a : Addr) (xs : List V) : Prop :=
  (∃ o, H a = some (.frz o (.lst xs))) ∨
    ∃ (o : Obj) (its : Array Value) (n : Nat), K.lookup a = some o ∧ o.cls = .type "list" ∧ o.dict = none ∧ o.data = .seq its n ∧ its.size ≤ sizeLine ∧ Vals xs its.toList
theorem SqF.sq {K : PySem.W.Frag} {H : Hp} {a : Addr} {xs : List V} (h : SqF K H a xs) : SqL K H a xs := by
  rcases h with ⟨o, h⟩ | h
  · exact .inl (.inr ⟨o, h⟩)
  · exact .inr h

/-- a tuple, known to have no dict of its own -/
def SqN (K : PySem.W.Frag) (H : Hp) (a : Addr) (xs : List V) : Prop :=
  (∃ o, H a = some (.frz o (.tup xs)) ∧ o.dict = none) ∨
    ∃ (o : Obj) (its : Array Value) (n : Nat), K.lookup a = some o ∧ o.cls = .type "tuple" ∧ o.dict = none ∧ o.data = .seq its n ∧ its.size ≤ sizeLine ∧ Vals xs its.toList
theorem SqN.t {K : PySem.W.Frag} {H : Hp} {a : Addr} {xs : List V} (h : SqN K H a xs) : SqT K H a xs := by
  rcases h with ⟨o, h, _⟩ | ⟨o, its, n, h1, h2, _, h3⟩
  · exact .inl (.inr ⟨o, h⟩)
  · exact .inr ⟨o, its, n, h1, h2, h3⟩
instance {K : PySem.W.Frag} {H : Hp} {a : Addr} {xs : List V} : Coe (SqN K H a xs) (SqT K H a xs) := ⟨SqN.t⟩

abbrev Mp := Nat → Option Addr

mutual
inductive RT (K : PySem.W.Frag) (mg : Str → Option Value) (m : Mp) (H : Hp) : T → V → Prop
  | non : RT K mg m H .non .non
  | bl (b : Bool) : RT K mg m H (.bl b) (.bl b)
  | int (i : Int) : RT K mg m H (.int i) (.int i)
  | str {x : Str} : PyData.strOk x = true → RT K mg m H (.str x) (.str x)
  | tup {a : Addr} {vs : List V} {ts : List T} : SqN K H a vs → RTs K mg m H ts vs → RT K mg m H (.tup ts) (.ref a)
  | fl {a : Addr} {vs : List V} {ts : List T} : SqF K H a vs → RTs K mg m H ts vs → RT K mg m H (.fl ts) (.ref a)
  | ref {l : Nat} {a : Addr} : m l = some a → RT K mg m H (.ref l) (.ref a)
  | cls {c : Str} {C : Addr} : mg c = some (.ref C) → RT K mg m H (.cls c) (.ref C)
inductive RTs (K : PySem.W.Frag) (mg : Str → Option Value) (m : Mp) (H : Hp) : List T → List V → Prop
  | nil : RTs K mg m H [] []
  | cons {t : T} {ts : List T} {v : V} {vs : List V} : RT K mg m H t v → RTs K mg m H ts vs → RTs K mg m H (t :: ts) (v :: vs)
end

/-- fields by name, in order -/
inductive RF (K : PySem.W.Frag) (mg : Str → Option Value) (m : Mp) (H : Hp) : List (Str × T) → List (Str × V) → Prop
  | nil : RF K mg m H [] []
  | cons {f : Str} {t : T} {v : V} {fs : List (Str × T)} {fv : List (Str × V)} : RT K mg m H t v → RF K mg m H fs fv → RF K mg m H ((f, t) :: fs) ((f, v) :: fv)

/-- from one moment to a later one -/
structure Ext (m : Mp) (H : Hp) (m' : Mp) (H' : Hp) : Prop where
  mono : ∀ l a, m l = some a → m' l = some a
  fresh : ∀ l a, m' l = some a → m l = some a ∨ H a = none
  live : ∀ a o, H a = some o → ∃ o', H' a = some o'
  keep : ∀ a o, H a = some o → (∀ l, m l ≠ some a) → H' a = some o
  tups : ∀ a vs, H a = some (.tup vs) → H' a = some (.tup vs)
  frzs : ∀ a o u, H a = some (.frz o u) → H' a = some (.frz o u)
  xds : ∀ a fs, H a = some (.xd fs) → H' a = some (.xd fs)
theorem Ext.refl (m : Mp) (H : Hp) : Ext m H m H := ⟨fun _ _ e => e, fun _ _ e => .inl e, fun _ o e => ⟨o, e⟩, fun _ _ e _ => e, fun _ _ e => e, fun _ _ _ e => e, fun _ _ e => e⟩
theorem Ext.trans {m1 m2 m3 : Mp} {H1 H2 H3 : Hp} (a : Ext m1 H1 m2 H2) (b : Ext m2 H2 m3 H3) : Ext m1 H1 m3 H3 where
  mono := fun l x e => b.mono l x (a.mono l x e)
  fresh := fun l x e => by
    rcases b.fresh l x e with q | q
    · exact a.fresh l x q
    · cases hx : H1 x with
      | none => exact .inr rfl
      | some o =>
        obtain ⟨o', e'⟩ := a.live x o hx
        rw [q] at e'
        cases e'
  live := fun x o e => by
    obtain ⟨o', e'⟩ := a.live x o e
    exact b.live x o' e'
  keep := fun x o e n => b.keep x o (a.keep x o e n) fun l q => by
    rcases a.fresh l x q with z | z
    · exact n l z
    · rw [e] at z
      cases z
  tups := fun x vs e => b.tups x vs (a.tups x vs e)
  frzs := fun x o u e => b.frzs x o u (a.frzs x o u e)
  xds := fun x fs e => b.xds x fs (a.xds x fs e)

section
variable {K : PySem.W.Frag} {mg : Str → Option Value} {m m' : Mp} {H H' : Hp}
/-- what trees lean on -/
structure Tr (m : Mp) (H : Hp) (m' : Mp) (H' : Hp) : Prop where
  mono : ∀ l a, m l = some a → m' l = some a
  tups : ∀ a vs, H a = some (.tup vs) → H' a = some (.tup vs)
  frzs : ∀ a o u, H a = some (.frz o u) → H' a = some (.frz o u)
theorem Ext.tr (E : Ext m H m' H') : Tr m H m' H' := ⟨E.mono, E.tups, E.frzs⟩
theorem Tr.trans {m2 : Mp} {H2 : Hp} (a : Tr m H m' H') (b : Tr m' H' m2 H2) : Tr m H m2 H2 := ⟨fun l x e => b.mono l x (a.mono l x e), fun x vs e => b.tups x vs (a.tups x vs e), fun x o u e => b.frzs x o u (a.frzs x o u e)⟩
theorem Tr.refl : Tr m H m H := ⟨fun _ _ e => e, fun _ _ e => e, fun _ _ _ e => e⟩
theorem SqT.tr (E : Tr m H m' H') {a : Addr} {vs : List V} (h : SqT K H a vs) : SqT K H' a vs := by
  rcases h with h | h
  · rcases h with h | ⟨o, h⟩
    · exact .inl (.inl (E.tups a vs h))
    · exact .inl (.inr ⟨o, E.frzs a o _ h⟩)
  · exact .inr h
theorem SqN.tr (E : Tr m H m' H') {a : Addr} {vs : List V} (h : SqN K H a vs) : SqN K H' a vs := by
  rcases h with ⟨o, h, d⟩ | h
  · exact .inl ⟨o, E.frzs a o _ h, d⟩
  · exact .inr h
theorem SqF.tr (E : Tr m H m' H') {a : Addr} {vs : List V} (h : SqF K H a vs) : SqF K H' a vs := by
  rcases h with ⟨o, h⟩ | h
  · exact .inl ⟨o, E.frzs a o _ h⟩
  · exact .inr h
mutual
theorem RT.tr (E : Tr m H m' H') : ∀ {t : T} {v : V}, RT K mg m H t v → RT K mg m' H' t v
  | _, _, .non => .non
  | _, _, .bl b => .bl b
  | _, _, .int i => .int i
  | _, _, .str h => .str h
  | _, _, .tup h r => .tup (SqN.tr E h) (RTs.tr E r)
  | _, _, .fl h r => .fl (SqF.tr E h) (RTs.tr E r)
  | _, _, .ref h => .ref (E.mono _ _ h)
  | _, _, .cls h => .cls h
theorem RTs.tr (E : Tr m H m' H') : ∀ {ts : List T} {vs : List V}, RTs K mg m H ts vs → RTs K mg m' H' ts vs
  | _, _, .nil => .nil
  | _, _, .cons r q => .cons (RT.tr E r) (RTs.tr E q)
end
theorem RF.tr (E : Tr m H m' H') {fs : List (Str × T)} {fv : List (Str × V)} (r : RF K mg m H fs fv) : RF K mg m' H' fs fv := by
  induction r with
  | nil => exact .nil
  | cons r _ ih => exact .cons (r.tr E) ih
theorem SqT.ext (E : Ext m H m' H') {a : Addr} {vs : List V} (h : SqT K H a vs) : SqT K H' a vs := SqT.tr E.tr h
theorem SqF.ext (E : Ext m H m' H') {a : Addr} {vs : List V} (h : SqF K H a vs) : SqF K H' a vs := SqF.tr E.tr h
theorem RT.ext (E : Ext m H m' H') {t : T} {v : V} (r : RT K mg m H t v) : RT K mg m' H' t v := r.tr E.tr
theorem RTs.ext (E : Ext m H m' H') {ts : List T} {vs : List V} (r : RTs K mg m H ts vs) : RTs K mg m' H' ts vs := r.tr E.tr
theorem RF.ext (E : Ext m H m' H') {fs : List (Str × T)} {fv : List (Str × V)} (r : RF K mg m H fs fv) : RF K mg m' H' fs fv := r.tr E.tr
theorem RTs.length : ∀ {ts : List T} {vs : List V}, RTs K mg m H ts vs → ts.length = vs.length
  | _, _, .nil => rfl
  | _, _, .cons _ q => by rw [List.length_cons, List.length_cons, q.length]
theorem RTs.get : ∀ {ts : List T} {vs : List V} {i : Nat} {t : T}, RTs K mg m H ts vs → ts[i]? = some t → ∃ v, vs[i]? = some v ∧ RT K mg m H t v
  | _, _, _, _, .nil, e => by simp at e
  | _, _, 0, _, .cons r _, e => by simp at e; subst e; exact ⟨_, rfl, r⟩
  | _, _, i + 1, t, .cons _ q, e => by
    obtain ⟨v, h1, h2⟩ := RTs.get (i := i) (t := t) q (by simpa using e)
    exact ⟨v, by simpa using h1, h2⟩
theorem RTs.getV : ∀ {ts : List T} {vs : List V} {i : Nat} {v : V}, RTs K mg m H ts vs → vs[i]? = some v → ∃ t, ts[i]? = some t ∧ RT K mg m H t v
  | _, _, _, _, .nil, e => by simp at e
  | _, _, 0, _, .cons r _, e => by simp at e; subst e; exact ⟨_, rfl, r⟩
  | _, _, i + 1, t, .cons _ q, e => by
    obtain ⟨v, h1, h2⟩ := RTs.getV (i := i) (v := t) q (by simpa using e)
    exact ⟨v, by simpa using h1, h2⟩
theorem RTs.append : ∀ {ts us : List T} {vs ws : List V}, RTs K mg m H ts vs → RTs K mg m H us ws → RTs K mg m H (ts ++ us) (vs ++ ws)
  | _, _, _, _, .nil, s => s
  | _, _, _, _, .cons r q, s => .cons r (RTs.append q s)
theorem RTs.take : ∀ {ts : List T} {vs : List V} (n : Nat), RTs K mg m H ts vs → RTs K mg m H (ts.take n) (vs.take n)
  | _, _, 0, _ => .nil
  | _, _, _ + 1, .nil => .nil
  | _, _, n + 1, .cons r q => .cons r (RTs.take n q)
theorem RTs.drop : ∀ {ts : List T} {vs : List V} (n : Nat), RTs K mg m H ts vs → RTs K mg m H (ts.drop n) (vs.drop n)
  | _, _, 0, r => r
  | _, _, _ + 1, .nil => .nil
  | _, _, n + 1, .cons _ q => RTs.drop n q
theorem RTs.set : ∀ {ts : List T} {vs : List V} (i : Nat) {t : T} {v : V}, RTs K mg m H ts vs → RT K mg m H t v → RTs K mg m H (ts.set i t) (vs.set i v)
  | _, _, _, _, _, .nil, _ => .nil
  | _, _, 0, _, _, .cons _ q, r => .cons r q
  | _, _, i + 1, _, _, .cons p q, r => .cons p (RTs.set i q r)
theorem RF.lookup {fs : List (Str × T)} {fv : List (Str × V)} (r : RF K mg m H fs fv) {f : Str} {t : T} (e : fs.lookup f = some t) : ∃ v, fv.lookup f = some v ∧ RT K mg m H t v := by
  induction r with
  | nil => simp [List.lookup] at e
  | @cons g u v fs fv r _ ih =>
    simp only [List.lookup] at e ⊢
    split at e
    · cases e; exact ⟨v, rfl, r⟩
    · exact ih e
theorem RF.length {fs : List (Str × T)} {fv : List (Str × V)} (r : RF K mg m H fs fv) : fs.length = fv.length := by
  induction r with
  | nil => rfl
  | cons _ _ ih => simp [ih]
theorem RF.put {fs : List (Str × T)} {fv : List (Str × V)} (r : RF K mg m H fs fv) {f : Str} {t : T} {v : V} (q : RT K mg m H t v) : RF K mg m H (putT f t fs) (putF f v fv) := by
  induction r with
  | nil => exact .cons q .nil
  | @cons g u w fs fv r rr ih =>
    unfold putT putF
    by_cases e : g = f
    · rw [if_pos e, if_pos e]; exact .cons q rr
    · rw [if_neg e, if_neg e]; exact .cons r ih
end

section
variable (K : PySem.W.Frag) (mg : Str → Option Value)
/-- what stands at a -/
def OR (m : Mp) (H : Hp) (a : Addr) : Ob → Prop
  | .lst ts => ∃ vs, H a = some (.lst vs) ∧ RTs K mg m H ts vs
  | .dic kvs => kvs = [] ∧ H a = some (.dK [])
  | .ins c fs => ∃ C dx fv, mg c = some (.ref C) ∧ H a = some (.ins C dx fv) ∧ RF K mg m H fs fv
structure HR (m : Mp) (h : Hh) (H : Hp) : Prop where
  dom : ∀ l a, m l = some a → l < h.length
  inj : ∀ l l' a, m l = some a → m l' = some a → l = l'
  ob : ∀ l o, h[l]? = some o → ∃ a, m l = some a ∧ OR K mg m H a o
end
section
variable {K : PySem.W.Frag} {mg : Str → Option Value} {m : Mp} {H : Hp} {h : Hh}
theorem OR.some {a : Addr} {o : Ob} (r : OR K mg m H a o) : ∃ u, H a = some u ∧ (∀ vs, u ≠ .tup vs) ∧ (∀ ob w, u ≠ .frz ob w) ∧ (∀ fs, u ≠ .xd fs) ∧ ∀ b, u ≠ .own b := by
  cases o with
  | lst ts =>
    obtain ⟨vs, e, _⟩ := r
    exact ⟨_, e, fun _ z => (by cases z), fun _ _ z => (by cases z), fun _ z => (by cases z), fun _ z => by cases z⟩
  | dic _ =>
    obtain ⟨_, e⟩ := r
    exact ⟨_, e, fun _ z => (by cases z), fun _ _ z => (by cases z), fun _ z => (by cases z), fun _ z => by cases z⟩
  | ins c fs =>
    obtain ⟨C, dx, fv, _, e, _⟩ := r
    exact ⟨_, e, fun _ z => (by cases z), fun _ _ z => (by cases z), fun _ z => (by cases z), fun _ z => by cases z⟩
theorem HR.tracked (R : HR K mg m h H) {l : Nat} {a : Addr} (e : m l = some a) : ∃ u, H a = some u ∧ (∀ vs, u ≠ .tup vs) ∧ (∀ ob w, u ≠ .frz ob w) ∧ (∀ fs, u ≠ .xd fs) ∧ ∀ b, u ≠ .own b := by
  have hl := R.dom l a e
  obtain ⟨a', e', r⟩ := R.ob l h[l] (by simp [hl])
  rw [e] at e'; cases e'
  exact r.some
/-- a new thing in the abstract heap that the small heap does not know -/
theorem Ext.garbage (R : HR K mg m h H) {p : Addr} {o : HO} (hp : H p = none) : Ext m H m (upd H p o) where
  mono := fun _ _ e => e
  fresh := fun _ _ e => .inl e
  live := fun a u e => ⟨u, by rw [upd_ne (ne_of_none e hp)]; exact e⟩
  keep := fun a u e _ => by rw [upd_ne (ne_of_none e hp)]; exact e
  tups := fun a u e => by rw [upd_ne (ne_of_none e hp)]; exact e
  frzs := fun a u w e => by rw [upd_ne (ne_of_none e hp)]; exact e
  xds := fun a u e => by rw [upd_ne (ne_of_none e hp)]; exact e
theorem OR.moveT {m' : Mp} {H' : Hp} (E : Tr m H m' H') {a : Addr} {o : Ob} (r : OR K mg m H a o) (ha : H' a = H a) : OR K mg m' H' a o := by
  cases o with
  | lst ts =>
    obtain ⟨vs, e, r⟩ := r
    exact ⟨vs, ha.trans e, r.tr E⟩
  | dic _ =>
    obtain ⟨z, e⟩ := r
    exact ⟨z, ha.trans e⟩
  | ins c fs =>
    obtain ⟨C, dx, fv, g, e, r⟩ := r
    exact ⟨C, dx, fv, g, ha.trans e, r.tr E⟩
theorem OR.move {m' : Mp} {H' : Hp} (E : Ext m H m' H') {a : Addr} {o : Ob} (r : OR K mg m H a o) (ha : H' a = H a) : OR K mg m' H' a o := by
  cases o with
  | lst ts =>
    obtain ⟨vs, e, r⟩ := r
    exact ⟨vs, ha.trans e, r.ext E⟩
  | dic _ =>
    obtain ⟨z, e⟩ := r
    exact ⟨z, ha.trans e⟩
  | ins c fs =>
    obtain ⟨C, dx, fv, g, e, r⟩ := r
    exact ⟨C, dx, fv, g, ha.trans e, r.ext E⟩
theorem HR.garbage (R : HR K mg m h H) {p : Addr} {o : HO} (hp : H p = none) : HR K mg m h (upd H p o) where
  dom := R.dom
  inj := R.inj
  ob := fun l u e => by
    obtain ⟨a, e1, r⟩ := R.ob l u e
    obtain ⟨w, hw, _⟩ := r.some
    exact ⟨a, e1, r.move (Ext.garbage R hp) (upd_ne (ne_of_none hw hp))⟩
/-- the new place's address -/
def Mp.put (m : Mp) (l : Nat) (p : Addr) : Mp := fun k => if k = l then some p else m k
theorem Mp.put_same {l : Nat} {p : Addr} : m.put l p l = some p := by unfold Mp.put; rw [if_pos rfl]
theorem Mp.put_ne {l k : Nat} {p : Addr} (e : k ≠ l) : m.put l p k = m k := by unfold Mp.put; rw [if_neg e]
theorem Ext.alloc (R : HR K mg m h H) {p : Addr} {o : HO} (hp : H p = none) : Ext m H (m.put h.length p) (upd H p o) where
  mono := fun l a e => by rw [Mp.put_ne (Nat.ne_of_lt (R.dom l a e))]; exact e
  fresh := fun l a e => by
    by_cases hl : l = h.length
    · subst hl; rw [Mp.put_same] at e; cases e; exact .inr hp
    · rw [Mp.put_ne hl] at e; exact .inl e
  live := (Ext.garbage R hp).live
  keep := (Ext.garbage R hp).keep
  tups := (Ext.garbage R hp).tups
  frzs := (Ext.garbage R hp).frzs
  xds := (Ext.garbage R hp).xds
theorem HR.alloc (R : HR K mg m h H) {p : Addr} {o : HO} {u : Ob} (hp : H p = none) (new : OR K mg (m.put h.length p) (upd H p o) p u) : HR K mg (m.put h.length p) (h ++ [u]) (upd H p o) where
  dom := fun l a e => by
    rw [List.length_append, List.length_singleton]
    by_cases hl : l = h.length
    · omega
    · rw [Mp.put_ne hl] at e; have := R.dom l a e; omega
  inj := fun l l' a e e' => by
    by_cases hl : l = h.length
    · by_cases hl' : l' = h.length
      · rw [hl, hl']
      · rw [hl, Mp.put_same] at e; cases e
        rw [Mp.put_ne hl'] at e'
        obtain ⟨w, hw, _⟩ := R.tracked e'
        rw [hp] at hw; cases hw
    · by_cases hl' : l' = h.length
      · rw [hl', Mp.put_same] at e'; cases e'
        rw [Mp.put_ne hl] at e
        obtain ⟨w, hw, _⟩ := R.tracked e
        rw [hp] at hw; cases hw
      · rw [Mp.put_ne hl] at e; rw [Mp.put_ne hl'] at e'
        exact R.inj l l' a e e'
  ob := fun l w e => by
    by_cases hl : l < h.length
    · rw [List.getElem?_append_left hl] at e
      obtain ⟨a, e1, r⟩ := R.ob l w e
      obtain ⟨z, hz, _⟩ := r.some
      exact ⟨a, (Ext.alloc (o := o) R hp).mono l a e1, r.move (Ext.alloc R hp) (upd_ne (ne_of_none hz hp))⟩
    · have : l = h.length := by
        have := (List.getElem?_eq_some_iff.mp e).1
        rw [List.length_append, List.length_singleton] at this
        omega
      subst this
      simp at e
      subst e
      exact ⟨p, Mp.put_same, new⟩
/-- the object at l is changed -/
theorem Ext.write (R : HR K mg m h H) {l : Nat} {a : Addr} {o : HO} (e : m l = some a) : Ext m H m (upd H a o) := by
  obtain ⟨u, hu, n1, n2, n3, n4⟩ := R.tracked e
  have ne : ∀ b w, H b = some w → b = a → w = u := fun b w q z => by subst z; rw [hu] at q; exact (Option.some.inj q).symm
  refine ⟨fun _ _ e => e, fun _ _ e => .inl e, fun b w q => ?_, fun b w q n => ?_, fun b vs q => ?_, fun b w v q => ?_, fun b fs q => ?_⟩
  · by_cases hb : b = a
    · exact ⟨o, by rw [hb]; exact upd_same⟩
    · exact ⟨w, by rw [upd_ne hb]; exact q⟩
  · rw [upd_ne (fun z => n l (by rw [z]; exact e))]; exact q
  · rw [upd_ne (fun z => n1 vs (ne b _ q z).symm)]; exact q
  · rw [upd_ne (fun z => n2 w v (ne b _ q z).symm)]; exact q
  · rw [upd_ne (fun z => n3 fs (ne b _ q z).symm)]; exact q
theorem HR.write (R : HR K mg m h H) {l : Nat} {a : Addr} {o : HO} {u : Ob} (e : m l = some a) (new : OR K mg m (upd H a o) a u) : HR K mg m (h.set l u) (upd H a o) where
  dom := fun k b q => by rw [List.length_set]; exact R.dom k b q
  inj := R.inj
  ob := fun k w q => by
    by_cases hk : l = k
    · subst hk
      rw [List.getElem?_set_self (R.dom l a e)] at q
      cases q
      exact ⟨a, e, new⟩
    · rw [List.getElem?_set_ne hk] at q
      obtain ⟨b, e1, r⟩ := R.ob k w q
      have hb : b ≠ a := fun z => hk (R.inj l k a e (z ▸ e1))
      exact ⟨b, e1, r.move (Ext.write R e) (upd_ne hb)⟩
/-- a list that the small heap does not know is changed -/
theorem Tr.out {D : Addr} {vs ws : List V} (e : H D = some (.lst vs)) : Tr m H m (upd H D (.lst ws)) :=
  ⟨fun _ _ q => q, fun a us q => by rw [upd_ne (ne_of q e (by intro z; cases z))]; exact q, fun a o u q => by rw [upd_ne (ne_of q e (by intro z; cases z))]; exact q⟩
theorem HR.out (R : HR K mg m h H) {D : Addr} {vs ws : List V} (e : H D = some (.lst vs)) (n : ∀ l, m l ≠ some D) : HR K mg m h (upd H D (.lst ws)) where
  dom := R.dom
  inj := R.inj
  ob := fun l u q => by
    obtain ⟨a, e1, r⟩ := R.ob l u q
    exact ⟨a, e1, r.moveT (Tr.out e) (upd_ne (fun z => n l (by rw [← z]; exact e1)))⟩
theorem Ext.out {m0 : Mp} {H0 : Hp} (E : Ext m0 H0 m H) {D : Addr} {o : HO} (hD : H0 D = none) : Ext m0 H0 m (upd H D o) where
  mono := E.mono
  fresh := E.fresh
  live := fun a u e => by
    obtain ⟨w, q⟩ := E.live a u e
    exact ⟨w, by rw [upd_ne (ne_of_none e hD)]; exact q⟩
  keep := fun a u e n => by rw [upd_ne (ne_of_none e hD)]; exact E.keep a u e n
  tups := fun a u e => by rw [upd_ne (ne_of_none e hD)]; exact E.tups a u e
  frzs := fun a u w e => by rw [upd_ne (ne_of_none e hD)]; exact E.frzs a u w e
  xds := fun a u e => by rw [upd_ne (ne_of_none e hD)]; exact E.xds a u e
theorem HR.lst (R : HR K mg m h H) {l : Nat} {a : Addr} {ts : List T} (e : m l = some a) (hl : lstAt h l = some ts) : ∃ vs, H a = some (.lst vs) ∧ RTs K mg m H ts vs := by
  unfold lstAt at hl
  split at hl
  · cases hl
    rename_i q
    obtain ⟨b, e1, r⟩ := R.ob l _ q
    rw [e] at e1; cases e1
    exact r
  · cases hl
theorem HR.ins (R : HR K mg m h H) {l : Nat} {a : Addr} {c : Str} {fs : List (Str × T)} (e : m l = some a) (hl : insAt h l = some (c, fs)) : ∃ C dx fv, mg c = some (.ref C) ∧ H a = some (.ins C dx fv) ∧ RF K mg m H fs fv := by
  unfold insAt at hl
  split at hl
  · cases hl
    rename_i q
    obtain ⟨b, e1, r⟩ := R.ob l _ q
    rw [e] at e1; cases e1
    exact r
  · cases hl
end

/-! ### what a run promises -/
/-- a further thing that stays true -/
structure Pq where
  p : Mp → Hp → Prop
  st : ∀ {m H m' H'}, Ext m H m' H' → p m H → p m' H'
def PqT : Pq := ⟨fun _ _ => True, fun _ _ => trivial⟩

section
variable (K : PySem.W.Frag) (mg : Str → Option Value)
/-- an error: its class c of the program, its fields -/
def XR (m : Mp) (H : Hp) (c : Str) (fs : List (Str × T)) (cls : Value) (d : Option Addr) : Prop :=
  mg c = some cls ∧ ((fs = [] ∧ d = none) ∨ ∃ dd fv, d = some dd ∧ H dd = some (.xd fv) ∧ RF K mg m H fs fv)
def SR (m : Mp) (H : Hp) (σ : St3) (σV : St) : Prop := σ.length = σV.length ∧ ∀ (i : Nat) (t : T), σ[i]? = some (some t) → ∃ v : V, σV[i]? = some (some v) ∧ RT K mg m H t v
structure At (P : Pq) (m : Mp) (H : Hp) (σV : St) (σ : St3) (h : Hh) : Prop where
  sr : SR K mg m H σ σV
  hr : HR K mg m h H
  pr : P.p m H
def Out {α β : Type} (rel : Mp → Hp → α → β → Prop) (W : WX) (σV : St) (Q : β → Hp → Prop) (m : Mp) (H : Hp) : Res α → Prop
  | .ok a h' => ∀ b m' H', Ext m H m' H' → rel m' H' a b → HR K mg m' h' H' → Q b H'
  | .exc c fs h' => ∀ cls d m' H', Ext m H m' H' → XR K mg m' H' c fs cls d → HR K mg m' h' H' → W cls d σV H'
  | .stk => False
def tG {α β : Type} (rel : Mp → Hp → α → β → Prop) (P : Pq) (W : WX) (se : St3 → Hh → Res α) : St → Hp → (β → Hp → Prop) → Prop := fun σV H Q =>
  ∃ m h σ, At K mg P m H σV σ h ∧ Out K mg rel W σV Q m H (se σ h)
abbrev tI (P : Pq) (W : WX) (se : SE) : TE := tG K mg (RT K mg) P W se
abbrev tTst (P : Pq) (W : WX) (se : ST) : TT := tG K mg (fun _ _ a b => a = b) P W se
abbrev tAr (P : Pq) (W : WX) (se : SA) : TA := tG K mg (RTs K mg) P W se
end
section
variable {K : PySem.W.Frag} {mg : Str → Option Value} {m m' : Mp} {H H' : Hp} {h : Hh} {P : Pq} {W : WX} {σV : St} {σ : St3}
theorem SR.ext (E : Ext m H m' H') (r : SR K mg m H σ σV) : SR K mg m' H' σ σV := ⟨r.1, fun i t e => by
  obtain ⟨v, q, z⟩ := r.2 i t e
  exact ⟨v, q, z.ext E⟩⟩
theorem At.ext (E : Ext m H m' H') (a : At K mg P m H σV σ h) {h' : Hh} (R : HR K mg m' h' H') : At K mg P m' H' σV σ h' := ⟨a.sr.ext E, R, P.st E a.pr⟩
theorem Out.ext {α β : Type} {rel : Mp → Hp → α → β → Prop} {Q : β → Hp → Prop} {r : Res α} (E : Ext m H m' H') (o : Out K mg rel W σV Q m H r) : Out K mg rel W σV Q m' H' r := by
  cases r with
  | ok a h' => exact fun b m2 H2 E2 => o b m2 H2 (E.trans E2)
  | exc c fs h' => exact fun cls d m2 H2 E2 => o cls d m2 H2 (E.trans E2)
  | stk => exact o
theorem Out.mono {α β : Type} {rel : Mp → Hp → α → β → Prop} {Q Q' : β → Hp → Prop} {r : Res α} (hq : ∀ b H, Q b H → Q' b H) (o : Out K mg rel W σV Q m H r) : Out K mg rel W σV Q' m H r := by
  cases r with
  | ok a h' => exact fun b m2 H2 E r R => hq _ _ (o b m2 H2 E r R)
  | exc c fs h' => exact o
  | stk => exact o
theorem Out.bind {α β γ δ : Type} {rel : Mp → Hp → γ → δ → Prop} {rel1 : Mp → Hp → α → β → Prop} {Q : δ → Hp → Prop} {r : Res α} {f : α → Hh → Res γ} (o : Out K mg rel W σV Q m H (r.bind f)) :
    Out K mg rel1 W σV (fun b H1 => ∃ m1 h1 a, Ext m H m1 H1 ∧ rel1 m1 H1 a b ∧ HR K mg m1 h1 H1 ∧ Out K mg rel W σV Q m1 H1 (f a h1)) m H r := by
  cases r with
  | ok a h' => exact fun b m1 H1 E q R => ⟨m1, h', a, E, q, R, o.ext E⟩
  | exc c fs h' => exact o
  | stk => exact o
theorem tG.mono {α β : Type} {rel : Mp → Hp → α → β → Prop} {se : St3 → Hh → Res α} {Q Q' : β → Hp → Prop} (hq : ∀ b H, Q b H → Q' b H) (t : tG K mg rel P W se σV H Q) : tG K mg rel P W se σV H Q' := by
  obtain ⟨m, h, σ, a, o⟩ := t
  exact ⟨m, h, σ, a, o.mono hq⟩
/-- the first of two -/
theorem At.first {α β γ δ : Type} {rel : Mp → Hp → γ → δ → Prop} {rel1 : Mp → Hp → α → β → Prop} {Q : δ → Hp → Prop} {se : St3 → Hh → Res α} {f : α → Hh → Res γ} {Q1 : β → Hp → Prop} (A : At K mg P m H σV σ h) (o : Out K mg rel W σV Q m H ((se σ h).bind f))
    (k : ∀ m1 h1 a b H1, Ext m H m1 H1 → rel1 m1 H1 a b → At K mg P m1 H1 σV σ h1 → Out K mg rel W σV Q m1 H1 (f a h1) → Q1 b H1) : tG K mg rel1 P W se σV H Q1 := by
  refine ⟨m, h, σ, A, (Out.bind (rel1 := rel1) o).mono fun b H1 ⟨m1, h1, a, E, r, R, o1⟩ => k m1 h1 a b H1 E r (A.ext E R) o1⟩
theorem PE.imp {X : Cx} {e : Expr} {t t' : TE} (h : PE X e t) (k : ∀ σ H Q, t' σ H Q → t σ H Q) : PE X e t' := ⟨fun pins s σ H Q I hw => h.run pins s σ H Q I (k _ _ _ hw)⟩
theorem PT.imp {X : Cx} {e : Expr} {t t' : TT} (h : PT X e t) (k : ∀ σ H Q, t' σ H Q → t σ H Q) : PT X e t' := ⟨fun pins s σ H Q I hw => h.run pins s σ H Q I (k _ _ _ hw)⟩
theorem PW.imp {X : Cx} {e : Expr} {t t' : TT} (h : PW X e t) (k : ∀ σ H Q, t' σ H Q → t σ H Q) : PW X e t' := ⟨fun wh pins s σ H Q I hw => h.run wh pins s σ H Q I (k _ _ _ hw)⟩
theorem PA.imp {X : Cx} {e : List Expr} {t t' : TA} (h : PA X e t) (k : ∀ σ H Q, t' σ H Q → t σ H Q) : PA X e t' := ⟨fun pos pins s σ H Q I hw => h.run pos pins s σ H Q I (k _ _ _ hw)⟩
theorem PS.imp {X : Cx} {e : Stmt} {t t' : TS} (h : PS X e t) (k : ∀ D σ H, t' D σ H → t D σ H) : PS X e t' := ⟨fun pins s σ H D I hw => h.run pins s σ H D I (k _ _ _ hw)⟩
theorem PSs.imp {X : Cx} {e : List Stmt} {t t' : TS} (h : PSs X e t) (k : ∀ D σ H, t' D σ H → t D σ H) : PSs X e t' := ⟨fun pins s σ H D I hw => h.run pins s σ H D I (k _ _ _ hw)⟩
end
end W3
end

section
/-! WBN: tuples that are laid: known to the object, so that they are known to have no dict of their own. -/
namespace W3
open PySem PySem.Spec PyProof.Rows
open L2
abbrev QN (Q : VK) (H : Hp) (xs : List V) : Prop := ∀ p ob, H p = none → ob.dict = none → Q (.ref p) (upd H p (.frz ob (.tup xs)))
section
variable {X : Cx} {pins : List (Addr × Obj)} {σ : L2.St} {H : Hp} {s : Shared} {Q : VK}
theorem ep_tup (I : L2.Inv X pins σ H s) {its : List Value} {xs : List V} (r : Vals xs its) (hz : xs.length ≤ sizeLine) (q : QN Q H xs) :
    EP X pins σ Q (.ref s.heap.objs.size) { s with heap := s.heap.push { cls := .type "tuple", data := .seq its.toArray } } :=
  ⟨.ref s.heap.objs.size, _, I.laid (t' := s.toks) (o := .frz { cls := .type "tuple", data := .seq its.toArray } (.tup xs)) (fun _ _ w => Heap.get?_push_of_some _ w) (Nat.le_refl _) ⟨Heap.get?_push_size _ rfl, hz, its, r, IsTup.new _ _⟩, rfl, q _ _ (I.hok.fresh (Nat.le_refl _)) rfl⟩
end
section
variable {X : Cx} {es : List Expr} {t : TA} {pos : Pos}
def tTupN (t : TA) : TE := fun σ H Q => t σ H fun xs H1 => xs.length ≤ sizeLine ∧ QN Q H1 xs
theorem pe_tupN {k} (h : PA X es t) : PE X (.Tuple es k pos) (tTupN t) := ⟨fun pins s σ H Q I hq =>
  wpAny_Tuple_spliced (thn (h.run pos pins s σ H _ I hq) fun us s1 ⟨xs, H1, I1, r, z, q⟩ => ⟨r.length ▸ z, ep_tup I1 r z q⟩)⟩
theorem call_tupleN : CallR X (.type "tuple") (fun xs H Q => ∃ p ys, xs = [.ref p] ∧ ((SqL X.K H p ys ∧ QN Q H ys) ∨ (SqT X.K H p ys ∧ Q (.ref p) H))) := by
  intro pins s σ H xs us Q I r h
  obtain ⟨p, ys, rfl, h⟩ := h
  obtain ⟨u, rfl, rx⟩ := vals1 r
  cases rx
  rcases h with ⟨hq, q⟩ | ⟨hq, q⟩
  · obtain ⟨its, r2, pl, hz⟩ := I.list hq
    have ln := r2.length
    exact call_tuple_list pl.isList (fun h2 kp => ep_tup (I.kept (t' := s.toks) kp) r2 hz q) (by simp only [List.size_toArray]; omega)
  · obtain ⟨its, r2, pl, hz⟩ := I.tuple hq
    exact call_tuple_same pl ⟨.ref p, _, I, rfl, q⟩
theorem sl_tupN : SlR X (fun x lo hi H Q => ∃ a xs, x = .ref a ∧ SqT X.K H a xs ∧ (HT.sIx xs.length 0 lo = 0 ∧ HT.sIx xs.length xs.length hi = xs.length → Q (.ref a) H) ∧
    (¬ (HT.sIx xs.length 0 lo = 0 ∧ HT.sIx xs.length xs.length hi = xs.length) → QN Q H (cutV xs lo hi))) := by
  intro pins s σ H x v vl vu lo hi sl Q I rx hs pl pu h
  obtain ⟨a, xs, rfl, hx, q1, q2⟩ := h
  cases rx
  obtain ⟨its, r, ht, hz⟩ := I.tuple hx
  have ln : its.toArray.size = xs.length := by rw [List.size_toArray]; exact r.length.symm
  refine ⟨"tuple", _, PyProof.Rows.slot_tuple_getitem.lookup, ht.typeIs, ?_⟩
  by_cases hw : HT.sIx xs.length 0 lo = 0 ∧ HT.sIx xs.length xs.length hi = xs.length
  · exact getItem_tuple_whole ht hs pl pu (by rw [ln]; exact hw) ⟨.ref a, _, I, rfl, q1 hw⟩
  · refine HT.getItem_tuple_cut ht hs pl pu (by rw [ln]; exact hw) ?_ (by rw [ln]; exact hz)
    rw [ln]
    exact ep_tup I ((r.drop (HT.sIx xs.length 0 lo)).take (HT.sIx xs.length xs.length hi - HT.sIx xs.length 0 lo)) (Nat.le_trans (cutV_length xs lo hi) hz) (q2 hw)
theorem op_catN : OpR X (binaryOp .Add) (fun x y H Q => ∃ a b xs ys, x = .ref a ∧ y = .ref b ∧ SqT X.K H a xs ∧ SqT X.K H b ys ∧ xs.length + ys.length ≤ sizeLine ∧
    (xs = [] → Q (.ref b) H) ∧ (xs ≠ [] → ys = [] → Q (.ref a) H) ∧ (xs ≠ [] → ys ≠ [] → QN Q H (xs ++ ys))) := by
  intro pins s σ H x y v u Q I rx ry h
  obtain ⟨a, b, xs, ys, rfl, rfl, ha, hb, hz, q0, q1, q2⟩ := h
  cases rx
  cases ry
  obtain ⟨its, r1, p1, _⟩ := I.tuple ha
  obtain ⟨its2, r2, p2, _⟩ := I.tuple hb
  by_cases hx : xs = []
  · subst hx
    cases r1
    exact cat_tup0 p1 p2 ⟨.ref b, _, I, rfl, q0 rfl⟩
  · exact HT.cat_tup p1 p2 (fun z => hx (r1.nil_iff.mp z)) (fun z => ⟨.ref a, _, I, rfl, q1 hx (r2.nil_iff.mp z)⟩) (fun z => ep_tup I (r1.append r2) (by rw [List.length_append]; exact hz) (q2 hx fun w => z (r2.nil_iff.mpr w))) (by rw [← r1.length, ← r2.length]; exact hz)
theorem op_repN : OpR X (binaryOp .Mult) (fun x y H Q => ∃ l k xs, x = .ref l ∧ y = .int k ∧ SqT X.K H l xs ∧ xs ≠ [] ∧ 2 ≤ k ∧ k ≤ 1000 ∧ xs.length ≤ 1000 ∧ QN Q H (List.replicate k.toNat xs).flatten) := by
  intro pins s σ H x y v u Q I rx ry h
  obtain ⟨l, k, xs, rfl, rfl, hT, hne, h1, h2, hz, q⟩ := h
  cases rx
  obtain ⟨t, rfl⟩ := ry
  obtain ⟨its, r, ⟨⟨cls, dd, data, sl⟩, ho, hc, n, hd⟩, hs⟩ := I.tuple hT
  simp only at hc hd
  subst hc hd
  have ln : its.length = xs.length := r.length.symm
  have hi : its.toArray.isEmpty = false := by
    cases its with
    | nil => exact absurd (List.eq_nil_of_length_eq_zero ln.symm) hne
    | cons a b => rfl
  have ln2 : its.toArray.size = xs.length := by rw [List.size_toArray, ln]
  have bd : k.toNat * xs.length ≤ 1000 * 1000 := Nat.mul_le_mul (by omega) hz
  have hm : ((its.toArray.size : Nat) : Int) * k ≤ 1000000 := by
    rw [ln2]
    have a1 : ((xs.length : Nat) : Int) * k ≤ 1000 * k := Int.mul_le_mul_of_nonneg_right (by omega) (by omega)
    omega
  have fl : (List.replicate k.toNat its).flatten.length ≤ sizeLine := by
    rw [PyProof.Rows.lm_len_rep_flat, ln, sizeLine_eq]
    omega
  have d0 : (decide (k < -(2 ^ 63)) || decide (k ≥ 2 ^ 63)) = false := by
    rw [decide_eq_false (by omega), decide_eq_false (by omega)] <;> rfl
  have d1 : (its.toArray.isEmpty || k == 1) = false := by
    rw [hi, Bool.false_or]
    exact beq_eq_false_iff_ne.mpr (by omega)
  have d2 : (decide (k ≤ 0) || its.toArray.isEmpty) = false := by
    rw [hi, Bool.or_false]
    exact decide_eq_false (by omega)
  have d4 : Builtin.Tuple.tupleTooMany (((its.toArray.size : Nat) : Int) * k) = false := by
    unfold Builtin.Tuple.tupleTooMany
    rw [sizeLine_eq]
    exact decide_eq_false (by omega)
  have mw := tuple_mulW l its.toArray n dd sl k t d0 d1 d2 (by omega) d4 (by rw [size_rep, List.size_toArray]; exact fl)
  have ty : s.TypeIs (.ref l) "tuple" := ⟨_, ho, rfl⟩
  refine wpAny_binaryOp_repeat_ref (T := "tuple") (U := "int") (by decide) ty (fun s2 => typeIs_int s2 k t) noFill_tuple_mul F.fills_int_mul F.slot_int_rmul repeat_tuple F.slot_int_index.lookup ?_
  refine call_meets F.slot_int_rmul (typeIs_int s k t) F.entry_int_rmul (F.args_int_rmul_2 _ _) (int_rmul_tuple k t l its.toArray n dd sl) ⟨ho, rfl, ty, ?_⟩
  refine call_meets F.slot_tuple_mul ty F.entry_tuple_mul (F.args_tuple_mul_2 _ _) mw ⟨ho, ?_⟩
  rw [size_rep]
  exact ep_tup I (r.rep k.toNat) (by rw [PyProof.Rows.lm_len_rep_flat, sizeLine_eq]; omega) q
end
end W3
end

section
/-! WC: the expressions' combinators are sound. -/
namespace W3
open PySem PySem.Spec PyProof.Rows
open L2

abbrev DE (X : Cx) (P : Pq) (W : WX) (e : Expr) (se : SE) : Prop := PE X e (tI X.K X.mg P W se)
abbrev DT (X : Cx) (P : Pq) (W : WX) (e : Expr) (se : ST) : Prop := PT X e (tTst X.K X.mg P W se)
abbrev DW (X : Cx) (P : Pq) (W : WX) (e : Expr) (se : ST) : Prop := PW X e (tTst X.K X.mg P W se)
abbrev DA (X : Cx) (P : Pq) (W : WX) (es : List Expr) (se : SA) : Prop := PA X es (tAr X.K X.mg P W se)

/-- the promise of something that raises nothing -/
def OutP (K : PySem.W.Frag) (mg : Str → Option Value) (Q : VK) (m : Mp) (H : Hp) : Res T → Prop
  | .ok t h' => ∀ v m' H', Ext m H m' H' → RT K mg m' H' t v → HR K mg m' h' H' → Q v H'
  | _ => False
def NoX2 (f : T → T → Hh → Res T) : Prop := ∀ x y h c fs h', f x y h ≠ .exc c fs h'
def NoX1 (f : T → Hh → Res T) : Prop := ∀ x h c fs h', f x h ≠ .exc c fs h'
def NoXL (f : List T → Hh → Res T) : Prop := ∀ x h c fs h', f x h ≠ .exc c fs h'
def NoXM (f : T → List T → Hh → Res T) : Prop := ∀ x y h c fs h', f x y h ≠ .exc c fs h'
theorem Out.outP {K : PySem.W.Frag} {mg : Str → Option Value} {W : WX} {σV : L2.St} {Q : VK} {m : Mp} {H : Hp} {r : Res T} (o : Out K mg (RT K mg) W σV Q m H r) (n : ∀ c fs h', r ≠ .exc c fs h') : OutP K mg Q m H r := by
  cases r with
  | ok t h' => exact o
  | exc c fs h' => exact absurd rfl (n c fs h')
  | stk => exact o
def rP2 (K : PySem.W.Frag) (mg : Str → Option Value) (f : T → T → Hh → Res T) : R2 := fun x y H Q => ∃ m h tx ty, RT K mg m H tx x ∧ RT K mg m H ty y ∧ HR K mg m h H ∧ OutP K mg Q m H (f tx ty h)
def rP1 (K : PySem.W.Frag) (mg : Str → Option Value) (f : T → Hh → Res T) : V → Hp → VK → Prop := fun x H Q => ∃ m h tx, RT K mg m H tx x ∧ HR K mg m h H ∧ OutP K mg Q m H (f tx h)
def rPL (K : PySem.W.Frag) (mg : Str → Option Value) (f : List T → Hh → Res T) : List V → Hp → VK → Prop := fun xs H Q => ∃ m h ts, RTs K mg m H ts xs ∧ HR K mg m h H ∧ OutP K mg Q m H (f ts h)
def rPM (K : PySem.W.Frag) (mg : Str → Option Value) (f : T → List T → Hh → Res T) : V → List V → Hp → VK → Prop := fun x xs H Q => ∃ m h t ts, RT K mg m H t x ∧ RTs K mg m H ts xs ∧ HR K mg m h H ∧ OutP K mg Q m H (f t ts h)

section
variable {X : Cx} {P : Pq} {W : WX} {a b c : Expr} {sa sb sc : SE} {pos : Pos}

theorem de_var {i : Nat} {x : Str} (hN : X.N[i]? = some x) (hv : Vis X.env.scope x) (hd : (x == ("__debug__" : Str)) = false := by decide) (hcd : (x == ("__classdict__" : Str)) = false := by decide) : DE X P W (.Name x pos) (sVar i) :=
  PE.imp (pe_var hN hv hd hcd) fun σV H Q ⟨m, h, σ, A, o⟩ => by
    unfold sVar at o
    split at o
    · rename_i t e
      obtain ⟨v, ev, r⟩ := A.sr.2 i t e
      exact ⟨v, ev, o v m H (Ext.refl _ _) r A.hr⟩
    · exact False.elim o
theorem de_c {t : T} {v : V} (h : PE X a (tC v)) (r : ∀ m H, RT X.K X.mg m H t v) : DE X P W a (sC t) :=
  PE.imp h fun σV H Q ⟨m, h, σ, A, o⟩ => o v m H (Ext.refl _ _) (r _ _) A.hr
theorem de_int {i j} : DE X P W (.Constant (.int i) j pos) (sC (.int i)) := de_c pe_int fun _ _ => .int i
theorem de_bl {i j} : DE X P W (.Constant (.bool i) j pos) (sC (.bl i)) := de_c pe_bl fun _ _ => .bl i
theorem de_non {j} : DE X P W (.Constant .none j pos) (sC .non) := de_c pe_non fun _ _ => .non
theorem de_str {x : Str} {j} (h : PyData.strOk x = true := by decide +kernel) : DE X P W (.Constant (.str x) j pos) (sC (.str x)) := de_c pe_str fun _ _ => .str h
/-- a module's constant -/
theorem de_glob {x : Str} {t : T} {v : V} {u : Value} (hg : Gl X x) (hm : X.mg x = some u) (r : RelV v u) (rt : ∀ m H, RT X.K X.mg m H t v) (hd : (x == ("__debug__" : Str)) = false := by decide) : DE X P W (.Name x pos) (sC t) :=
  de_c (pe_glob hg hm r hd) rt

/-! ### operations -/
theorem two {f : T → T → Hh → Res T} (hf : NoX2 f) {σV : L2.St} {H : Hp} {Q : VK} (h : tI X.K X.mg P W (s2 f sa sb) σV H Q) :
    tI X.K X.mg P W sa σV H fun x H1 => tI X.K X.mg P W sb σV H1 fun y H2 => rP2 X.K X.mg f x y H2 Q := by
  obtain ⟨m, h, σ, A, o⟩ := h
  refine A.first (rel1 := RT X.K X.mg) o fun m1 h1 t1 x H1 E1 r1 A1 o1 => ?_
  refine A1.first (rel1 := RT X.K X.mg) o1 fun m2 h2 t2 y H2 E2 r2 A2 o2 => ?_
  exact ⟨m2, h2, t1, t2, r1.ext E2, r2, A2.hr, o2.outP (hf t1 t2 h2)⟩
theorem one {f : T → Hh → Res T} (hf : NoX1 f) {σV : L2.St} {H : Hp} {Q : VK} (h : tI X.K X.mg P W (s1 f sa) σV H Q) :
    tI X.K X.mg P W sa σV H fun x H1 => rP1 X.K X.mg f x H1 Q := by
  obtain ⟨m, h, σ, A, o⟩ := h
  refine A.first (rel1 := RT X.K X.mg) o fun m1 h1 t1 x H1 E1 r1 A1 o1 => ?_
  exact ⟨m1, h1, t1, r1, A1.hr, o1.outP (hf t1 h1)⟩
theorem de_op {op : Operator} {f : T → T → Hh → Res T} (ho : OpR X (binaryOp op) (rP2 X.K X.mg f)) (hf : NoX2 f) (ha : DE X P W a sa) (hb : DE X P W b sb) : DE X P W (.BinOp a op b pos) (s2 f sa sb) :=
  PE.imp (pe_op ho ha hb) fun σV H Q h => two hf h
theorem de_un {op : UnaryOp} {f : T → Hh → Res T} (ho : UnR X (unaryOp op) (rP1 X.K X.mg f)) (hf : NoX1 f) (ha : DE X P W a sa) : DE X P W (.UnaryOp op a pos) (s1 f sa) :=
  PE.imp (pe_un ho ha) fun σV H Q h => one hf h
theorem de_cmp {op : CmpOp} {f : T → T → Hh → Res T} (ho : OpR X (compareOp op) (rP2 X.K X.mg f)) (hf : NoX2 f) (ha : DE X P W a sa) (hb : DE X P W b sb) (hm : behindInMarks op b = false) : DE X P W (.Compare a [op] [b] pos) (s2 f sa sb) :=
  PE.imp (pe_cmpR ho ha hb hm) fun σV H Q h => two hf h
theorem dt_cmp {op : CmpOp} {f : T → T → Hh → Res T} (ho : OpR X (compareOp op) (rP2 X.K X.mg f)) (hf : NoX2 f) (ha : DE X P W a sa) (hb : DE X P W b sb) (hm : behindInMarks op b = false) : DT X P W (.Compare a [op] [b] pos) (sT (s2 f sa sb)) :=
  PT.imp (pt_cmpR ho ha hb hm) fun σV H Q ⟨m, h, σ, A, o⟩ => by
    refine two hf (A.first (rel1 := RT X.K X.mg) o fun m1 h1 t x H1 E1 r A1 o1 => ?_)
    cases r with
    | bl k => exact ⟨k, rfl, o1 k m1 H1 (Ext.refl _ _) rfl A1.hr⟩
    | _ => exact False.elim o1

/-! ### the operations on values -/
theorem nx_add : NoX2 oAdd := fun x y h c fs h' e => by
  unfold oAdd alloc at e
  (repeat' split at e) <;> cases e
theorem nx_sub : NoX2 oSub := fun x y h c fs h' e => by unfold oSub at e; (repeat' split at e) <;> cases e
theorem nx_mul : NoX2 oMul := fun x y h c fs h' e => by unfold oMul at e; (repeat' split at e) <;> cases e
theorem nx_mod : NoX2 oMod := fun x y h c fs h' e => by unfold oMod at e; (repeat' split at e) <;> cases e
theorem nx_div : NoX2 oDiv := fun x y h c fs h' e => by unfold oDiv at e; (repeat' split at e) <;> cases e
theorem nx_pow : NoX2 oPow := fun x y h c fs h' e => by unfold oPow at e; (repeat' split at e) <;> cases e
theorem nx_lt : NoX2 oLt := fun x y h c fs h' e => by unfold oLt at e; (repeat' split at e) <;> cases e
theorem nx_le : NoX2 oLe := fun x y h c fs h' e => by unfold oLe at e; (repeat' split at e) <;> cases e
theorem nx_gt : NoX2 oGt := fun x y h c fs h' e => by unfold oGt at e; (repeat' split at e) <;> cases e
theorem nx_ge : NoX2 oGe := fun x y h c fs h' e => by unfold oGe at e; (repeat' split at e) <;> cases e
theorem nx_neg : NoX1 oNeg := fun x h c fs h' e => by unfold oNeg at e; (repeat' split at e) <;> cases e
theorem nx_isN : NoX1 oIsN := fun x h c fs h' e => by unfold oIsN at e; cases e
theorem nx_notN : NoX1 oNotN := fun x h c fs h' e => by unfold oNotN at e; cases e
theorem nx_eq : NoX2 oEq := fun x y h c fs h' e => by unfold oEq at e; (repeat' split at e) <;> cases e
theorem nx_ne : NoX2 oNe := fun x y h c fs h' e => by unfold oNe at e; (repeat' split at e) <;> cases e
theorem nx_in : NoX2 oIn := fun x y h c fs h' e => by unfold oIn at e; (repeat' split at e) <;> cases e
theorem nx_notin : NoX2 oNotIn := fun x y h c fs h' e => by unfold oNotIn at e; (repeat' split at e) <;> cases e
theorem nx_ix : NoX2 oIx := fun x y h c fs h' e => by unfold oIx at e; (repeat' split at e) <;> cases e

/-- two ints in -/
theorem os_int {sem : Value → Value → Sem Value} {C : Int → Int → Prop} {g : Int → Int → V} {gt : Int → Int → T} {f : T → T → Hh → Res T} (ho : OpR X sem (rI C g)) (hg : ∀ i j m H, RT X.K X.mg m H (gt i j) (g i j))
    (hf : ∀ x y h t h', f x y h = .ok t h' → ∃ i j, x = .int i ∧ y = .int j ∧ C i j ∧ t = gt i j ∧ h' = h) : OpR X sem (rP2 X.K X.mg f) := by
  intro pins s σ H x y v u Q I rx ry ⟨m, h, tx, ty, r1, r2, R, o⟩
  cases e : f tx ty h with
  | ok t h' =>
    rw [e] at o
    obtain ⟨i, j, rfl, rfl, hc, rfl, rfl⟩ := hf _ _ _ _ _ e
    cases r1
    cases r2
    exact ho pins s σ H _ _ v u Q I rx ry ⟨i, j, rfl, rfl, hc, o _ m H (Ext.refl _ _) (hg i j m H) R⟩
  | exc c fs h' => rw [e] at o; exact False.elim o
  | stk => rw [e] at o; exact False.elim o
theorem rI_of0 {sem : Value → Value → Sem Value} {g : Int → Int → V} (ho : OpR X sem (rI0 g)) : OpR X sem (rI (fun _ _ => True) g) := by
  intro pins s σ H x y v u Q I rx ry ⟨i, j, e1, e2, _, q⟩
  exact ho pins s σ H x y v u Q I rx ry ⟨i, j, e1, e2, q⟩
theorem os_sub : OpR X (binaryOp .Sub) (rP2 X.K X.mg oSub) := os_int (gt := fun i j => .int (i - j)) (rI_of0 op_sub) (fun _ _ _ _ => .int _) fun x y h t h' e => by
  unfold oSub at e; split at e
  · cases e; exact ⟨_, _, rfl, rfl, trivial, rfl, rfl⟩
  · cases e
theorem os_mul : OpR X (binaryOp .Mult) (rP2 X.K X.mg oMul) := os_int (gt := fun i j => .int (i * j)) op_mul (fun _ _ _ _ => .int _) fun x y h t h' e => by
  unfold oMul at e; split at e
  · split at e
    · rename_i hc; cases e; exact ⟨_, _, rfl, rfl, hc, rfl, rfl⟩
    · cases e
  · cases e
theorem os_mod : OpR X (binaryOp .Mod) (rP2 X.K X.mg oMod) := os_int (gt := fun i j => .int (i % j)) op_mod (fun _ _ _ _ => .int _) fun x y h t h' e => by
  unfold oMod at e; split at e
  · split at e
    · rename_i hc; cases e; exact ⟨_, _, rfl, rfl, hc, rfl, rfl⟩
    · cases e
  · cases e
theorem os_div : OpR X (binaryOp .FloorDiv) (rP2 X.K X.mg oDiv) := os_int (gt := fun i j => .int (i / j)) op_fdiv (fun _ _ _ _ => .int _) fun x y h t h' e => by
  unfold oDiv at e; split at e
  · split at e
    · rename_i hc; cases e; exact ⟨_, _, rfl, rfl, hc, rfl, rfl⟩
    · cases e
  · cases e
theorem os_pow : OpR X (binaryOp .Pow) (rP2 X.K X.mg oPow) := os_int (gt := fun i j => .int (i ^ j.toNat)) op_pow (fun _ _ _ _ => .int _) fun x y h t h' e => by
  unfold oPow at e; split at e
  · split at e
    · rename_i hc; cases e; exact ⟨_, _, rfl, rfl, hc, rfl, rfl⟩
    · cases e
  · cases e
theorem os_lt : OpR X (compareOp .Lt) (rP2 X.K X.mg oLt) := os_int (gt := fun i j => .bl (decide (i < j))) (rI_of0 op_lt) (fun _ _ _ _ => .bl _) fun x y h t h' e => by
  unfold oLt at e; split at e
  · cases e; exact ⟨_, _, rfl, rfl, trivial, rfl, rfl⟩
  · cases e
theorem os_le : OpR X (compareOp .LtE) (rP2 X.K X.mg oLe) := os_int (gt := fun i j => .bl (decide (i ≤ j))) (rI_of0 op_le) (fun _ _ _ _ => .bl _) fun x y h t h' e => by
  unfold oLe at e; split at e
  · cases e; exact ⟨_, _, rfl, rfl, trivial, rfl, rfl⟩
  · cases e
theorem os_gt : OpR X (compareOp .Gt) (rP2 X.K X.mg oGt) := os_int (gt := fun i j => .bl (decide (j < i))) (rI_of0 op_gt) (fun _ _ _ _ => .bl _) fun x y h t h' e => by
  unfold oGt at e; split at e
  · cases e; exact ⟨_, _, rfl, rfl, trivial, rfl, rfl⟩
  · cases e
theorem os_ge : OpR X (compareOp .GtE) (rP2 X.K X.mg oGe) := os_int (gt := fun i j => .bl (decide (j ≤ i))) (rI_of0 op_ge) (fun _ _ _ _ => .bl _) fun x y h t h' e => by
  unfold oGe at e; split at e
  · cases e; exact ⟨_, _, rfl, rfl, trivial, rfl, rfl⟩
  · cases e
theorem us_neg : UnR X (unaryOp .USub) (rP1 X.K X.mg oNeg) := by
  intro pins s σ H x v Q I rx ⟨m, h, tx, r1, R, o⟩
  cases r1 with
  | int i => exact un_neg pins s σ H _ v Q I rx ⟨i, rfl, o _ m H (Ext.refl _ _) (.int _) R⟩
  | _ => exact False.elim o
/-- a new object of the layer, unknown to the small heap, as a tuple value -/
theorem OutP.newTup {K : PySem.W.Frag} {mg : Str → Option Value} {Q : VK} {m : Mp} {H : Hp} {h : Hh} {ts : List T} {vs : List V} (R : HR K mg m h H) (r : RTs K mg m H ts vs) (o : OutP K mg Q m H (.ok (.tup ts) h)) {p : Addr} {ob : Obj} (hp : H p = none) (hd : ob.dict = none) : Q (.ref p) (upd H p (.frz ob (.tup vs))) :=
  o _ m _ (Ext.garbage R hp) (.tup (.inl ⟨ob, upd_same, hd⟩) (r.ext (Ext.garbage R hp))) (R.garbage hp)
theorem OutP.newLst {K : PySem.W.Frag} {mg : Str → Option Value} {Q : VK} {m : Mp} {H : Hp} {h : Hh} {ts : List T} {vs : List V} (R : HR K mg m h H) (r : RTs K mg m H ts vs) (o : OutP K mg Q m H (alloc (.lst ts) h)) {p : Addr} (hp : H p = none) : Q (.ref p) (upd H p (.lst vs)) :=
  o _ _ _ (Ext.alloc R hp) (.ref Mp.put_same) (R.alloc hp ⟨vs, upd_same, r.ext (Ext.alloc R hp)⟩)
theorem strOk_append {x y : Str} (hx : PyData.strOk x = true) (hy : PyData.strOk y = true) : PyData.strOk (x ++ y) = true := by
  unfold PyData.strOk at *
  show (x.cps ++ y.cps).all _ = true
  rw [Array.all_append, hx, hy]; rfl
theorem os_add : OpR X (binaryOp .Add) (rP2 X.K X.mg oAdd) := by
  intro pins s σ H x y v u Q I rx ry ⟨m, h, tx, ty, r1, r2, R, o⟩
  cases r1 with
  | int i =>
    cases r2 with
    | int j => exact op_add pins s σ H _ _ v u Q I rx ry ⟨i, j, rfl, rfl, o _ m H (Ext.refl _ _) (.int _) R⟩
    | _ => exact False.elim o
  | str hi =>
    cases r2 with
    | str hj =>
      rename_i i j
      have o' : OutP X.K X.mg Q m H (if i.length + j.length ≤ sizeLine then .ok (.str (i ++ j)) h else .stk) := o
      split at o'
      · rename_i hz; exact op_add_str pins s σ H _ _ v u Q I rx ry ⟨_, _, rfl, rfl, hz, o' _ m H (Ext.refl _ _) (.str (strOk_append hi hj)) R⟩
      · exact False.elim o'
    | _ => exact False.elim o
  | tup ha r =>
    cases r2 with
    | tup hb q =>
      rename_i a vs xs b ws ys
      have o' : OutP X.K X.mg Q m H (if xs.length + ys.length ≤ sizeLine then .ok (.tup (xs ++ ys)) h else .stk) := o
      split at o'
      · rename_i hz
        rw [r.length, q.length] at hz
        refine op_catN pins s σ H _ _ v u Q I rx ry ⟨_, _, _, _, rfl, rfl, ha, hb, hz, fun e => ?_, fun e1 e2 => ?_, fun e1 e2 p ob hp hd => ?_⟩
        · subst e; cases r; exact o' _ m H (Ext.refl _ _) (.tup hb q) R
        · subst e2; cases q; rw [List.append_nil] at o'; exact o' _ m H (Ext.refl _ _) (.tup ha r) R
        · exact OutP.newTup R (r.append q) o' hp hd
      · exact False.elim o'
    | _ => exact False.elim o
  | ref e1 =>
    cases r2 with
    | ref e2 =>
      rename_i l a k b
      have o' : OutP X.K X.mg Q m H (match lstAt h l, lstAt h k with
        | some xs, some zs => if xs.length + zs.length ≤ sizeLine then alloc (.lst (xs ++ zs)) h else .stk
        | _, _ => .stk) := o
      split at o'
      · rename_i xs zs q1 q2
        split at o'
        · rename_i hz
          obtain ⟨vs, g1, r1⟩ := R.lst e1 q1
          obtain ⟨ws, g2, r2⟩ := R.lst e2 q2
          rw [r1.length, r2.length] at hz
          exact op_cat pins s σ H _ _ v u Q I rx ry ⟨_, _, _, _, rfl, rfl, g1, g2, hz, fun p hp => OutP.newLst R (r1.append r2) o' hp⟩
        · exact False.elim o'
      · exact False.elim o'
    | _ => exact False.elim o
  | _ => exact False.elim o
end
end W3
end

section
/-! WD: equality, in, is None; tests; displays; items, slices, fields; calls of built-ins. -/
namespace W3
open PySem PySem.Spec PyProof.Rows
open L2

/-! ### plain data -/
section
variable {K : PySem.W.Frag} {mg : Str → Option Value} {m : Mp} {H : Hp} {h : Hh}
theorem optL_dp {n : Nat} {f : T → Option PyData} (hf : ∀ t v d, RT K mg m H t v → f t = some d → Dp K H v d ∧ d.canLay0 = true ∧ d.depth ≤ n) :
    ∀ {ts : List T} {vs : List V} {ds : List PyData}, RTs K mg m H ts vs → optL f ts = some ds → DpAll K H vs ds ∧ PyData.canLayAll0 ds = true ∧ PyData.depthAll ds ≤ n
  | _, _, _, .nil, e => by cases e; exact ⟨.nil, by simp [PyData.canLayAll0], by simp [PyData.depthAll]⟩
  | _, _, _, .cons (t := t) (ts := ts) r q, e => by
    unfold optL at e
    cases h1 : f t with
    | none => rw [h1] at e; simp at e
    | some d =>
      cases h2 : optL f ts with
      | none => rw [h1, h2] at e; simp at e
      | some ds =>
        rw [h1, h2] at e
        cases e
        obtain ⟨a1, a2, a3⟩ := hf _ _ _ r h1
        obtain ⟨b1, b2, b3⟩ := optL_dp hf q h2
        refine ⟨.cons a1 b1, by simp [PyData.canLayAll0, a2, b2], ?_⟩
        simp only [PyData.depthAll]
        omega
theorem toD_dp (R : HR K mg m h H) : ∀ (n : Nat) (t : T) (v : V) (d : PyData), RT K mg m H t v → toD h n t = some d → Dp K H v d ∧ d.canLay0 = true ∧ d.depth ≤ n
  | 0, _, _, _, _, e => by simp [toD] at e
  | n + 1, _, _, d, r, e => by
    have ih := toD_dp R n
    cases r with
    | non => cases e; exact ⟨.non, by simp [PyData.canLay0], by simp [PyData.depth]⟩
    | bl b => cases e; exact ⟨.bl b, by simp [PyData.canLay0], by simp [PyData.depth]⟩
    | int b => cases e; exact ⟨.int b, by simp [PyData.canLay0], by simp [PyData.depth]⟩
    | str b => cases e; exact ⟨.str _, by simpa [PyData.canLay0] using b, by simp [PyData.depth]⟩
    | @tup a vs ts hq rr =>
      have e' : (optL (toD h n) ts).map PyData.tuple = some d := e
      cases q : optL (toD h n) ts with
      | none => rw [q] at e'; cases e'
      | some ds =>
        rw [q] at e'; cases e'
        obtain ⟨b1, b2, b3⟩ := optL_dp ih rr q
        exact ⟨.tup hq b1, by simpa [PyData.canLay0] using b2, by simp only [PyData.depth]; omega⟩
    | @fl a vs ts hq rr =>
      have e' : (optL (toD h n) ts).map PyData.list = some d := e
      cases q : optL (toD h n) ts with
      | none => rw [q] at e'; cases e'
      | some ds =>
        rw [q] at e'; cases e'
        obtain ⟨b1, b2, b3⟩ := optL_dp ih rr q
        exact ⟨.lst hq.sq b1, by simpa [PyData.canLay0] using b2, by simp only [PyData.depth]; omega⟩
    | @ref l a hq =>
      have e' : (match h[l]? with | some (.lst ts) => (optL (toD h n) ts).map PyData.list | _ => none) = some d := e
      split at e'
      · rename_i ts hl
        obtain ⟨vs, g, rr⟩ := R.lst hq (show lstAt h l = some ts by unfold lstAt; rw [hl])
        cases q : optL (toD h n) ts with
        | none => rw [q] at e'; cases e'
        | some ds =>
          rw [q] at e'; cases e'
          obtain ⟨b1, b2, b3⟩ := optL_dp ih rr q
          exact ⟨.lst (SqL.of g) b1, by simpa [PyData.canLay0] using b2, by simp only [PyData.depth]; omega⟩
      · cases e'
    | cls hq => cases e
theorem toD_shaped (R : HR K mg m h H) {t : T} {v : V} {d : PyData} (r : RT K mg m H t v) (e : toD h 24 t = some d) : Dp K H v d ∧ SeqAt.shaped d = true := by
  obtain ⟨a, b, c⟩ := toD_dp R 24 t v d r e
  refine ⟨a, ?_⟩
  unfold SeqAt.shaped
  rw [b, decide_eq_true (by omega : d.depth ≤ 64)]
  rfl
end
section
variable {X : Cx} {P : Pq} {W : WX} {a b c : Expr} {sa sb sc : SE} {pos : Pos} {es : List Expr} {ar : SA} {ta tb : ST} {rest : List Expr}
theorem os_eq (hu : X.A.units + 65 < cLine) : OpR X (compareOp .Eq) (rP2 X.K X.mg oEq) := by
  intro pins s σ H x y v u Q I rx ry ⟨m, h, tx, ty, r1, r2, R, o⟩
  unfold oEq at o
  split at o
  · rename_i d e q1 q2
    obtain ⟨d1, s1⟩ := toD_shaped R r1 q1
    obtain ⟨d2, s2⟩ := toD_shaped R r2 q2
    exact op_eqD (by omega) pins s σ H x y v u Q I rx ry ⟨d, e, d1, d2, s1, s2, o _ m H (Ext.refl _ _) (.bl _) R⟩
  · exact False.elim o
theorem os_ne (hu : X.A.units + 65 < cLine) : OpR X (compareOp .NotEq) (rP2 X.K X.mg oNe) := by
  intro pins s σ H x y v u Q I rx ry ⟨m, h, tx, ty, r1, r2, R, o⟩
  unfold oNe at o
  split at o
  · rename_i d e q1 q2
    obtain ⟨d1, s1⟩ := toD_shaped R r1 q1
    obtain ⟨d2, s2⟩ := toD_shaped R r2 q2
    exact op_neD (by omega) pins s σ H x y v u Q I rx ry ⟨d, e, d1, d2, s1, s2, o _ m H (Ext.refl _ _) (.bl _) R⟩
  · exact False.elim o
/-- in, not in -/
theorem in_run (hu : X.A.units + 65 < cLine) {pins : List (Addr × Obj)} {s : Shared} {σ : L2.St} {H : Hp} {x y : V} {v u : Value} {m : Mp} {h : Hh} {tx ty : T} {k : Bool} (I : L2.Inv X pins σ H s) (rx : RelV x v) (ry : RelV y u) (r1 : RT X.K X.mg m H tx x)
    (r2 : RT X.K X.mg m H ty y) (R : HR X.K X.mg m h H) (e : inT tx ty h = some k) {Q : Value → Shared → Prop} (q : Q (.bool k) s) : wpAny (model X.prog X.w) X.A (compareOp .In v u) Q X.xe s := by
  have deep : (match toD h 24 tx, toD h 24 ty with
    | some d, some (.list ds) => some (ds.any fun z => PyData.eqv z d)
    | some d, some (.tuple ds) => some (ds.any fun z => PyData.eqv z d)
    | _, _ => none) = some k → wpAny (model X.prog X.w) X.A (compareOp .In v u) Q X.xe s := by
    intro e
    split at e
    · rename_i d ds q1 q2
      cases e
      obtain ⟨d1, s1⟩ := toD_shaped R r1 q1
      obtain ⟨d2, s2⟩ := toD_shaped R r2 q2
      obtain ⟨as, p1⟩ := Dp.reads I d x v d1 rx
      obtain ⟨bs, p2⟩ := Dp.reads I (.list ds) y u d2 ry
      exact SeqAt.in_list_reads p2 p1 (SeqAt.canLay_of_shaped s2) (SeqAt.canLay_of_shaped s1) (room_in_shaped s1 hu) q
    · rename_i d ds q1 q2
      cases e
      obtain ⟨d1, s1⟩ := toD_shaped R r1 q1
      obtain ⟨d2, s2⟩ := toD_shaped R r2 q2
      obtain ⟨as, p1⟩ := Dp.reads I d x v d1 rx
      obtain ⟨bs, p2⟩ := Dp.reads I (.tuple ds) y u d2 ry
      exact SeqAt.in_tuple_reads p2 p1 (SeqAt.canLay_of_shaped s2) (SeqAt.canLay_of_shaped s1) (room_in_shaped s1 hu) q
    · cases e
  cases r1 with
  | str h1 =>
    cases r2 with
    | str h2 =>
      cases e
      obtain ⟨t, rfl⟩ := rx
      obtain ⟨t', rfl⟩ := ry
      exact in_str q
    | _ => exact deep e
  | _ => exact deep e
theorem os_in (hu : X.A.units + 65 < cLine) : OpR X (compareOp .In) (rP2 X.K X.mg oIn) := by
  intro pins s σ H x y v u Q I rx ry ⟨m, h, tx, ty, r1, r2, R, o⟩
  unfold oIn at o
  split at o
  · rename_i k q
    exact in_run hu I rx ry r1 r2 R q ⟨.bl k, H, I, rfl, o _ m H (Ext.refl _ _) (.bl _) R⟩
  · exact False.elim o
theorem notin_run (hu : X.A.units + 65 < cLine) {pins : List (Addr × Obj)} {s : Shared} {σ : L2.St} {H : Hp} {x y : V} {v u : Value} {m : Mp} {h : Hh} {tx ty : T} {k : Bool} (I : L2.Inv X pins σ H s) (rx : RelV x v) (ry : RelV y u) (r1 : RT X.K X.mg m H tx x)
    (r2 : RT X.K X.mg m H ty y) (R : HR X.K X.mg m h H) (e : inT tx ty h = some k) {Q : Value → Shared → Prop} (q : Q (.bool (!k)) s) : wpAny (model X.prog X.w) X.A (compareOp .NotIn v u) Q X.xe s := by
  have deep : (match toD h 24 tx, toD h 24 ty with
    | some d, some (.list ds) => some (ds.any fun z => PyData.eqv z d)
    | some d, some (.tuple ds) => some (ds.any fun z => PyData.eqv z d)
    | _, _ => none) = some k → wpAny (model X.prog X.w) X.A (compareOp .NotIn v u) Q X.xe s := by
    intro e
    split at e
    · rename_i d ds q1 q2
      cases e
      obtain ⟨d1, s1⟩ := toD_shaped R r1 q1
      obtain ⟨d2, s2⟩ := toD_shaped R r2 q2
      obtain ⟨as, p1⟩ := Dp.reads I d x v d1 rx
      obtain ⟨bs, p2⟩ := Dp.reads I (.list ds) y u d2 ry
      exact SeqAt.notIn_list_reads p2 p1 (SeqAt.canLay_of_shaped s2) (SeqAt.canLay_of_shaped s1) (room_in_shaped s1 hu) q
    · rename_i d ds q1 q2
      cases e
      obtain ⟨d1, s1⟩ := toD_shaped R r1 q1
      obtain ⟨d2, s2⟩ := toD_shaped R r2 q2
      obtain ⟨as, p1⟩ := Dp.reads I d x v d1 rx
      obtain ⟨bs, p2⟩ := Dp.reads I (.tuple ds) y u d2 ry
      exact SeqAt.notIn_tuple_reads p2 p1 (SeqAt.canLay_of_shaped s2) (SeqAt.canLay_of_shaped s1) (room_in_shaped s1 hu) q
    · cases e
  cases r1 with
  | str h1 =>
    cases r2 with
    | str h2 =>
      cases e
      obtain ⟨t, rfl⟩ := rx
      obtain ⟨t', rfl⟩ := ry
      exact notIn_str q
    | _ => exact deep e
  | _ => exact deep e
theorem os_notin (hu : X.A.units + 65 < cLine) : OpR X (compareOp .NotIn) (rP2 X.K X.mg oNotIn) := by
  intro pins s σ H x y v u Q I rx ry ⟨m, h, tx, ty, r1, r2, R, o⟩
  unfold oNotIn at o
  split at o
  · rename_i k q
    exact notin_run hu I rx ry r1 r2 R q ⟨.bl (!k), H, I, rfl, o _ m H (Ext.refl _ _) (.bl _) R⟩
  · exact False.elim o
theorem nx_is : NoX2 oIs := fun x y h c fs h' e => by unfold oIs at e; (repeat' split at e) <;> cases e
theorem nx_isnot : NoX2 oIsNot := fun x y h c fs h' e => by unfold oIsNot at e; (repeat' split at e) <;> cases e
theorem isNon_iff {m : Mp} {H : Hp} {t : T} {v : V} (r : RT X.K X.mg m H t v) : decide (v = .non) = isNonT t := by
  cases r <;> first | rfl | simp [isNonT]
theorem os_is : OpR X (compareOp .Is) (rP2 X.K X.mg oIs) := by
  intro pins s σ H x y v u Q I rx ry ⟨m, h, tx, ty, r1, r2, R, o⟩
  cases r2 with
  | non =>
    have o' : OutP X.K X.mg Q m H (.ok (.bl (isNonT tx)) h) := o
    refine op_isN pins s σ H x _ v u Q I rx ry ⟨rfl, ?_⟩
    rw [isNon_iff r1]
    exact o' _ m H (Ext.refl _ _) (.bl _) R
  | bl k =>
    cases r1 with
    | bl j => exact op_isBl pins s σ H _ _ v u Q I rx ry ⟨j, k, rfl, rfl, o _ m H (Ext.refl _ _) (.bl _) R⟩
    | _ => exact False.elim o
  | _ => exact False.elim o
theorem os_isnot : OpR X (compareOp .IsNot) (rP2 X.K X.mg oIsNot) := by
  intro pins s σ H x y v u Q I rx ry ⟨m, h, tx, ty, r1, r2, R, o⟩
  cases r2 with
  | non =>
    have o' : OutP X.K X.mg Q m H (.ok (.bl (!isNonT tx)) h) := o
    refine op_notN pins s σ H x _ v u Q I rx ry ⟨rfl, ?_⟩
    rw [isNon_iff r1]
    exact o' _ m H (Ext.refl _ _) (.bl _) R
  | bl k =>
    cases r1 with
    | bl j => exact op_notBl pins s σ H _ _ v u Q I rx ry ⟨j, k, rfl, rfl, o _ m H (Ext.refl _ _) (.bl _) R⟩
    | _ => exact False.elim o
  | _ => exact False.elim o

/-! ### tests -/
theorem dt_val (ha : DE X P W a sa) (he : ∀ whole, isTrue a X.env whole = (do let v ← whole; standAt a.pos; holding [v] (truthy v)) := by intro _; rfl) : DT X P W a (sT sa) :=
  PT.imp (pt_val ha he) fun σV H Q ⟨m, h, σ, A, o⟩ => by
    refine A.first (rel1 := RT X.K X.mg) o fun m1 h1 t x H1 E1 r A1 o1 => ?_
    cases r with
    | bl k => exact ⟨k, rfl, o1 k m1 H1 (Ext.refl _ _) rfl A1.hr⟩
    | _ => exact False.elim o1
theorem tt_and {σV : L2.St} {H : Hp} {Q : Bool → Hp → Prop} (h : tTst X.K X.mg P W (stAnd ta tb) σV H Q) : tAnd (tTst X.K X.mg P W ta) (tTst X.K X.mg P W tb) σV H Q := by
  obtain ⟨m, h, σ, A, o⟩ := h
  refine A.first (rel1 := fun _ _ a b => a = b) o fun m1 h1 t x H1 E1 r A1 o1 => ?_
  subst r
  cases t with
  | true => rw [if_pos rfl]; rw [if_pos rfl] at o1; exact ⟨m1, h1, σ, A1, o1⟩
  | false => rw [if_neg Bool.false_ne_true]; rw [if_neg Bool.false_ne_true] at o1; exact o1 _ m1 H1 (Ext.refl _ _) rfl A1.hr
theorem tt_or {σV : L2.St} {H : Hp} {Q : Bool → Hp → Prop} (h : tTst X.K X.mg P W (stOr ta tb) σV H Q) : tOr (tTst X.K X.mg P W ta) (tTst X.K X.mg P W tb) σV H Q := by
  obtain ⟨m, h, σ, A, o⟩ := h
  refine A.first (rel1 := fun _ _ a b => a = b) o fun m1 h1 t x H1 E1 r A1 o1 => ?_
  subst r
  cases t with
  | true => rw [if_pos rfl]; rw [if_pos rfl] at o1; exact o1 _ m1 H1 (Ext.refl _ _) rfl A1.hr
  | false => rw [if_neg Bool.false_ne_true]; rw [if_neg Bool.false_ne_true] at o1; exact ⟨m1, h1, σ, A1, o1⟩
theorem dw_and1 (ha : DT X P W a ta) : DW X P W (.BoolOp .And [a] pos) ta := pw_and1 ha
theorem dw_or1 (ha : DT X P W a ta) : DW X P W (.BoolOp .Or [a] pos) ta := pw_or1 ha
theorem dw_and (ha : DT X P W a ta) (hb : DW X P W (.BoolOp .And (b :: rest) pos) tb) : DW X P W (.BoolOp .And (a :: b :: rest) pos) (stAnd ta tb) := PW.imp (pw_and ha hb) fun _ _ _ h => tt_and h
theorem dw_or (ha : DT X P W a ta) (hb : DW X P W (.BoolOp .Or (b :: rest) pos) tb) : DW X P W (.BoolOp .Or (a :: b :: rest) pos) (stOr ta tb) := PW.imp (pw_or ha hb) fun _ _ _ h => tt_or h
theorem dt_w {e : Expr} (h : DW X P W e ta) : DT X P W e ta := h.pt
theorem dt_not (ha : DT X P W a ta) : DT X P W (.UnaryOp .Not a pos) (stNot ta) := PT.imp (pt_not ha) fun σV H Q ⟨m, h, σ, A, o⟩ => by
  refine A.first (rel1 := fun _ _ a b => a = b) o fun m1 h1 t x H1 E1 r A1 o1 => ?_
  subst r
  exact o1 _ m1 H1 (Ext.refl _ _) rfl A1.hr
/-! .. as values -/
theorem de_and1 (ha : DE X P W a sa) : DE X P W (.BoolOp .And [a] pos) sa := pe_one ha
theorem de_or1 (ha : DE X P W a sa) : DE X P W (.BoolOp .Or [a] pos) sa := pe_one ha
/-- a and b, a a bool; b any value -/
theorem de_and (ha : DE X P W a sa) (hb : DE X P W (.BoolOp .And (b :: rest) pos) sb) : DE X P W (.BoolOp .And (a :: b :: rest) pos) (sIf (sT sa) sb (sC (.bl false))) :=
  PE.imp (pe_and ha hb) fun σV H Q ⟨m, h, σ, A, o⟩ => by
    have o' : Out X.K X.mg (RT X.K X.mg) W σV Q m H ((sa σ h).bind fun t h1 => match t with | .bl k => (if k = true then sb σ h1 else .ok (.bl false) h1) | _ => .stk) := by
      have e : sIf (sT sa) sb (sC (.bl false)) σ h = ((sa σ h).bind fun t h1 => match t with | .bl k => (if k = true then sb σ h1 else .ok (.bl false) h1) | _ => .stk) := by
        unfold sIf sT sC
        cases sa σ h with
        | ok t h1 => cases t <;> rfl
        | exc c fs h1 => rfl
        | stk => rfl
      rw [e] at o; exact o
    refine A.first (rel1 := RT X.K X.mg) o' fun m1 h1 t x H1 E1 r A1 o1 => ?_
    cases r with
    | bl k =>
      refine ⟨k, rfl, ?_⟩
      cases k with
      | true => exact ⟨m1, h1, σ, A1, o1⟩
      | false => exact o1 _ m1 H1 (Ext.refl _ _) (.bl _) A1.hr
    | _ => exact False.elim o1
theorem de_or (ha : DE X P W a sa) (hb : DE X P W (.BoolOp .Or (b :: rest) pos) sb) : DE X P W (.BoolOp .Or (a :: b :: rest) pos) (sIf (sT sa) (sC (.bl true)) sb) :=
  PE.imp (pe_or ha hb) fun σV H Q ⟨m, h, σ, A, o⟩ => by
    have o' : Out X.K X.mg (RT X.K X.mg) W σV Q m H ((sa σ h).bind fun t h1 => match t with | .bl k => (if k = true then .ok (.bl true) h1 else sb σ h1) | _ => .stk) := by
      have e : sIf (sT sa) (sC (.bl true)) sb σ h = ((sa σ h).bind fun t h1 => match t with | .bl k => (if k = true then .ok (.bl true) h1 else sb σ h1) | _ => .stk) := by
        unfold sIf sT sC
        cases sa σ h with
        | ok t h1 => cases t <;> rfl
        | exc c fs h1 => rfl
        | stk => rfl
      rw [e] at o; exact o
    refine A.first (rel1 := RT X.K X.mg) o' fun m1 h1 t x H1 E1 r A1 o1 => ?_
    cases r with
    | bl k =>
      refine ⟨k, rfl, ?_⟩
      cases k with
      | true => exact o1 _ m1 H1 (Ext.refl _ _) (.bl _) A1.hr
      | false => exact ⟨m1, h1, σ, A1, o1⟩
    | _ => exact False.elim o1
theorem de_not (ha : DE X P W a sa) : DE X P W (.UnaryOp .Not a pos) (sB (stNot (sT sa))) :=
  PE.imp (pe_not ha) fun σV H Q ⟨m, h, σ, A, o⟩ => by
    have o' : Out X.K X.mg (RT X.K X.mg) W σV Q m H ((sa σ h).bind fun t h1 => match t with | .bl k => .ok (.bl (!k)) h1 | _ => .stk) := by
      have e : sB (stNot (sT sa)) σ h = ((sa σ h).bind fun t h1 => match t with | .bl k => .ok (.bl (!k)) h1 | _ => .stk) := by
        unfold sB stNot sT
        cases sa σ h with
        | ok t h1 => cases t <;> rfl
        | exc c fs h1 => rfl
        | stk => rfl
      rw [e] at o; exact o
    refine A.first (rel1 := RT X.K X.mg) o' fun m1 h1 t x H1 E1 r A1 o1 => ?_
    cases r with
    | bl k => exact ⟨k, rfl, o1 _ m1 H1 (Ext.refl _ _) (.bl _) A1.hr⟩
    | _ => exact False.elim o1
theorem de_if (hc : DT X P W c ta) (ha : DE X P W a sa) (hb : DE X P W b sb) : DE X P W (.IfExp c a b pos) (sIf ta sa sb) := PE.imp (pe_ifExp hc ha hb) fun σV H Q ⟨m, h, σ, A, o⟩ => by
  refine A.first (rel1 := fun _ _ a b => a = b) o fun m1 h1 t x H1 E1 r A1 o1 => ?_
  subst r
  cases t with
  | true => exact ⟨m1, h1, σ, A1, o1⟩
  | false => exact ⟨m1, h1, σ, A1, o1⟩
/-- a op b op' c -/
theorem chain {f g : T → T → Hh → Res T} (hf : NoX2 f) (hg : NoX2 g) {σV : L2.St} {H : Hp} {Q : VK} (h : tI X.K X.mg P W (sChain f g sa sb sc) σV H Q) :
    tChain (rP2 X.K X.mg f) (rP2 X.K X.mg g) (tI X.K X.mg P W sa) (tI X.K X.mg P W sb) (tI X.K X.mg P W sc) σV H Q := by
  obtain ⟨m, h, σ, A, o⟩ := h
  refine A.first (rel1 := RT X.K X.mg) o fun m1 h1 t1 x H1 E1 r1 A1 o1 => ?_
  refine A1.first (rel1 := RT X.K X.mg) o1 fun m2 h2 t2 y H2 E2 r2 A2 o2 => ?_
  refine ⟨m2, h2, t1, t2, r1.ext E2, r2, A2.hr, ?_⟩
  have o3 := (Out.bind (rel1 := RT X.K X.mg) o2).outP (hf t1 t2 h2)
  cases e : f t1 t2 h2 with
  | exc c fs h' => exact absurd e (hf _ _ _ _ _ _)
  | stk => rw [e] at o3; exact False.elim o3
  | ok z h3 =>
    rw [e] at o3
    intro v m3 H3 E3 rv R3
    obtain ⟨m4, h4, z', E4, rz, R4, o4⟩ := o3 v m3 H3 E3 rv R3
    cases rz with
    | bl k =>
      refine ⟨k, rfl, ?_⟩
      have A4 := A2.ext E4 R4
      cases k with
      | true =>
        refine A4.first (rel1 := RT X.K X.mg) o4 fun m5 h5 t5 w H5 E5 r5 A5 o5 => ?_
        exact ⟨m5, h5, t2, t5, (r2.ext E4).ext E5, r5, A5.hr, o5.outP (hg _ _ _)⟩
      | false => exact o4 _ m4 H3 (Ext.refl _ _) (.bl _) R4
    | _ => exact False.elim o4
/-! ### displays -/
theorem da_nil : DA X P W [] saNil := PA.imp pa_nil fun σV H Q ⟨m, h, σ, A, o⟩ => o [] m H (Ext.refl _ _) .nil A.hr
theorem da_cons (ha : DE X P W a sa) (hr : DA X P W es ar) (hs : starEach (a :: es) X.env = (false, eval a X.env) :: starEach es X.env := by rfl) : DA X P W (a :: es) (saCons sa ar) :=
  PA.imp (pa_cons ha hr hs) fun σV H Q ⟨m, h, σ, A, o⟩ => by
    refine A.first (rel1 := RT X.K X.mg) o fun m1 h1 t1 x H1 E1 r1 A1 o1 => ?_
    refine A1.first (rel1 := RTs X.K X.mg) o1 fun m2 h2 t2 y H2 E2 r2 A2 o2 => ?_
    exact o2 _ m2 H2 (Ext.refl _ _) (.cons (r1.ext E2) r2) A2.hr
theorem de_tup {x1} (h : DA X P W es ar) : DE X P W (.Tuple es x1 pos) (sTup ar) := PE.imp (pe_tupN h) fun σV H Q ⟨m, h, σ, A, o⟩ => by
  refine A.first (rel1 := RTs X.K X.mg) o fun m1 h1 t1 x H1 E1 r1 A1 o1 => ?_
  split at o1
  · rename_i hz
    refine ⟨by rw [← r1.length]; exact hz, fun p ob hp hd => ?_⟩
    exact OutP.newTup A1.hr r1 (o1.outP (fun _ _ _ z => by cases z)) hp hd
  · exact False.elim o1
theorem de_lst (h : DA X P W es ar) : DE X P W (.List es pos) (sLst ar) := PE.imp (pe_lst h) fun σV H Q ⟨m, h, σ, A, o⟩ => by
  refine A.first (rel1 := RTs X.K X.mg) o fun m1 h1 t1 x H1 E1 r1 A1 o1 => ?_
  split at o1
  · rename_i hz
    refine ⟨by rw [← r1.length]; exact hz, fun p hp => ?_⟩
    exact OutP.newLst A1.hr r1 (o1.outP (fun _ _ _ z => by cases z)) hp
  · exact False.elim o1
end
end W3
end

section
/-! WE: items, slices, fields, chains, calls of built-ins, methods of lists. -/
namespace W3
open PySem PySem.Spec PyProof.Rows
open L2
section
variable {X : Cx} {P : Pq} {W : WX} {a b c : Expr} {sa sb sc : SE} {pos p2 : Pos} {es : List Expr} {ar : SA} {ta tb : ST} {rest : List Expr}
theorem de_chain {op op' : CmpOp} {f g : T → T → Hh → Res T} (ho : OpR X (compareOp op) (rP2 X.K X.mg f)) (ho' : OpR X (compareOp op') (rP2 X.K X.mg g)) (hf : NoX2 f) (hg : NoX2 g) (ha : DE X P W a sa) (hb : DE X P W b sb) (hc : DE X P W c sc)
    (hm : lastMarks [op, op'] [b, c] = false := by with_unfolding_all rfl) : DE X P W (.Compare a [op, op'] [b, c] pos) (sChain f g sa sb sc) := PE.imp (pe_chain ho ho' ha hb hc hm) fun _ _ _ h => chain hf hg h
theorem dt_chain {op op' : CmpOp} {f g : T → T → Hh → Res T} (ho : OpR X (compareOp op) (rP2 X.K X.mg f)) (ho' : OpR X (compareOp op') (rP2 X.K X.mg g)) (hf : NoX2 f) (hg : NoX2 g) (ha : DE X P W a sa) (hb : DE X P W b sb) (hc : DE X P W c sc)
    (hm : lastMarks [op, op'] [b, c] = false := by with_unfolding_all rfl) : DT X P W (.Compare a [op, op'] [b, c] pos) (sT (sChain f g sa sb sc)) := PT.imp (pt_chain ho ho' ha hb hc hm) fun σV H Q ⟨m, h, σ, A, o⟩ => by
  refine chain hf hg (A.first (rel1 := RT X.K X.mg) o fun m1 h1 t x H1 E1 r A1 o1 => ?_)
  cases r with
  | bl k => exact ⟨k, rfl, o1 k m1 H1 (Ext.refl _ _) rfl A1.hr⟩
  | _ => exact False.elim o1
/-! ### items -/
theorem RTs.atI {m : Mp} {H : Hp} {ts : List T} {vs : List V} (r : RTs X.K X.mg m H ts vs) {i : Int} {t : T} (e : L2.atI ts i = some t) : ∃ v, L2.atI vs i = some v ∧ RT X.K X.mg m H t v := by
  unfold L2.atI at e ⊢
  rw [← r.length]
  cases q : ixN ts.length i with
  | none => rw [q] at e; cases e
  | some j =>
    rw [q] at e
    exact r.get (show ts[j]? = some t from e)
theorem strOk_one {c : Nat} {z : Str} (hz : PyData.strOk z = true) {i : Int} (e : L2.atI z.cps.toList i = some c) : PyData.strOk ⟨#[c]⟩ = true := by
  obtain ⟨j, _, h, _⟩ := atI_get e
  have hm : c ∈ z.cps.toList := List.mem_of_getElem? h
  unfold PyData.strOk at *
  rw [← Array.all_toList, List.all_eq_true] at hz
  have := hz c hm
  simpa using this
theorem ixs : IxR X (rP2 X.K X.mg oIx) := by
  intro value slice pins s σ H x y v u Q I rx ry ⟨m, h, tx, ty, r1, r2, R, o⟩ hs
  cases r2 with
  | int i =>
    cases r1 with
    | @tup a vs ts hq r =>
      have o' : OutP X.K X.mg Q m H (match L2.atI ts i with | some t => .ok t h | none => .stk) := o
      split at o'
      · rename_i t e
        obtain ⟨w, e2, rw⟩ := r.atI e
        exact ix_tup value slice pins s σ H _ _ v u Q I rx ry ⟨_, _, i, w, rfl, rfl, hq, e2, o' _ m H (Ext.refl _ _) rw R⟩ hs
      · exact False.elim o'
    | @fl a vs ts hq r =>
      have o' : OutP X.K X.mg Q m H (match L2.atI ts i with | some t => .ok t h | none => .stk) := o
      split at o'
      · rename_i t e
        obtain ⟨w, e2, rw⟩ := r.atI e
        exact ix_list value slice pins s σ H _ _ v u Q I rx ry ⟨_, _, i, w, rfl, rfl, hq.sq, e2, o' _ m H (Ext.refl _ _) rw R⟩ hs
      · exact False.elim o'
    | @ref l a e1 =>
      have o' : OutP X.K X.mg Q m H (match lstAt h l with
        | some ts => (match L2.atI ts i with | some t => .ok t h | none => .stk)
        | none => .stk) := o
      split at o'
      · rename_i ts q1
        obtain ⟨vs, g1, r1⟩ := R.lst e1 q1
        split at o'
        · rename_i t e
          obtain ⟨w, e2, rw⟩ := r1.atI e
          exact ix_list value slice pins s σ H _ _ v u Q I rx ry ⟨_, _, i, w, rfl, rfl, SqL.of g1, e2, o' _ m H (Ext.refl _ _) rw R⟩ hs
        · exact False.elim o'
      · exact False.elim o'
    | @str z hz =>
      have o' : OutP X.K X.mg Q m H (if z.length ≤ sizeLine then (match L2.atI z.cps.toList i with | some c => .ok (.str ⟨#[c]⟩) h | none => .stk) else .stk) := o
      split at o'
      · rename_i hl
        split at o'
        · rename_i c e
          exact ix_str value slice pins s σ H _ _ v u Q I rx ry ⟨z, i, c, rfl, rfl, hl, e, o' _ m H (Ext.refl _ _) (.str (strOk_one hz e)) R⟩ hs
        · exact False.elim o'
      · exact False.elim o'
    | _ => exact False.elim o
  | _ => cases r1 <;> exact False.elim o
theorem de_ix (ha : DE X P W a sa) (hb : DE X P W b sb) (hs : PlainIx b := by intro _ _; rfl) : DE X P W (.Subscript a b pos) (s2 oIx sa sb) :=
  PE.imp (pe_ix ixs ha hb hs) fun σV H Q h => two nx_ix h
/-! ### slices -/
theorem RTs.cut {m : Mp} {H : Hp} {ts : List T} {vs : List V} (r : RTs X.K X.mg m H ts vs) (lo hi : Option Int) : RTs X.K X.mg m H (cutT ts lo hi) (cutV vs lo hi) := by
  unfold cutT cutV
  rw [← r.length]
  exact (r.drop _).take _
abbrev DO (X : Cx) (P : Pq) (W : WX) (e : Option Expr) (se : SO) : Prop := PO X e (tG X.K X.mg (fun _ _ a b => a = b) P W se)
theorem PO.imp {e : Option Expr} {t t' : TO} (h : PO X e t) (k : ∀ σ H Q, t' σ H Q → t σ H Q) : PO X e t' := ⟨fun pins s σ H Q I hw => h.run pins s σ H Q I (k _ _ _ hw)⟩
theorem do_none : DO X P W none soNone := PO.imp po_none fun σV H Q ⟨m, h, σ, A, o⟩ => o none m H (Ext.refl _ _) rfl A.hr
theorem do_some (h : DE X P W a sa) : DO X P W (some a) (soSome sa) := PO.imp (po_some h) fun σV H Q ⟨m, h, σ, A, o⟩ => by
  refine A.first (rel1 := RT X.K X.mg) o fun m1 h1 t x H1 E1 r A1 o1 => ?_
  cases r with
  | int i => exact ⟨i, rfl, o1 (some i) m1 H1 (Ext.refl _ _) rfl A1.hr⟩
  | _ => exact False.elim o1
def rPS (K : PySem.W.Frag) (mg : Str → Option Value) : V → Option Int → Option Int → Hp → VK → Prop := fun x lo hi H Q => ∃ m h t, RT K mg m H t x ∧ HR K mg m h H ∧ OutP K mg Q m H (oSl t lo hi h)
theorem strOk_cut {z : Str} (hz : PyData.strOk z = true) (lo hi : Option Int) : PyData.strOk (L2.cutS z lo hi) = true := by
  unfold PyData.strOk at hz ⊢
  rw [Array.all_eq_true_iff_forall_mem] at hz ⊢
  intro c hc
  refine hz c ?_
  unfold L2.cutS at hc
  have := List.mem_of_mem_drop (List.mem_of_mem_take (List.mem_toArray.mp hc))
  exact Array.mem_toList_iff.mp this
theorem sls : SlR X (rPS X.K X.mg) := by
  intro pins s σ H x v vl vu lo hi sl Q I rx hs pl pu ⟨m, h, t, r, R, o⟩
  cases r with
  | @tup a vs ts hq r =>
    refine sl_tupN pins s σ H _ v vl vu lo hi sl Q I rx hs pl pu ⟨a, vs, rfl, hq, fun ⟨e1, e2⟩ => ?_, fun _ p ob hp hd => ?_⟩
    · have hc : cutV vs lo hi = vs := by
        unfold cutV; rw [e1, e2]; simp
      have hr := r.cut lo hi
      rw [hc] at hr
      exact o _ m H (Ext.refl _ _) (.tup hq hr) R
    · exact OutP.newTup R (r.cut lo hi) o hp hd
  | @fl a vs ts hq r => exact sl_list pins s σ H _ v vl vu lo hi sl Q I rx hs pl pu ⟨a, vs, rfl, hq.sq, fun p hp => OutP.newLst R (r.cut lo hi) o hp⟩
  | @ref l a e1 =>
    have o' : OutP X.K X.mg Q m H (match lstAt h l with | some ts => alloc (.lst (cutT ts lo hi)) h | none => .stk) := o
    split at o'
    · rename_i ts q1
      obtain ⟨vs, g1, r1⟩ := R.lst e1 q1
      exact sl_list pins s σ H _ v vl vu lo hi sl Q I rx hs pl pu ⟨a, vs, rfl, SqL.of g1, fun p hp => OutP.newLst R (r1.cut lo hi) o' hp⟩
    · exact False.elim o'
  | @str z hz =>
    have o' : OutP X.K X.mg Q m H (if z.length ≤ sizeLine then .ok (.str (L2.cutS z lo hi)) h else .stk) := o
    split at o'
    · rename_i hl
      exact sl_str pins s σ H _ v vl vu lo hi sl Q I rx hs pl pu ⟨z, rfl, hl, o' _ m H (Ext.refl _ _) (.str (strOk_cut hz lo hi)) R⟩
    · exact False.elim o'
  | _ => exact False.elim o
theorem nx_sl (t : T) (lo hi : Option Int) (h : Hh) : ∀ c fs h', oSl t lo hi h ≠ .exc c fs h' := fun c fs h' e => by unfold oSl alloc at e; (repeat' split at e) <;> cases e
theorem de_sl {lo hi : Option Expr} {sl sh : SO} (ha : DE X P W a sa) (hl : DO X P W lo sl) (hh : DO X P W hi sh) : DE X P W (.Subscript a (.Slice lo hi none p2) pos) (sSl sa sl sh) :=
  PE.imp (pe_slice sls ha hl hh) fun σV H Q ⟨m, h, σ, A, o⟩ => by
    refine A.first (rel1 := RT X.K X.mg) o fun m1 h1 t x H1 E1 r A1 o1 => ?_
    refine A1.first (rel1 := fun _ _ a b => a = b) o1 fun m2 h2 l l' H2 E2 r2 A2 o2 => ?_
    refine A2.first (rel1 := fun _ _ a b => a = b) o2 fun m3 h3 u u' H3 E3 r3 A3 o3 => ?_
    subst r2; subst r3
    exact ⟨m3, h3, t, (r.ext E2).ext E3, A3.hr, o3.outP (nx_sl _ _ _ _)⟩
/-! ### fields -/
/-- what the text says of a class of the program and its attributes fs -/
def ClsF (K : PySem.W.Frag) (mg : Str → Option Value) (cs : List (Str × List Str)) : Prop := ∀ c fs C, (c, fs) ∈ cs → mg c = some (.ref C) → Cls K C ∧ ∀ f ∈ fs, NoAttr K C f
def oFldC (cs : List (Str × List Str)) (f : Str) (x : T) (h : Hh) : Res T :=
  match x with
  | .ref l => match insAt h l with
    | some (c, fs) => match cs.lookup c with
      | some as => if as.contains f then (match fs.lookup f with | some t => .ok t h | none => .stk) else .stk
      | none => .stk
    | none => .stk
  | _ => .stk
theorem mem_of_lookup {α : Type} : ∀ {l : List (Str × α)} {c : Str} {x : α}, l.lookup c = some x → (c, x) ∈ l
  | [], _, _, e => by simp [List.lookup] at e
  | (d, y) :: r, c, x, e => by
    unfold List.lookup at e
    split at e
    · rename_i q
      have : c = d := by simpa using q
      subst this; cases e; exact List.mem_cons_self
    · exact List.mem_cons_of_mem _ (mem_of_lookup e)
theorem nx_fld (cs : List (Str × List Str)) (f : Str) : NoX1 (oFldC cs f) := fun x h c fs h' e => by unfold oFldC at e; (repeat' split at e) <;> cases e
theorem de_fld {cs : List (Str × List Str)} {f : Str} (C : ClsF X.K X.mg cs) (ha : DE X P W a sa) (hb : attributeBase a f X.env (eval a X.env) = eval a X.env := by rfl) : DE X P W (.Attribute a f pos) (s1 (oFldC cs f) sa) :=
  PE.imp (pe_fld ha hb) fun σV H Q h => by
    refine tG.mono (fun x H1 hq => ?_) (one (nx_fld cs f) h)
    obtain ⟨m, h, t, r, R, o⟩ := hq
    cases r with
    | @ref l a e1 =>
      have o' : OutP X.K X.mg Q m H1 (match insAt h l with
        | some (c, fs) => (match cs.lookup c with
          | some as => if as.contains f then (match fs.lookup f with | some t => .ok t h | none => .stk) else .stk
          | none => .stk)
        | none => .stk) := o
      split at o'
      · rename_i c fs q1
        obtain ⟨Ca, dx, fv, g1, g2, rf⟩ := R.ins e1 q1
        split at o'
        · rename_i as q2
          split at o'
          · rename_i hc
            split at o'
            · rename_i t q3
              obtain ⟨v, e3, rv⟩ := rf.lookup q3
              obtain ⟨k1, k2⟩ := C c as Ca (mem_of_lookup q2) g1
              exact ⟨a, Ca, dx, fv, v, rfl, g2, k1, k2 f (by simpa using hc), e3, o' _ m H1 (Ext.refl _ _) rv R⟩
            · exact False.elim o'
          · exact False.elim o'
        · exact False.elim o'
      · exact False.elim o'
    | _ => exact False.elim o
/-! ### calls of built-ins -/
theorem args_of {f : List T → Hh → Res T} (hf : NoXL f) {σV : L2.St} {H : Hp} {Q : VK} (h : tI X.K X.mg P W (sCl f ar) σV H Q) : tAr X.K X.mg P W ar σV H fun xs H1 => rPL X.K X.mg f xs H1 Q := by
  obtain ⟨m, h, σ, A, o⟩ := h
  refine A.first (rel1 := RTs X.K X.mg) o fun m1 h1 t1 x H1 E1 r1 A1 o1 => ?_
  exact ⟨m1, h1, t1, r1, A1.hr, o1.outP (hf _ _)⟩
theorem de_callB {id : String} {x : Str} {p : Pos} {f : List T → Hh → Res T} (hc : CallR X (.builtin id) (rPL X.K X.mg f)) (hf : NoXL f) (hg : Gl X x) (hm : X.mg x = none) (hv : bootBuiltins x = some (.builtin id)) (ha : DA X P W (a :: es) ar) (hn : x ≠ "__name__" := by decide) (hdb : (x == ("__debug__" : Str)) = false := by decide)
    (he : starEach (a :: es) X.env = (false, eval a X.env) :: starEach es X.env := by rfl) (hpl : (backTo pos (starEach es X.env)).any (·.1) = false := by rfl) : DE X P W (.Call (.Name x p) (a :: es) [] pos) (sCl f ar) :=
  PE.imp (pe_callB hc hg hm hv ha hn hdb he hpl) fun σV H Q h => args_of hf h
theorem de_callTy {T' : String} {x : Str} {p : Pos} {f : List T → Hh → Res T} (hc : CallR X (.type T') (rPL X.K X.mg f)) (hf : NoXL f) (hg : Gl X x) (hm : X.mg x = none) (hv : bootBuiltins x = some (.type T')) (ha : DA X P W (a :: es) ar) (hn : x ≠ "__name__" := by decide) (hdb : (x == ("__debug__" : Str)) = false := by decide)
    (he : starEach (a :: es) X.env = (false, eval a X.env) :: starEach es X.env := by rfl) (hpl : (backTo pos (starEach es X.env)).any (·.1) = false := by rfl) : DE X P W (.Call (.Name x p) (a :: es) [] pos) (sCl f ar) :=
  PE.imp (pe_callTy hc hg hm hv ha hn hdb he hpl) fun σV H Q h => args_of hf h
theorem nx_len : NoXL bLen := fun x h c fs h' e => by unfold bLen at e; (repeat' split at e) <;> cases e
theorem nx_bint : NoXL bInt := fun x h c fs h' e => by unfold bInt at e; (repeat' split at e) <;> cases e
theorem nx_tuple : NoXL bTuple := fun x h c fs h' e => by unfold bTuple at e; (repeat' split at e) <;> cases e
theorem nx_list : NoXL bList := fun x h c fs h' e => by unfold bList alloc at e; (repeat' split at e) <;> cases e
theorem RTs.one {m : Mp} {H : Hp} {t : T} {vs : List V} (r : RTs X.K X.mg m H [t] vs) : ∃ v, vs = [v] ∧ RT X.K X.mg m H t v := by
  cases r with
  | cons r q => cases q; exact ⟨_, rfl, r⟩
theorem cs_len : CallR X (.builtin "len") (rPL X.K X.mg bLen) := by
  intro pins s σ H xs us Q I ru ⟨m, h, ts, r, R, o⟩
  unfold bLen at o
  split at o
  · obtain ⟨v, rfl, r1⟩ := r.one
    cases r1 with
    | tup hq r2 => exact call_len_seq pins s σ H _ us Q I ru ⟨_, _, rfl, .inr hq, by rw [← r2.length]; exact o _ m H (Ext.refl _ _) (.int _) R⟩
  · obtain ⟨v, rfl, r1⟩ := r.one
    cases r1 with
    | fl hq r2 => exact call_len_seq pins s σ H _ us Q I ru ⟨_, _, rfl, .inl hq.sq, by rw [← r2.length]; exact o _ m H (Ext.refl _ _) (.int _) R⟩
  · obtain ⟨v, rfl, r1⟩ := r.one
    split at o
    · rename_i hz
      cases r1 with
      | str hq => exact call_len_str pins s σ H _ us Q I ru ⟨_, rfl, hz, o _ m H (Ext.refl _ _) (.int _) R⟩
    · exact False.elim o
  · obtain ⟨v, rfl, r1⟩ := r.one
    split at o
    · rename_i ts q1
      cases r1 with
      | ref e1 =>
        obtain ⟨vs, g1, r2⟩ := R.lst e1 q1
        exact call_len_seq pins s σ H _ us Q I ru ⟨_, _, rfl, .inl (SqL.of g1), by rw [← r2.length]; exact o _ m H (Ext.refl _ _) (.int _) R⟩
    · exact False.elim o
  · exact False.elim o
theorem cs_int : CallR X (.type "int") (rPL X.K X.mg bInt) := by
  intro pins s σ H xs us Q I ru ⟨m, h, ts, r, R, o⟩
  unfold bInt at o
  split at o
  · obtain ⟨v, rfl, r1⟩ := r.one
    cases r1 with
    | int i => exact call_int1 pins s σ H _ us Q I ru (.inl ⟨_, rfl, o _ m H (Ext.refl _ _) (.int _) R⟩)
  · exact False.elim o
theorem cs_tuple : CallR X (.type "tuple") (rPL X.K X.mg bTuple) := by
  intro pins s σ H xs us Q I ru ⟨m, h, ts, r, R, o⟩
  unfold bTuple at o
  split at o
  · obtain ⟨v, rfl, r1⟩ := r.one
    cases r1 with
    | tup hq r2 => exact call_tupleN pins s σ H _ us Q I ru ⟨_, _, rfl, .inr ⟨hq.t, o _ m H (Ext.refl _ _) (.tup hq r2) R⟩⟩
  · obtain ⟨v, rfl, r1⟩ := r.one
    cases r1 with
    | fl hq r2 => exact call_tupleN pins s σ H _ us Q I ru ⟨_, _, rfl, .inl ⟨hq.sq, fun p ob hp hd => OutP.newTup R r2 o hp hd⟩⟩
  · obtain ⟨v, rfl, r1⟩ := r.one
    split at o
    · rename_i ts q1
      cases r1 with
      | ref e1 =>
        obtain ⟨vs, g1, r2⟩ := R.lst e1 q1
        exact call_tupleN pins s σ H _ us Q I ru ⟨_, _, rfl, .inl ⟨SqL.of g1, fun p ob hp hd => OutP.newTup R r2 o hp hd⟩⟩
    · exact False.elim o
  · exact False.elim o
theorem cs_list : CallR X (.type "list") (rPL X.K X.mg bList) := by
  intro pins s σ H xs us Q I ru ⟨m, h, ts, r, R, o⟩
  unfold bList at o
  split at o
  · obtain ⟨v, rfl, r1⟩ := r.one
    cases r1 with
    | tup hq r2 => exact call_list_of pins s σ H _ us Q I ru ⟨_, _, rfl, .inr hq, fun p hp => OutP.newLst R r2 o hp⟩
  · obtain ⟨v, rfl, r1⟩ := r.one
    cases r1 with
    | fl hq r2 => exact call_list_of pins s σ H _ us Q I ru ⟨_, _, rfl, .inl hq.sq, fun p hp => OutP.newLst R r2 o hp⟩
  · obtain ⟨v, rfl, r1⟩ := r.one
    split at o
    · rename_i ts q1
      cases r1 with
      | ref e1 =>
        obtain ⟨vs, g1, r2⟩ := R.lst e1 q1
        exact call_list_of pins s σ H _ us Q I ru ⟨_, _, rfl, .inl (SqL.of g1), fun p hp => OutP.newLst R r2 o hp⟩
    · exact False.elim o
  · exact False.elim o
end
end W3
end

section
/-! WF: what is walked, targets, comprehensions. -/
namespace W3
open PySem PySem.Spec PyProof.Rows
open L2
/-- the iterator J walks what s tells -/
structure SrcJ (K : PySem.W.Frag) (mg : Str → Option Value) (m : Mp) (H : Hp) (s : Src) (J : It) : Prop where
  go : ∀ m' h' H' i x, Tr m H m' H' → HR K mg m' h' H' → s.at h' i = some (some x) → J.go i H' ∧ ∀ y H2, J.yld i H' y H2 → Ext m' H' m' H2 ∧ HR K mg m' h' H2 ∧ RT K mg m' H2 x y
  stop : ∀ m' h' H' i, Tr m H m' H' → HR K mg m' h' H' → s.at h' i = some none → J.stop i H'
theorem SrcJ.ext {K : PySem.W.Frag} {mg : Str → Option Value} {m m1 : Mp} {H H1 : Hp} {s : Src} {J : It} (S : SrcJ K mg m H s J) (E : Ext m H m1 H1) : SrcJ K mg m1 H1 s J :=
  ⟨fun m' h' H' i x E' => S.go m' h' H' i x (E.tr.trans E'), fun m' h' H' i E' => S.stop m' h' H' i (E.tr.trans E')⟩
section
variable {K : PySem.W.Frag} {mg : Str → Option Value} {m : Mp} {H : Hp}
theorem srcj_tup {a : Addr} {vs : List V} {ts : List T} (hq : SqT K H a vs) (r : RTs K mg m H ts vs) : SrcJ K mg m H (.its ts) (Itt K a) where
  go := fun m' h' H' i x E R e => by
    have e' : ts[i]? = some x := Option.some.inj e
    obtain ⟨v, ev, rv⟩ := r.get e'
    refine ⟨⟨vs, v, SqT.tr E hq, ev⟩, fun y H2 ⟨e1, e2⟩ => ?_⟩
    subst e1
    have := e2 vs (SqT.tr E hq)
    rw [ev] at this; cases this
    exact ⟨Ext.refl _ _, R, rv.tr E⟩
  stop := fun m' h' H' i E R e => by
    have e' : ts[i]? = none := Option.some.inj e
    refine ⟨vs, SqT.tr E hq, ?_⟩
    rw [← r.length]
    exact List.getElem?_eq_none_iff.mp e'
theorem srcj_fl {a : Addr} {vs : List V} {ts : List T} (hq : SqF K H a vs) (r : RTs K mg m H ts vs) : SrcJ K mg m H (.its ts) (Itl K a) where
  go := fun m' h' H' i x E R e => by
    have e' : ts[i]? = some x := Option.some.inj e
    obtain ⟨v, ev, rv⟩ := r.get e'
    refine ⟨⟨vs, v, (SqF.tr E hq).sq, ev⟩, fun y H2 ⟨e1, e2⟩ => ?_⟩
    subst e1
    have := e2 vs (SqF.tr E hq).sq
    rw [ev] at this; cases this
    exact ⟨Ext.refl _ _, R, rv.tr E⟩
  stop := fun m' h' H' i E R e => by
    have e' : ts[i]? = none := Option.some.inj e
    refine ⟨vs, (SqF.tr E hq).sq, ?_⟩
    rw [← r.length]
    exact List.getElem?_eq_none_iff.mp e'
theorem srcj_live {l : Nat} {a : Addr} (hl : m l = some a) : SrcJ K mg m H (.live l) (Itl K a) where
  go := fun m' h' H' i x E R e => by
    have e' : (match lstAt h' l with | some ts => some ts[i]? | none => none) = some (some x) := e
    split at e'
    · rename_i ts q
      have e2 : ts[i]? = some x := Option.some.inj e'
      obtain ⟨vs, g, r⟩ := R.lst (E.mono _ _ hl) q
      obtain ⟨v, ev, rv⟩ := r.get e2
      refine ⟨⟨vs, v, SqL.of g, ev⟩, fun y H2 ⟨e1, e2⟩ => ?_⟩
      subst e1
      have := e2 vs (SqL.of g)
      rw [ev] at this; cases this
      exact ⟨Ext.refl _ _, R, rv⟩
    · cases e'
  stop := fun m' h' H' i E R e => by
    have e' : (match lstAt h' l with | some ts => some ts[i]? | none => none) = some none := e
    split at e'
    · rename_i ts q
      have e2 : ts[i]? = none := Option.some.inj e'
      obtain ⟨vs, g, r⟩ := R.lst (E.mono _ _ hl) q
      refine ⟨vs, SqL.of g, ?_⟩
      rw [← r.length]
      exact List.getElem?_eq_none_iff.mp e2
    · cases e'
theorem rangeT_get : ∀ (n : Nat) (lo : Int) (i : Nat), (rangeT lo n)[i]? = if i < n then some (.int (lo + i)) else none
  | 0, lo, i => by simp [rangeT]
  | n + 1, lo, 0 => by simp [rangeT]
  | n + 1, lo, i + 1 => by
    show (rangeT (lo + 1) n)[i]? = _
    rw [rangeT_get n (lo + 1) i]
    by_cases h : i < n
    · rw [if_pos h, if_pos (by omega)]
      congr 2
      push_cast
      omega
    · rw [if_neg h, if_neg (by omega)]
theorem srcj_range (lo : Int) (n : Nat) : SrcJ K mg m H (.its (rangeT lo n)) (Itr lo n) where
  go := fun m' h' H' i x E R e => by
    have e' : (rangeT lo n)[i]? = some x := Option.some.inj e
    rw [rangeT_get] at e'
    split at e'
    · rename_i hi
      cases e'
      refine ⟨hi, fun y H2 ⟨e1, e2⟩ => ?_⟩
      subst e1; subst e2
      exact ⟨Ext.refl _ _, R, .int _⟩
    · cases e'
  stop := fun m' h' H' i E R e => by
    have e' : (rangeT lo n)[i]? = none := Option.some.inj e
    rw [rangeT_get] at e'
    split at e'
    · cases e'
    · rename_i hi
      exact Nat.le_of_not_lt hi
theorem srcj_str {z : Str} (hz : PyData.strOk z = true) : SrcJ K mg m H (.its (z.cps.toList.map fun c => .str ⟨#[c]⟩)) (Its z) where
  go := fun m' h' H' i x E R e => by
    have e' : (z.cps.toList.map fun c => T.str ⟨#[c]⟩)[i]? = some x := Option.some.inj e
    rw [List.getElem?_map] at e'
    cases q : z.cps.toList[i]? with
    | none => rw [q] at e'; cases e'
    | some c =>
      rw [q] at e'
      have e2 : T.str ⟨#[c]⟩ = x := Option.some.inj e'
      subst e2
      have hi : i < z.cps.size := by
        have := (List.getElem?_eq_some_iff.mp q).1
        simpa using this
      refine ⟨hi, fun y H2 ⟨e1, c', e3, e4⟩ => ?_⟩
      subst e1; subst e4
      have e5 : z.cps[i]? = some c := by rw [← Array.getElem?_toList]; exact q
      rw [e5] at e3; cases e3
      refine ⟨Ext.refl _ _, R, .str ?_⟩
      unfold PyData.strOk at *
      rw [← Array.all_toList, List.all_eq_true] at hz
      have := hz c (List.mem_of_getElem? q)
      simpa using this
  stop := fun m' h' H' i E R e => by
    have e' : (z.cps.toList.map fun c => T.str ⟨#[c]⟩)[i]? = none := Option.some.inj e
    have := List.getElem?_eq_none_iff.mp e'
    show z.cps.size ≤ i
    simpa using this
end
abbrev DI (X : Cx) (P : Pq) (W : WX) (tg iter : Expr) (si : SI) : Prop := PI X tg iter (tG X.K X.mg (SrcJ X.K X.mg) P W si)
section
variable {X : Cx} {P : Pq} {W : WX} {a b c tg iter : Expr} {sa sb sc : SE} {pos : Pos} {es : List Expr} {ar : SA} {si : SI} {ta tb : ST} {rest : List Expr}
theorem PI.imp {tg iter : Expr} {t t' : TI} (h : PI X tg iter t) (k : ∀ σ H R, t' σ H R → t σ H R) : PI X tg iter t' := ⟨fun pins s σ H R I hw => h.run pins s σ H R I (k _ _ _ hw)⟩
/-- several readings of one iterable -/
theorem PI.or {tg iter : Expr} {t t' : TI} (h : PI X tg iter t) (h' : PI X tg iter t') : PI X tg iter (fun σ H R => t σ H R ∨ t' σ H R) := ⟨fun pins s σ H R I hw => by
  rcases hw with hw | hw
  · exact h.run pins s σ H R I hw
  · exact h'.run pins s σ H R I hw⟩
theorem iList_and {tl : TE} (hl : PE X iter tl) : PI X tg iter (fun σ H R => tl σ H fun x H1 => (∃ a, x = .ref a ∧ (∃ xs, SqL X.K H1 a xs) ∧ R (Itl X.K a) H1) ∨ (∃ a, x = .ref a ∧ (∃ xs, SqT X.K H1 a xs) ∧ R (Itt X.K a) H1) ∨ ∃ z, x = .str z ∧ R (Its z) H1) := by
  refine ⟨fun pins s σ H R I h => ?_⟩
  refine thn (hl.run pins s σ H _ I h) fun v s1 ⟨x, H1, I1, r1, q1⟩ => ?_
  rcases q1 with ⟨a, e, ⟨xs, hq⟩, q⟩ | ⟨a, e, ⟨xs, hq⟩, q⟩ | ⟨z, e, q⟩
  · subst e
    cases r1
    obtain ⟨its, rv, p, hz⟩ := I1.list hq
    refine wpAny_pyIter_list p.isList ?_
    refine ⟨s1.heap.objs.size, [s1.heap.objs.size], _, _, H1, rfl, I1.kept (t' := s1.toks) fun b o e => Heap.get?_push_of_some _ e, turn_list a _, ⟨_, Heap.get?_push_size _ rfl, rfl, rfl⟩, fun b hb => ?_, q⟩
    have e : b = s1.heap.objs.size := by simpa using hb
    subst e
    exact I1.fpOk (Nat.le_refl _) (I1.hok.fresh (Nat.le_refl _))
  · subst e
    cases r1
    obtain ⟨its, rv, p, hz⟩ := I1.tuple hq
    refine wpAny_pyIter_tuple (show s1.heap.IsTuple a its.toArray from p) ?_
    refine ⟨s1.heap.objs.size, [s1.heap.objs.size], _, _, H1, rfl, I1.kept (t' := s1.toks) fun b o e => Heap.get?_push_of_some _ e, turn_tuple a _, ⟨_, Heap.get?_push_size _ rfl, rfl, rfl⟩, fun b hb => ?_, q⟩
    have e : b = s1.heap.objs.size := by simpa using hb
    subst e
    exact I1.fpOk (Nat.le_refl _) (I1.hok.fresh (Nat.le_refl _))
  · subst e
    obtain ⟨t, rfl⟩ := r1
    cases ha : z.cps.all (· < 128)
    · exact wpAny_pyIter_wide ha (pi_one (tk := s1.toks) I1 _ (turn_str _ z t "str_iterator" (.inr rfl)) ⟨_, Heap.get?_push_size _ rfl, rfl, rfl⟩ q)
    · exact wpAny_pyIter_ascii ha (pi_one (tk := s1.toks) I1 _ (turn_str _ z t "str_ascii_iterator" (.inl rfl)) ⟨_, Heap.get?_push_size _ rfl, rfl, rfl⟩ q)
/-- for .. in e: a tuple, a list, a text -/
theorem di_e (ha : DE X P W iter sa) : DI X P W tg iter (siE sa) := PI.imp (iList_and ha) fun σV H R ⟨m, h, σ, A, o⟩ => by
  refine A.first (rel1 := RT X.K X.mg) o fun m1 h1 t x H1 E1 r A1 o1 => ?_
  cases r with
  | @tup a vs ts hq r => exact .inr (.inl ⟨a, rfl, ⟨vs, hq⟩, o1 _ m1 H1 (Ext.refl _ _) (srcj_tup hq r) A1.hr⟩)
  | @fl a vs ts hq r => exact .inl ⟨a, rfl, ⟨vs, hq.sq⟩, o1 _ m1 H1 (Ext.refl _ _) (srcj_fl hq r) A1.hr⟩
  | @str z hz => exact .inr (.inr ⟨z, rfl, o1 _ m1 H1 (Ext.refl _ _) (srcj_str hz) A1.hr⟩)
  | @ref l a e1 =>
    have o' : Out X.K X.mg (SrcJ X.K X.mg) W σV R m1 H1 (match lstAt h1 l with | some _ => .ok (.live l) h1 | none => .stk) := o1
    split at o'
    · rename_i ts q1
      obtain ⟨vs, g1, r1⟩ := A1.hr.lst e1 q1
      exact .inl ⟨a, rfl, ⟨vs, SqL.of g1⟩, o' _ m1 H1 (Ext.refl _ _) (srcj_live e1) A1.hr⟩
    · exact False.elim o'
  | _ => exact False.elim o1
theorem di_range1 {p : Pos} (hg : Gl X "range") (hm : X.mg "range" = none) (ha : DA X P W [a] ar) (hs : starEach [a] X.env = [(false, eval a X.env)] := by rfl) : DI X P W tg (.Call (.Name "range" p) [a] [] pos) (siRange1 ar) :=
  PI.imp (pi_range1 hg hm ha hs) fun σV H R ⟨m, h, σ, A, o⟩ => by
    refine A.first (rel1 := RTs X.K X.mg) o fun m1 h1 ts x H1 E1 r A1 o1 => ?_
    unfold rngOf at o1
    split at o1
    · obtain ⟨v, rfl, r1⟩ := r.one
      cases r1 with
      | int _ =>
        rename_i j
        split at o1
        · rename_i hj
          exact ⟨j, rfl, hj.1, hj.2, o1 _ m1 H1 (Ext.refl _ _) (srcj_range 0 j.toNat) A1.hr⟩
        · exact False.elim o1
    · exact False.elim o1

/-! ### targets -/
/-- only the slots is are touched -/
def Only3 (is : List Nat) (σV σV' : L2.St) : Prop := σV'.length = σV.length ∧ ∀ j, j ∉ is → σV'[j]? = σV[j]?
def tTg (K : PySem.W.Frag) (mg : Str → Option Value) (P : Pq) (is : List Nat) (g : SG) : TG := fun v σV H Q => ∃ m h σ t, At K mg P m H σV σ h ∧ RT K mg m H t v ∧
  (match g t σ with | some σ' => ∀ σV', SR K mg m H σ' σV' → Only3 is σV σV' → Q σV' H | none => False)
def tTgs (K : PySem.W.Frag) (mg : Str → Option Value) (P : Pq) (is : List Nat) (g : SGs) : TGs := fun vs σV H Q => ∃ m h σ ts, At K mg P m H σV σ h ∧ RTs K mg m H ts vs ∧
  (match g ts σ with | some σ' => ∀ σV', SR K mg m H σ' σV' → Only3 is σV σV' → Q σV' H | none => False)
abbrev DG (X : Cx) (P : Pq) (tg : Expr) (is : List Nat) (g : SG) : Prop := PG X tg (tTg X.K X.mg P is g)
abbrev DGs (X : Cx) (P : Pq) (ts : List Expr) (is : List Nat) (g : SGs) : Prop := PGs X ts (tTgs X.K X.mg P is g)
theorem PG.imp {tg : Expr} {t t' : TG} (h : PG X tg t) (k : ∀ v σ H Q, t' v σ H Q → t v σ H Q) : PG X tg t' := ⟨fun pins s σ H v u Q I r hw => h.run pins s σ H v u Q I r (k _ _ _ _ hw)⟩
theorem PGs.imp {tg : List Expr} {t t' : TGs} (h : PGs X tg t) (k : ∀ v σ H Q, t' v σ H Q → t v σ H Q) : PGs X tg t' := ⟨fun pins s σ H v u Q I r hw => h.run pins s σ H v u Q I r (k _ _ _ _ hw)⟩
theorem SR.set {m : Mp} {H : Hp} {σ : St3} {σV : L2.St} (r : SR X.K X.mg m H σ σV) {t : T} {v : V} (q : RT X.K X.mg m H t v) (i : Nat) : SR X.K X.mg m H (σ.set i (some t)) (σV.set i (some v)) := by
  refine ⟨by rw [List.length_set, List.length_set]; exact r.1, fun j u e => ?_⟩
  by_cases hj : i = j
  · subst hj
    by_cases hi : i < σ.length
    · rw [List.getElem?_set_self hi] at e
      cases e
      exact ⟨v, by rw [List.getElem?_set_self (by rw [← r.1]; exact hi)], q⟩
    · rw [List.getElem?_eq_none (by rw [List.length_set]; omega)] at e
      cases e
  · rw [List.getElem?_set_ne hj] at e
    obtain ⟨w, e2, q2⟩ := r.2 j u e
    exact ⟨w, by rw [List.getElem?_set_ne hj]; exact e2, q2⟩
theorem dg_name {i : Nat} {x : Str} (hN : X.N.Nodup) (hi : X.N[i]? = some x) (hx : Loc X.env.scope x) (hf : X.fn x = true ∨ X.env.scope.names.lookup x = some .local := by first | exact .inl rfl | exact .inr rfl | assumption) : DG X P (.Name x pos) [i] (sgName i) :=
  PG.imp (pg_name hN hi hx hf) fun v σV H Q ⟨m, h, σ, t, A, r, q⟩ => by
    refine q (σV.set i (some v)) (A.sr.set r i) ⟨List.length_set, fun j hj => ?_⟩
    rw [List.getElem?_set_ne (fun e => hj (by simp [e]))]
theorem dgs_nil : DGs X P [] [] sgsNil := PGs.imp pgs_nil fun vs σV H Q ⟨m, h, σ, ts, A, r, q⟩ => by
  cases r with
  | nil => exact ⟨rfl, q σV A.sr ⟨rfl, fun _ _ => rfl⟩⟩
  | cons _ _ => exact False.elim q
theorem dgs_cons {e : Expr} {is js : List Nat} {g : SG} {gs : SGs} (h1 : DG X P e is g) (h2 : DGs X P es js gs) (hs : (assignEach (e :: es) X.env).map (·.2) = assign e X.env :: (assignEach es X.env).map (·.2) := by rfl) : DGs X P (e :: es) (is ++ js) (sgsCons g gs) :=
  PGs.imp (pgs_cons h1 h2 hs) fun vs σV H Q ⟨m, h, σ, ts, A, r, q⟩ => by
    cases r with
    | nil => exact False.elim q
    | @cons t ts v vs r rr =>
      refine ⟨v, vs, rfl, m, h, σ, t, A, r, ?_⟩
      have q' : (match (match g t σ with | some σ1 => gs ts σ1 | none => none) with | some σ' => ∀ σV', SR X.K X.mg m H σ' σV' → Only3 (is ++ js) σV σV' → Q σV' H | none => False) := q
      cases e1 : g t σ with
      | none => rw [e1] at q'; exact q'
      | some σ1 =>
        rw [e1] at q'
        intro σV1 s1 o1
        refine ⟨m, h, σ1, ts, ⟨s1, A.hr, A.pr⟩, rr, ?_⟩
        have q2 : (match gs ts σ1 with | some σ' => ∀ σV', SR X.K X.mg m H σ' σV' → Only3 (is ++ js) σV σV' → Q σV' H | none => False) := q'
        cases e2 : gs ts σ1 with
        | none => rw [e2] at q2; exact q2
        | some σ2 =>
          rw [e2] at q2
          intro σV2 s2 o2
          refine q2 σV2 s2 ⟨o2.1.trans o1.1, fun j hj => ?_⟩
          have hj' : j ∉ is ∧ j ∉ js := by simpa [not_or] using hj
          exact (o2.2 j hj'.2).trans (o1.2 j hj'.1)
theorem dg_tup {k n : Nat} {is : List Nat} {gs : SGs} (hc : X.calm = true) (h : DGs X P es is gs) (hn : (assignEach es X.env).length = n := by rfl) (hst : (assignEach es X.env).findIdx? (·.1) = none := by rfl) : DG X P (.Tuple es k pos) is (sgTup n gs) :=
  PG.imp (pg_tup hc h hn hst) fun v σV H Q ⟨m, h, σ, t, A, r, q⟩ => by
    cases r with
    | @tup a vs ts hq r =>
      have q' : (match (if ts.length = n then gs ts σ else none) with | some σ' => ∀ σV', SR X.K X.mg m H σ' σV' → Only3 is σV σV' → Q σV' H | none => False) := q
      split at q'
      · rename_i σ' e
        split at e
        · rename_i hl
          refine ⟨a, vs, rfl, hq, by rw [← r.length]; exact hl, m, h, σ, ts, A, r, ?_⟩
          rw [e]; exact q'
        · cases e
      · exact False.elim q'
    | _ => exact False.elim q

/-! ### list comprehensions -/
/-- the list D has just been made of the items; the small heap does not know it -/
def relL (K : PySem.W.Frag) (mg : Str → Option Value) (H0 : Hp) (m : Mp) (H : Hp) (ts : List T) (v : V) : Prop :=
  ∃ D vs, v = .ref D ∧ H0 D = none ∧ H D = some (.lst vs) ∧ RTs K mg m H ts vs ∧ ∀ l, m l ≠ some D
def tL (K : PySem.W.Frag) (mg : Str → Option Value) (P : Pq) (W : WX) (sa : SA) : TE := fun σV H Q => tG K mg (relL K mg H) P W sa σV H Q
abbrev DL (X : Cx) (P : Pq) (W : WX) (e : Expr) (sa : SA) : Prop := PE X e (tL X.K X.mg P W sa)
/-- a clause's tests -/
abbrev DTs (X : Cx) (P : Pq) (W : WX) (es : List Expr) (se : ST) : Prop := PTs X es (tTst X.K X.mg P W se)
theorem PTs.imp {es : List Expr} {t t' : TT} (h : PTs X es t) (k : ∀ σ H Q, t' σ H Q → t σ H Q) : PTs X es t' := ⟨fun pins s σ H Q I hw => h.run pins s σ H Q I (k _ _ _ hw)⟩
theorem dts_nil : DTs X P W [] stYes := PTs.imp pts_nil fun σV H Q ⟨m, h, σ, A, o⟩ => o true m H (Ext.refl _ _) rfl A.hr
theorem dts_one (h : DT X P W c ta) : DTs X P W [c] ta := pts_one h
def WF : WX := fun _ _ _ _ => False
theorem SR.wipe {m : Mp} {H : Hp} {σ : St3} {σV : L2.St} (r : SR X.K X.mg m H σ σV) : ∀ vs : List Nat, SR X.K X.mg m H (wipeT σ vs) (L2.wipe σV vs)
  | [] => r
  | v :: vs => by
    have ih := SR.wipe r vs
    refine ⟨by unfold wipeT L2.wipe; rw [List.length_set, List.length_set]; exact ih.1, fun j u e => ?_⟩
    unfold wipeT at e
    unfold L2.wipe
    by_cases hj : v = j
    · subst hj
      by_cases hi : v < (wipeT σ vs).length
      · rw [List.getElem?_set_self hi] at e; cases e
      · rw [List.getElem?_eq_none (by rw [List.length_set]; omega)] at e; cases e
    · rw [List.getElem?_set_ne hj] at e ⊢
      exact ih.2 j u e
theorem wipe_get (σV : L2.St) : ∀ (vs : List Nat) (j : Nat), (L2.wipe σV vs)[j]? = if j ∈ vs ∧ j < σV.length then some none else σV[j]?
  | [], j => by simp [L2.wipe]
  | v :: vs, j => by
    unfold L2.wipe
    by_cases hj : v = j
    · subst hj
      by_cases hi : v < σV.length
      · rw [List.getElem?_set_self (by rw [wipe_length]; exact hi), if_pos ⟨List.mem_cons_self, hi⟩]
      · rw [List.getElem?_eq_none (by rw [List.length_set, wipe_length]; omega), if_neg (fun z => hi z.2), List.getElem?_eq_none (by omega)]
    · rw [List.getElem?_set_ne hj, wipe_get σV vs j]
      have : (j ∈ v :: vs ∧ j < σV.length) ↔ (j ∈ vs ∧ j < σV.length) := by
        simp only [List.mem_cons]
        constructor
        · rintro ⟨z | z, w⟩
          · exact absurd z.symm hj
          · exact ⟨z, w⟩
        · rintro ⟨z, w⟩; exact ⟨.inr z, w⟩
      by_cases hh : j ∈ vs ∧ j < σV.length
      · rw [if_pos hh, if_pos (this.mpr hh)]
      · rw [if_neg hh, if_neg (fun z => hh (this.mp z))]
theorem wipe_only {is vs : List Nat} {σV σV' : L2.St} (hs : ∀ i ∈ is, i ∈ vs) (o : Only3 is (L2.wipe σV vs) σV') : L2.wipe σV' vs = L2.wipe σV vs := by
  apply List.ext_getElem?
  intro j
  rw [wipe_get, wipe_get]
  have hl : σV'.length = σV.length := by rw [o.1, wipe_length]
  by_cases hj : j ∈ vs ∧ j < σV.length
  · rw [if_pos (by rw [hl]; exact hj), if_pos hj]
  · rw [if_neg (by rw [hl]; exact hj), if_neg hj]
    by_cases hj2 : j ∈ vs
    · have : ¬ j < σV.length := fun z => hj ⟨hj2, z⟩
      rw [List.getElem?_eq_none (by omega), List.getElem?_eq_none (by omega)]
    · rw [o.2 j (fun z => hj2 (hs j z)), wipe_get, if_neg (fun z => hj2 z.1)]
theorem lc_read {is vs : List Nat} {g : SG} {tt : ST} {te : SE} (his : ∀ i ∈ is, i ∈ vs) {σV : L2.St} {H : Hp} {Q : VK} (h : tL X.K X.mg P W (saLc si g tt te vs) σV H Q) :
    tLc (tG X.K X.mg (SrcJ X.K X.mg) P W si) (tTg X.K X.mg P is g) (tTst X.K X.mg P WF tt) (tI X.K X.mg P WF te) vs σV H Q := by
  obtain ⟨m, h, σ, A, o⟩ := h
  refine A.first (rel1 := SrcJ X.K X.mg) o fun m1 h1 s J H1 E1 S A1 o1 D hD => ?_
  have hD0 : H D = none := by
    cases q : H D with
    | none => rfl
    | some u =>
      obtain ⟨w, e⟩ := E1.live D u q
      rw [hD] at e; cases e
  refine ⟨fun i k H' => ∃ m' h' acc accV, Ext m1 H1 m' H' ∧ HR X.K X.mg m' h' H' ∧ H' D = some (.lst accV) ∧ RTs X.K X.mg m' H' acc accV ∧ (∀ l, m' l ≠ some D) ∧
    Out X.K X.mg (relL X.K X.mg H) W σV Q m1 H1 (lcRun s g tt te (wipeT σ vs) k i acc h'), ⟨s.len h1, m1, h1, [], [], Ext.garbage A1.hr hD, A1.hr.garbage hD, upd_same, .nil, fun l e => ?_, o1⟩, ?_⟩
  · obtain ⟨u, e2, _⟩ := A1.hr.tracked e
    rw [hD] at e2; cases e2
  rintro i k H' ⟨m', h', acc, accV, E', R', hDl, racc, nD, o'⟩
  unfold lcRun at o'
  cases es : s.at h' i with
  | none => rw [es] at o'; exact False.elim o'
  | some ox =>
    cases ox with
    | none =>
      rw [es] at o'
      exact .inl ⟨S.stop m' h' H' i E'.tr R' es, o' _ m' H' E' ⟨D, accV, rfl, hD0, hDl, racc, nD⟩ R'⟩
    | some x =>
      rw [es] at o'
      cases k with
      | zero => exact False.elim o'
      | succ k =>
        obtain ⟨jg, jy⟩ := S.go m' h' H' i x E'.tr R' es
        refine .inr ⟨jg, _, fun H'' q => ⟨k, Nat.lt_succ_self k, q⟩, fun y H2 hy => ?_⟩
        obtain ⟨E2, R2, rx⟩ := jy y H2 hy
        have A2 : At X.K X.mg P m' H2 (L2.wipe σV vs) (wipeT σ vs) h' := ⟨((A1.sr.ext (E'.trans E2)).wipe vs), R2, P.st (E'.trans E2) A1.pr⟩
        refine ⟨m', h', wipeT σ vs, x, A2, rx, ?_⟩
        have keepD : ∀ {m3 H3}, Ext m' H2 m3 H3 → H3 D = some (.lst accV) ∧ ∀ l, m3 l ≠ some D := fun {m3 H3} E3 => by
          have d2 : H2 D = some (.lst accV) := E2.keep D _ hDl nD
          refine ⟨E3.keep D _ d2 nD, fun l e => ?_⟩
          rcases E3.fresh l D e with z | z
          · exact nD l z
          · rw [d2] at z; cases z
        dsimp only at o'
        cases eg : g x (wipeT σ vs) with
        | none => rw [eg] at o'; exact False.elim o'
        | some σ1 =>
          rw [eg] at o'
          intro σV1 s1 only
          refine ⟨wipe_only his only, m', h', σ1, ⟨s1, R2, A2.pr⟩, ?_⟩
          dsimp only at o'
          cases et : tt σ1 h' with
          | exc c fs h3 => rw [et] at o'; exact False.elim o'
          | stk => rw [et] at o'; exact False.elim o'
          | ok b h3 =>
            rw [et] at o'
            dsimp only at o'
            intro b' m3 H3 E3 eb R3
            subst eb
            cases b with
            | false =>
              rw [if_neg Bool.false_ne_true] at o' ⊢
              obtain ⟨d3, n3⟩ := keepD E3
              exact ⟨m3, h3, acc, accV, (E'.trans E2).trans E3, R3, d3, (racc.ext E2).ext E3, n3, o'⟩
            | true =>
              rw [if_pos rfl] at o' ⊢
              refine ⟨m3, h3, σ1, ⟨s1.ext E3, R3, P.st E3 A2.pr⟩, ?_⟩
              cases ee : te σ1 h3 with
              | exc c fs h4 => rw [ee] at o'; exact False.elim o'
              | stk => rw [ee] at o'; exact False.elim o'
              | ok t h4 =>
                rw [ee] at o'
                dsimp only at o'
                intro y' m4 H4 E4 rt R4
                obtain ⟨d4, n4⟩ := keepD (E3.trans E4)
                split at o'
                · rename_i hz
                  refine ⟨accV, d4, by rw [← racc.length]; exact hz, m4, h4, acc ++ [t], accV ++ [y'], ?_, R4.out d4 n4, upd_same, ?_, n4, o'⟩
                  · exact Ext.out (((E'.trans E2).trans E3).trans E4) hD
                  · have r4 := (((racc.ext E2).ext E3).ext E4).append (.cons rt .nil)
                    exact r4.tr (Tr.out d4)
                · exact False.elim o'
theorem dl_lc {elt : Expr} {ifs : List Expr} {scope : Scope} {own : List (Str × Nat)} {is : List Nat} {g : SG} {tt : ST} {te : SE} (hc : X.calm = true) (hN : X.N.Nodup) (hi : DI X P W tg iter si) (ok : BlkOk X.N X.env.scope scope own)
    (hg : ∀ (s : Shared) (H : Hp) (C : Addr) (cl : List (Str × Addr)) (fp : List Addr), DG (X.blk s H scope (compEnvC scope cl C X.env) fp) P tg is g)
    (ht : ∀ (s : Shared) (H : Hp) (C : Addr) (cl : List (Str × Addr)) (fp : List Addr), DTs (X.blk s H scope (compEnvC scope cl C X.env) fp) P WF ifs tt)
    (he : ∀ (s : Shared) (H : Hp) (C : Addr) (cl : List (Str × Addr)) (fp : List Addr), DE (X.blk s H scope (compEnvC scope cl C X.env) fp) P WF elt te)
    (his : ∀ i ∈ is, i ∈ own.map (·.2) := by decide) (hs : ∀ x, foldedSetIterable iter X.env x = pure x := by intro _; rfl) :
    DL X P W (.ListComp elt [⟨tg, iter, ifs, 0⟩] scope pos) (saLc si g tt te (own.map (·.2))) := by
  exact PE.imp (pe_lc (own := own) (wi := tG X.K X.mg (SrcJ X.K X.mg) P W si) (g := tTg X.K X.mg P is g) (tt := tTst X.K X.mg P WF tt) (te := tI X.K X.mg P WF te) hc hN hi ok hg ht he hs) fun σV H Q h => lc_read his h
/-- the list itself is kept -/
theorem lc_keep {sa : SA} {σV : L2.St} {H : Hp} {Q : VK} (h : tI X.K X.mg P W (sLc sa) σV H Q) : tL X.K X.mg P W sa σV H Q := by
  obtain ⟨m, h, σ, A, o⟩ := h
  refine ⟨m, h, σ, A, ?_⟩
  unfold sLc at o
  cases e : sa σ h with
  | exc c fs h1 => rw [e] at o; exact o
  | stk => rw [e] at o; exact o
  | ok ts h1 =>
    rw [e] at o
    rintro v m1 H1 E1 ⟨D, vs, rfl, hD, d1, r1, n1⟩ R1
    have o' : Out X.K X.mg (RT X.K X.mg) W σV Q m H (alloc (.lst ts) h1) := o
    have hne : ∀ l a, m1 l = some a → l ≠ h1.length := fun l a e => Nat.ne_of_lt (R1.dom l a e)
    have E2 : Ext m H (m1.put h1.length D) H1 := ⟨fun l a e => by rw [Mp.put_ne (hne l a (E1.mono l a e))]; exact E1.mono l a e, fun l a e => by
        by_cases hl : l = h1.length
        · subst hl; rw [Mp.put_same] at e; cases e; exact .inr hD
        · rw [Mp.put_ne hl] at e; exact E1.fresh l a e, E1.live, E1.keep, E1.tups, E1.frzs, E1.xds⟩
    have T2 : Tr m1 H1 (m1.put h1.length D) H1 := ⟨fun l a e => by rw [Mp.put_ne (hne l a e)]; exact e, fun _ _ q => q, fun _ _ _ q => q⟩
    refine o' _ (m1.put h1.length D) H1 E2 (.ref Mp.put_same) ⟨fun l a e => ?_, fun l l' a e e' => ?_, fun l u q => ?_⟩
    · rw [List.length_append, List.length_singleton]
      by_cases hl : l = h1.length
      · omega
      · rw [Mp.put_ne hl] at e; have := R1.dom l a e; omega
    · by_cases hl : l = h1.length
      · by_cases hl' : l' = h1.length
        · rw [hl, hl']
        · rw [hl, Mp.put_same] at e; cases e
          rw [Mp.put_ne hl'] at e'
          exact absurd e' (n1 l')
      · by_cases hl' : l' = h1.length
        · rw [hl', Mp.put_same] at e'; cases e'
          rw [Mp.put_ne hl] at e
          exact absurd e (n1 l)
        · rw [Mp.put_ne hl] at e; rw [Mp.put_ne hl'] at e'
          exact R1.inj l l' a e e'
    · by_cases hl : l < h1.length
      · rw [List.getElem?_append_left hl] at q
        obtain ⟨a, e1, r⟩ := R1.ob l u q
        exact ⟨a, T2.mono l a e1, r.moveT T2 rfl⟩
      · have : l = h1.length := by
          have := (List.getElem?_eq_some_iff.mp q).1
          rw [List.length_append, List.length_singleton] at this
          omega
        subst this
        simp at q
        subst q
        exact ⟨D, Mp.put_same, vs, d1, r1.tr T2⟩
theorem de_lc {e : Expr} {sa : SA} (h : DL X P W e sa) : DE X P W e (sLc sa) := PE.imp h fun σV H Q h => lc_keep h
end
end W3
end

section
/-! WG: statements. -/
namespace W3
open PySem PySem.Spec PyProof.Rows
open L2
section
variable (K : PySem.W.Frag) (mg : Str → Option Value)
def OutS (W : WX) (D : Ends) (m : Mp) (H : Hp) : Flo → Prop
  | .nx σ' h' => ∀ σV' m' H', Ext m H m' H' → SR K mg m' H' σ' σV' → HR K mg m' h' H' → D.nx σV' H'
  | .rt t h' => ∀ v m' H', Ext m H m' H' → RT K mg m' H' t v → HR K mg m' h' H' → D.rt v H'
  | .bk σ' h' => ∀ σV' m' H', Ext m H m' H' → SR K mg m' H' σ' σV' → HR K mg m' h' H' → D.bk σV' H'
  | .ct σ' h' => ∀ σV' m' H', Ext m H m' H' → SR K mg m' H' σ' σV' → HR K mg m' h' H' → D.ct σV' H'
  | .exc c fs σ' h' => ∀ cls d σV' m' H', Ext m H m' H' → SR K mg m' H' σ' σV' → XR K mg m' H' c fs cls d → HR K mg m' h' H' → W cls d σV' H'
  | .stk => False
def tS (P : Pq) (W : WX) (ss : SS) : TS := fun D σV H => ∃ m h σ, At K mg P m H σV σ h ∧ OutS K mg W D m H (ss σ h)
end
abbrev DS (X : Cx) (P : Pq) (W : WX) (st : Stmt) (ss : SS) : Prop := PS X st (tS X.K X.mg P W ss)
abbrev DSs (X : Cx) (P : Pq) (W : WX) (st : List Stmt) (ss : SS) : Prop := PSs X st (tS X.K X.mg P W ss)
section
variable {K : PySem.W.Frag} {mg : Str → Option Value} {m m' : Mp} {H H' : Hp} {h : Hh} {P : Pq} {W : WX} {σV : L2.St} {σ : St3} {D : Ends}
theorem OutS.ext {r : Flo} (E : Ext m H m' H') (o : OutS K mg W D m H r) : OutS K mg W D m' H' r := by
  cases r with
  | nx σ h => exact fun v m2 H2 E2 => o v m2 H2 (E.trans E2)
  | rt σ h => exact fun v m2 H2 E2 => o v m2 H2 (E.trans E2)
  | bk σ h => exact fun v m2 H2 E2 => o v m2 H2 (E.trans E2)
  | ct σ h => exact fun v m2 H2 E2 => o v m2 H2 (E.trans E2)
  | exc c fs σ h => exact fun c d v m2 H2 E2 => o c d v m2 H2 (E.trans E2)
  | stk => exact o
/-- an expression ahead of the rest of a statement -/
theorem At.flo {α β : Type} {rel1 : Mp → Hp → α → β → Prop} {se : St3 → Hh → Res α} {k : α → Hh → Flo} {Q1 : β → Hp → Prop} (A : At K mg P m H σV σ h) (o : OutS K mg W D m H ((se σ h).flo σ k))
    (q : ∀ m1 h1 a b H1, Ext m H m1 H1 → rel1 m1 H1 a b → At K mg P m1 H1 σV σ h1 → OutS K mg W D m1 H1 (k a h1) → Q1 b H1) : tG K mg rel1 P W se σV H Q1 := by
  refine ⟨m, h, σ, A, ?_⟩
  cases e : se σ h with
  | ok a h1 =>
    rw [e] at o
    exact fun b m1 H1 E1 r1 R1 => q m1 h1 a b H1 E1 r1 (A.ext E1 R1) (OutS.ext E1 o)
  | exc c fs h1 =>
    rw [e] at o
    exact fun cls d m1 H1 E1 x R1 => o cls d σV m1 H1 E1 (A.sr.ext E1) x R1
  | stk => rw [e] at o; exact o
end
section
variable {X : Cx} {P : Pq} {W : WX} {a b c tg iter : Expr} {sa sb sc : SE} {pos pos' : Pos} {es : List Expr} {ar : SA} {si : SI} {ta tb : ST} {st : Stmt} {rest body : List Stmt} {x1 x2 : SS}
theorem ds_nil : DSs X P W [] ssNil := PSs.imp pss_nil fun D σV H ⟨m, h, σ, A, o⟩ => o σV m H (Ext.refl _ _) A.sr A.hr
theorem ds_cons (h1 : DS X P W st x1) (h2 : DSs X P W rest x2) : DSs X P W (st :: rest) (ssCons x1 x2) := PSs.imp (pss_cons h1 h2) fun D σV H ⟨m, h, σ, A, o⟩ => by
  refine ⟨m, h, σ, A, ?_⟩
  have o' : OutS X.K X.mg W D m H ((x1 σ h).seq x2) := o
  cases e : x1 σ h with
  | nx σ1 h1 =>
    rw [e] at o'
    exact fun σV1 m1 H1 E1 s1 R1 => ⟨m1, h1, σ1, ⟨s1, R1, P.st E1 A.pr⟩, OutS.ext E1 o'⟩
  | rt t h1 => rw [e] at o'; exact o'
  | bk σ1 h1 => rw [e] at o'; exact o'
  | ct σ1 h1 => rw [e] at o'; exact o'
  | exc c fs σ1 h1 => rw [e] at o'; exact o'
  | stk => rw [e] at o'; exact o'
theorem ds_if {p q : List Stmt} (hc : DT X P W c ta) (ha : DSs X P W p x1) (hb : DSs X P W q x2) : DS X P W (.If c p q pos) (ssIf ta x1 x2) := PS.imp (ps_if hc ha hb) fun D σV H ⟨m, h, σ, A, o⟩ => by
  refine A.flo (rel1 := fun _ _ a b => a = b) o fun m1 h1 t x H1 E1 r A1 o1 => ?_
  subst r
  cases t with
  | true => exact ⟨m1, h1, σ, A1, o1⟩
  | false => exact ⟨m1, h1, σ, A1, o1⟩
theorem ds_ret (ha : DE X P W a sa) : DS X P W (.Return (some a) pos) (ssRet sa) := PS.imp (ps_ret ha) fun D σV H ⟨m, h, σ, A, o⟩ => by
  refine A.flo (rel1 := RT X.K X.mg) o fun m1 h1 t x H1 E1 r A1 o1 => ?_
  exact o1 x m1 H1 (Ext.refl _ _) r A1.hr
theorem ds_retN : DS X P W (.Return none pos) ssRetN := PS.imp ps_retN fun D σV H ⟨m, h, σ, A, o⟩ => o .non m H (Ext.refl _ _) .non A.hr
theorem ds_expr (ha : DE X P W a sa) (hs : swapsWith a none pos.line X.env = pure false := by rfl) : DS X P W (.Expr a pos) (ssExpr sa) := PS.imp (ps_expr ha hs) fun D σV H ⟨m, h, σ, A, o⟩ => by
  refine A.flo (rel1 := RT X.K X.mg) o fun m1 h1 t x H1 E1 r A1 o1 => ?_
  exact o1 σV m1 H1 (Ext.refl _ _) A1.sr A1.hr
theorem ds_break : DS X P W (.Break pos) ssBreak := PS.imp ps_break fun D σV H ⟨m, h, σ, A, o⟩ => o σV m H (Ext.refl _ _) A.sr A.hr
theorem ds_cont : DS X P W (.Continue pos) ssCont := PS.imp ps_continue fun D σV H ⟨m, h, σ, A, o⟩ => o σV m H (Ext.refl _ _) A.sr A.hr
theorem ds_pass : DS X P W (.Pass pos) ssNil := PS.imp ps_pass fun D σV H ⟨m, h, σ, A, o⟩ => o σV m H (Ext.refl _ _) A.sr A.hr
theorem asg_read {is : List Nat} {g : SG} {D : Ends} {σV : L2.St} {H : Hp} (h : tS X.K X.mg P W (ssAsg sa g) D σV H) : tAsg (tI X.K X.mg P W sa) (tTg X.K X.mg P is g) D σV H := by
  obtain ⟨m, h, σ, A, o⟩ := h
  refine A.flo (rel1 := RT X.K X.mg) o fun m1 h1 t x H1 E1 r A1 o1 => ?_
  refine ⟨m1, h1, σ, t, A1, r, ?_⟩
  cases e : g t σ with
  | none => rw [e] at o1; exact o1
  | some σ' => rw [e] at o1; exact fun σV' s' _ => o1 σV' m1 H1 (Ext.refl _ _) s' A1.hr
/-- target = value -/
theorem ds_asg {is : List Nat} {g : SG} (ha : DE X P W a sa) (hg : DG X P tg is g) (hs : swapsWithSole [tg] a pos.line X.env = pure false := by rfl) (hw : swappedStores [tg] a X.env = pure none := by rfl)
    (h1 : (assignEach [tg] X.env).map (·.2) = [assign tg X.env] := by rfl) : DS X P W (.Assign [tg] a pos) (ssAsg sa g) := PS.imp (ps_asg ha hg hs hw h1) fun D σV H h => asg_read h
/-- name = value -/
theorem ds_set {i : Nat} {x : Str} (hN : X.N.Nodup) (hi : X.N[i]? = some x) (hx : Loc X.env.scope x) (ha : DE X P W a sa) (hs : swapsWith a (some (.Name x pos')) pos.line X.env = pure false := by rfl) (hf : X.fn x = true ∨ X.env.scope.names.lookup x = some .local := by first | exact .inl rfl | exact .inr rfl | assumption) :
    DS X P W (.Assign [.Name x pos'] a pos) (ssAsg sa (sgName i)) := PS.imp (ps_set hN hi hx ha hs hf) fun D σV H ⟨m, h, σ, A, o⟩ => by
  refine A.flo (rel1 := RT X.K X.mg) o fun m1 h1 t x H1 E1 r A1 o1 => ?_
  exact o1 _ m1 H1 (Ext.refl _ _) (A1.sr.set r i) A1.hr
/-- name = [..] on one line -/
theorem ds_setLc {i : Nat} {y : Str} {py : Pos} {elt : Expr} {ifs : List Expr} {scope : Scope} {own : List (Str × Nat)} {spos : Pos} {is : List Nat} {g : SG} {tt : ST} {te : SE} (hc : X.calm = true) (hN : X.N.Nodup) (hy : X.N[i]? = some y) (hyl : X.env.scope.names.lookup y = some .local)
    (hsw : swapsWith (.ListComp elt [⟨tg, iter, ifs, 0⟩] scope pos) (some (.Name y py)) spos.line X.env = pure true) (hi : DI X P W tg iter si) (ok : BlkOk X.N X.env.scope scope own)
    (hg : ∀ (s : Shared) (H : Hp) (C : Addr) (cl : List (Str × Addr)) (fp : List Addr), DG (X.blk s H scope (compEnvC scope cl C X.env) fp) P tg is g)
    (ht : ∀ (s : Shared) (H : Hp) (C : Addr) (cl : List (Str × Addr)) (fp : List Addr), DTs (X.blk s H scope (compEnvC scope cl C X.env) fp) P WF ifs tt)
    (he : ∀ (s : Shared) (H : Hp) (C : Addr) (cl : List (Str × Addr)) (fp : List Addr), DE (X.blk s H scope (compEnvC scope cl C X.env) fp) P WF elt te)
    (his : ∀ i ∈ is, i ∈ own.map (·.2) := by decide) (hs : ∀ x, foldedSetIterable iter X.env x = pure x := by intro _; rfl) :
    DS X P W (.Assign [.Name y py] (.ListComp elt [⟨tg, iter, ifs, 0⟩] scope pos) spos) (ssAsg (sLc (saLc si g tt te (own.map (·.2)))) (sgName i)) := by
  refine PS.imp (ps_setLc (own := own) (i := i) (wi := tG X.K X.mg (SrcJ X.K X.mg) P W si) (g := tTg X.K X.mg P is g) (tt := tTst X.K X.mg P WF tt) (te := tI X.K X.mg P WF te) hc hN hy hyl hsw hi ok hg ht he hs) fun D σV H h => ?_
  refine lc_read his (lc_keep ?_)
  obtain ⟨m, h, σ, A, o⟩ := h
  refine A.flo (rel1 := RT X.K X.mg) o fun m1 h1 t x H1 E1 r A1 o1 => ?_
  exact o1 _ m1 H1 (Ext.refl _ _) (A1.sr.set r i) A1.hr
/-- o.f = v -/
theorem ds_fld {o v : Expr} {so sv : SE} {f : Str} {cs : List (Str × List Str)} (C : ClsF X.K X.mg cs) (ho : DE X P W o so) (hv : DE X P W v sv) (hs : swapsWith v (some (.Attribute o f pos')) pos.line X.env = pure false := by rfl) :
    DS X P W (.Assign [.Attribute o f pos'] v pos) (ssFldC cs so sv f) := PS.imp (ps_fld ho hv hs) fun D σV H ⟨m, h, σ, A, o⟩ => by
  refine A.flo (rel1 := RT X.K X.mg) o fun m1 h1 t1 y H1 E1 r1 A1 o1 => ?_
  refine A1.flo (rel1 := RT X.K X.mg) o1 fun m2 h2 t2 x H2 E2 r2 A2 o2 => ?_
  cases r2 with
  | @ref l a e1 =>
    have o' : OutS X.K X.mg W D m2 H2 (match insAt h2 l with
      | some (c, fs) => (match cs.lookup c with
        | some as => if as.contains f && decide (fs.length < 1000) then .nx σ (h2.set l (.ins c (putT f t1 fs))) else .stk
        | none => .stk)
      | none => .stk) := o2
    split at o'
    · rename_i c fs q1
      obtain ⟨Ca, dx, fv, g1, g2, rf⟩ := A2.hr.ins e1 q1
      split at o'
      · rename_i as q2
        split at o'
        · rename_i hc
          rw [Bool.and_eq_true, decide_eq_true_eq] at hc
          obtain ⟨k1, k2⟩ := C c as Ca (mem_of_lookup q2) g1
          refine ⟨a, Ca, dx, fv, rfl, g2, k1, k2 f (by simpa using hc.1), by rw [← rf.length]; exact hc.2, ?_⟩
          have Ew : Ext m2 H2 m2 (upd H2 a (.ins Ca dx (putF f y fv))) := Ext.write A2.hr e1
          refine o' σV m2 _ Ew (A2.sr.ext Ew) (A2.hr.write e1 ⟨Ca, dx, _, g1, upd_same, ?_⟩)
          exact (rf.put (r1.ext E2)).ext Ew
        · exact False.elim o'
      · exact False.elim o'
    · exact False.elim o'
  | _ => exact False.elim o2
end
end W3
end

section
/-! WH: loops, stores by place, methods of lists, defs and their calls. -/
namespace W3
open PySem PySem.Spec PyProof.Rows
open L2
section
variable {X : Cx} {P : Pq} {W : WX} {a b c tg iter : Expr} {sa sb sc : SE} {pos pos' : Pos} {es : List Expr} {ar : SA} {si : SI} {ta tb : ST} {st : Stmt} {rest body : List Stmt} {x1 x2 : SS}
theorem ds_for {is : List Nat} {g : SG} (hp : PassesOwn (model X.prog X.w) X.A X.env X.xe) (hc : X.calm = true) (hi : DI X P W tg iter si) (hg : DG X P tg is g) (hb : DSs X P W body x1)
    (hs : ∀ x, foldedSetIterable iter X.env x = pure x := by intro _; rfl) : DS X P W (.For tg iter body [] pos) (ssFor si g x1) := PS.imp (ps_for hp hc hi hg hb hs) fun D σV H ⟨m, h, σ, A, o⟩ => by
  refine A.flo (rel1 := SrcJ X.K X.mg) o fun m1 h1 s J H1 E1 S A1 o1 => ?_
  refine ⟨fun i k σV' H' => ∃ m' h' σ', Ext m1 H1 m' H' ∧ At X.K X.mg P m' H' σV' σ' h' ∧ OutS X.K X.mg W D m1 H1 (forRun s g x1 k i σ' h'), ⟨s.len h1, m1, h1, σ, Ext.refl _ _, A1, o1⟩, ?_⟩
  rintro i k σV' H' ⟨m', h', σ', E', A', o'⟩
  unfold forRun at o'
  cases es : s.at h' i with
  | none => rw [es] at o'; exact False.elim o'
  | some ox =>
    cases ox with
    | none =>
      rw [es] at o'
      exact .inl ⟨S.stop m' h' H' i E'.tr A'.hr es, o' σV' m' H' E' A'.sr A'.hr⟩
    | some x =>
      rw [es] at o'
      cases k with
      | zero => exact False.elim o'
      | succ k =>
        obtain ⟨jg, jy⟩ := S.go m' h' H' i x E'.tr A'.hr es
        refine .inr ⟨jg, _, fun σV2 H'' q => ⟨k, Nat.lt_succ_self k, q⟩, fun y H2 hy => ?_⟩
        obtain ⟨E2, R2, rx⟩ := jy y H2 hy
        have A2 : At X.K X.mg P m' H2 σV' σ' h' := A'.ext E2 R2
        refine ⟨m', h', σ', x, A2, rx, ?_⟩
        dsimp only at o'
        cases eg : g x σ' with
        | none => rw [eg] at o'; exact False.elim o'
        | some σ1 =>
          rw [eg] at o'
          intro σV1 s1 _
          refine ⟨m', h', σ1, ⟨s1, R2, A2.pr⟩, ?_⟩
          dsimp only at o'
          have up : ∀ {r : Flo}, OutS X.K X.mg W D m1 H1 r → OutS X.K X.mg W D m' H2 r := fun q => OutS.ext (E'.trans E2) q
          cases eb : x1 σ1 h' with
          | nx σ2 h2 =>
            rw [eb] at o'
            exact fun σV3 m3 H3 E3 s3 R3 => ⟨m3, h2, σ2, (E'.trans E2).trans E3, ⟨s3, R3, P.st E3 A2.pr⟩, o'⟩
          | ct σ2 h2 =>
            rw [eb] at o'
            exact fun σV3 m3 H3 E3 s3 R3 => ⟨m3, h2, σ2, (E'.trans E2).trans E3, ⟨s3, R3, P.st E3 A2.pr⟩, o'⟩
          | bk σ2 h2 => rw [eb] at o'; exact up o'
          | rt t h2 => rw [eb] at o'; exact up (r := .rt t h2) o'
          | exc c fs σ2 h2 => rw [eb] at o'; exact up (r := .exc c fs σ2 h2) o'
          | stk => rw [eb] at o'; exact o'
theorem ds_while {n : Nat} (hp : PassesOwn (model X.prog X.w) X.A X.env X.xe) (hc : DT X P W c ta) (hb : DSs X P W body x1) : DS X P W (.While c body [] pos) (whileRun ta x1 n) := PS.imp (ps_while hp hc hb) fun D σV H ⟨m, h, σ, A, o⟩ => by
  refine ⟨fun k σV' H' => ∃ m' h' σ', At X.K X.mg P m' H' σV' σ' h' ∧ OutS X.K X.mg W D m' H' (whileRun ta x1 k σ' h'), ⟨n, m, h, σ, A, o⟩, ?_⟩
  rintro k σV' H' ⟨m', h', σ', A', o'⟩
  cases k with
  | zero => exact False.elim o'
  | succ k =>
    have o2 : OutS X.K X.mg W D m' H' ((ta σ' h').flo σ' fun x h1 => if x = true then (match x1 σ' h1 with
      | .nx σ2 h2 => whileRun ta x1 k σ2 h2
      | .ct σ2 h2 => whileRun ta x1 k σ2 h2
      | .bk σ2 h2 => .nx σ2 h2
      | r => r) else .nx σ' h1) := o'
    refine A'.flo (rel1 := fun _ _ a b => a = b) o2 fun m1 h1 t x H1 E1 r A1 o1 => ?_
    subst r
    cases t with
    | false =>
      rw [if_neg Bool.false_ne_true] at o1 ⊢
      exact o1 σV' m1 H1 (Ext.refl _ _) A1.sr A1.hr
    | true =>
      rw [if_pos rfl] at o1 ⊢
      refine ⟨_, fun σV2 H'' q => ⟨k, Nat.lt_succ_self k, q⟩, m1, h1, σ', A1, ?_⟩
      cases eb : x1 σ' h1 with
      | nx σ2 h2 =>
        rw [eb] at o1
        exact fun σV3 m3 H3 E3 s3 R3 => ⟨m3, h2, σ2, ⟨s3, R3, P.st E3 A1.pr⟩, OutS.ext E3 o1⟩
      | ct σ2 h2 =>
        rw [eb] at o1
        exact fun σV3 m3 H3 E3 s3 R3 => ⟨m3, h2, σ2, ⟨s3, R3, P.st E3 A1.pr⟩, OutS.ext E3 o1⟩
      | bk σ2 h2 => rw [eb] at o1; exact o1
      | rt t h2 => rw [eb] at o1; exact o1
      | exc c fs σ2 h2 => rw [eb] at o1; exact o1
      | stk => rw [eb] at o1; exact o1
/-- o[i] = v, o a list -/
theorem ds_sub {o i v : Expr} {so si' sv : SE} (ho : DE X P W o so) (hi : DE X P W i si') (hv : DE X P W v sv) (hs : swapsWithSole [.Subscript o i pos'] v pos.line X.env = pure false := by rfl) (hw : swappedStores [.Subscript o i pos'] v X.env = pure none := by rfl)
    (h1 : (assignEach [.Subscript o i pos'] X.env).map (·.2) = [assign (.Subscript o i pos') X.env] := by rfl)
    (ha : ∀ v, assign (.Subscript o i pos') X.env v = (do
      let ov ← holding [v] (eval o X.env)
      let iv ← holding [v, ov] (eval i X.env)
      standAt pos'
      holding [v, ov, iv] (setItem ov iv v)
      release [v, ov, iv] []) := by intro _; rfl) : DS X P W (.Assign [.Subscript o i pos'] v pos) (ssSub so si' sv) := by
  refine PS.imp (ps_asg hv (pg_sub ho hi set_list ha) hs hw h1) fun D σV H ⟨m, h, σ, A, o⟩ => ?_
  refine A.flo (rel1 := RT X.K X.mg) o fun m1 h1 t1 y H1 E1 r1 A1 o1 => ?_
  refine A1.flo (rel1 := RT X.K X.mg) o1 fun m2 h2 t2 x H2 E2 r2 A2 o2 => ?_
  refine A2.flo (rel1 := RT X.K X.mg) o2 fun m3 h3 t3 k H3 E3 r3 A3 o3 => ?_
  have r2' := r2.ext E3
  cases r2' with
  | @ref l a e1 =>
    cases r3 with
    | int n =>
      have o' : OutS X.K X.mg W D m3 H3 (match lstAt h3 l with
        | some ts => (match L2.ixN ts.length n with | some j => .nx σ (h3.set l (.lst (ts.set j t1))) | none => .stk)
        | none => .stk) := o3
      split at o'
      · rename_i ts q1
        obtain ⟨vs, g1, rv⟩ := A3.hr.lst e1 q1
        split at o'
        · rename_i j q2
          rw [rv.length] at q2
          refine ⟨a, vs, n, j, rfl, rfl, g1, q2, ?_⟩
          have Ew : Ext m3 H3 m3 (upd H3 a (.lst (vs.set j y))) := Ext.write A3.hr e1
          exact o' σV m3 _ Ew (A3.sr.ext Ew) (A3.hr.write e1 ⟨_, upd_same, ((rv.set j ((r1.ext E2).ext E3)).ext Ew)⟩)
        · exact False.elim o'
      · exact False.elim o'
    | _ => exact False.elim o3
  | _ => exact False.elim o3

/-! ### methods of lists -/
theorem nx_append : NoXM mAppend := fun x y h c fs h' e => by unfold mAppend at e; (repeat' split at e) <;> cases e
theorem nx_clear : NoXM mClear := fun x y h c fs h' e => by unfold mClear at e; (repeat' split at e) <;> cases e
theorem nx_extend : NoXM mExtend := fun x y h c fs h' e => by unfold mExtend at e; (repeat' split at e) <;> cases e
/-- what a method of lists does, by values -/
def MtS (X : Cx) (id : String) (f : T → List T → Hh → Res T) : Prop :=
  ∀ (pins : List (Addr × Obj)) (s : Shared) (σ : L2.St) (H : Hp) (x : V) (xs : List V) (v : Value) (us : List Value) (Q : VK), L2.Inv X pins σ H s → RelV x v → Vals xs us → rPM X.K X.mg f x xs H Q →
    wpAny (model X.prog X.w) X.A (call (.builtin id) (v :: us)) (EP X pins σ Q) X.xe s
theorem ms_append : MtS X "list.append" mAppend := by
  intro pins s σ H x xs v us Q I rx rs ⟨m, h, t, ts, r, rr, R, o⟩
  cases r with
  | @ref l a e1 =>
    cases rr with
    | nil => exact False.elim o
    | cons r1 r2 =>
      cases r2 with
      | cons _ _ => exact False.elim o
      | nil =>
        rename_i t1 v1
        have o' : OutP X.K X.mg Q m H (match lstAt h l with
          | some ts => if ts.length < sizeLine then .ok .non (h.set l (.lst (ts ++ [t1]))) else .stk
          | none => .stk) := o
        split at o'
        · rename_i ts q1
          obtain ⟨vs, g1, rv⟩ := R.lst e1 q1
          split at o'
          · rename_i hz
            refine mt_append pins s σ H _ _ v us Q I rx rs ⟨a, vs, v1, rfl, rfl, g1, by rw [← rv.length]; exact hz, ?_⟩
            have Ew : Ext m H m (upd H a (.lst (vs ++ [v1]))) := Ext.write R e1
            exact o' .non m _ Ew .non (R.write e1 ⟨_, upd_same, (rv.append (.cons r1 .nil)).ext Ew⟩)
          · exact False.elim o'
        · exact False.elim o'
  | _ => exact False.elim o
theorem ms_clear : MtS X "list.clear" mClear := by
  intro pins s σ H x xs v us Q I rx rs ⟨m, h, t, ts, r, rr, R, o⟩
  cases r with
  | @ref l a e1 =>
    cases rr with
    | cons _ _ => exact False.elim o
    | nil =>
      have o' : OutP X.K X.mg Q m H (match lstAt h l with
        | some _ => .ok .non (h.set l (.lst []))
        | none => .stk) := o
      split at o'
      · rename_i ts q1
        obtain ⟨vs, g1, rv⟩ := R.lst e1 q1
        refine mt_clear pins s σ H _ _ v us Q I rx rs ⟨a, vs, rfl, rfl, g1, ?_⟩
        have Ew : Ext m H m (upd H a (.lst [])) := Ext.write R e1
        exact o' .non m _ Ew .non (R.write e1 ⟨_, upd_same, .nil⟩)
      · exact False.elim o'
  | _ => exact False.elim o
theorem ms_extend : MtS X "list.extend" mExtend := by
  intro pins s σ H x xs v us Q I rx rs ⟨m, h, t, ts, r, rr, R, o⟩
  cases r with
  | @ref l a e1 =>
    cases rr with
    | nil => exact False.elim o
    | cons r1 r2 =>
      cases r2 with
      | cons _ _ => cases r1 <;> exact False.elim o
      | nil =>
        cases r1 with
        | @ref k b e2 =>
          have o' : OutP X.K X.mg Q m H (match lstAt h l, lstAt h k with
            | some ts, some zs => if ts.length + zs.length ≤ sizeLine then .ok .non (h.set l (.lst (ts ++ zs))) else .stk
            | _, _ => .stk) := o
          split at o'
          · rename_i ts zs q1 q2
            obtain ⟨vs, g1, rv⟩ := R.lst e1 q1
            obtain ⟨ws, g2, rw⟩ := R.lst e2 q2
            split at o'
            · rename_i hz
              refine mt_extend pins s σ H _ _ v us Q I rx rs ⟨a, b, vs, ws, rfl, rfl, g1, g2, by rw [← rv.length, ← rw.length]; exact hz, ?_⟩
              have Ew : Ext m H m (upd H a (.lst (vs ++ ws))) := Ext.write R e1
              exact o' .non m _ Ew .non (R.write e1 ⟨_, upd_same, (rv.append rw).ext Ew⟩)
            · exact False.elim o'
          · exact False.elim o'
        | _ => exact False.elim o
  | _ => exact False.elim o
end
end W3
end

section
/-! WI: methods of built-ins called, defs and their calls, instances made. -/
namespace W3
open PySem PySem.Spec PyProof.Rows
open L2
section
variable {X : Cx} {P : Pq} {W : WX} {a b c o e : Expr} {sa sb sc so : SE} {pos pos' apos cpos p : Pos} {es : List Expr} {ar : SA}
theorem mt_read {f : T → List T → Hh → Res T} (hf : NoXM f) {σV : L2.St} {H : Hp} {Q : VK} (h : tI X.K X.mg P W (sMtL f so ar) σV H Q) :
    tI X.K X.mg P W so σV H fun x H1 => tyV X.K "list" x H1 ∧ tAr X.K X.mg P W ar σV H1 fun xs H2 => rPM X.K X.mg f x xs H2 Q := by
  obtain ⟨m, h, σ, A, o⟩ := h
  refine A.first (rel1 := RT X.K X.mg) o fun m1 h1 t x H1 E1 r A1 o1 => ?_

  split at o1
  · rename_i hl
    refine ⟨?_, ?_⟩
    · cases r with
      | @ref l a e1 =>
        have hl' : (lstAt h1 l).isSome = true := hl
        obtain ⟨ts, q⟩ := Option.isSome_iff_exists.mp hl'
        obtain ⟨vs, g, _⟩ := A1.hr.lst e1 q
        exact .inl ⟨rfl, vs, SqL.of g⟩
      | @fl a vs ts hq _ => exact .inl ⟨rfl, vs, hq.sq⟩
      | _ => cases hl
    · refine A1.first (rel1 := RTs X.K X.mg) o1 fun m2 h2 ts xs H2 E2 r2 A2 o2 => ?_
      exact ⟨m2, h2, t, ts, r.ext E2, r2, A2.hr, o2.outP (hf _ _ _)⟩
  · exact False.elim o1
theorem de_mt {id : String} {name : Str} {f : T → List T → Hh → Res T} (hm : MtS X id f) (hf : NoXM f) (pa : PlainAttrs "list") (slot : Slot "list" name id) (hty : typeOf (.builtin id) = pure (.type "method_descriptor")) (ho : DE X P W o so) (ha : DA X P W (e :: es) ar)
    (hbase : attributeBase o name X.env (eval o X.env) = eval o X.env := by rfl)
    (hfew : ((backTo cpos (starEach (e :: es) X.env)).all (fun x => !x.1) && (backToKw cpos (keywordEach [] X.env)).all (fun x => x.1.isSome)
      && decide ((e :: es).length + ([] : List Keyword).length + (if ([] : List Keyword).isEmpty then 0 else 1) < 30)) = true := by rfl)
    (hline : (apos.endLine == cpos.line) = true := by rfl) (hs : starEach (e :: es) X.env = (false, eval e X.env) :: starEach es X.env := by rfl) (hplain : (backTo cpos (starEach es X.env)).any (·.1) = false := by rfl) :
    DE X P W (.Call (.Attribute o name apos) (e :: es) [] cpos) (sMtL f so ar) :=
  PE.imp (pe_bm (r := rPM X.K X.mg f) pa slot hty hm ho ha hbase hfew hline hs hplain) fun σV H Q h => mt_read hf h
theorem de_mt0 {id : String} {name : Str} {f : T → List T → Hh → Res T} (hm : MtS X id f) (hf : NoXM f) (pa : PlainAttrs "list") (slot : Slot "list" name id) (hty : typeOf (.builtin id) = pure (.type "method_descriptor")) (ho : DE X P W o so)
    (hbase : attributeBase o name X.env (eval o X.env) = eval o X.env := by rfl) (hline : (apos.endLine == cpos.line) = true := by rfl) : DE X P W (.Call (.Attribute o name apos) [] [] cpos) (sMtL f so saNil) :=
  PE.imp (pe_bm0 (r := rPM X.K X.mg f) pa slot hty hm ho hbase hline) fun σV H Q h => tG.mono (fun x H1 ⟨q1, m, h, σ, A, o⟩ => ⟨q1, o [] m H1 (Ext.refl _ _) .nil A.hr⟩) (mt_read hf h)

/-! ### defs -/
/-- what a def promises: that f tells what it does -/
def spT (K : PySem.W.Frag) (mg : Str → Option Value) (n : Nat) (f : List T → Hh → Res T) : Sp := fun vs H Q E => vs.length = n ∧ ∃ m h ts, RTs K mg m H ts vs ∧ HR K mg m h H ∧
  (match f ts h with
    | .ok t h' => ∀ v m' H', Ext m H m' H' → RT K mg m' H' t v → HR K mg m' h' H' → Q v H'
    | .exc c fs h' => ∀ cls d m' H', Ext m H m' H' → XR K mg m' H' c fs cls d → HR K mg m' h' H' → E cls d H'
    | .stk => False)
theorem SR.start {K : PySem.W.Frag} {mg : Str → Option Value} {m : Mp} {H : Hp} {ts : List T} {vs : List V} (N : List Str) (r : RTs K mg m H ts vs) : SR K mg m H (startT N.length ts) (L2.start N vs) := by
  unfold startT L2.start
  rw [r.length]
  refine ⟨by rw [List.length_append, List.length_append, List.length_map, List.length_map, List.length_replicate, List.length_replicate, r.length], fun i t e => ?_⟩
  by_cases hi : i < vs.length
  · have hi' : i < ts.length := by rw [r.length]; exact hi
    rw [List.getElem?_append_left (by rw [List.length_map]; exact hi'), List.getElem?_map] at e
    cases q : ts[i]? with
    | none => rw [q] at e; cases e
    | some u =>
      rw [q] at e
      have e2 : u = t := Option.some.inj (Option.some.inj e)
      subst e2
      obtain ⟨v, q2, rv⟩ := r.get q
      exact ⟨v, by rw [List.getElem?_append_left (by rw [List.length_map]; exact hi), List.getElem?_map, q2]; rfl, rv⟩
  · rw [List.getElem?_append_right (by rw [List.length_map, r.length]; omega), List.getElem?_replicate] at e
    split at e
    · cases e
    · cases e
/-- the context of a def's body -/
abbrev cxD (P : Program) (w : World) (K : PySem.W.Frag) (mg : Str → Option Value) (base : Heap) (N : List Str) (qual : Str) (sc : Scope) (f : Addr) (cdv : Value) (A : Around) (outer : List Env) (s : Shared) (H : Hp) (E : XK) : Cx :=
  cxOf (L2.CX P w) P w K mg base N qual sc f cdv A outer s H E
abbrev wD (E : XK) : WX := fun cls d _ H => E cls d H
theorem def_read {K : PySem.W.Frag} {mg : Str → Option Value} {N ps : List Str} {ss : SS} {vs : List V} {H : Hp} {Q : VK} {E : XK} (h : spT K mg ps.length (defRun N.length ss) vs H Q E) : tS K mg PqT (wD E) ss { nx := fun _ H' => Q .non H', rt := Q } (L2.start N vs) H := by
  obtain ⟨_, m, h, ts, r, R, o⟩ := h
  refine ⟨m, h, startT N.length ts, ⟨SR.start N r, R, trivial⟩, ?_⟩
  unfold defRun at o
  cases e : ss (startT N.length ts) h with
  | nx σ1 h1 => rw [e] at o; exact fun σV' m' H' E' _ R' => o .non m' H' E' .non R'
  | rt t h1 => rw [e] at o; exact o
  | exc c fs σ1 h1 => rw [e] at o; exact fun cls d _ m' H' E' _ x R' => o cls d m' H' E' x R'
  | bk σ1 h1 => rw [e] at o; exact False.elim o
  | ct σ1 h1 => rw [e] at o; exact False.elim o
  | stk => rw [e] at o; exact False.elim o
/-- a def's body keeps its promise -/
theorem fn_T {P : Program} {w : World} {K : PySem.W.Frag} {mg : Str → Option Value} {base : Heap} {x qual : Str} {st : Stmt} {f : Addr} {fd : FuncData} {N ps : List Str} {k : Nat} {ss : SS} (F : Fun K x qual st f fd) (S : FnScope N ps (defScope st))
    (hbody : ∀ (cdv : Value) (A : Around) (outer : List Env) (s : Shared) (H : Hp) (E : XK), Room k (cxD P w K mg base N qual (defScope st) f cdv A outer s H E).A → Takes (cxD P w K mg base N qual (defScope st) f cdv A outer s H E) (wD E) →
      PassesOwn (model P w) (cxD P w K mg base N qual (defScope st) f cdv A outer s H E).A (cxD P w K mg base N qual (defScope st) f cdv A outer s H E).env (cxD P w K mg base N qual (defScope st) f cdv A outer s H E).xe →
      DSs (cxD P w K mg base N qual (defScope st) f cdv A outer s H E) PqT (wD E) (defBody st) ss) : FnOk P w K mg base (L2.CX P w) (k + 1) f fd ps (spT K mg ps.length (defRun N.length ss)) :=
  F.okX S (fun vs H Q E h => h.1) fun cdv A outer s H vs Q E hr h => ⟨_, hbody cdv A outer s H E hr (takes_of rfl rfl rfl rfl) (passes_of rfl), def_read h⟩
theorem fn_TD {P : Program} {w : World} {K : PySem.W.Frag} {mg : Str → Option Value} {base : Heap} {x qual : Str} {params : Arguments} {body : List Stmt} {sc : Scope} {dvs : List V} {kws : List (Str × V)} {f : Addr} {fd : FuncData} {N ps : List Str} {k : Nat} {ss : SS}
    (F : FunD K x qual params body sc dvs kws f fd) (S : FnScope N ps sc)
    (hbody : ∀ (cdv : Value) (A : Around) (outer : List Env) (s : Shared) (H : Hp) (E : XK), Room k (cxD P w K mg base N qual sc f cdv A outer s H E).A → Takes (cxD P w K mg base N qual sc f cdv A outer s H E) (wD E) →
      PassesOwn (model P w) (cxD P w K mg base N qual sc f cdv A outer s H E).A (cxD P w K mg base N qual sc f cdv A outer s H E).env (cxD P w K mg base N qual sc f cdv A outer s H E).xe →
      DSs (cxD P w K mg base N qual sc f cdv A outer s H E) PqT (wD E) body ss) : FnOk P w K mg base (L2.CX P w) (k + 1) f fd ps (spT K mg ps.length (defRun N.length ss)) :=
  F.ok S (fun vs H Q E h => h.1) fun cdv A outer s H vs Q E hr h => ⟨_, hbody cdv A outer s H E hr (takes_of rfl rfl rfl rfl) (passes_of rfl), def_read h⟩
/-- f(..) -/
theorem de_call {x : Str} {k : Nat} {f : Addr} {fd : FuncData} {ps : List Str} {ff : List T → Hh → Res T} (F : FnOk X.prog X.w X.K X.mg X.base (L2.CX X.prog X.w) k f fd ps (spT X.K X.mg ps.length ff)) (hr : Room k X.A) (hg : Gl X x) (hm : X.mg x = some (.ref f))
    (hk : PySem.W.keepIn X.K (.ref f) = true) (hb : Binds X.K fd ps []) (tk : Takes X W) (ha : DA X P W (a :: es) ar) (hdb : (x == ("__debug__" : Str)) = false := by decide)
    (he : starEach (a :: es) X.env = (false, eval a X.env) :: starEach es X.env := by rfl) (hpl : (backTo pos (starEach es X.env)).any (·.1) = false := by rfl) :
    DE X P W (.Call (.Name x p) (a :: es) [] pos) (sCl (arN ps.length ff) ar) :=
  PE.imp (pe_callS F hr hg hm hk hb (fun σ => passAt tk σ) ha hdb he hpl) fun σV H Q ⟨m, h, σ, A, o⟩ => by
    refine A.first (rel1 := RTs X.K X.mg) o fun m1 h1 ts xs H1 E1 r A1 o1 => ?_
    unfold arN at o1
    split at o1
    · rename_i hl
      refine ⟨by rw [← r.length]; exact hl, m1, h1, ts, r, A1.hr, ?_⟩
      cases e : ff ts h1 with
      | ok t h2 => rw [e] at o1; exact o1
      | exc c fs h2 => rw [e] at o1; exact o1
      | stk => rw [e] at o1; exact o1
    · exact False.elim o1
/-- how a call's end lies for the caller -/
theorem call_end {pins : List (Addr × Obj)} {σ : L2.St} {H : Hp} {s s' : Shared} {Q : VK} {r : Result} (I : L2.Inv X pins σ H s) (tk : Takes X W)
    (hq : CR (L2.CX X.prog X.w) X.stack X.prog X.w H s Q (WE W σ) r s') : match r with | .ok (.ret u) => EP X pins σ Q u s' | .error e => X.xe e s' | .ok _ => False := by
  cases r with
  | error e => exact passAt tk σ pins H s e s' I hq
  | ok fl =>
    cases fl with
    | ret u => exact I.after hq
    | next => exact hq
    | brk => exact hq
    | cont => exact hq
/-- f() -/
theorem de_call0 {x : Str} {k : Nat} {f : Addr} {fd : FuncData} {ff : List T → Hh → Res T} (F : FnOk X.prog X.w X.K X.mg X.base (L2.CX X.prog X.w) k f fd [] (spT X.K X.mg 0 ff)) (hr : Room k X.A) (hg : Gl X x) (hm : X.mg x = some (.ref f))
    (hk : PySem.W.keepIn X.K (.ref f) = true) (hb : Binds X.K fd [] []) (tk : Takes X W) (hdb : (x == ("__debug__" : Str)) = false := by decide) :
    DE X P W (.Call (.Name x p) [] [] pos) (sCl (arN 0 ff) saNil) := by
  refine ⟨fun pins s σV H Q I ⟨m, h, σ, A, o⟩ => ?_⟩
  refine wpAny_Call_Name_kw (ld_glob I hg hm ?_ hdb)
  refine PySem.W.callWith_K0 I.kIn hk (run_fnS (vs := []) F hr hb (passAt tk σV) I .nil ⟨rfl, m, h, [], .nil, A.hr, ?_⟩)
  have o' : Out X.K X.mg (RT X.K X.mg) W σV Q m H (ff [] h) := o
  cases e : ff [] h with
  | ok t h2 => rw [e] at o'; exact o'
  | exc c fs h2 => rw [e] at o'; exact o'
  | stk => rw [e] at o'; exact o'
theorem spT_of {m : Mp} {H : Hp} {h : Hh} {σV : L2.St} {Q : VK} {ff : List T → Hh → Res T} {ts : List T} {vs : List V} {n : Nat} (hl : vs.length = n) (r : RTs X.K X.mg m H ts vs) (R : HR X.K X.mg m h H)
    (o : Out X.K X.mg (RT X.K X.mg) W σV Q m H (ff ts h)) : spT X.K X.mg n ff vs H Q (WE W σV) := by
  refine ⟨hl, m, h, ts, r, R, ?_⟩
  cases e : ff ts h with
  | ok t h2 => rw [e] at o; exact o
  | exc c fs h2 => rw [e] at o; exact o
  | stk => rw [e] at o; exact o
theorem RTs.weave {K : PySem.W.Frag} {mg : Str → Option Value} {m : Mp} {H : Hp} : ∀ (pat : List Bool) {ds zs : List T} {dv zv : List V}, RTs K mg m H ds dv → RTs K mg m H zs zv → RTs K mg m H (weave pat ds zs) (weave pat dv zv)
  | [], _, _, _, _, _, _ => .nil
  | true :: r, _, _, _, _, d, .cons q z => .cons q (RTs.weave r d z)
  | true :: _, _, _, _, _, _, .nil => .nil
  | false :: r, _, _, _, _, .cons q d, z => .cons q (RTs.weave r d z)
  | false :: _, _, _, _, _, .nil, _ => .nil
theorem Vals.weave : ∀ (pat : List Bool) {ds zs : List V} {dv zv : List Value}, Vals ds dv → Vals zs zv → Vals (W3.weave pat ds zs) (W3.weave pat dv zv)
  | [], _, _, _, _, _, _ => .nil
  | true :: r, _, _, _, _, d, .cons q z => .cons q (Vals.weave r d z)
  | true :: _, _, _, _, _, _, .nil => .nil
  | false :: r, _, _, _, _, .cons q d, z => .cons q (Vals.weave r d z)
  | false :: _, _, _, _, _, .nil, _ => .nil
abbrev DK (X : Cx) (P : Pq) (W : WX) (kws : List Keyword) (se : SA) : Prop := PK X kws (tAr X.K X.mg P W se)
theorem PK.imp {kws : List Keyword} {t t' : TA} (h : PK X kws t) (k : ∀ σ H Q, t' σ H Q → t σ H Q) : PK X kws t' := ⟨fun pos pins s σ H Q I hw => h.run pos pins s σ H Q I (k _ _ _ hw)⟩
theorem dk_nil : DK X P W [] saNil := PK.imp pk_nil fun σV H Q ⟨m, h, σ, A, o⟩ => o [] m H (Ext.refl _ _) .nil A.hr
theorem dk_cons {kws : List Keyword} {nm : Option Str} {kpos : Pos} (ha : DE X P W a sa) (hr : DK X P W kws ar) : DK X P W (⟨nm, a, kpos⟩ :: kws) (saCons sa ar) :=
  PK.imp (pk_cons ha hr) fun σV H Q ⟨m, h, σ, A, o⟩ => by
    refine A.first (rel1 := RT X.K X.mg) o fun m1 h1 t1 x H1 E1 r1 A1 o1 => ?_
    refine A1.first (rel1 := RTs X.K X.mg) o1 fun m2 h2 t2 y H2 E2 r2 A2 o2 => ?_
    exact o2 _ m2 H2 (Ext.refl _ _) (.cons (r1.ext E2) r2) A2.hr
/-- how the keyword-only parameters are filled: some by the call, some by their defaults -/
def KBw (K : PySem.W.Frag) (fd : FuncData) (ps : List Str) (n : Nat) (ks : List Str) (pat : List Bool) (dv : List V) : Prop :=
  ∃ mv : List Value, KBn K fd ps n ks (fun us ws => us ++ weave pat mv ws) (fun vs zs => vs ++ weave pat dv zs)
/-- f(.., k = v, ..) -/
theorem de_callK {x : Str} {k n : Nat} {f : Addr} {fd : FuncData} {ps ks : List Str} {pat : List Bool} {dv : List V} {dt : List T} {kws : List Keyword} {kw : SA} {ff : List T → Hh → Res T}
    (F : FnOk X.prog X.w X.K X.mg X.base (L2.CX X.prog X.w) k f fd ps (spT X.K X.mg ps.length ff)) (hr : Room k X.A) (hg : Gl X x) (hm : X.mg x = some (.ref f)) (hk : PySem.W.keepIn X.K (.ref f) = true)
    (hb : KBw X.K fd ps n ks pat dv) (hd : ∀ m H, RTs X.K X.mg m H dt dv) (tk : Takes X W) (ha : DA X P W (a :: es) ar) (hkw : DK X P W kws kw) (hn : n + pat.length = ps.length) (hw : ∀ zs : List V, zs.length = ks.length → (weave pat dv zs).length = pat.length)
    (hall : (backToKw pos (keywordEach kws X.env)).all (·.1.isSome) = true := by rfl) (hks : (backToKw pos (keywordEach kws X.env)).filterMap (·.1) = ks := by rfl)
    (hdb : (x == ("__debug__" : Str)) = false := by decide) (he : starEach (a :: es) X.env = (false, eval a X.env) :: starEach es X.env := by rfl)
    (hpl : ((backTo pos (starEach (a :: es) X.env)).any (·.1) || (backToKw pos (keywordEach kws X.env)).any (·.1.isNone)) = false := by rfl) :
    DE X P W (.Call (.Name x p) (a :: es) kws pos) (sClK n ks.length pat dt ff ar kw) := by
  obtain ⟨mv, hb⟩ := hb
  refine ⟨fun pins s σV H Q I ⟨m, h, σ, A, o⟩ => ?_⟩
  refine wpAny_Call_Name_kw (ld_glob I hg hm ?_ hdb)
  have first := A.first (rel1 := RTs X.K X.mg) o fun m1 h1 ts vs H1 E1 r1 A1 o1 =>
    (⟨m1, h1, ts, r1, A1, o1⟩ : ∃ m1 h1 ts, RTs X.K X.mg m1 H1 ts vs ∧ At X.K X.mg P m1 H1 σV σ h1 ∧ Out X.K X.mg (RT X.K X.mg) W σV Q m1 H1 ((kw σ h1).bind fun zs h2 => if ts.length = n ∧ zs.length = ks.length then ff (ts ++ weave pat dt zs) h2 else .stk))
  refine PySem.W.callWith_KW (h₀ := X.base) I.ok.mod.kin hk hall (thn (ha.run pos pins s σV H _ I first) fun us s1 ⟨vs, H1, I1, r, m1, h1, ts, r1, A1, o1⟩ => ?_) hpl he
  have second := A1.first (rel1 := RTs X.K X.mg) o1 fun m2 h2 zt zv H2 E2 r2 A2 o2 =>
    (⟨m2, h2, zt, r1.ext E2, r2, A2, o2⟩ : ∃ m2 h2 zt, RTs X.K X.mg m2 H2 ts vs ∧ RTs X.K X.mg m2 H2 zt zv ∧ At X.K X.mg P m2 H2 σV σ h2 ∧ Out X.K X.mg (RT X.K X.mg) W σV Q m2 H2 (if ts.length = n ∧ zt.length = ks.length then ff (ts ++ weave pat dt zt) h2 else .stk))
  refine thn (hkw.run pos pins s1 σV H1 _ I1 second) fun ws s2 ⟨zv, H2, I2, rz, m2, h2, zt, r1, r2, A2, o2⟩ => ⟨I2.kIn, ?_⟩
  rw [hks]
  split at o2
  · rename_i hl
    have l1 : vs.length = n := by rw [← r1.length]; exact hl.1
    have l2 : zv.length = ks.length := by rw [← r2.length]; exact hl.2
    have sp := spT_of (n := ps.length) (by rw [List.length_append, l1, hw zv l2]; exact hn) (r1.append (RTs.weave pat (hd m2 H2) r2)) A2.hr o2
    refine wpAny_call (codeAny_mono (F.run X.A X.stack s2 H2 ⟨us, ks.zip ws⟩ (us ++ weave pat mv ws) (vs ++ weave pat dv zv) Q (WE W σV) hr I2.env0 (hb.to s2 us ws I2.kIn (r.length.symm.trans l1) (rz.length.symm.trans l2)) (hb.rel r rz) sp) fun res s' hq => ?_)
    have fin := call_end I2 tk hq
    cases res with
    | error e => exact fin
    | ok fl => cases fl <;> exact fin
  · exact False.elim o2
end
end W3
end

section
/-! WJ: instances made, their methods called. -/
namespace W3
open PySem PySem.Spec PyProof.Rows
open L2
section
variable {X : Cx} {P : Pq} {W : WX} {a b c o e : Expr} {sa sb sc so : SE} {pos pos' apos cpos p : Pos} {es : List Expr} {ar : SA}
theorem make_read {m : Mp} {H : Hp} {h : Hh} {σV : L2.St} {Q : VK} {ff : List T → Hh → Res T} {ts : List T} {vs : List V} {n : Nat} {cn : Str} {C : Addr} (hC : X.mg cn = some (.ref C)) (r : RTs X.K X.mg m H ts vs) (R : HR X.K X.mg m h H)
    (o : Out X.K X.mg (RT X.K X.mg) W σV Q m H (bMake cn n ff ts h)) {x dx : Addr} (nx : H x = none) (nd : H dx = none) (ne : dx ≠ x) :
    spT X.K X.mg n ff (.ref x :: vs) (upd (upd H dx (.own x)) x (.ins C dx [])) (fun v H2 => v = .non ∧ Q (.ref x) H2) (WE W σV) := by
  have R1 : HR X.K X.mg m h (upd H dx (.own x)) := R.garbage nd
  have nx1 : upd H dx (.own x) x = none := by rw [upd_ne ne.symm]; exact nx
  have E1 : Ext m H m (upd H dx (.own x)) := Ext.garbage R nd
  have E2 : Ext m (upd H dx (.own x)) (m.put h.length x) (upd (upd H dx (.own x)) x (.ins C dx [])) := Ext.alloc R1 nx1
  have R2 : HR X.K X.mg (m.put h.length x) (h ++ [.ins cn []]) (upd (upd H dx (.own x)) x (.ins C dx [])) := R1.alloc nx1 ⟨C, dx, [], hC, upd_same, .nil⟩
  have E12 := E1.trans E2
  unfold bMake arN at o
  by_cases hl : (T.ref h.length :: ts).length = n
  · rw [if_pos hl] at o
    have r2 : RTs X.K X.mg (m.put h.length x) (upd (upd H dx (.own x)) x (.ins C dx [])) (.ref h.length :: ts) (.ref x :: vs) := .cons (.ref Mp.put_same) (r.ext E12)
    refine ⟨by rw [← r2.length]; exact hl, m.put h.length x, h ++ [.ins cn []], .ref h.length :: ts, r2, R2, ?_⟩
    cases e : ff (.ref h.length :: ts) (h ++ [.ins cn []]) with
    | stk => rw [e] at o; exact o
    | exc c fs h2 => rw [e] at o; exact fun cls d m' H' E' xr R' => o cls d m' H' (E12.trans E') xr R'
    | ok t h2 =>
      rw [e] at o
      intro v m' H' E' rv R'
      cases rv with
      | non => exact ⟨rfl, o (.ref x) m' H' (E12.trans E') (.ref (E'.mono _ _ Mp.put_same)) R'⟩
      | _ => exact False.elim o
  · rw [if_neg hl] at o; exact False.elim o
/-- C(..) -/
theorem de_make {x : Str} {k : Nat} {f C : Addr} {fd : FuncData} {ps : List Str} {ff : List T → Hh → Res T} (M : Mk X.K C f) (F : FnOk X.prog X.w X.K X.mg X.base (L2.CX X.prog X.w) k f fd ps (spT X.K X.mg ps.length ff)) (hr : Room (k + 1) X.A) (hg : Gl X x)
    (hm : X.mg x = some (.ref C)) (hb : Binds X.K fd ps []) (tk : Takes X W) (ha : DA X P W (a :: es) ar) (hdb : (x == ("__debug__" : Str)) = false := by decide)
    (he : starEach (a :: es) X.env = (false, eval a X.env) :: starEach es X.env := by rfl) (hpl : (backTo pos (starEach es X.env)).any (·.1) = false := by rfl) :
    DE X P W (.Call (.Name x p) (a :: es) [] pos) (sCl (bMake x ps.length ff) ar) := by
  refine ⟨fun pins s σV H Q I ⟨m, h, σ, A, o⟩ => ?_⟩
  refine wpAny_Call_Name_kw (ld_glob I hg hm ?_ hdb)
  have first := A.first (rel1 := RTs X.K X.mg) o fun m1 h1 ts vs H1 E1 r1 A1 o1 =>
    (⟨m1, h1, ts, r1, A1, o1⟩ : ∃ m1 h1 ts, RTs X.K X.mg m1 H1 ts vs ∧ At X.K X.mg P m1 H1 σV σ h1 ∧ Out X.K X.mg (RT X.K X.mg) W σV Q m1 H1 (bMake x ps.length ff ts h1))
  refine PySem.W.callWith_K (h₀ := X.base) I.ok.mod.kin M.kp (thn (ha.run pos pins s σV H _ I first) fun us s1 ⟨vs, H1, I1, r, m1, h1, ts, r1, A1, o1⟩ => ⟨I1.kIn, ?_⟩) he hpl
  have hq := make_read hm r1 A1.hr o1 (I1.hok.fresh (Nat.le_succ _)) (I1.hok.fresh (Nat.le_refl _)) (Nat.ne_of_lt (Nat.lt_succ_self s1.heap.objs.size))
  have I2 := Inv.made (C := C) I1
  have r2 : Vals (V.ref (s1.heap.objs.size + 1) :: vs) (Value.ref (s1.heap.objs.size + 1) :: us) := .cons rfl r
  have hl2 : (Value.ref (s1.heap.objs.size + 1) :: us).length = ps.length := by rw [← r2.length]; exact hq.1
  have bt := hb _ (Value.ref (s1.heap.objs.size + 1) :: us) I2.kIn (by rw [List.append_nil]; exact hl2)
  rw [List.append_nil] at bt
  refine wpAny_call (make_map (f := f) I1.kIn M.makes M.init (beq_iff_eq.mp M.fn) (codeAny_mono (F.run _ X.stack _ _ ⟨Value.ref (s1.heap.objs.size + 1) :: us, []⟩ (Value.ref (s1.heap.objs.size + 1) :: us) _ _ (WE W σV) (hr.make C us [])
    (I2.env0.make C us []) bt r2 hq) fun res s' hq' => ?_))
  have fin := call_end I2 tk hq'
  cases res with
  | error e => exact fin
  | ok fl =>
    cases fl with
    | ret u =>
      obtain ⟨v, H', I3, rv, ev, q3⟩ := fin
      subst ev
      exact ⟨rv, ⟨V.ref (s1.heap.objs.size + 1), H', I3, rfl, q3⟩⟩
    | next => exact fin
    | brk => exact fin
    | cont => exact fin
/-- C(.., k = v, ..) -/
def bMakeK (c : Str) (q n : Nat) (pat : List Bool) (ds : List T) (f : List T → Hh → Res T) (a kw : SA) : SE := fun σ h => (a σ h).bind fun xs h1 => (kw σ h1).bind fun zs h2 => if xs.length = n ∧ zs.length = q then bMake c (n + 1 + pat.length) f (xs ++ weave pat ds zs) h2 else .stk
theorem de_makeK {x : Str} {k n : Nat} {f C : Addr} {fd : FuncData} {ps ks : List Str} {pat : List Bool} {dv : List V} {dt : List T} {kws : List Keyword} {kw : SA} {ff : List T → Hh → Res T} (M : Mk X.K C f)
    (F : FnOk X.prog X.w X.K X.mg X.base (L2.CX X.prog X.w) k f fd ps (spT X.K X.mg ps.length ff)) (hr : Room (k + 1) X.A) (hg : Gl X x) (hm : X.mg x = some (.ref C))
    (hb : KBw X.K fd ps (n + 1) ks pat dv) (hd : ∀ m H, RTs X.K X.mg m H dt dv) (tk : Takes X W) (ha : DA X P W (a :: es) ar) (hkw : DK X P W kws kw) (hn : n + 1 + pat.length = ps.length)
    (hall : (backToKw pos (keywordEach kws X.env)).all (·.1.isSome) = true := by rfl) (hks : (backToKw pos (keywordEach kws X.env)).filterMap (·.1) = ks := by rfl)
    (hdb : (x == ("__debug__" : Str)) = false := by decide) (he : starEach (a :: es) X.env = (false, eval a X.env) :: starEach es X.env := by rfl)
    (hpl : ((backTo pos (starEach (a :: es) X.env)).any (·.1) || (backToKw pos (keywordEach kws X.env)).any (·.1.isNone)) = false := by rfl) :
    DE X P W (.Call (.Name x p) (a :: es) kws pos) (bMakeK x ks.length n pat dt ff ar kw) := by
  obtain ⟨mv, hb⟩ := hb
  refine ⟨fun pins s σV H Q I ⟨m, h, σ, A, o⟩ => ?_⟩
  refine wpAny_Call_Name_kw (ld_glob I hg hm ?_ hdb)
  have first := A.first (rel1 := RTs X.K X.mg) o fun m1 h1 ts vs H1 E1 r1 A1 o1 =>
    (⟨m1, h1, ts, r1, A1, o1⟩ : ∃ m1 h1 ts, RTs X.K X.mg m1 H1 ts vs ∧ At X.K X.mg P m1 H1 σV σ h1 ∧ Out X.K X.mg (RT X.K X.mg) W σV Q m1 H1 ((kw σ h1).bind fun zs h2 => if ts.length = n ∧ zs.length = ks.length then bMake x (n + 1 + pat.length) ff (ts ++ weave pat dt zs) h2 else .stk))
  refine PySem.W.callWith_KW (h₀ := X.base) I.ok.mod.kin M.kp hall (thn (ha.run pos pins s σV H _ I first) fun us s1 ⟨vs, H1, I1, r, m1, h1, ts, r1, A1, o1⟩ => ?_) hpl he
  have second := A1.first (rel1 := RTs X.K X.mg) o1 fun m2 h2 zt zv H2 E2 r2 A2 o2 =>
    (⟨m2, h2, zt, r1.ext E2, r2, A2, o2⟩ : ∃ m2 h2 zt, RTs X.K X.mg m2 H2 ts vs ∧ RTs X.K X.mg m2 H2 zt zv ∧ At X.K X.mg P m2 H2 σV σ h2 ∧ Out X.K X.mg (RT X.K X.mg) W σV Q m2 H2 (if ts.length = n ∧ zt.length = ks.length then bMake x (n + 1 + pat.length) ff (ts ++ weave pat dt zt) h2 else .stk))
  refine thn (hkw.run pos pins s1 σV H1 _ I1 second) fun ws s2 ⟨zv, H2, I2, rz, m2, h2, zt, r1, r2, A2, o2⟩ => ⟨I2.kIn, ?_⟩
  rw [hks]
  split at o2
  · rename_i hl
    have l1 : vs.length = n := by rw [← r1.length]; exact hl.1
    have l2 : zv.length = ks.length := by rw [← r2.length]; exact hl.2
    rw [hn] at o2
    have hq := make_read hm (r1.append (RTs.weave pat (hd m2 H2) r2)) A2.hr o2 (I2.hok.fresh (Nat.le_succ _)) (I2.hok.fresh (Nat.le_refl _)) (Nat.ne_of_lt (Nat.lt_succ_self s2.heap.objs.size))
    have I3 := Inv.made (C := C) I2
    have rr := hb.rel (Paired.cons (show RelV (V.ref (s2.heap.objs.size + 1)) (Value.ref (s2.heap.objs.size + 1)) from rfl) r) rz
    have bt := hb.to _ (Value.ref (s2.heap.objs.size + 1) :: us) ws I3.kIn (by rw [List.length_cons, ← r.length, l1]) (rz.length.symm.trans l2)
    refine wpAny_call (make_map (f := f) I2.kIn M.makes M.init (beq_iff_eq.mp M.fn) (codeAny_mono (F.run _ X.stack _ _ ⟨Value.ref (s2.heap.objs.size + 1) :: us, ks.zip ws⟩ _ _ _ (WE W σV) (hr.make C us (ks.zip ws))
      (I3.env0.make C us (ks.zip ws)) bt rr hq) fun res s' hq' => ?_))
    have fin := call_end I3 tk hq'
    cases res with
    | error e => exact fin
    | ok fl =>
      cases fl with
      | ret u =>
        obtain ⟨v, H', I4, rv, ev, q3⟩ := fin
        subst ev
        exact ⟨rv, ⟨V.ref (s2.heap.objs.size + 1), H', I4, rfl, q3⟩⟩
      | next => exact fin
      | brk => exact fin
      | cont => exact fin
  · exact False.elim o2
end
end W3
end

section
/-! WK: isinstance, {}, what is done with a list that nobody keeps, methods of own classes. -/
namespace W3
open PySem PySem.Spec PyProof.Rows
open L2
def Kd.nm : Kd → String
  | .int => "int" | .bool => "bool" | .str => "str" | .tuple => "tuple" | .list => "list" | .dict => "dict"
section
variable {X : Cx} {P : Pq} {W : WX} {a b c o e : Expr} {sa sb sc so : SE} {pos pos' apos cpos p p2 : Pos} {es : List Expr} {ar : SA}
/-- the name of a value's kind -/
theorem ty_of {m : Mp} {H : Hp} {h : Hh} {t : T} {v : V} {k : Kd} {r : Bool} (R : HR X.K X.mg m h H) (q : RT X.K X.mg m H t v) (e : isK k t h = some r) : ∃ n : String, TyX X.K H v (.type n) ∧ kitB n k.nm = some r := by
  cases q with
  | non => exact ⟨_, .base .non, by cases e; cases k <;> decide +kernel⟩
  | bl b => exact ⟨_, .base (.bl b), by cases e; cases k <;> decide +kernel⟩
  | int b => exact ⟨_, .base (.int b), by cases e; cases k <;> decide +kernel⟩
  | str b => exact ⟨_, .base (.str _), by cases e; cases k <;> decide +kernel⟩
  | @tup a vs ts hq _ =>
    refine ⟨"tuple", ?_, by cases e; cases k <;> decide +kernel⟩
    rcases hq with ⟨ob, z, _⟩ | ⟨ob, its, n, hk, hc, _⟩
    · exact .fTuple z
    · exact .kTuple hk hc
  | @fl a vs ts hq _ =>
    refine ⟨"list", ?_, by cases e; cases k <;> decide +kernel⟩
    rcases hq with ⟨ob, z⟩ | ⟨ob, its, n, hk, hc, _⟩
    · exact .base (.frz z)
    · exact .kList hk hc
  | @ref l a e1 =>
    have e' : (match h[l]? with
      | some (.lst _) => some (k == .list)
      | some (.dic _) => some (k == .dict)
      | some (.ins _ _) => none
      | none => none) = some r := e
    split at e'
    · rename_i ts q1
      obtain ⟨b, e2, vs, g, _⟩ := R.ob l _ q1
      rw [e1] at e2; cases e2
      exact ⟨"list", .base (.lst g), by cases e'; cases k <;> decide +kernel⟩
    · rename_i ts q1
      obtain ⟨b, e2, _, g⟩ := R.ob l _ q1
      rw [e1] at e2; cases e2
      exact ⟨"dict", .base (.dK g), by cases e'; cases k <;> decide +kernel⟩
    · cases e'
    · cases e'
  | cls _ => cases e
theorem nx_isk (k : Kd) : NoX1 (oIsK k) := fun x h c fs h' e => by unfold oIsK at e; (repeat' split at e) <;> cases e
theorem de_isk (k : Kd) {x : Str} (hx : bootBuiltins x = some (.type k.nm)) (hg : Gl X "isinstance") (hm : X.mg "isinstance" = none) (hgx : Gl X x) (hmx : X.mg x = none) (ha : DE X P W a sa) (hn : x ≠ "__name__" := by decide) (hdx : (x == ("__debug__" : Str)) = false := by decide)
    (he : starEach [a, .Name x p2] X.env = (false, eval a X.env) :: starEach [.Name x p2] X.env := by rfl) (hpl : (backTo pos (starEach [.Name x p2] X.env)).any (·.1) = false := by rfl) (hs2 : starEach [.Name x p2] X.env = (false, eval (.Name x p2) X.env) :: starEach [] X.env := by rfl) :
    DE X P W (.Call (.Name "isinstance" p) [a, .Name x p2] [] pos) (s1 (oIsK k) sa) :=
  PE.imp (pe_callB call_isi hg hm boot_isinstance (pa_cons ha (pa_cons (pe_bltn (v := .ty k.nm) hgx hmx hx rfl hn hdx) pa_nil hs2) he) (by decide) (by decide) he hpl) fun σV H Q h => by
    refine tG.mono (fun v H1 hq => ?_) (one (nx_isk k) h)
    obtain ⟨m, h, t, r, R, o⟩ := hq
    unfold oIsK at o
    split at o
    · rename_i b e
      obtain ⟨n, ty, kb⟩ := ty_of R r e
      exact ⟨v, .ty k.nm, .type n, .type k.nm, b, rfl, .ty _, ty, kit_ty kb, o _ m H1 (Ext.refl _ _) (.bl _) R⟩
    · exact False.elim o
def sDic0 : SE := fun _ h => alloc (.dic []) h
theorem de_dic0 : DE X P W (.Dict [] [] pos) sDic0 := PE.imp pe_dnewK fun σV H Q ⟨m, h, σ, A, o⟩ => by
  intro d hd
  exact o _ _ _ (Ext.alloc A.hr hd) (.ref Mp.put_same) (A.hr.alloc hd ⟨rfl, upd_same⟩)
/-! ### a list that nobody keeps -/
/-- a call on a list that the small heap does not know -/
def rLst (K : PySem.W.Frag) (mg : Str → Option Value) (f : List T → Hh → Res T) : List V → Hp → VK → Prop := fun xs H Q => ∃ m h ts D vs, xs = [.ref D] ∧ H D = some (.lst vs) ∧ RTs K mg m H ts vs ∧ HR K mg m h H ∧ OutP K mg Q m H (f ts h)
theorem over_read {f : List T → Hh → Res T} (hf : NoXL f) {σV : L2.St} {H : Hp} {Q : VK} (h : tI X.K X.mg P W (sOver f ar) σV H Q) : tL X.K X.mg P W ar σV H fun x H1 => rLst X.K X.mg f [x] H1 Q := by
  obtain ⟨m, h, σ, A, o⟩ := h
  refine A.first (rel1 := relL X.K X.mg H) o fun m1 h1 ts x H1 E1 r1 A1 o1 => ?_
  obtain ⟨D, vs, rfl, _, hD, rr, _⟩ := r1
  exact ⟨m1, h1, ts, D, vs, rfl, hD, rr, A1.hr, o1.outP (hf _ _)⟩
theorem de_overB {id : String} {x : Str} {f : List T → Hh → Res T} (hc : CallR X (.builtin id) (rLst X.K X.mg f)) (hf : NoXL f) (hg : Gl X x) (hm : X.mg x = none) (hv : bootBuiltins x = some (.builtin id)) (ha : DL X P W a ar) (hn : x ≠ "__name__" := by decide) (hdb : (x == ("__debug__" : Str)) = false := by decide)
    (he : starEach [a] X.env = (false, eval a X.env) :: starEach [] X.env := by rfl) (hpl : (backTo pos (starEach [] X.env)).any (·.1) = false := by rfl) : DE X P W (.Call (.Name x p) [a] [] pos) (sOver f ar) :=
  PE.imp (pe_callB hc hg hm hv (pa_cons ha pa_nil he) hn hdb he hpl) fun σV H Q h => over_read hf h
theorem de_overTy {T' : String} {x : Str} {f : List T → Hh → Res T} (hc : CallR X (.type T') (rLst X.K X.mg f)) (hf : NoXL f) (hg : Gl X x) (hm : X.mg x = none) (hv : bootBuiltins x = some (.type T')) (ha : DL X P W a ar) (hn : x ≠ "__name__" := by decide) (hdb : (x == ("__debug__" : Str)) = false := by decide)
    (he : starEach [a] X.env = (false, eval a X.env) :: starEach [] X.env := by rfl) (hpl : (backTo pos (starEach [] X.env)).any (·.1) = false := by rfl) : DE X P W (.Call (.Name x p) [a] [] pos) (sOver f ar) :=
  PE.imp (pe_callTy hc hg hm hv (pa_cons ha pa_nil he) hn hdb he hpl) fun σV H Q h => over_read hf h
theorem bls_of {m : Mp} {H : Hp} : ∀ {ts : List T} {vs : List V} {bs : List Bool}, RTs X.K X.mg m H ts vs → blsOf ts = some bs → vs = bs.map V.bl
  | _, _, _, .nil, e => by cases e; rfl
  | _, _, bs, .cons (t := t) (ts := ts) r q, e => by
    cases r with
    | bl b =>
      have e' : (blsOf ts).map (b :: ·) = some bs := e
      cases z : blsOf ts with
      | none => rw [z] at e'; cases e'
      | some cs =>
        rw [z] at e'; cases e'
        rw [bls_of q z]; rfl
    | _ => cases e
theorem nx_all : NoXL bAll := fun x h c fs h' e => by unfold bAll at e; (repeat' split at e) <;> cases e
theorem nx_any : NoXL bAny := fun x h c fs h' e => by unfold bAny at e; (repeat' split at e) <;> cases e
theorem nx_tup : NoXL bTup := fun x h c fs h' e => by unfold bTup at e; cases e
theorem cl_all (hc : X.calm = true) : CallR X (.builtin "all") (rLst X.K X.mg bAll) := by
  intro pins s σ H xs us Q I ru hq
  obtain ⟨m, h, ts, D, vs, rfl, hD, r, R, o⟩ := hq
  unfold bAll at o
  split at o
  · rename_i bs e
    have := bls_of r e
    subst this
    exact cr_all hc pins s σ H _ us Q I ru ⟨D, bs, rfl, SqL.of hD, o _ m H (Ext.refl _ _) (.bl _) R⟩
  · exact False.elim o
theorem cl_any (hc : X.calm = true) : CallR X (.builtin "any") (rLst X.K X.mg bAny) := by
  intro pins s σ H xs us Q I ru hq
  obtain ⟨m, h, ts, D, vs, rfl, hD, r, R, o⟩ := hq
  unfold bAny at o
  split at o
  · rename_i bs e
    have := bls_of r e
    subst this
    exact cr_any hc pins s σ H _ us Q I ru ⟨D, bs, rfl, SqL.of hD, o _ m H (Ext.refl _ _) (.bl _) R⟩
  · exact False.elim o
theorem cl_tup : CallR X (.type "tuple") (rLst X.K X.mg bTup) := by
  intro pins s σ H xs us Q I ru hq
  obtain ⟨m, h, ts, D, vs, rfl, hD, r, R, o⟩ := hq
  exact call_tupleN pins s σ H _ us Q I ru ⟨D, vs, rfl, .inl ⟨SqL.of hD, fun p ob hp hd => OutP.newTup R r o hp hd⟩⟩
/-! ### o.m(..) of an own class -/
theorem de_meth {m : Str} {cn : Str} {C f : Addr} {k : Nat} {fd : FuncData} {ps : List Str} {ff : List T → Hh → Res T} {pl : Sem Bool} (hC : X.mg cn = some (.ref C)) (cc : Cls X.K C) (hm : Meth X.K C m f)
    (F : FnOk X.prog X.w X.K X.mg X.base (L2.CX X.prog X.w) k f fd ps (spT X.K X.mg ps.length ff)) (hr : Room k X.A) (hb : Binds X.K fd ps []) (tk : Takes X W) (ho : DE X P W o so) (ha : DA X P W (e :: es) ar)
    (hst : starEach (e :: es) X.env = (false, eval e X.env) :: starEach es X.env := by rfl) (hpl : (backTo pos (starEach es X.env)).any (·.1) = false := by rfl)
    (ht : eval (.Call (.Attribute o m apos) (e :: es) [] pos) X.env = (do
      let ov ← eval o X.env
      standAt apos.atName
      let (f, first) ← holding [ov] (getMethod ov m pl)
      callWith pos f first (backTo pos (starEach (e :: es) X.env)) (backToKw pos (keywordEach [] X.env))) := by rfl) :
    DE X P W (.Call (.Attribute o m apos) (e :: es) [] pos) (sMeth cn m ps.length ff so ar) := by
  refine ⟨fun pins s σV H Q I ⟨m0, h, σ, A, o0⟩ => ?_⟩
  have first := A.first (rel1 := RT X.K X.mg) o0 fun m1 h1 t v H1 E1 r1 A1 o1 =>
    (⟨m1, h1, t, r1, A1, o1⟩ : ∃ m1 h1 t, RT X.K X.mg m1 H1 t v ∧ At X.K X.mg P m1 H1 σV σ h1 ∧ Out X.K X.mg (RT X.K X.mg) W σV Q m1 H1 (match t with
      | .ref l => (match insAt h1 l with
        | some (d, fs) => if d = cn ∧ fs.lookup m = none then (ar σ h1).bind fun xs h2 => arN ps.length ff (t :: xs) h2 else .stk
        | none => .stk)
      | _ => .stk))
  refine PySem.W.methodCall_KW (pl := pl) (thn (ho.run pins s σV H _ I first) fun u s1 ⟨v, H1, I1, rv, m1, h1, t, r1, A1, o1⟩ => ?_) ht
  cases r1 with
  | @ref l a e1 =>
    dsimp only at o1
    split at o1
    · rename_i d fs q1
      split at o1
      · rename_i hd
        obtain ⟨hd1, hd2⟩ := hd
        subst hd1
        obtain ⟨Ca, dx, fv, g1, g2, rf⟩ := A1.hr.ins e1 q1
        rw [hC] at g1; cases g1
        obtain rfl : u = Value.ref a := rv
        have hno : fv.lookup m = none := by
          cases z : fv.lookup m with
          | none => rfl
          | some w =>
            exfalso
            have back : ∀ {fs : List (Str × T)} {fv : List (Str × V)} {w : V}, RF X.K X.mg m1 H1 fs fv → fv.lookup m = some w → fs.lookup m ≠ none := by
              intro fs fv w r
              induction r with
              | nil => intro q; simp [List.lookup] at q
              | @cons g t v fs fv _ _ ih =>
                intro q
                simp only [List.lookup] at q ⊢
                split at q
                · simp
                · exact ih q
            exact back rf z hd2
        refine getmeth_ok I1 g2 cc hm hno ?_
        have second := A1.first (rel1 := RTs X.K X.mg) o1 fun m2 h2 ts vs H2 E2 r2 A2 o2 =>
          (⟨m2, h2, ts, .ref (E2.mono _ _ e1), r2, A2, o2⟩ : ∃ m2 h2 ts, RT X.K X.mg m2 H2 (.ref l) (.ref a) ∧ RTs X.K X.mg m2 H2 ts vs ∧ At X.K X.mg P m2 H2 σV σ h2 ∧ Out X.K X.mg (RT X.K X.mg) W σV Q m2 H2 (arN ps.length ff (.ref l :: ts) h2))
        refine PySem.W.callWith_K (first := [.ref a]) (h₀ := X.base) I.ok.mod.kin hm.kp (thn (ha.run pos pins s1 σV H1 _ I1 second) fun us s2 ⟨vs, H2, I2, r, m2, h2, ts, ra, r2, A2, o2⟩ => ⟨I2.kIn, ?_⟩) hst hpl
        unfold arN at o2
        split at o2
        · rename_i hl
          exact run_fnS (us := .ref a :: us) (vs := .ref a :: vs) F hr hb (passAt tk σV) I2 (.cons rfl r) (spT_of (by rw [← hl, List.length_cons, List.length_cons, r2.length]) (.cons ra r2) A2.hr o2)
        · exact False.elim o2
      · exact False.elim o1
    · exact False.elim o1
  | _ => exact False.elim o1
theorem de_meth0 {m : Str} {cn : Str} {C f : Addr} {k : Nat} {fd : FuncData} {ps : List Str} {ff : List T → Hh → Res T} {pl : Sem Bool} (hC : X.mg cn = some (.ref C)) (cc : Cls X.K C) (hm : Meth X.K C m f)
    (F : FnOk X.prog X.w X.K X.mg X.base (L2.CX X.prog X.w) k f fd ps (spT X.K X.mg ps.length ff)) (hr : Room k X.A) (hb : Binds X.K fd ps []) (tk : Takes X W) (ho : DE X P W o so)
    (ht : eval (.Call (.Attribute o m apos) [] [] pos) X.env = (do
      let ov ← eval o X.env
      standAt apos.atName
      let (f, first) ← holding [ov] (getMethod ov m pl)
      callWith pos f first (backTo pos (starEach [] X.env)) (backToKw pos (keywordEach [] X.env))) := by rfl) :
    DE X P W (.Call (.Attribute o m apos) [] [] pos) (sMeth cn m ps.length ff so saNil) := by
  refine ⟨fun pins s σV H Q I ⟨m0, h, σ, A, o0⟩ => ?_⟩
  have first := A.first (rel1 := RT X.K X.mg) o0 fun m1 h1 t v H1 E1 r1 A1 o1 =>
    (⟨m1, h1, t, r1, A1, o1⟩ : ∃ m1 h1 t, RT X.K X.mg m1 H1 t v ∧ At X.K X.mg P m1 H1 σV σ h1 ∧ Out X.K X.mg (RT X.K X.mg) W σV Q m1 H1 (match t with
      | .ref l => (match insAt h1 l with
        | some (d, fs) => if d = cn ∧ fs.lookup m = none then (saNil σ h1).bind fun xs h2 => arN ps.length ff (t :: xs) h2 else .stk
        | none => .stk)
      | _ => .stk))
  refine PySem.W.methodCall_KW (pl := pl) (thn (ho.run pins s σV H _ I first) fun u s1 ⟨v, H1, I1, rv, m1, h1, t, r1, A1, o1⟩ => ?_) ht
  cases r1 with
  | @ref l a e1 =>
    dsimp only at o1
    split at o1
    · rename_i d fs q1
      split at o1
      · rename_i hd
        obtain ⟨hd1, hd2⟩ := hd
        subst hd1
        obtain ⟨Ca, dx, fv, g1, g2, rf⟩ := A1.hr.ins e1 q1
        rw [hC] at g1; cases g1
        obtain rfl : u = Value.ref a := rv
        have hno : fv.lookup m = none := by
          cases z : fv.lookup m with
          | none => rfl
          | some w =>
            exfalso
            have back : ∀ {fs : List (Str × T)} {fv : List (Str × V)} {w : V}, RF X.K X.mg m1 H1 fs fv → fv.lookup m = some w → fs.lookup m ≠ none := by
              intro fs fv w r
              induction r with
              | nil => intro q; simp [List.lookup] at q
              | @cons g t v fs fv _ _ ih =>
                intro q
                simp only [List.lookup] at q ⊢
                split at q
                · simp
                · exact ih q
            exact back rf z hd2
        refine getmeth_ok I1 g2 cc hm hno ?_
        have o2 : Out X.K X.mg (RT X.K X.mg) W σV Q m1 H1 (arN ps.length ff [.ref l] h1) := o1
        unfold arN at o2
        split at o2
        · rename_i hl
          exact PySem.W.callWith_K0 (first := [.ref a]) I1.kIn hm.kp (run_fnS (us := [.ref a]) (vs := [.ref a]) F hr hb (passAt tk σV) I1 (.cons rfl .nil) (spT_of hl (.cons (.ref e1) .nil) A1.hr o2))
        · exact False.elim o2
      · exact False.elim o1
    · exact False.elim o1
  | _ => exact False.elim o1
end
end W3
end

section
/-! WL: sets of ints and texts: {e for ..} and set(..), for their number. -/
namespace W3
open PySem PySem.Spec PyProof.Rows
open L2
instance decMemK (k : Key) (l : List Key) : Decidable (k ∈ l) := decidable_of_iff (l.any (fun j => decide (j = k)) = true) (by simp [List.any_eq_true])
/-- each once, in the order of the first -/
def uq : List Key → List Key := fun ks => ks.foldl (fun acc k => if k ∈ acc then acc else acc ++ [k]) []
theorem uq_snoc (ks : List Key) (k : Key) : uq (ks ++ [k]) = if k ∈ uq ks then uq ks else uq ks ++ [k] := by
  unfold uq; rw [List.foldl_append]; rfl
theorem uq_mem (ks : List Key) : ∀ k, k ∈ uq ks ↔ k ∈ ks := by
  intro k
  suffices h : ∀ (l acc : List Key), (k ∈ l.foldl (fun acc k => if k ∈ acc then acc else acc ++ [k]) acc ↔ k ∈ acc ∨ k ∈ l) by
    have := h ks []
    simpa [uq] using this
  intro l
  induction l with
  | nil => intro acc; simp
  | cons x l ih =>
    intro acc
    rw [List.foldl_cons, ih]
    by_cases hx : x ∈ acc
    · rw [if_pos hx]
      constructor
      · rintro (h | h)
        · exact .inl h
        · exact .inr (List.mem_cons_of_mem _ h)
      · rintro (h | h)
        · exact .inl h
        · rcases List.mem_cons.mp h with e | e
          · subst e; exact .inl hx
          · exact .inr e
    · rw [if_neg hx]
      simp only [List.mem_append, List.mem_cons, List.mem_singleton, List.not_mem_nil, or_false]
      constructor
      · rintro ((h | h) | h)
        · exact .inl h
        · exact .inr (.inl h)
        · exact .inr (.inr h)
      · rintro (h | h | h)
        · exact .inl (.inl h)
        · exact .inl (.inr h)
        · exact .inr h
def keyT : T → Option Key
  | .int i => some (.inl i)
  | .str x => some (.inr x)
  | _ => none
def keysT : List T → Option (List Key)
  | [] => some []
  | t :: ts => match keyT t, keysT ts with | some k, some ks => some (k :: ks) | _, _ => none
/-- len(set(..)) by the items -/
def bLenSet (ts : List T) (h : Hh) : Res T := match keysT ts with
  | some ks => if ks.length + 1 < scanBound then .ok (.int (uq ks).length) h else .stk
  | none => .stk
theorem nx_lenset : NoXL bLenSet := fun x h c fs h' e => by unfold bLenSet at e; (repeat' split at e) <;> cases e
/-- the set of the keys acc at a -/
def SetA (P : Program) (w : World) (a : Addr) (acc : List Key) : HO := SetK P w a (fun k => decide (k ∈ acc)) (uq acc).length
theorem setA_snoc (P : Program) (w : World) (a : Addr) (acc : List Key) (k : Key) :
    SetK P w a (fun j => (fun k => decide (k ∈ acc)) j || decide (j = k)) (if (fun k => decide (k ∈ acc)) k = true then (uq acc).length else (uq acc).length + 1) = SetA P w a (acc ++ [k]) := by
  unfold SetA
  have e1 : (fun j => (decide (j ∈ acc) || decide (j = k))) = fun j => decide (j ∈ acc ++ [k]) := by
    funext j
    by_cases h1 : j ∈ acc <;> by_cases h2 : j = k <;> simp [h1, h2]
  have e2 : (if decide (k ∈ acc) = true then (uq acc).length else (uq acc).length + 1) = (uq (acc ++ [k])).length := by
    rw [uq_snoc]
    by_cases h : k ∈ acc
    · rw [if_pos (decide_eq_true h), if_pos ((uq_mem acc k).mpr h)]
    · rw [if_neg (by simpa using h), if_neg (fun z => h ((uq_mem acc k).mp z)), List.length_append, List.length_singleton]
  rw [← e1, ← e2]
section
variable {X : Cx}
theorem kv_of {m : Mp} {H : Hp} {t : T} {v : V} {k : Key} (r : RT X.K X.mg m H t v) (e : keyT t = some k) : v = kV k := by
  cases r with
  | int i => cases e; rfl
  | str h => cases e; rfl
  | _ => cases e
/-- {elt for tg in iter if ..}: D the new set of keys -/
def tSk (P : Program) (w : World) (wi : TI) (g : TG) (tt : TT) (te : TE) (vs : List Nat) : TE := fun σ H Q => wi σ H fun J H1 => ∀ D, H1 D = none →
  ∃ V : Nat → Nat → Hp → Prop, (∃ m, V 0 m (upd H1 D (SetA P w D []))) ∧ ∀ i m H, V i m H →
    (J.stop i H ∧ Q (.ref D) H) ∨ (J.go i H ∧ ∃ Nx : Hp → Prop, (∀ H', Nx H' → ∃ m', m' < m ∧ V (i + 1) m' H') ∧ ∀ x H', J.yld i H x H' →
      g x (wipe σ vs) H' fun σ2 H2 => wipe σ2 vs = wipe σ vs ∧ tt σ2 H2 fun b H3 => if b = true then te σ2 H3 fun y H4 =>
        ∃ (k : Key) (acc : List Key), y = kV k ∧ H4 D = some (SetA P w D acc) ∧ acc.length + 1 < scanBound ∧ Nx (upd H4 D (SetA P w D (acc ++ [k]))) else Nx H3)
theorem uq_len (ks : List Key) : (uq ks).length ≤ ks.length := by
  suffices h : ∀ (l acc : List Key), (l.foldl (fun acc k => if k ∈ acc then acc else acc ++ [k]) acc).length ≤ acc.length + l.length by
    have := h ks []
    simpa [uq] using this
  intro l
  induction l with
  | nil => intro acc; simp
  | cons x l ih =>
    intro acc
    rw [List.foldl_cons]
    refine Nat.le_trans (ih _) ?_
    by_cases hx : x ∈ acc
    · rw [if_pos hx, List.length_cons]; omega
    · rw [if_neg hx, List.length_append, List.length_singleton, List.length_cons]; omega
theorem setA_fresh {h : Heap} {P : Program} {w : World} {H : Hp} :
    ObjOk P w H (h.push { cls := .type "set", dict := none, data := .set #[] 0 (.fresh 0 0 (!w.params.followText "set-order")) }) h.objs.size (SetA P w h.objs.size []) :=
  setK_new ⟨_, #[], 0, _, Heap.get?_push_size _ rfl, ⟨rfl, rfl, rfl⟩, rfl, fun e he => by simp at he, fun k => by simp, by decide, rfl, rfl⟩
theorem setA_add {pins : List (Addr × Obj)} {σ : L2.St} {H : Hp} {s : Shared} {D : Addr} {acc : List Key} {k : Key} {v : Value} {Q : Value → Shared → Prop} (I : L2.Inv X pins σ H s) (hD : H D = some (SetA X.prog X.w D acc)) (rv : RelV (kV k) v)
    (room : acc.length + 1 < scanBound) (q : ∀ s', L2.Inv X pins σ (upd H D (SetA X.prog X.w D (acc ++ [k]))) s' → Q .none s') : wpAny (model X.prog X.w) X.A (call (.builtin "set.add") [.ref D, v]) Q X.xe s := by
  refine thn (mt_saddK pins s σ H (.ref D) [kV k] (.ref D) [v] (fun v H' => v = .non ∧ H' = upd H D (SetA X.prog X.w D (acc ++ [k]))) I rfl (.cons rv .nil) ⟨D, k, _, _, rfl, rfl, hD, by have := uq_len acc; omega, rfl, ?_⟩) fun u s' hu => ?_
  · exact congrArg (upd H D) (setA_snoc X.prog X.w D acc k)
  · obtain ⟨v', H', I', r', e1, e2⟩ := hu
    subst e1; subst e2
    obtain rfl : u = Value.none := r'
    exact q s' I'
open PpSet in
theorem pe_sk {elt tg iter : Expr} {ifs : List Expr} {scope : Scope} {own : List (PySem.Str × Nat)} {pos : Pos} {wi : TI} {g : TG} {tt : TT} {te : TE} (hc : X.calm = true) (hN : X.N.Nodup) (hi : PI X tg iter wi) (ok : BlkOk X.N X.env.scope scope own)
    (hg : ∀ (z : Shared) (L : Hp) (C : Addr) (cl : List (PySem.Str × Addr)) (fp : List Addr), PG (X.blk z L scope (compEnvC scope cl C X.env) fp) tg g)
    (ht : ∀ (z : Shared) (L : Hp) (C : Addr) (cl : List (PySem.Str × Addr)) (fp : List Addr), PTs (X.blk z L scope (compEnvC scope cl C X.env) fp) ifs tt)
    (he : ∀ (z : Shared) (L : Hp) (C : Addr) (cl : List (PySem.Str × Addr)) (fp : List Addr), PE (X.blk z L scope (compEnvC scope cl C X.env) fp) elt te) (hs : ∀ x, foldedSetIterable iter X.env x = pure x) :
    PE X (.SetComp elt [⟨tg, iter, ifs, 0⟩] scope pos) (tSk X.prog X.w wi g tt te (own.map (·.2))) := by
  refine ⟨fun pins s σ H Q I hw => ?_⟩
  rw [eval_SetComp]
  have fr : ∀ y ∈ scope.names, y.2 = .free → ∃ c, X.env.cells.lookup y.1 = some c := by
    intro y hy e
    cases ok.free y hy e with
    | inl k => exact I.ok.has _ (.inl k)
    | inr k => exact I.ok.has _ (.inr k)
  refine wpAny_comprehension_free (use := none) rfl hs (closure_ok fr) ok.kind (fun y hy e => (ok.uniq y hy).trans (congrArg some e)) ?_
  refine thn (hi.run pins s σ H _ I hw) fun xv s1 hx => thn hx fun itv s2 hz => ?_
  obtain ⟨it, fp, tn, J, L2', e, J2, Tn, a2, b2, q⟩ := hz
  subst e
  refine newSet_ok (newEnv_comp ?_)
  generalize hD : s2.heap.objs.size = D
  have nD : L2' D = none := J2.hok.fresh (Nat.le_of_eq hD)
  obtain ⟨V, ⟨m0, w0⟩, turn⟩ := q D nD
  generalize hs3 : ({ s2 with heap := s2.heap.push { cls := .type "set", dict := none, data := .set #[] 0 (.fresh 0 0 (!X.w.params.followText "set-order")) } } : Shared) = s3
  have kp3 : ∀ b o, s2.heap.get? b = some o → s3.heap.get? b = some o := by
    intro b o e
    rw [← hs3]
    exact Heap.get?_push_of_some _ e
  generalize hL3 : upd L2' D (SetA X.prog X.w D []) = L3 at w0
  have J3 : L2.Inv X pins σ L3 s3 := by
    rw [← hL3, ← hs3]
    refine J2.laid (t' := s2.toks) (fun b o e => Heap.get?_push_of_some _ e) (Nat.le_of_eq hD) ?_
    rw [← hD]
    exact setA_fresh
  have old : ∀ b ∈ fp, b < s2.heap.objs.size := fun b hb => (Tn.obj _ _ a2 b hb).elim fun o z => Heap.lt_size z.1
  have b3 : ∀ b ∈ fp, FpOk X pins L3 b ∧ b < s3.heap.objs.size := by
    intro b hb
    have lt := old b hb
    refine ⟨⟨?_, (b2 b hb).2⟩, ?_⟩
    · rw [← hL3, upd_ne (by rw [← hD]; exact Nat.ne_of_lt lt)]
      exact (b2 b hb).1
    · rw [← hs3]
      show b < (Heap.push _ _).objs.size
      rw [Heap.size_push]
      exact Nat.lt_succ_of_lt lt
  have a3 : tn 0 s3.heap := Tn.keep _ _ _ a2 fun b _ o e => kp3 b o e
  have J4 := block_start J3 ok hN b3
  generalize hcl : cellsFrom (s3.heap.objs.size + 1) scope.names (cloFrom X.env.cells scope.names []) = cl at J4 ⊢
  have pg := hg s3 L3 s3.heap.objs.size cl fp
  have pt := ht s3 L3 s3.heap.objs.size cl fp
  have pe := he s3 L3 s3.heap.objs.size cl fp
  show codeAny _ _ (.compStart (.SetComp elt [⟨tg, iter, ifs, 0⟩] scope pos) 0 (.ref it) (.ref D) (compEnvC scope cl s3.heap.objs.size X.env))
    (compPost (model X.prog X.w) X.A X.xe none (EP X pins σ Q) (.ref D) s3.heap.objs.size) _
  generalize hce : compEnvC scope cl s3.heap.objs.size X.env = ce at J4 pg pt pe ⊢
  have cL : ce.locals = s3.heap.objs.size := by rw [← hce]; rfl
  have n3 : ∀ b ∈ fp, L3 b = none := fun b hb => (b3 b hb).1.1
  generalize hs4 : ({ s3 with heap := pushCells (s3.heap.push { cls := .type "dict", data := .dict #[] }) scope.names } : Shared) = s4 at J4 ⊢
  have a4 : tn 0 s4.heap := Tn.keep _ _ _ a3 fun b _ o e => by
    rw [← hs4]
    exact pushCells_keeps _ _ _ _ (Heap.get?_push_of_some _ e)
  have stat : ∀ {τ : L2.St} {L : Hp} {z : Shared}, L2.Inv (X.blk s3 L3 scope ce fp) [] τ L z → (∀ b ∈ fp, L b = none) → ∀ b ∈ fp, FpOk (X.blk s3 L3 scope ce fp) [] L b := by
    intro τ L z J' hn b hb
    refine ⟨hn b hb, (J'.ok.exf b hb).1, J'.ok.exfs b hb, .inl hb, (J'.ok.exf b hb).2, fun p hp => ?_⟩
    have : p ∈ ([] : List (Addr × Obj)) := hp
    cases this
  have loop : codeAny (model X.prog X.w) X.A (.compLoop (.SetComp elt [⟨tg, iter, ifs, 0⟩] scope pos) 0 (.ref it) (.ref D) ce)
      (compPost (model X.prog X.w) X.A X.xe none (EP X pins σ Q) (.ref D) s3.heap.objs.size) s4 := by
    refine compLoopS_any (fun n z => ∃ i L, L2.Inv (X.blk s3 L3 scope ce fp) [] (wipe σ (own.map (·.2))) L z ∧ tn i z.heap ∧ (∀ b ∈ fp, L b = none) ∧ V i n L) ?_ m0 ⟨0, L3, J4, a4, n3, w0⟩
    intro n s5 h5
    obtain ⟨i, L5, J5, a5, n5, w5⟩ := h5
    cases turn i n L5 w5 with
    | inl hstop =>
      refine thnF (Tn.done (X.blk s3 L3 scope ce fp) rfl rfl rfl hc i [] s5 _ L5 (fun _ _ => False) J5 (stat J5 n5) a5 hstop.1) fun r s6 h6 => ?_
      obtain ⟨hr, J6⟩ := h6
      subst hr
      have J7 : L2.Inv X pins σ L5 s6 := J3.call' (ch := fp) J6.os J6.base J6.hok J6.bare fun b hb => by
        have z := (b3 b hb).1.2
        exact ⟨z.2.2.1, z.1, z.2.2.2.1, z.2.2.2.2⟩
      have nC : L5 s3.heap.objs.size = none := by rw [← cL]; exact J6.free
      obtain ⟨mm, hn, _⟩ := J6.loc
      have hn' : s6.heap.Ns s3.heap.objs.size mm := by rw [← cL]; exact hn
      have fC := J3.fpOk (Nat.le_refl s3.heap.objs.size) nC
      obtain ⟨c0, c1, _, c3, c4, c5⟩ := fC
      exact ⟨mm, hn', fun h'' sb => ⟨.ref D, L5, J7.turned (t' := s6.toks) (fun b o hb e => (sb.2 b hb).trans e) c0 c1 c3 c4 c5, rfl, hstop.2⟩⟩
    | inr hgo =>
      obtain ⟨go, Nx, hNx, step⟩ := hgo
      refine thnF (Tn.item (X.blk s3 L3 scope ce fp) rfl rfl rfl hc i [] s5 _ L5 (fun _ _ => False) J5 (stat J5 n5) a5 go) fun r s6 h6 => ?_
      obtain ⟨u, hr, h6⟩ := h6
      subst hr
      refine thnF h6 fun _ s7 h7 => ?_
      obtain ⟨x, L7, J7, r7, y7, a7, n7⟩ := h7
      refine thnF (pg.run _ s7 _ L7 x u _ (J7.pinned (stat J7 n7) (Tn.obj _ _ a7)) r7 (step x L7 y7)) fun _ s8 h8 => ?_
      obtain ⟨σ8, L8, J8, hw8, q8⟩ := h8
      refine thnF (pt.run _ s8 σ8 L8 _ J8 q8) fun b s9 h9 => ?_
      obtain ⟨L9, J9, q9⟩ := h9
      have fin : ∀ {z : Shared} {L : Hp}, L2.Inv (X.blk s3 L3 scope ce fp) ([] ++ pinsAt fp s7.heap) σ8 L z → Nx L →
          ∃ m, m < n ∧ ∃ i L, L2.Inv (X.blk s3 L3 scope ce fp) [] (wipe σ (own.map (·.2))) L z ∧ tn i z.heap ∧ (∀ b ∈ fp, L b = none) ∧ V i m L := by
        intro z L J' nx
        obtain ⟨m', hm, w'⟩ := hNx L nx
        have held : ∀ b ∈ fp, ∀ o, s7.heap.get? b = some o → z.heap.get? b = some o ∧ L b = none := by
          intro b hb o e
          have k := J'.pin (b, o) (List.mem_append_right _ (List.mem_append_right _ (mem_pinsAt hb e)))
          exact ⟨k.1, k.2.1⟩
        refine ⟨m', hm, i + 1, L, (J'.unpinned (pins := [])).weak (by rw [← hw8, wipe_length]) (fun j v e => ?_), Tn.keep _ _ _ a7 fun b hb o e => (held b hb o e).1, fun b hb => ?_, w'⟩
        · rw [← hw8] at e
          exact (wipe_some e).1
        · obtain ⟨o, e, _⟩ := Tn.obj _ _ a7 b hb
          exact (held b hb o e).2
      cases b with
      | false => exact fin J9 q9
      | true =>
        refine thnF (pe.run _ s9 σ8 L9 _ J9 q9) fun z s10 h10 => ?_
        obtain ⟨yv, L10, J10, r10, k, acc, ey, hD10, room, nx⟩ := h10
        subst ey
        exact thnF (setA_add (X := X.blk s3 L3 scope ce fp) (Q := fun u z => u = .none ∧ L2.Inv (X.blk s3 L3 scope ce fp) ([] ++ pinsAt fp s7.heap) σ8 (upd L10 D (SetA X.prog X.w D (acc ++ [k]))) z) J10 hD10 r10 room fun s11 J11 => ⟨rfl, J11⟩) fun _ s11 h11 => fin h11.2 nx
  exact codeAny_compStart_set loop (Tn.self X.A 0 _ _ _ a4 loop)
end
end W3
end

section
/-! WM: set(t) of a tuple of keys; len of such sets. -/
namespace W3
open PySem PySem.Spec PyProof.Rows
open L2
section
variable {P : Program} {w : World} {A : Around} {E : Value → Shared → Prop} {s : Shared}
/-- the keys of values -/
abbrev KeysAre (P : Program) (w : World) (ks : List Key) (vs : List Value) : Prop := Paired (fun k v => RelV (kV k) v) ks vs
theorem KeysAre.get {ks : List Key} {vs : List Value} (r : KeysAre P w ks vs) : ∀ {i : Nat} {v : Value}, vs[i]? = some v → ∃ k, ks[i]? = some k ∧ RelV (kV k) v := by
  induction r with
  | nil => intro i v e; simp at e
  | cons r _ ih =>
    intro i v e
    cases i with
    | zero => simp at e; subst e; exact ⟨_, rfl, r⟩
    | succ i => exact ih (by simpa using e)
abbrev freshSet (w : World) : Obj := { cls := .type "set", dict := none, data := .set #[] 0 (.fresh 0 0 (!w.params.followText "set-order")) }
abbrev SetI (P : Program) (w : World) (h : Heap) (a : Addr) (acc : List Key) : Prop := h.SetOf (mixKind P w) a (fun k => decide (k ∈ acc)) (uq acc).length
theorem setI_fresh {h : Heap} {a : Addr} (e : h.get? a = some (freshSet w)) : SetI P w h a [] :=
  ⟨_, #[], 0, _, e, ⟨rfl, rfl, rfl⟩, rfl, fun e he => by simp at he, fun k => by simp, by decide, rfl, rfl⟩
theorem setI_snoc {h : Heap} {a : Addr} {acc : List Key} {k : Key} (R : h.SetOf (mixKind P w) a (fun j => (fun k => decide (k ∈ acc)) j || decide (j = k)) (if (fun k => decide (k ∈ acc)) k = true then (uq acc).length else (uq acc).length + 1)) :
    SetI P w h a (acc ++ [k]) := by
  have e1 : (fun j => (decide (j ∈ acc) || decide (j = k))) = fun j => decide (j ∈ acc ++ [k]) := by
    funext j
    by_cases h1 : j ∈ acc <;> by_cases h2 : j = k <;> simp [h1, h2]
  have e2 : (if decide (k ∈ acc) = true then (uq acc).length else (uq acc).length + 1) = (uq (acc ++ [k])).length := by
    rw [uq_snoc]
    by_cases h : k ∈ acc
    · rw [if_pos (decide_eq_true h), if_pos ((uq_mem acc k).mpr h)]
    · rw [if_neg (by simpa using h), if_neg (fun z => h ((uq_mem acc k).mp z)), List.length_append, List.length_singleton]
  show h.SetOf (mixKind P w) a (fun j => decide (j ∈ acc ++ [k])) (uq (acc ++ [k])).length
  rw [← e1, ← e2]
  exact R
theorem loopK {I : Addr} {fp wr : List Addr} {G : Array GenState → Array GenState → Prop} {n : Nat} {Pv : Nat → Value → Prop} {St : Nat → Shared → Prop} {R : Result → Shared → Prop}
    (Wk : WalksS P w A.in1 I fp wr G n Pv St) (D : Addr) (nD : D ∉ fp) (ks : List Key) (hn : n = ks.length) (room : ks.length + 1 < scanBound) (hv : ∀ i v, Pv i v → ∃ k, ks[i]? = some k ∧ RelV (kV k) v) :
    ∀ (left i : Nat) (z : Shared), n - i = left → i ≤ n → St i z → SetI P w z.heap D (ks.take i) → (∀ z', Moved (D :: wr) G z z' → SetI P w z'.heap D ks → R (.ok (.ret .none)) z') →
      codeAny (model P w) A (.builtin "set.update.loop" ⟨[.ref D, .ref I], []⟩) R z := by
  have nW : D ∉ wr := fun q => nD (Wk.sub _ q)
  have more : ∀ b ∈ wr, b ∈ D :: wr := fun b q => List.mem_cons_of_mem _ q
  intro left
  induction left with
  | zero =>
    intro i z e1 e2 st S fin
    have hi : i = n := by omega
    subst hi
    refine codeAny_builtin PyProof.Rows.F.entry_set_update_loop ?_
    rw [Around.under_plainId PyProof.Rows.F.plain_set_update_loop _]
    show wpAny _ A.in1 (pyNext (.ref I) >>= _) _ _ z
    refine wpAny_bind (Wk.done z _ _ st fun z' mv => ?_)
    show wpAny _ A.in1 (ret Value.none) _ _ z'
    rw [List.take_of_length_le (by omega)] at S
    exact wpAny_pure (fin z' (mv.mono more) (setOf_at S fun o q => mv.heap D o nW q))
  | succ left ih =>
    intro i z e1 e2 st S fin
    have lt : i < n := by omega
    refine codeAny_builtin PyProof.Rows.F.entry_set_update_loop ?_
    rw [Around.under_plainId PyProof.Rows.F.plain_set_update_loop _]
    show wpAny _ A.in1 (pyNext (.ref I) >>= _) _ _ z
    refine wpAny_bind (Wk.item i z _ _ lt st fun v z' pv st' mv => ?_)
    obtain ⟨k, hk, rk⟩ := hv i v pv
    have S' : SetI P w z'.heap D (ks.take i) := setOf_at S fun o q => mv.heap D o nW q
    have hlen : (uq (ks.take i)).length + 1 < scanBound := by
      have := uq_len (ks.take i)
      rw [List.length_take] at this
      omega
    show wpAny _ A.in1 (holding [v] (setAdd D v) >>= _) _ _ z'
    refine wpAny_bind (wpAny_holding ?_)
    unfold setAdd
    refine wpAny_holding (wpAny_bind ((mixKind P w).pyHash (k := k) (kV_is rk) ?_))
    refine wpAny_setAddHashed_of (knd := mixKind P w) (s := { z' with toks := z'.toks + 1 }) (kV_is rk) (key_scan rk) S' hlen fun h' sb S2 => ?_
    have S3 : SetI P w h' D (ks.take (i + 1)) := by
      rw [List.take_add_one, hk]
      exact setI_snoc S2
    refine wpAny_pure ⟨plainId_quiet PyProof.Rows.F.plain_set_update_loop _, ih (i + 1) _ (by omega) (by omega) (Wk.frame _ z' _ _ st' (Nat.le_succ _) fun b hb o q => ?_) S3 fun z'' mv'' S'' => ?_⟩
    · rw [sb.2 b (fun q : b = D => nD (q ▸ hb))]; exact q
    · refine fin z'' (Moved.trans Wk.gtrans ((mv.mono more).then_heap (Nat.le_succ _) fun b o hb q => ?_) mv'') S''
      rw [sb.2 b (fun q : b = D => hb (by rw [q]; exact List.mem_cons_self))]; exact q
set_option maxHeartbeats 3200000 in
theorem call_setK {l : Addr} {items : Array Value} (ks : List Key) {Q : Value → Shared → Prop} (hh : A.handled = none) (hl : s.heap.IsTuple l items) (hit : KeysAre P w ks items.toList) (room : ks.length + 1 < scanBound)
    (h : ∀ (h' : Heap) (tk : Nat), SetI P w h' s.heap.objs.size ks → (∀ b o, s.heap.get? b = some o → h'.get? b = some o) → Q (.ref s.heap.objs.size) { s with heap := h', toks := tk }) :
    wpAny (model P w) A (call (.type "set") [.ref l]) Q E s := by
  have hisz : items.size = ks.length := by
    have q : ks.length = items.toList.length := Paired.length hit
    rw [Array.length_toList] at q
    exact q.symm
  obtain ⟨c, tl, hmro⟩ := PySem.F.called_set.mro
  have hmade := PySem.F.called_set.made
  have hsub := PySem.F.called_set.sub
  refine wpAny_call (codeAny_of_tree ?_)
  show wpAny _ _ (callAny (.type "set") _) _ _ _
  refine wpAny_pure ⟨Code.quiet_builtin _ (by decide +kernel), codeAny_builtin PySem.F.entry_type_call ?_⟩
  rw [Around.under_plain (weight_type_call_type "set" [.ref l] []) rfl]
  have h1 := PySem.F.called_set.notType
  have h2 := PySem.F.called_set.canCreate
  have hct := PySem.F.typeCall_set_1 (.ref l)
  repeat (any_goals (first | assumption | wp_step))
  refine codeAny_mono (code_set_led1 (.ref l) (E := E) (Q₁ := fun obj z => obj = .ref s.heap.objs.size ∧ z = { s with heap := s.heap.push (freshSet w) }) ⟨rfl, rfl⟩) fun r z hr => ?_
  cases r with
  | error e => exact hr
  | ok fl =>
    cases fl with
    | next => exact hr.elim
    | brk => exact hr.elim
    | cont => exact hr.elim
    | ret obj =>
      obtain ⟨rfl, rfl⟩ := hr
      have hS : (s.heap.push (freshSet w)).get? s.heap.objs.size = some (freshSet w) := Heap.get?_push_size _ rfl
      have hT : Shared.TypeIs { s with heap := s.heap.push (freshSet w) } (.ref s.heap.objs.size) "set" := ⟨_, hS, rfl⟩
      have hli := PySem.F.called_set.init.lookup
      have hbi := PySem.F.called_set.init.bind (.ref s.heap.objs.size)
      repeat (any_goals (first | assumption | wp_step))
      refine codeAny_mono (codeAny_call_builtin (R := wants (fun r z => r = .none ∧ ∃ h' tk, z = { s with heap := h', toks := tk } ∧ SetI P w h' s.heap.objs.size ks ∧ ∀ b o, s.heap.get? b = some o → h'.get? b = some o) E)
        PySem.F.called_set.init.plain PySem.F.entry_set_init (check_set_init_1 hT ?_)) fun r2 z2 hr2 => ?_
      · obtain ⟨⟨oc, od, odat, osl⟩, hol, hcl, nl, hdl⟩ := hl
        simp only at hcl hdl
        subst hcl
        subst hdl
        have hol' : (s.heap.push (freshSet w)).get? l = some { cls := .type "tuple", dict := od, data := .seq items nl, slots := osl } := Heap.get?_push_of_some _ hol
        have hsls := PySem.F.sub_tuple_set
        have hslf := PySem.F.sub_tuple_frozenset
        have hne : (Value.type "tuple" == Value.type "dict") = false := by decide
        have hl1 : (s.heap.push (freshSet w)).IsTuple l items := ⟨_, hol', rfl, nl, rfl⟩
        unfold Builtin.«set.__init__» noKeywords Builtin.Frozenset.updateFrom
        generalize hPI : pyIter = PI
        wp_walk
        subst hPI
        refine wpAny_pyIter_tuple hl1 (wpAny_bind (wpAny_runValue ?_))
        have lS : l < s.heap.objs.size := Heap.lt_size hol
        have hh3 : A.in1.in1.in1.handled = none := by simp [hh]
        have neI : l ≠ (s.heap.push (freshSet w)).objs.size := by
          rw [Heap.size_push]
          exact Nat.ne_of_lt (Nat.lt_succ_of_lt lS)
        have nSf : s.heap.objs.size ∉ [(s.heap.push (freshSet w)).objs.size, l] := by
          rw [Heap.size_push]
          simp only [List.mem_cons, List.not_mem_nil, or_false, not_or]
          exact ⟨Nat.ne_of_lt (Nat.lt_succ_self _), Nat.ne_of_gt lS⟩
        refine loopK ((Walks.tuple hh3 _ l neI items).toS) s.heap.objs.size nSf ks hisz room (fun i v q => hit.get (by rw [Array.getElem?_toList]; exact q)) items.size 0 _ (by omega) (Nat.zero_le _) ⟨⟨_, Heap.get?_push_size _ rfl, rfl, rfl⟩, hl1.push _⟩ ?_ ?_
        · exact setI_fresh (Heap.get?_push_of_some _ hS)
        · intro z' mv S'
          obtain ⟨h', g2, d', tk', os'⟩ := z'
          have eg : g2 = s.gens := mv.gens
          have ed : d' = s.drawn := mv.drawn
          have eo : os' = s.os := mv.os
          subst eg; subst ed; subst eo
          refine wpAny_pure ?_
          show wpAny _ _ (ret Value.none) _ _ _
          refine wpAny_pure ⟨rfl, h', tk', rfl, S', fun b o q => ?_⟩
          have lb : b < s.heap.objs.size := Heap.lt_size q
          refine mv.heap b o ?_ (Heap.get?_push_of_some _ (Heap.get?_push_of_some _ q))
          rw [Heap.size_push]
          simp only [List.mem_cons, List.not_mem_nil, or_false, not_or]
          exact ⟨Nat.ne_of_lt lb, Nat.ne_of_lt (Nat.lt_succ_of_lt lb)⟩
      · cases r2 with
        | error e => exact hr2
        | ok fl2 =>
          cases fl2 with
          | next => exact hr2.elim
          | brk => exact hr2.elim
          | cont => exact hr2.elim
          | ret r =>
            obtain ⟨rfl, h', tk, rfl, S', kk⟩ := hr2
            repeat (any_goals (first | assumption | wp_step))
            exact h _ _ S' kk
end
end W3
end

section
/-! WN: len(set(t)), len({e for ..}). -/
namespace W3
open PySem PySem.Spec PyProof.Rows
open L2
section
variable {X : Cx} {P : Pq} {W : WX} {a b c o e tg iter : Expr} {sa sb sc so : SE} {pos pos' apos cpos p p2 q2 : Pos} {es : List Expr} {ar : SA} {si : SI}
theorem HR.outA {K : PySem.W.Frag} {mg : Str → Option Value} {m : Mp} {H : Hp} {h : Hh} (R : HR K mg m h H) {D : Addr} {Pr : Program} {w : World} {as bs : List Key} (e : H D = some (SetA Pr w D as)) (n : ∀ l, m l ≠ some D) : HR K mg m h (upd H D (SetA Pr w D bs)) where
  dom := R.dom
  inj := R.inj
  ob := fun l u q => by
    obtain ⟨a, e1, r⟩ := R.ob l u q
    have T : Tr m H m (upd H D (SetA Pr w D bs)) := ⟨fun _ _ q => q, fun a us q => by rw [upd_ne (ne_of q e (by intro z; cases z))]; exact q, fun a o u q => by rw [upd_ne (ne_of q e (by intro z; cases z))]; exact q⟩
    exact ⟨a, e1, r.moveT T (upd_ne (fun z => n l (by rw [← z]; exact e1)))⟩
/-- len of a set of keys -/
def rLenK (P : Program) (w : World) : List V → Hp → VK → Prop := fun xs H Q => ∃ D acc, xs = [.ref D] ∧ H D = some (SetA P w D acc) ∧ Q (.int (uq acc).length) H
theorem cr_lenK : CallR X (.builtin "len") (rLenK X.prog X.w) := by
  intro pins s σ H xs us Q I ru hq
  obtain ⟨D, acc, rfl, hD, q⟩ := hq
  cases ru with
  | cons r1 r2 =>
    cases r2
    obtain rfl : _ = Value.ref D := r1
    obtain ⟨ob, es, ep, t, ho, hex, hd, _, _, hb, hf, hn⟩ := setK_get I hD
    have hb' : es.size < 2 ^ 63 := Nat.lt_trans hb (by decide)
    refine call_len_set ho hex hd hf (by exact_mod_cast hb') ⟨.int (uq acc).length, H, I.tok _, ⟨_, by rw [hn]⟩, q⟩
/-- set(t), t a tuple of keys -/
def rSetT (K : PySem.W.Frag) (P : Program) (w : World) : List V → Hp → VK → Prop := fun xs H Q => ∃ l ks, xs = [.ref l] ∧ SqT K H l (ks.map kV) ∧ ks.length + 1 < scanBound ∧ ∀ D, H D = none → Q (.ref D) (upd H D (SetA P w D ks))
theorem cr_setT (hc : X.calm = true) : CallR X (.type "set") (rSetT X.K X.prog X.w) := by
  intro pins s σ H xs us Q I ru hq
  obtain ⟨l, ks, rfl, hl, room, q⟩ := hq
  cases ru with
  | cons r1 r2 =>
    cases r2
    obtain rfl : _ = Value.ref l := r1
    obtain ⟨its, rv, ht, _⟩ := I.tuple hl
    have hk : KeysAre X.prog X.w ks its.toArray.toList := by
      have go : ∀ (ks : List Key) (us : List Value), Vals (ks.map kV) us → KeysAre X.prog X.w ks us := by
        intro ks
        induction ks with
        | nil => intro us r; cases r; exact .nil
        | cons k ks ih =>
          intro us r
          cases r with
          | cons r rr => exact .cons r (ih _ rr)
      simpa using go ks its rv
    refine call_setK ks (I.ok.hd hc) ht hk room fun h' tk S kk => ?_
    exact ⟨.ref s.heap.objs.size, upd H s.heap.objs.size (SetA X.prog X.w s.heap.objs.size ks), I.laid (t' := tk) kk (Nat.le_refl _) (setK_new S), rfl, q _ (I.hok.fresh (Nat.le_refl _))⟩
theorem keys_of {m : Mp} {H : Hp} : ∀ {ts : List T} {vs : List V} {ks : List Key}, RTs X.K X.mg m H ts vs → keysT ts = some ks → vs = ks.map kV
  | _, _, _, .nil, e => by cases e; rfl
  | _, _, _, .cons (t := t) (ts := ts) r q, e => by
    unfold keysT at e
    cases h1 : keyT t with
    | none => rw [h1] at e; simp at e
    | some k =>
      cases h2 : keysT ts with
      | none => rw [h1, h2] at e; simp at e
      | some ks =>
        rw [h1, h2] at e
        cases e
        rw [kv_of r h1, keys_of q h2]; rfl
def oLenSet (x : T) (h : Hh) : Res T := match x with | .tup ts => bLenSet ts h | _ => .stk
theorem nx_olenset : NoX1 oLenSet := fun x h c fs h' e => by unfold oLenSet bLenSet at e; (repeat' split at e) <;> cases e
theorem de_lenSet (hc : X.calm = true) (hg : Gl X "len") (hm : X.mg "len" = none) (hg2 : Gl X "set") (hm2 : X.mg "set" = none) (ha : DE X P W a sa)
    (he : starEach [a] X.env = (false, eval a X.env) :: starEach [] X.env := by rfl) (hpl : (backTo p2 (starEach [] X.env)).any (·.1) = false := by rfl)
    (he2 : starEach [.Call (.Name "set" q2) [a] [] p2] X.env = (false, eval (.Call (.Name "set" q2) [a] [] p2) X.env) :: starEach [] X.env := by rfl) (hpl2 : (backTo pos (starEach [] X.env)).any (·.1) = false := by rfl) :
    DE X P W (.Call (.Name "len" p) [.Call (.Name "set" q2) [a] [] p2] [] pos) (s1 oLenSet sa) :=
  PE.imp (pe_callB cr_lenK hg hm boot_len (pa_cons (pe_callTy (cr_setT hc) hg2 hm2 boot_set (pa_cons ha pa_nil he) (by decide) (by decide) he hpl) pa_nil he2) (by decide) (by decide) he2 hpl2) fun σV H Q h => by
    refine tG.mono (fun v H1 hq => ?_) (one nx_olenset h)
    obtain ⟨m, h, t, r, R, o⟩ := hq
    cases r with
    | @tup l vs ts hl rr =>
      have o' : OutP X.K X.mg Q m H1 (match keysT ts with
        | some ks => if ks.length + 1 < scanBound then .ok (.int (uq ks).length) h else .stk
        | none => .stk) := o
      split at o'
      · rename_i ks hk
        split at o'
        · rename_i room
          have e := keys_of rr hk
          subst e
          refine ⟨l, ks, rfl, hl, room, fun D hD => ⟨D, ks, rfl, upd_same, ?_⟩⟩
          exact o' _ m _ (Ext.garbage R hD) (.int _) (R.garbage hD)
        · exact False.elim o'
      · exact False.elim o'
    | _ => exact False.elim o
theorem lcRun_pre {s : Src} {g : SG} {tt : ST} {te : SE} {σ : St3} : ∀ (k i : Nat) (acc : List T) (h : Hh) (ts : List T) (h' : Hh), lcRun s g tt te σ k i acc h = .ok ts h' → ∃ r, ts = acc ++ r := by
  intro k
  induction k with
  | zero =>
    intro i acc h ts h' e
    unfold lcRun at e
    split at e
    · cases e
    · cases e; exact ⟨[], by simp⟩
    · cases e
  | succ k ih =>
    intro i acc h ts h' e
    unfold lcRun at e
    split at e
    · cases e
    · cases e; exact ⟨[], by simp⟩
    · dsimp only at e
      split at e
      · cases e
      · split at e
        · split at e
          · split at e
            · split at e
              · obtain ⟨r, e2⟩ := ih _ _ _ _ _ e
                rename_i t _ _ _
                exact ⟨t :: r, by rw [e2]; simp⟩
              · cases e
            · cases e
          · exact ih _ _ _ _ _ e
        · cases e
theorem keys_pre : ∀ {as bs : List T} {ks : List Key}, keysT (as ++ bs) = some ks → ∃ k1 k2, keysT as = some k1 ∧ keysT bs = some k2 ∧ ks = k1 ++ k2
  | [], bs, ks, e => ⟨[], ks, rfl, e, rfl⟩
  | t :: as, bs, ks, e => by
    have e' : (match keyT t, keysT (as ++ bs) with | some k, some ks => some (k :: ks) | _, _ => none) = some ks := e
    cases h1 : keyT t with
    | none => rw [h1] at e'; simp at e'
    | some k =>
      cases h2 : keysT (as ++ bs) with
      | none => rw [h1, h2] at e'; simp at e'
      | some k2 =>
        rw [h1, h2] at e'
        cases e'
        obtain ⟨x1, x2, y1, y2, y3⟩ := keys_pre h2
        exact ⟨k :: x1, x2, by unfold keysT; rw [h1, y1], y2, by rw [y3]; rfl⟩
theorem lcRun_nx {s : Src} {g : SG} {tt : ST} {te : SE} {σ : St3} : ∀ (k i : Nat) (acc : List T) (h : Hh) (c : Str) (fs : List (Str × T)) (h' : Hh), lcRun s g tt te σ k i acc h ≠ .exc c fs h' := by
  intro k
  induction k with
  | zero =>
    intro i acc h c fs h' e
    unfold lcRun at e
    split at e <;> cases e
  | succ k ih =>
    intro i acc h c fs h' e
    unfold lcRun at e
    split at e
    · cases e
    · cases e
    · dsimp only at e
      split at e
      · cases e
      · split at e
        · split at e
          · split at e
            · split at e
              · exact ih _ _ _ _ _ _ e
              · cases e
            · cases e
          · exact ih _ _ _ _ _ _ e
        · cases e
theorem sk_read {is vs : List Nat} {g : SG} {tt : ST} {te : SE} (his : ∀ i ∈ is, i ∈ vs) {σV : L2.St} {H : Hp} {Q : VK} (h : tI X.K X.mg P W (sOver bLenSet (saLc si g tt te vs)) σV H Q) :
    tSk X.prog X.w (tG X.K X.mg (SrcJ X.K X.mg) P W si) (tTg X.K X.mg P is g) (tTst X.K X.mg P WF tt) (tI X.K X.mg P WF te) vs σV H (fun v H1 => rLenK X.prog X.w [v] H1 Q) := by
  obtain ⟨m, h, σ, A, o⟩ := h
  have o : Out X.K X.mg (RT X.K X.mg) W σV Q m H ((si σ h).bind fun s h1 => (lcRun s g tt te (wipeT σ vs) (s.len h1) 0 [] h1).bind bLenSet) := by
    have e : sOver bLenSet (saLc si g tt te vs) σ h = ((si σ h).bind fun s h1 => (lcRun s g tt te (wipeT σ vs) (s.len h1) 0 [] h1).bind bLenSet) := by
      unfold sOver saLc
      cases si σ h <;> rfl
    rw [e] at o; exact o
  refine A.first (rel1 := SrcJ X.K X.mg) o fun m1 h1 s J H1 E1 S A1 o1 D hD => ?_
  refine ⟨fun i k H' => ∃ m' h' acc accK, Ext m1 H1 m' H' ∧ HR X.K X.mg m' h' H' ∧ H' D = some (SetA X.prog X.w D accK) ∧ keysT acc = some accK ∧ (∀ l, m' l ≠ some D) ∧
    Out X.K X.mg (RT X.K X.mg) W σV Q m1 H1 ((lcRun s g tt te (wipeT σ vs) k i acc h').bind bLenSet), ⟨s.len h1, m1, h1, [], [], Ext.garbage A1.hr hD, A1.hr.garbage hD, upd_same, rfl, fun l e => ?_, o1⟩, ?_⟩
  · obtain ⟨u, e2, _⟩ := A1.hr.tracked e
    rw [hD] at e2; cases e2
  rintro i k H' ⟨m', h', acc, accK, E', R', hDl, hK, nD, o'⟩
  unfold lcRun at o'
  cases es : s.at h' i with
  | none => rw [es] at o'; exact False.elim o'
  | some ox =>
    cases ox with
    | none =>
      rw [es] at o'
      refine .inl ⟨S.stop m' h' H' i E'.tr R' es, D, accK, rfl, hDl, ?_⟩
      have o2 : Out X.K X.mg (RT X.K X.mg) W σV Q m1 H1 (bLenSet acc h') := o'
      unfold bLenSet at o2
      rw [hK] at o2
      dsimp only at o2
      split at o2
      · exact o2 _ m' H' E' (.int _) R'
      · exact False.elim o2
    | some x =>
      rw [es] at o'
      cases k with
      | zero => exact False.elim o'
      | succ k =>
        obtain ⟨jg, jy⟩ := S.go m' h' H' i x E'.tr R' es
        refine .inr ⟨jg, _, fun H'' q => ⟨k, Nat.lt_succ_self k, q⟩, fun y H2 hy => ?_⟩
        obtain ⟨E2, R2, rx⟩ := jy y H2 hy
        have A2 : At X.K X.mg P m' H2 (L2.wipe σV vs) (wipeT σ vs) h' := ⟨((A1.sr.ext (E'.trans E2)).wipe vs), R2, P.st (E'.trans E2) A1.pr⟩
        refine ⟨m', h', wipeT σ vs, x, A2, rx, ?_⟩
        have keepD : ∀ {m3 H3}, Ext m' H2 m3 H3 → H3 D = some (SetA X.prog X.w D accK) ∧ ∀ l, m3 l ≠ some D := fun {m3 H3} E3 => by
          have d2 : H2 D = some (SetA X.prog X.w D accK) := E2.keep D _ hDl nD
          refine ⟨E3.keep D _ d2 nD, fun l e => ?_⟩
          rcases E3.fresh l D e with z | z
          · exact nD l z
          · rw [d2] at z; cases z
        dsimp only at o'
        cases eg : g x (wipeT σ vs) with
        | none => rw [eg] at o'; exact False.elim o'
        | some σ1 =>
          rw [eg] at o'
          intro σV1 s1 only
          refine ⟨wipe_only his only, m', h', σ1, ⟨s1, R2, A2.pr⟩, ?_⟩
          dsimp only at o'
          cases et : tt σ1 h' with
          | exc c fs h3 => rw [et] at o'; exact False.elim o'
          | stk => rw [et] at o'; exact False.elim o'
          | ok b h3 =>
            rw [et] at o'
            dsimp only at o'
            intro b' m3 H3 E3 eb R3
            subst eb
            cases b with
            | false =>
              rw [if_neg Bool.false_ne_true] at o' ⊢
              obtain ⟨d3, n3⟩ := keepD E3
              exact ⟨m3, h3, acc, accK, (E'.trans E2).trans E3, R3, d3, hK, n3, o'⟩
            | true =>
              rw [if_pos rfl] at o' ⊢
              refine ⟨m3, h3, σ1, ⟨s1.ext E3, R3, P.st E3 A2.pr⟩, ?_⟩
              cases ee : te σ1 h3 with
              | exc c fs h4 => rw [ee] at o'; exact False.elim o'
              | stk => rw [ee] at o'; exact False.elim o'
              | ok t h4 =>
                rw [ee] at o'
                dsimp only at o'
                intro y' m4 H4 E4 rt R4
                obtain ⟨d4, n4⟩ := keepD (E3.trans E4)
                split at o'
                · -- the last look tells that the new item is a key
                  have key : ∃ kt, keyT t = some kt ∧ accK.length + 1 < scanBound := by
                    cases el : lcRun s g tt te (wipeT σ vs) k (i + 1) (acc ++ [t]) h4 with
                    | exc c fs h5 => exact absurd el (lcRun_nx _ _ _ _ _ _ _)
                    | stk => rw [el] at o'; exact False.elim o'
                    | ok ts h5 =>
                      rw [el] at o'
                      obtain ⟨r, er⟩ := lcRun_pre _ _ _ _ _ _ el
                      have o2 : Out X.K X.mg (RT X.K X.mg) W σV Q m1 H1 (bLenSet ts h5) := o'
                      unfold bLenSet at o2
                      cases eks : keysT ts with
                      | none => rw [eks] at o2; exact False.elim o2
                      | some ks =>
                        rw [eks] at o2
                        dsimp only at o2
                        split at o2
                        · rename_i room
                          rw [er] at eks
                          obtain ⟨k1, k2, e1, _, e3⟩ := keys_pre eks
                          obtain ⟨k3, k4, e4, e5, e6⟩ := keys_pre e1
                          rw [hK] at e4; cases e4
                          have e7 : (match keyT t, keysT [] with | some k, some ks => some (k :: ks) | _, _ => none) = some k4 := e5
                          cases hkt : keyT t with
                          | none => rw [hkt] at e7; simp at e7
                          | some kt =>
                            refine ⟨kt, rfl, ?_⟩
                            rw [e3, e6, List.length_append, List.length_append] at room
                            omega
                        · exact False.elim o2
                  obtain ⟨kt, hkt, room⟩ := key
                  have ey := kv_of rt hkt
                  refine ⟨kt, accK, ey, d4, room, m4, h4, acc ++ [t], accK ++ [kt], ?_, ?_, upd_same, ?_, n4, o'⟩
                  · exact Ext.out (((E'.trans E2).trans E3).trans E4) hD
                  · exact R4.outA d4 n4
                  · have app : ∀ (as : List T) (ks : List Key), keysT as = some ks → keysT (as ++ [t]) = some (ks ++ [kt]) := by
                      intro as
                      induction as with
                      | nil => intro ks e; cases e; show (match keyT t, keysT [] with | some k, some ks => some (k :: ks) | _, _ => none) = _; rw [hkt]; rfl
                      | cons u as ih =>
                        intro ks e
                        unfold keysT at e
                        cases h1 : keyT u with
                        | none => rw [h1] at e; simp at e
                        | some ku =>
                          cases h2 : keysT as with
                          | none => rw [h1, h2] at e; simp at e
                          | some kas =>
                            rw [h1, h2] at e; cases e
                            show (match keyT u, keysT (as ++ [t]) with | some k, some ks => some (k :: ks) | _, _ => none) = _
                            rw [h1, ih kas h2]; rfl
                    exact app acc accK hK
                · exact False.elim o'
theorem de_lenSc {elt : Expr} {ifs : List Expr} {scope : Scope} {own : List (Str × Nat)} {is : List Nat} {g : SG} {tt : ST} {te : SE} (hc : X.calm = true) (hN : X.N.Nodup) (hg' : Gl X "len") (hm : X.mg "len" = none) (hi : DI X P W tg iter si) (ok : BlkOk X.N X.env.scope scope own)
    (hg : ∀ (s : Shared) (H : Hp) (C : Addr) (cl : List (Str × Addr)) (fp : List Addr), DG (X.blk s H scope (compEnvC scope cl C X.env) fp) P tg is g)
    (ht : ∀ (s : Shared) (H : Hp) (C : Addr) (cl : List (Str × Addr)) (fp : List Addr), DTs (X.blk s H scope (compEnvC scope cl C X.env) fp) P WF ifs tt)
    (he : ∀ (s : Shared) (H : Hp) (C : Addr) (cl : List (Str × Addr)) (fp : List Addr), DE (X.blk s H scope (compEnvC scope cl C X.env) fp) P WF elt te)
    (his : ∀ i ∈ is, i ∈ own.map (·.2) := by decide) (hs : ∀ x, foldedSetIterable iter X.env x = pure x := by intro _; rfl)
    (he2 : starEach [.SetComp elt [⟨tg, iter, ifs, 0⟩] scope p2] X.env = (false, eval (.SetComp elt [⟨tg, iter, ifs, 0⟩] scope p2) X.env) :: starEach [] X.env := by rfl) (hpl2 : (backTo pos (starEach [] X.env)).any (·.1) = false := by rfl) :
    DE X P W (.Call (.Name "len" p) [.SetComp elt [⟨tg, iter, ifs, 0⟩] scope p2] [] pos) (sOver bLenSet (saLc si g tt te (own.map (·.2)))) :=
  PE.imp (pe_callB cr_lenK hg' hm boot_len (pa_cons (pe_sk (own := own) (wi := tG X.K X.mg (SrcJ X.K X.mg) P W si) (g := tTg X.K X.mg P is g) (tt := tTst X.K X.mg P WF tt) (te := tI X.K X.mg P WF te) hc hN hi ok hg ht he hs) pa_nil he2) (by decide) (by decide) he2 hpl2)
    fun σV H Q h => sk_read his h
end
end W3
end

section
/-! WO: short words for the printed derivations. -/
namespace W3
open PySem PySem.Spec PyProof.Rows
open L2
theorem hu65 {k : Nat} {A : Around} (hr : Room k A) : A.units + 65 < cLine := by have := hr.un; omega
section
variable {X : Cx} {P : Pq} {W : WX} {a b c o e : Expr} {sa sb sc so : SE} {pos pos' : Pos} {st : Stmt}
theorem dv (i : Nat) {x : Str} (hN : X.N[i]? = some x := by rfl) (hv : Vis X.env.scope x := by first | exact Or.inl rfl | exact Or.inr (Or.inl rfl) | exact Or.inr (Or.inr rfl)) (hd : (x == ("__debug__" : Str)) = false := by decide) (hcd : (x == ("__classdict__" : Str)) = false := by decide) :
    DE X P W (.Name x pos) (sVar i) := de_var hN hv hd hcd
theorem dgs {x s : Str} (hm : ∃ t, X.mg x = some (.str s t)) (hs : PyData.strOk s = true) (hg : Gl X x := by rfl) (hd : (x == ("__debug__" : Str)) = false := by decide) : DE X P W (.Name x pos) (sC (.str s)) := by
  obtain ⟨t, hm⟩ := hm
  exact de_glob (v := .str s) hg hm ⟨_, rfl⟩ (fun _ _ => .str hs) hd
theorem dgi {x : Str} {i : Int} (hm : ∃ t, X.mg x = some (.int i t)) (hg : Gl X x := by rfl) (hd : (x == ("__debug__" : Str)) = false := by decide) : DE X P W (.Name x pos) (sC (.int i)) := by
  obtain ⟨t, hm⟩ := hm
  exact de_glob (v := .int i) hg hm ⟨_, rfl⟩ (fun _ _ => .int i) hd
def ssStk : SS := fun _ _ => .stk
theorem ds_stk : DS X P W st ssStk := PS.imp ps_never fun D σV H ⟨_, _, _, _, o⟩ => o
end
/-- the script: nothing but it is tracked -/
theorem sqF_of {K : PySem.W.Frag} {H : Hp} {a : Addr} {xs : List V} (hO : Only H) (h : SqL K H a xs) : SqF K H a xs := by
  rcases h with (h | ⟨o, h⟩) | h
  · rcases hO a with z | ⟨o, ys, z⟩
    · rw [z] at h; cases h
    · rw [z] at h; cases h
  · exact .inl ⟨o, h⟩
  · exact .inr h
theorem rts_ints {K : PySem.W.Frag} {mg : Str → Option Value} {m : Mp} {H : Hp} : ∀ ns : List Int, RTs K mg m H (ns.map T.int) (ns.map V.int)
  | [] => .nil
  | n :: ns => .cons (.int n) (rts_ints ns)
/-- from the law's own run to its promise -/
theorem sp_law {K : PySem.W.Frag} {mg : Str → Option Value} {f : List T → Hh → Res T} (hf : ∀ ns : List Int, ns.length ≤ 63 → ∃ h', f [.fl (ns.map T.int)] [] = .ok (.bl true) h') {H : Hp} {a : Addr} {ns : List Int} (hl : ns.length ≤ 63) (hO : Only H)
    (hS : SqL K H a (ns.map V.int)) : spT K mg 1 f [.ref a] H (fun v _ => v = .bl true) fun _ _ _ => False := by
  refine ⟨rfl, fun _ => none, [], [.fl (ns.map T.int)], .cons (.fl (sqF_of hO hS) (rts_ints ns)) .nil, ⟨fun l a e => (by cases e), fun l l' a e => (by cases e), fun l o e => by simp at e⟩, ?_⟩
  obtain ⟨h', e⟩ := hf ns hl
  rw [e]
  intro v m' H' _ r _
  cases r
  rfl
end W3
namespace W3
open PySem PySem.Spec PyProof.Rows
open L2
/-- the law's promise, whatever the module holds -/
def spL (K : PySem.W.Frag) (f : List T → Hh → Res T) : Sp := fun vs H Q E => ∀ mg, spT K mg 1 f vs H Q E
theorem fnL {P : Program} {w : World} {K : PySem.W.Frag} {mg : Str → Option Value} {base : Heap} {CX : CXT} {k : Nat} {fa : Addr} {fd : FuncData} {ps : List Str} {f : List T → Hh → Res T} (F : FnOk P w K mg base CX k fa fd ps (spT K mg 1 f)) : FnOk P w K mg base CX k fa fd ps (spL K f) :=
  F.imp fun _ _ _ _ h => h mg
end W3
namespace W3
open PySem PySem.Spec PyProof.Rows
open L2
theorem walk3 {l : PySem.W.OpenLaw} {q : Program} {loose : List Str} {XP : (Str → Option Value) → Heap → Prop} {YP : World → Heap → Prop} {d : DefRec} {K : Params → PySem.W.Frag} {f : List T → Hh → Res T} {k : Nat} {x : Str} (hn : l.most = some 63) (hdf : d.params.defaults = []) (hr : Room k callerA)
    (hf : ∀ ns : List Int, ns.length ≤ 63 → ∃ h', f [.fl (ns.map T.int)] [] = .ok (.bl true) h')
    (hY : ∀ (w : World) (h : Heap), YP w h → (K w.params).In h)
    (F : ∀ (w : World) (mg : Str → Option Value) (fa : Addr) (h : Heap), (K w.params).In h → h.Ns mainGlobals mg → mg d.name = some (.ref fa) →
      ∃ fd : FuncData, (∀ (s : Shared) (u : Value), BindsTo s fd ⟨[u], []⟩ [(x, u)]) ∧ ∀ base : Heap, (K w.params).In base → base.Ns mainGlobals mg → FnOk l.prog w (K w.params) mg base (L2.CX l.prog w) k fa fd [x] (spL (K w.params) f)) :
    PySem.W.WalkO q loose XP YP l.row.toRowW d [] (fun f vs => PySem.call f vs) :=
  L2.walk_of (n := 63) (k := k) (x := x) (CX := fun w => L2.CX l.prog w) (sp := fun w => spL (K w.params) f) hn (by decide) hdf hr hY F (fun _ _ _ _ hl hO hS mg => sp_law hf hl hO hS) fun w H s e s' z => by
    obtain ⟨_, _, _, _, _, _, _, _, _, _, _, _, z⟩ := z
    exact z.elim
end W3
end

section
/-! WP: comprehensions with two fors. -/
namespace W3
open PySem PySem.Spec PyProof.Rows
open L2
def lc2Run (s : Src) (g : SG) (tt : ST) (si1 : SI) (g1 : SG) (tt1 : ST) (te : SE) (vs1 : List Nat) (σ : St3) : Nat → Nat → List T → Hh → Res (List T)
  | k, i, acc, h => match s.at h i with
    | none => .stk
    | some none => .ok acc h
    | some (some x) => match k with
      | 0 => .stk
      | k + 1 => match g x σ with
        | none => .stk
        | some σ1 => match tt σ1 h with
          | .ok b h1 => if b = true then (match si1 σ1 h1 with
              | .ok s1 h2 => (match lcRun s1 g1 tt1 te (wipeT σ1 vs1) (s1.len h2) 0 acc h2 with
                | .ok acc' h3 => lc2Run s g tt si1 g1 tt1 te vs1 σ k (i + 1) acc' h3
                | _ => .stk)
              | _ => .stk) else lc2Run s g tt si1 g1 tt1 te vs1 σ k (i + 1) acc h1
          | _ => .stk
/-- the items of [te for g in si if tt for g1 in si1 if tt1] -/
def saLc2 (si : SI) (g : SG) (tt : ST) (si1 : SI) (g1 : SG) (tt1 : ST) (te : SE) (vs vs1 : List Nat) : SA := fun σ h => (si σ h).bind fun s h1 => lc2Run s g tt si1 g1 tt1 te vs1 (wipeT σ vs) (s.len h1) 0 [] h1
section
variable {X : Cx} {P : Pq} {W : WX} {a b c tg iter tg1 iter1 : Expr} {sa sb sc : SE} {pos : Pos} {es : List Expr} {ar : SA} {si si1 : SI} {ta tb : ST} {rest : List Expr}
theorem SR.tr' {m m' : Mp} {H H' : Hp} {σ : St3} {σV : L2.St} (r : SR X.K X.mg m H σ σV) (E : Tr m H m' H') : SR X.K X.mg m' H' σ σV := ⟨r.1, fun i t e => by
  obtain ⟨v, q, z⟩ := r.2 i t e
  exact ⟨v, q, z.tr E⟩⟩
theorem lc2_read {is is1 vs vs1 : List Nat} {g g1 : SG} {tt tt1 : ST} {te : SE} (his : ∀ i ∈ is, i ∈ vs) (his1 : ∀ i ∈ is1, i ∈ vs1) {σV : L2.St} {H : Hp} {Q : VK} (h : tL X.K X.mg P W (saLc2 si g tt si1 g1 tt1 te vs vs1) σV H Q) :
    tLc2 (tG X.K X.mg (SrcJ X.K X.mg) P W si) (tTg X.K X.mg P is g) (tTst X.K X.mg P WF tt) (tG X.K X.mg (SrcJ X.K X.mg) P WF si1) (tTg X.K X.mg P is1 g1) (tTst X.K X.mg P WF tt1) (tI X.K X.mg P WF te) vs vs1 σV H Q := by
  obtain ⟨m, h, σ, A, o⟩ := h
  refine A.first (rel1 := SrcJ X.K X.mg) o fun m1 h1 s J H1 E1 S A1 o1 D hD => ?_
  have hD0 : H D = none := by
    cases q : H D with
    | none => rfl
    | some u =>
      obtain ⟨w, e⟩ := E1.live D u q
      rw [hD] at e; cases e
  refine ⟨fun i k H' => ∃ m' h' acc accV, Ext m1 H1 m' H' ∧ HR X.K X.mg m' h' H' ∧ H' D = some (.lst accV) ∧ RTs X.K X.mg m' H' acc accV ∧ (∀ l, m' l ≠ some D) ∧
    Out X.K X.mg (relL X.K X.mg H) W σV Q m1 H1 (lc2Run s g tt si1 g1 tt1 te vs1 (wipeT σ vs) k i acc h'), ⟨s.len h1, m1, h1, [], [], Ext.garbage A1.hr hD, A1.hr.garbage hD, upd_same, .nil, fun l e => ?_, o1⟩, ?_⟩
  · obtain ⟨u, e2, _⟩ := A1.hr.tracked e
    rw [hD] at e2; cases e2
  rintro i k H' ⟨m', h', acc, accV, E', R', hDl, racc, nD, o'⟩
  unfold lc2Run at o'
  cases es : s.at h' i with
  | none => rw [es] at o'; exact False.elim o'
  | some ox =>
    cases ox with
    | none =>
      rw [es] at o'
      exact .inl ⟨S.stop m' h' H' i E'.tr R' es, o' _ m' H' E' ⟨D, accV, rfl, hD0, hDl, racc, nD⟩ R'⟩
    | some x =>
      rw [es] at o'
      cases k with
      | zero => exact False.elim o'
      | succ k =>
        obtain ⟨jg, jy⟩ := S.go m' h' H' i x E'.tr R' es
        refine .inr ⟨jg, _, fun H'' q => ⟨k, Nat.lt_succ_self k, q⟩, fun y H2 hy => ?_⟩
        obtain ⟨E2, R2, rx⟩ := jy y H2 hy
        have A2 : At X.K X.mg P m' H2 (L2.wipe σV vs) (wipeT σ vs) h' := ⟨((A1.sr.ext (E'.trans E2)).wipe vs), R2, P.st (E'.trans E2) A1.pr⟩
        refine ⟨m', h', wipeT σ vs, x, A2, rx, ?_⟩
        have keepD : ∀ {m3 H3}, Ext m' H2 m3 H3 → H3 D = some (.lst accV) ∧ ∀ l, m3 l ≠ some D := fun {m3 H3} E3 => by
          have d2 : H2 D = some (.lst accV) := E2.keep D _ hDl nD
          refine ⟨E3.keep D _ d2 nD, fun l e => ?_⟩
          rcases E3.fresh l D e with z | z
          · exact nD l z
          · rw [d2] at z; cases z
        dsimp only at o'
        cases eg : g x (wipeT σ vs) with
        | none => rw [eg] at o'; exact False.elim o'
        | some σ1 =>
          rw [eg] at o'
          intro σV1 s1 only
          refine ⟨wipe_only his only, m', h', σ1, ⟨s1, R2, A2.pr⟩, ?_⟩
          dsimp only at o'
          cases et : tt σ1 h' with
          | exc c fs h3 => rw [et] at o'; exact False.elim o'
          | stk => rw [et] at o'; exact False.elim o'
          | ok b h3 =>
            rw [et] at o'
            dsimp only at o'
            intro b' m3 H3 E3 eb R3
            subst eb
            cases b with
            | false =>
              rw [if_neg Bool.false_ne_true] at o' ⊢
              obtain ⟨d3, n3⟩ := keepD E3
              exact ⟨m3, h3, acc, accV, (E'.trans E2).trans E3, R3, d3, (racc.ext E2).ext E3, n3, o'⟩
            | true =>
              rw [if_pos rfl] at o' ⊢
              have A3 : At X.K X.mg P m3 H3 σV1 σ1 h3 := ⟨s1.ext E3, R3, P.st E3 A2.pr⟩
              refine ⟨m3, h3, σ1, A3, ?_⟩
              cases ei : si1 σ1 h3 with
              | exc c fs h4 => rw [ei] at o'; exact False.elim o'
              | stk => rw [ei] at o'; exact False.elim o'
              | ok sr1 h4 =>
                rw [ei] at o'
                dsimp only at o'
                intro J1 m4 H4 E4 S1 R4
                obtain ⟨d4, n4⟩ := keepD (E3.trans E4)
                have A4 : At X.K X.mg P m4 H4 σV1 σ1 h4 := A3.ext E4 R4
                have E14 : Ext m1 H1 m4 H4 := ((E'.trans E2).trans E3).trans E4
                refine ⟨fun j kk H' => ∃ m' h' acc accV, Ext m1 H1 m' H' ∧ Tr m4 H4 m' H' ∧ HR X.K X.mg m' h' H' ∧ H' D = some (.lst accV) ∧ RTs X.K X.mg m' H' acc accV ∧ (∀ l, m' l ≠ some D) ∧
                  Out X.K X.mg (relL X.K X.mg H) W σV Q m1 H1 (match lcRun sr1 g1 tt1 te (wipeT σ1 vs1) kk j acc h' with
                    | .ok acc' h3 => lc2Run s g tt si1 g1 tt1 te vs1 (wipeT σ vs) k (i + 1) acc' h3
                    | _ => .stk), ⟨sr1.len h4, m4, h4, acc, accV, E14, Tr.refl, R4, d4, ((racc.ext E2).ext E3).ext E4, n4, o'⟩, ?_⟩
                rintro j kk H5 ⟨m5, h5, acc5, accV5, E5, T5, R5, d5, racc5, n5, o5⟩
                unfold lcRun at o5
                cases es1 : sr1.at h5 j with
                | none => rw [es1] at o5; exact False.elim o5
                | some ox1 =>
                  cases ox1 with
                  | none =>
                    rw [es1] at o5
                    exact .inl ⟨S1.stop m5 h5 H5 j T5 R5 es1, m5, h5, acc5, accV5, E5, R5, d5, racc5, n5, o5⟩
                  | some x1 =>
                    rw [es1] at o5
                    cases kk with
                    | zero => exact False.elim o5
                    | succ kk =>
                      obtain ⟨jg1, jy1⟩ := S1.go m5 h5 H5 j x1 T5 R5 es1
                      refine .inr ⟨jg1, _, fun H'' q => ⟨kk, Nat.lt_succ_self kk, q⟩, fun y1 H6 hy1 => ?_⟩
                      obtain ⟨E6, R6, rx1⟩ := jy1 y1 H6 hy1
                      have sr6 : SR X.K X.mg m5 H6 σ1 σV1 := (A4.sr.tr' T5).ext E6
                      have A6 : At X.K X.mg P m5 H6 (L2.wipe σV1 vs1) (wipeT σ1 vs1) h5 := ⟨sr6.wipe vs1, R6, P.st (E5.trans E6) A1.pr⟩
                      refine ⟨m5, h5, wipeT σ1 vs1, x1, A6, rx1, ?_⟩
                      have keep5 : ∀ {m7 H7}, Ext m5 H6 m7 H7 → H7 D = some (.lst accV5) ∧ ∀ l, m7 l ≠ some D := fun {m7 H7} E7 => by
                        have d6 : H6 D = some (.lst accV5) := E6.keep D _ d5 n5
                        refine ⟨E7.keep D _ d6 n5, fun l e => ?_⟩
                        rcases E7.fresh l D e with z | z
                        · exact n5 l z
                        · rw [d6] at z; cases z
                      dsimp only at o5
                      cases eg1 : g1 x1 (wipeT σ1 vs1) with
                      | none => rw [eg1] at o5; exact False.elim o5
                      | some σ2 =>
                        rw [eg1] at o5
                        intro σV2 s2 only1
                        refine ⟨wipe_only his1 only1, m5, h5, σ2, ⟨s2, R6, A6.pr⟩, ?_⟩
                        dsimp only at o5
                        cases et1 : tt1 σ2 h5 with
                        | exc c fs h7 => rw [et1] at o5; exact False.elim o5
                        | stk => rw [et1] at o5; exact False.elim o5
                        | ok b h7 =>
                          rw [et1] at o5
                          dsimp only at o5
                          intro b' m7 H7 E7 eb R7
                          subst eb
                          cases b with
                          | false =>
                            rw [if_neg Bool.false_ne_true] at o5 ⊢
                            obtain ⟨d7, n7⟩ := keep5 E7
                            exact ⟨m7, h7, acc5, accV5, (E5.trans E6).trans E7, (T5.trans E6.tr).trans E7.tr, R7, d7, (racc5.ext E6).ext E7, n7, o5⟩
                          | true =>
                            rw [if_pos rfl] at o5 ⊢
                            refine ⟨m7, h7, σ2, ⟨s2.ext E7, R7, P.st E7 A6.pr⟩, ?_⟩
                            cases ee : te σ2 h7 with
                            | exc c fs h8 => rw [ee] at o5; exact False.elim o5
                            | stk => rw [ee] at o5; exact False.elim o5
                            | ok t h8 =>
                              rw [ee] at o5
                              dsimp only at o5
                              intro y' m8 H8 E8 rt R8
                              obtain ⟨d8, n8⟩ := keep5 (E7.trans E8)
                              by_cases hz : acc5.length < sizeLine
                              · rw [if_pos hz] at o5
                                refine ⟨accV5, d8, by rw [← racc5.length]; exact hz, m8, h8, acc5 ++ [t], accV5 ++ [y'], ?_, ?_, R8.out d8 n8, upd_same, ?_, n8, o5⟩
                                · exact Ext.out (((E5.trans E6).trans E7).trans E8) hD
                                · exact ((((T5.trans E6.tr).trans E7.tr).trans E8.tr)).trans (Tr.out d8)
                                · have r8 := (((racc5.ext E6).ext E7).ext E8).append (.cons rt .nil)
                                  exact r8.tr (Tr.out d8)
                              · rw [if_neg hz] at o5
                                exact False.elim o5
theorem dl_lc2 {elt : Expr} {ifs ifs1 : List Expr} {scope : Scope} {own : List (Str × Nat)} {is is1 vs1 : List Nat} {g g1 : SG} {tt tt1 : ST} {te : SE} (hc : X.calm = true) (hN : X.N.Nodup) (hi : DI X P W tg iter si) (ok : BlkOk X.N X.env.scope scope own)
    (hg : ∀ (s : Shared) (H : Hp) (C : Addr) (cl : List (Str × Addr)) (fp : List Addr), DG (X.blk s H scope (compEnvC scope cl C X.env) fp) P tg is g)
    (ht : ∀ (s : Shared) (H : Hp) (C : Addr) (cl : List (Str × Addr)) (fp : List Addr), DTs (X.blk s H scope (compEnvC scope cl C X.env) fp) P WF ifs tt)
    (hi1 : ∀ (s : Shared) (H : Hp) (C : Addr) (cl : List (Str × Addr)) (fp : List Addr), DI (X.blk s H scope (compEnvC scope cl C X.env) fp) P WF tg1 iter1 si1)
    (hg1 : ∀ (s : Shared) (H : Hp) (C : Addr) (cl : List (Str × Addr)) (fp : List Addr), DG (X.blk s H scope (compEnvC scope cl C X.env) fp) P tg1 is1 g1)
    (ht1 : ∀ (s : Shared) (H : Hp) (C : Addr) (cl : List (Str × Addr)) (fp : List Addr), DTs (X.blk s H scope (compEnvC scope cl C X.env) fp) P WF ifs1 tt1)
    (he : ∀ (s : Shared) (H : Hp) (C : Addr) (cl : List (Str × Addr)) (fp : List Addr), DE (X.blk s H scope (compEnvC scope cl C X.env) fp) P WF elt te)
    (his : ∀ i ∈ is, i ∈ own.map (·.2) := by decide) (his1 : ∀ i ∈ is1, i ∈ vs1 := by decide) (hv : ∀ i ∈ vs1, i ∈ own.map (·.2) := by decide) (hs : ∀ x, foldedSetIterable iter X.env x = pure x := by intro _; rfl) (hs1 : ∀ env x, foldedSetIterable iter1 env x = pure x := by intro _ _; rfl) :
    DL X P W (.ListComp elt [⟨tg, iter, ifs, 0⟩, ⟨tg1, iter1, ifs1, 0⟩] scope pos) (saLc2 si g tt si1 g1 tt1 te (own.map (·.2)) vs1) := by
  exact PE.imp (pe_lc2 (own := own) (vs1 := vs1) (wi := tG X.K X.mg (SrcJ X.K X.mg) P W si) (g := tTg X.K X.mg P is g) (tt := tTst X.K X.mg P WF tt) (wi1 := tG X.K X.mg (SrcJ X.K X.mg) P WF si1) (g1 := tTg X.K X.mg P is1 g1) (tt1 := tTst X.K X.mg P WF tt1) (te := tI X.K X.mg P WF te) hc hN hi ok hv hg ht hi1 hg1 ht1 he hs hs1) fun σV H Q h => lc2_read his his1 h
/-- name = [.. for .. for ..] on one line -/
theorem ds_setLc2 {i : Nat} {y : Str} {py : Pos} {elt : Expr} {ifs ifs1 : List Expr} {scope : Scope} {own : List (Str × Nat)} {spos : Pos} {is is1 vs1 : List Nat} {g g1 : SG} {tt tt1 : ST} {te : SE} (hc : X.calm = true) (hN : X.N.Nodup) (hy : X.N[i]? = some y) (hyl : X.env.scope.names.lookup y = some .local)
    (hsw : swapsWith (.ListComp elt [⟨tg, iter, ifs, 0⟩, ⟨tg1, iter1, ifs1, 0⟩] scope pos) (some (.Name y py)) spos.line X.env = pure true) (hi : DI X P W tg iter si) (ok : BlkOk X.N X.env.scope scope own)
    (hg : ∀ (s : Shared) (H : Hp) (C : Addr) (cl : List (Str × Addr)) (fp : List Addr), DG (X.blk s H scope (compEnvC scope cl C X.env) fp) P tg is g)
    (ht : ∀ (s : Shared) (H : Hp) (C : Addr) (cl : List (Str × Addr)) (fp : List Addr), DTs (X.blk s H scope (compEnvC scope cl C X.env) fp) P WF ifs tt)
    (hi1 : ∀ (s : Shared) (H : Hp) (C : Addr) (cl : List (Str × Addr)) (fp : List Addr), DI (X.blk s H scope (compEnvC scope cl C X.env) fp) P WF tg1 iter1 si1)
    (hg1 : ∀ (s : Shared) (H : Hp) (C : Addr) (cl : List (Str × Addr)) (fp : List Addr), DG (X.blk s H scope (compEnvC scope cl C X.env) fp) P tg1 is1 g1)
    (ht1 : ∀ (s : Shared) (H : Hp) (C : Addr) (cl : List (Str × Addr)) (fp : List Addr), DTs (X.blk s H scope (compEnvC scope cl C X.env) fp) P WF ifs1 tt1)
    (he : ∀ (s : Shared) (H : Hp) (C : Addr) (cl : List (Str × Addr)) (fp : List Addr), DE (X.blk s H scope (compEnvC scope cl C X.env) fp) P WF elt te)
    (his : ∀ i ∈ is, i ∈ own.map (·.2) := by decide) (his1 : ∀ i ∈ is1, i ∈ vs1 := by decide) (hv : ∀ i ∈ vs1, i ∈ own.map (·.2) := by decide) (hs : ∀ x, foldedSetIterable iter X.env x = pure x := by intro _; rfl) (hs1 : ∀ env x, foldedSetIterable iter1 env x = pure x := by intro _ _; rfl) :
    DS X P W (.Assign [.Name y py] (.ListComp elt [⟨tg, iter, ifs, 0⟩, ⟨tg1, iter1, ifs1, 0⟩] scope pos) spos) (ssAsg (sLc (saLc2 si g tt si1 g1 tt1 te (own.map (·.2)) vs1)) (sgName i)) := by
  refine PS.imp (ps_setLc2 (own := own) (i := i) (vs1 := vs1) (wi := tG X.K X.mg (SrcJ X.K X.mg) P W si) (g := tTg X.K X.mg P is g) (tt := tTst X.K X.mg P WF tt) (wi1 := tG X.K X.mg (SrcJ X.K X.mg) P WF si1) (g1 := tTg X.K X.mg P is1 g1) (tt1 := tTst X.K X.mg P WF tt1) (te := tI X.K X.mg P WF te) hc hN hy hyl hsw hi ok hv hg ht hi1 hg1 ht1 he hs hs1) fun D σV H h => ?_
  refine lc2_read his his1 (lc_keep ?_)
  obtain ⟨m, h, σ, A, o⟩ := h
  refine A.flo (rel1 := RT X.K X.mg) o fun m1 h1 t x H1 E1 r A1 o1 => ?_
  exact o1 _ m1 H1 (Ext.refl _ _) (A1.sr.set r i) A1.hr
end
/-! ### isinstance(x, (k1, k2)) -/
section
variable {X : Cx} {P : Pq} {W : WX} {a b c o e : Expr} {sa sb sc so : SE} {pos pos' apos cpos tpos p p2 p3 : Pos} {es : List Expr} {ar : SA}
def isK2 (k1 k2 : Kd) (x : T) (h : Hh) : Option Bool := match isK k1 x h, isK k2 x h with | some a, some b => some (a || b) | _, _ => none
def oIsK2 (k1 k2 : Kd) (x : T) (h : Hh) : Res T := match isK2 k1 k2 x h with | some b => .ok (.bl b) h | none => .stk
theorem nx_isk2 (k1 k2 : Kd) : NoX1 (oIsK2 k1 k2) := fun x h c fs h' e => by unfold oIsK2 at e; (repeat' split at e) <;> cases e
theorem ty_of2 {m : Mp} {H : Hp} {h : Hh} {t : T} {v : V} {k1 k2 : Kd} {r : Bool} (R : HR X.K X.mg m h H) (q : RT X.K X.mg m H t v) (e : isK2 k1 k2 t h = some r) : ∃ n : String, TyX X.K H v (.type n) ∧ ∃ r1 r2, kitB n k1.nm = some r1 ∧ kitB n k2.nm = some r2 ∧ r = (r1 || r2) := by
  unfold isK2 at e
  split at e
  · rename_i ra rb e1 e2
    cases e
    have key : ∃ n : String, TyX X.K H v (.type n) ∧ ∀ k r, isK k t h = some r → kitB n k.nm = some r := by
      cases q with
      | non => exact ⟨_, .base .non, fun k r e => by cases e; cases k <;> decide +kernel⟩
      | bl b => exact ⟨_, .base (.bl b), fun k r e => by cases e; cases k <;> decide +kernel⟩
      | int b => exact ⟨_, .base (.int b), fun k r e => by cases e; cases k <;> decide +kernel⟩
      | str b => exact ⟨_, .base (.str _), fun k r e => by cases e; cases k <;> decide +kernel⟩
      | @tup a vs ts hq _ =>
        refine ⟨"tuple", ?_, fun k r e => by cases e; cases k <;> decide +kernel⟩
        rcases hq with ⟨ob, z, _⟩ | ⟨ob, its, n, hk, hc, _⟩
        · exact .fTuple z
        · exact .kTuple hk hc
      | @fl a vs ts hq _ =>
        refine ⟨"list", ?_, fun k r e => by cases e; cases k <;> decide +kernel⟩
        rcases hq with ⟨ob, z⟩ | ⟨ob, its, n, hk, hc, _⟩
        · exact .base (.frz z)
        · exact .kList hk hc
      | @ref l a e3 =>
        have e' : (match h[l]? with
          | some (.lst _) => some (k1 == .list)
          | some (.dic _) => some (k1 == .dict)
          | some (.ins _ _) => none
          | none => none) = some ra := e1
        split at e'
        · rename_i ts q1
          obtain ⟨b, e4, vs, g, _⟩ := R.ob l _ q1
          rw [e3] at e4; cases e4
          refine ⟨"list", .base (.lst g), fun k r e => ?_⟩
          have e5 : (match h[l]? with
            | some (.lst _) => some (k == .list)
            | some (.dic _) => some (k == .dict)
            | some (.ins _ _) => none
            | none => none) = some r := e
          rw [q1] at e5
          cases e5; cases k <;> decide +kernel
        · rename_i ts q1
          obtain ⟨b, e4, _, g⟩ := R.ob l _ q1
          rw [e3] at e4; cases e4
          refine ⟨"dict", .base (.dK g), fun k r e => ?_⟩
          have e5 : (match h[l]? with
            | some (.lst _) => some (k == .list)
            | some (.dic _) => some (k == .dict)
            | some (.ins _ _) => none
            | none => none) = some r := e
          rw [q1] at e5
          cases e5; cases k <;> decide +kernel
        · cases e'
        · cases e'
      | cls _ => cases e1
    obtain ⟨n, ty, kk⟩ := key
    exact ⟨n, ty, ra, rb, kk _ _ e1, kk _ _ e2, rfl⟩
  · cases e
theorem de_isk2 (k1 k2 : Kd) {x1 x2 : Str} {q : Nat} (hx1 : bootBuiltins x1 = some (.type k1.nm)) (hx2 : bootBuiltins x2 = some (.type k2.nm)) (hg : Gl X "isinstance") (hm : X.mg "isinstance" = none) (hg1 : Gl X x1) (hm1 : X.mg x1 = none) (hg2 : Gl X x2) (hm2 : X.mg x2 = none) (ha : DE X P W a sa)
    (hn1 : x1 ≠ "__name__" := by decide) (hd1 : (x1 == ("__debug__" : Str)) = false := by decide) (hn2 : x2 ≠ "__name__" := by decide) (hd2 : (x2 == ("__debug__" : Str)) = false := by decide)
    (he : starEach [a, .Tuple [.Name x1 p2, .Name x2 p3] q tpos] X.env = (false, eval a X.env) :: starEach [.Tuple [.Name x1 p2, .Name x2 p3] q tpos] X.env := by rfl) (hpl : (backTo pos (starEach [.Tuple [.Name x1 p2, .Name x2 p3] q tpos] X.env)).any (·.1) = false := by rfl)
    (hs1 : starEach [.Tuple [.Name x1 p2, .Name x2 p3] q tpos] X.env = (false, eval (.Tuple [.Name x1 p2, .Name x2 p3] q tpos) X.env) :: starEach [] X.env := by rfl)
    (hs2 : starEach [.Name x1 p2, .Name x2 p3] X.env = (false, eval (.Name x1 p2) X.env) :: starEach [.Name x2 p3] X.env := by rfl) (hs3 : starEach [.Name x2 p3] X.env = (false, eval (.Name x2 p3) X.env) :: starEach [] X.env := by rfl) :
    DE X P W (.Call (.Name "isinstance" p) [a, .Tuple [.Name x1 p2, .Name x2 p3] q tpos] [] pos) (s1 (oIsK2 k1 k2) sa) :=
  PE.imp (pe_callB call_isiT hg hm boot_isinstance (pa_cons ha (pa_cons (pe_tup (pa_cons (pe_bltn (v := .ty k1.nm) hg1 hm1 hx1 rfl hn1 hd1) (pa_cons (pe_bltn (v := .ty k2.nm) hg2 hm2 hx2 rfl hn2 hd2) pa_nil hs3) hs2)) pa_nil hs1) he) (by decide) (by decide) he hpl) fun σV H Q h => by
    refine tG.mono (fun v H1 hq => ?_) (one (nx_isk2 k1 k2) h)
    obtain ⟨m, h, t, r, R, o⟩ := hq
    unfold oIsK2 at o
    split at o
    · rename_i b e
      obtain ⟨n, ty, r1, r2, kb1, kb2, rfl⟩ := ty_of2 R r e
      refine ⟨by show 2 ≤ sizeLine; decide, fun p hp => ?_⟩
      have E := Ext.garbage (p := p) (o := .tup [.ty k1.nm, .ty k2.nm]) R hp
      obtain ⟨n', ty', r1', r2', kb1', kb2', e'⟩ := ty_of2 (R.garbage (o := .tup [.ty k1.nm, .ty k2.nm]) hp) (r.ext E) e
      refine ⟨v, p, [.ty k1.nm, .ty k2.nm], .type n', [.type k1.nm, .type k2.nm], r1' || r2', rfl, upd_same, .cons (.ty _) (.cons (.ty _) .nil), ty', ?_, ?_⟩
      · exact kitAny_cons (kit_ty kb1') (fun z => kitAny_cons (kit_ty kb2') (fun z2 => by rw [z, z2]; exact kitAny_nil) (fun z2 => by rw [z2]; cases r1' <;> rfl)) (fun z => by rw [z]; rfl)
      · rw [← e']; exact o _ m _ E (.bl _) (R.garbage hp)
    · exact False.elim o
end
end W3
end

section
/-! WQ: enumerate and zip over tuples and lists. -/
namespace PySem
open Builtin
open AutoSeq1 (wpAny_loadPart')
theorem meets_enumerate_newTW (l : Addr) (items : Array Value) (n : Nat) (dct : Option Addr) (sl : Array (Option Value)) :
    Meets (Builtin.«enumerate.__new__» ⟨[.type "enumerate", .ref l], []⟩) (fun _ R s => s.heap.get? l = some { cls := .type "tuple", dict := dct, data := .seq items n, slots := sl } ∧
      R (.ok (.ret (.ref (s.heap.push { cls := .type "tuple_iterator", data := .fields #[.ref l, .int 0 0] }).objs.size)))
        { s with heap := (s.heap.push { cls := .type "tuple_iterator", data := .fields #[.ref l, .int 0 0] }).push { cls := .type "enumerate", data := .fields #[.none, .bool false, .ref s.heap.objs.size, rawInt 0, .none, .none] } }) :=
  .of_wp fun prog w A R s h => by
    obtain ⟨hp, g, d, tk, os⟩ := s; obtain ⟨hl, h⟩ := h
    have hsub := sub_enumerate
    have hL : Heap.IsTuple (Shared.heap ⟨hp, g, d, tk, os⟩) l items := ⟨_, hl, rfl, n, rfl⟩
    wp_walk using wpAny_loadPart' hl
    refine wpAny_stack_any fun st => wpAny_pure ?_
    split
    · rename_i c _ _ _ _ _
      cases (c == Value.type "enumerate")
      · wp_walk using wpAny_loadPart' hl, wpAny_pyIter_tuple hL
        exact ⟨_, rfl, h⟩
      · wp_walk using wpAny_loadPart' hl, wpAny_pyIter_tuple hL
        exact ⟨_, rfl, h⟩
    · wp_walk using wpAny_loadPart' hl, wpAny_pyIter_tuple hL
      exact ⟨_, rfl, h⟩
theorem call_enumerate_tupleW {prog : Program} {w : World} {A : Around} {E : Value → Shared → Prop} {s : Shared} {l : Addr} {items : Array Value} {Q : Value → Shared → Prop} (hL : s.heap.IsTuple l items)
    (h : ∀ h', IsEnum h' (s.heap.objs.size + 1) s.heap.objs.size 0 .none → h'.IsTupleIter s.heap.objs.size l 0 → h'.objs.size = s.heap.objs.size + 2 →
      (∀ b o, s.heap.get? b = some o → h'.get? b = some o) → Q (.ref (s.heap.objs.size + 1)) { s with heap := h' }) :
    wpAny (model prog w) A (call (.type "enumerate") [.ref l]) Q E s := by
  obtain ⟨⟨c, dct, dt, sl⟩, hl, hc, n, hd⟩ := hL
  replace hc : c = .type "tuple" := hc
  replace hd : dt = .seq items n := hd
  subst hc hd
  refine callType_new F.called_enumerate (by decide) (F.typeCall_enumerate_1 _) (F.newCall_enumerate_1 _) (fun obj => F.args_object_init_2 obj _) F.entry_enumerate_new
    (meets_enumerate_newTW l items n dct sl) ⟨hl, ?_⟩
  have hz : (s.heap.push { cls := .type "tuple_iterator", data := .fields #[.ref l, .int 0 0] }).objs.size = s.heap.objs.size + 1 := Heap.size_push ..
  show _ ∧ _
  rw [hz]
  have he : IsEnum ((s.heap.push { cls := .type "tuple_iterator", data := .fields #[.ref l, .int 0 0] }).push
      { cls := .type "enumerate", data := .fields #[.none, .bool false, .ref s.heap.objs.size, rawInt 0, .none, .none] }) (s.heap.objs.size + 1) s.heap.objs.size 0 .none := by
    have := Heap.get?_push_size (s.heap.push { cls := .type "tuple_iterator", data := .fields #[.ref l, .int 0 0] })
      (o := { cls := .type "enumerate", data := .fields #[.none, .bool false, .ref s.heap.objs.size, rawInt 0, .none, .none] }) rfl
    rw [hz] at this; exact this
  refine ⟨⟨_, he, rfl⟩, h _ he ⟨_, Heap.get?_push_of_some _ (Heap.get?_push_size _ rfl), rfl, rfl⟩ (by rw [Heap.size_push, hz]) fun b o x => Heap.get?_push_of_some _ (Heap.get?_push_of_some _ x)⟩
theorem wpAny_pyNext_enum_endTW {prog : Program} {w : World} {A : Around} {E : Value → Shared → Prop} {s : Shared} {e it t : Addr} {i : Nat} {items : Array Value} {c : Int} {old : Value} {Q : Option Value → Shared → Prop} (hh : A.handled = none) (he : IsEnum s.heap e it c old)
    (hit : s.heap.IsTupleIter it t i) (ht : s.heap.IsTuple t items) (hx : items[i]? = none) (hQ : ∀ h', Heap.ExtBut it s.heap h' → Q none { s with heap := h' }) : wpAny (model prog w) A (pyNext (.ref e)) Q E s := by
  have hT : s.TypeIs (.ref e) "enumerate" := ⟨_, he, rfl⟩
  unfold pyNext
  refine wpAny_bind (wpAny_attempt (wpAny_callSpecial?_slot (name := Str.ofString "__next__") hT F.slot_enumerate_next
    (wpAny_call_entry F.slot_enumerate_next hT F.entry_enumerate_next ?_ (F.args_enumerate_next_1 _))))
  show wpAny _ _ (field (.ref e) 2 >>= _) _ _ _
  refine wpAny_bind (wpAny_field he rfl (x := .ref it) rfl ?_)
  refine wpAny_bind (wpAny_nextOf_tuple_end (show A.in1.handled = none from hh) hit ht hx fun h' x he' hx' => ?_)
  obtain ⟨o, ho, hc⟩ := hx'
  refine wpAny_bind (wpAny_isInstance (T := "StopIteration") (b := true) ⟨o, ho, hc⟩ isSubtype_stop ?_)
  exact wpAny_pure (hQ _ he')
end PySem
namespace W3
open PySem PySem.Spec PyProof.Rows
open L2
/-- the tuple at a, each item in a new pair -/
def IteT (K : PySem.W.Frag) (a : Addr) : It :=
  ⟨fun i H => ∃ (xs : List V) (x : V), SqT K H a xs ∧ xs[i]? = some x, fun i H v H' => ∃ T x ob, v = .ref T ∧ H T = none ∧ ob.dict = none ∧ H' = upd H T (.frz ob (.tup [.int (i : Nat), x])) ∧ ∀ xs, SqT K H a xs → xs[i]? = some x, fun i H => ∃ xs : List V, SqT K H a xs ∧ xs.length ≤ i⟩
theorem turn_enumT {P : Program} {w : World} {K : PySem.W.Frag} {elts : List Expr} {kk : Nat} {tpos : Pos} (a e it : Addr) (hai : a ≠ it) (hea : e ≠ a) :
    Turn P w K (.Tuple elts kk tpos) (IteT K a) [e, it] e (fun i h => (∃ old, IsEnum h e it ((i : Nat) : Int) old) ∧ h.IsTupleIter it a i ∧ e ≠ it) where
  mem := by simp
  obj := fun i h st b hb => by
    obtain ⟨⟨old, he⟩, ⟨o, ho, hc, hd⟩, _⟩ := st
    have e' : b = e ∨ b = it := by simpa using hb
    rcases e' with z | z
    · rw [z]; exact ⟨_, he, fun v q => nomatch q⟩
    · rw [z]; exact ⟨o, ho, fun v q => by rw [hd] at q; cases q⟩
  keep := fun i h h' st k => let ⟨⟨old, he⟩, hi, hne⟩ := st; ⟨⟨old, k e (by simp) _ he⟩, hi.at fun o q => k it (by simp) o q, hne⟩
  item := by
    intro X hP hw hK hc i pins s σ H E I hf st hg
    subst hP hw hK
    obtain ⟨⟨old, he⟩, hit, hne⟩ := st
    obtain ⟨xs, x, hq, hx⟩ := hg
    obtain ⟨its, rv, p, hz⟩ := I.tuple hq
    obtain ⟨u, hu, ru⟩ := rv.get hx
    have hel : e < s.heap.objs.size := Heap.lt_size he
    have hil : it < s.heap.objs.size := by obtain ⟨_, q, _⟩ := hit; exact Heap.lt_size q
    have hlt : i < its.toArray.size := by
      have := (List.getElem?_eq_some_iff.mp hu).1
      simpa using this
    refine wpAny_pyNext_enum_itemC (Draws.tuple (A := X.A.in1) (I.ok.hd hc) it a hai its.toArray) he ⟨hit, p⟩ hlt hne (by simp [hne, hea]) fun y h' tk hy ho hit' hT hsz hk => ?_
    have e0 : y = u := by
      have h1 : its.toArray[i]? = some u := by simpa using hu
      have h2 : its.toArray[i]? = some y := hy
      rw [h1] at h2; cases h2; rfl
    subst e0
    refine ⟨_, rfl, wpAny_letOwnedTupleGo_enum (s := { s with heap := h', toks := tk + 1 }) ho fun h'' he' sb => ?_⟩
    have hT2 : h''.get? s.heap.objs.size = some { cls := .type "tuple", data := .seq #[.int i tk, y] } := (sb.2 _ (Nat.ne_of_gt hel)).trans hT
    have new : ObjOk X.prog X.w (upd H s.heap.objs.size (.frz { cls := .type "tuple", data := .seq #[.int i tk, y] } (.tup [.int (i : Nat), x]))) h'' s.heap.objs.size (.frz { cls := .type "tuple", data := .seq #[.int i tk, y] } (.tup [.int (i : Nat), x])) :=
      ⟨hT2, by show 2 ≤ sizeLine; decide, [.int i tk, y], .cons ⟨_, rfl⟩ (.cons ru .nil), ⟨_, hT2, rfl, _, rfl⟩⟩
    have I1 : L2.Inv X pins σ (upd H s.heap.objs.size (.frz { cls := .type "tuple", data := .seq #[.int i tk, y] } (.tup [.int (i : Nat), x]))) { s with heap := h'', toks := tk + 1 } :=
      I.turnedNew (ch := [e, it]) (fun b ob hb q => (sb.2 b (fun z => hb (by simp [z]))).trans (hk b ob (fun z => hb (by simp [z])) (fun z => hb (by simp [z])) q)) hf (Nat.le_refl _) new
    refine ⟨.ref s.heap.objs.size, _, I1, rfl, ⟨_, x, _, rfl, I.hok.fresh (Nat.le_refl _), rfl, rfl, fun ys hy => by rw [I.tuple_inj hy hq]; exact hx⟩, ⟨⟨y, ?_⟩, hit'.1.at fun o q => (sb.2 it (Ne.symm hne)).trans q, hne⟩, fun b hb => ?_⟩
    · have e1 : ((i + 1 : Nat) : Int) = (i : Int) + 1 := by omega
      rw [e1]; exact he'
    · have hb' : b < s.heap.objs.size := by
        have e' : b = e ∨ b = it := by simpa using hb
        rcases e' with z | z
        · rw [z]; exact hel
        · rw [z]; exact hil
      rw [upd_ne (Nat.ne_of_lt hb')]
      exact (hf b hb).1
  done := by
    intro X hP hw hK hc i pins s σ H E I hf st hg
    subst hP hw hK
    obtain ⟨⟨old, he⟩, hit, hne⟩ := st
    obtain ⟨xs, hq, hx⟩ := hg
    obtain ⟨its, rv, p, hz⟩ := I.tuple hq
    obtain ⟨f0, f1, f2, f3, f4, f5⟩ := hf it (by simp)
    have hl := rv.length
    exact wpAny_pyNext_enum_endTW (I.ok.hd hc) he hit (show s.heap.IsTuple a its.toArray from p) (by simp; omega) fun h' eb => ⟨rfl, I.turned (t' := s.toks) (fun b o hb q => eb b o hb q) f0 f1 f3 f4 f5⟩
  self := fun A i s Q E st h => let ⟨⟨_, he⟩, _⟩ := st; wpAny_pyIter_enum he h
/-- enumerate(xs): a list or a tuple -/
theorem pi_enumA {X : Cx} {e : Expr} {ta : TA} {p pos tpos : Pos} {elts : List Expr} {kk : Nat} (hg : Gl X "enumerate") (hm : X.mg "enumerate" = none) (ha : PA X [e] ta) (hs : starEach [e] X.env = [(false, eval e X.env)] := by rfl) :
    PI X (.Tuple elts kk tpos) (.Call (.Name "enumerate" p) [e] [] pos) (fun σ H R => ta σ H fun vs H1 => ∃ a xs, vs = [.ref a] ∧ ((SqL X.K H1 a xs ∧ R (Ite X.K a) H1) ∨ (SqT X.K H1 a xs ∧ R (IteT X.K a) H1))) := by
  refine ⟨fun pins s σ H R I h => ?_⟩
  refine Call_ (ld_blt I hg hm boot_enumerate (PyProof.Rows.callWith_type1 (thn (ha.run pos pins s σ H _ I h) fun us s1 ⟨vs, H1, I1, r1, q1⟩ => ?_) hs rfl))
  obtain ⟨a, xs, ex, q⟩ := q1
  subst ex
  cases r1 with
  | cons r rr =>
    cases rr
    cases r
    have fin : ∀ b, b ∈ [s1.heap.objs.size + 1, s1.heap.objs.size] → FpOk X pins H1 b := fun b hb => by
      have e' : b = s1.heap.objs.size + 1 ∨ b = s1.heap.objs.size := by simpa using hb
      have hle : s1.heap.objs.size ≤ b := by
        rcases e' with z | z
        · rw [z]; exact Nat.le_add_right _ _
        · rw [z]; exact Nat.le_refl _
      exact I1.fpOk hle (I1.hok.fresh hle)
    rcases q with ⟨hq, q⟩ | ⟨hq, q⟩
    · obtain ⟨its, rv, p', hz⟩ := I1.list hq
      refine call_enumerate_list p'.isList fun h' he hit hsz hk => wpAny_pyIter_enum he ?_
      have I2 : L2.Inv X pins σ H1 { s1 with heap := h' } := I1.kept (t' := s1.toks) hk
      exact ⟨s1.heap.objs.size + 1, [s1.heap.objs.size + 1, s1.heap.objs.size], _, _, H1, rfl, I2, turn_enum a (s1.heap.objs.size + 1) s1.heap.objs.size, ⟨⟨.none, he⟩, hit, Nat.succ_ne_self _⟩, fin, q⟩
    · obtain ⟨its, rv, p', hz⟩ := I1.tuple hq
      have hal : a < s1.heap.objs.size := by obtain ⟨_, z, _⟩ := p'; exact Heap.lt_size z
      refine call_enumerate_tupleW (show s1.heap.IsTuple a its.toArray from p') fun h' he hit hsz hk => wpAny_pyIter_enum he ?_
      have I2 : L2.Inv X pins σ H1 { s1 with heap := h' } := I1.kept (t' := s1.toks) hk
      exact ⟨s1.heap.objs.size + 1, [s1.heap.objs.size + 1, s1.heap.objs.size], _, _, H1, rfl, I2, turn_enumT a (s1.heap.objs.size + 1) s1.heap.objs.size (Nat.ne_of_lt hal) (fun z => Nat.lt_irrefl a (Nat.lt_of_lt_of_le hal (by rw [← z]; exact Nat.le_succ _))), ⟨⟨.none, he⟩, hit, Nat.succ_ne_self _⟩, fin, q⟩
/-- what is walked, made of two: pairs -/
def enumL : Nat → List T → List T
  | _, [] => []
  | i, t :: ts => .tup [.int i, t] :: enumL (i + 1) ts
theorem enumL_get : ∀ (ts : List T) (i k : Nat), (enumL k ts)[i]? = ts[i]?.map fun t => .tup [.int (k + i : Nat), t]
  | [], i, k => by simp [enumL]
  | t :: ts, 0, k => by simp [enumL]
  | t :: ts, i + 1, k => by
    show (enumL (k + 1) ts)[i]? = ts[i]?.map _
    rw [enumL_get ts i (k + 1)]
    congr 1
    funext t
    rw [show k + 1 + i = k + (i + 1) by omega]
section
variable {K : PySem.W.Frag} {mg : Str → Option Value} {m : Mp} {H : Hp}
theorem srcj_enumT {a : Addr} {vs : List V} {ts : List T} (hq : SqT K H a vs) (r : RTs K mg m H ts vs) : SrcJ K mg m H (.its (enumL 0 ts)) (IteT K a) where
  go := fun m' h' H' i x E R e => by
    have e' : (enumL 0 ts)[i]? = some x := Option.some.inj e
    rw [enumL_get] at e'
    cases hx : ts[i]? with
    | none => rw [hx] at e'; cases e'
    | some t =>
      rw [hx] at e'
      have e2 : T.tup [.int (0 + i : Nat), t] = x := Option.some.inj e'
      subst e2
      obtain ⟨v, ev, rv⟩ := r.get hx
      refine ⟨⟨vs, v, SqT.tr E hq, ev⟩, fun y H2 ⟨T, z, ob, e1, hT, hd, e2, e3⟩ => ?_⟩
      subst e1 e2
      have := e3 vs (SqT.tr E hq)
      rw [ev] at this; cases this
      have E2 := Ext.garbage (o := .frz ob (.tup [.int (i : Nat), v])) R hT
      refine ⟨E2, R.garbage hT, .tup (.inl ⟨ob, upd_same, hd⟩) ?_⟩
      rw [show 0 + i = i by omega]
      exact .cons (.int _) (.cons ((rv.tr E).ext E2) .nil)
  stop := fun m' h' H' i E R e => by
    have e' : (enumL 0 ts)[i]? = none := Option.some.inj e
    rw [enumL_get] at e'
    cases hx : ts[i]? with
    | some t => rw [hx] at e'; cases e'
    | none =>
      refine ⟨vs, SqT.tr E hq, ?_⟩
      rw [← r.length]
      exact List.getElem?_eq_none_iff.mp hx
end
def enumOf (xs : List T) (h : Hh) : Res Src := match xs with | [.tup ts] => .ok (.its (enumL 0 ts)) h | _ => .stk
/-- enumerate(..) of a tuple -/
def siEnum (a : SA) : SI := fun σ h => (a σ h).bind enumOf
section
variable {X : Cx} {P : Pq} {W : WX} {a b c : Expr} {ar : SA} {pos : Pos}
theorem di_enum {p tpos : Pos} {elts : List Expr} {kk : Nat} (hg : Gl X "enumerate") (hm : X.mg "enumerate" = none) (ha : DA X P W [a] ar) (hs : starEach [a] X.env = [(false, eval a X.env)] := by rfl) : DI X P W (.Tuple elts kk tpos) (.Call (.Name "enumerate" p) [a] [] pos) (siEnum ar) :=
  PI.imp (pi_enumA hg hm ha hs) fun σV H R ⟨m, h, σ, A, o⟩ => by
    refine A.first (rel1 := RTs X.K X.mg) o fun m1 h1 ts x H1 E1 r A1 o1 => ?_
    unfold enumOf at o1
    split at o1
    · obtain ⟨v, rfl, r1⟩ := r.one
      cases r1 with
      | @tup a vs ts hq r2 =>
        exact ⟨a, vs, rfl, .inr ⟨hq, o1 _ m1 H1 (Ext.refl _ _) (srcj_enumT hq r2) A1.hr⟩⟩
    · exact False.elim o1
end
theorem RTs.two {K : PySem.W.Frag} {mg : Str → Option Value} {m : Mp} {H : Hp} {t u : T} {vs : List V} (r : RTs K mg m H [t, u] vs) : ∃ v w, vs = [v, w] ∧ RT K mg m H t v ∧ RT K mg m H u w := by
  cases r with
  | cons r1 rr =>
    cases rr with
    | cons r2 rn => cases rn; exact ⟨_, _, rfl, r1, r2⟩
end W3
end

section
/-! WR: errors of the program's own classes, whose __init__ begins with super().__init__(text). -/
namespace W3
open PySem PySem.Spec PyProof.Rows PySem.W
open L2
/-- what the text says of such a class -/
structure ExF (prog : Program) (K : PySem.W.Frag) (C f c cc : Addr) (fd : FuncData) : Prop where
  oex : OexC K C
  fn : ∃ oc od osl, K.lookup f = some ⟨oc, od, .func fd, osl⟩
  code : ∃ ccl cdd vs ccs file tf, K.lookup c = some ⟨ccl, cdd, .fields vs, ccs⟩ ∧ vs[2]? = some (.str file tf) ∧ ((prog.main.file : Str) == file) = true
  cell : ∃ cl cld csl, K.lookup cc = some ⟨cl, cld, .cell (some (.ref C)), csl⟩
  sup : PySem.W.ks_superIn K C C "__init__" = some (some (.builtin "ValueError.__init__"))
  subV : PySem.W.subIn K (.ref C) (.type "ValueError") = some true
  subC : PySem.W.mroIn K C (.ref C) = some true
  opq : PySem.W.nsIn K cStatics "thirdparty.any" = some none
  top : (prog.main.scope.names.lookup ("super" : Str)).isSome = false
theorem boot_super : bootBuiltins "super" = some (.type "super") := by decide +kernel
theorem clsIn_of {K : PySem.W.Frag} {C : Addr} (T : OexC K C) : ∃ cd, PySem.W.clsIn K C = some cd := by
  obtain ⟨nm, q, N, bs, bm, sn, sub, ab, col, dd, k0, k1, k2, k3, k5, hC, hbm⟩ := T.cls
  unfold PySem.W.clsIn
  rw [hC]
  exact ⟨_, rfl⟩
theorem call_mwV {prog : Program} {w : World} {A : Around} {E : Value → Shared → Prop} {h : Heap} {g : Array GenState} {d : Drawn} {t : Nat} {os : OsState} {nm q : Str} {C N : Addr} {bs bm : List Value} {hdct : Bool} {sn : List Str} {sub : List Value} {ab : Bool} {col : Option Bool} {dd : Option Addr} {k0 k1 k2 k3 k5 : Option Value}
    {u e t0 : Addr} {rest : List Value} {Q : Value → Shared → Prop} (hC : h.get? C = some (excClassObj nm q C N bs bm hdct sn sub ab col dd k0 k1 k2 k3 k5 "ValueError.__new__")) (he : h.get? e = some (HandSPX.excO C t0)) (hu : h.get? u = some (kxs_mw "ValueError.__init__" e)) (hrest : rest.length ≤ sizeLine)
    (hq : ∀ h' t1, (∀ b o, b ≠ e → h.get? b = some o → h'.get? b = some o) → h'.get? e = some (HandSPX.excO C t1) → Q .none ⟨h', g, d, t, os⟩) : wpAny (model prog w) A (call (.ref u) rest) Q E ⟨h, g, d, t, os⟩ := by
  refine wpAny_call (codeAny_of_tree ?_)
  show wpAny _ A.in1 (callAny (.ref u) ⟨rest, []⟩) _ _ _
  simp only [callAny]
  refine wpAny_bind (wpAny_load hu ?_)
  simp only [kxs_mw, show (Value.type "method-wrapper" == Value.type "method" || Value.type "method-wrapper" == Value.type "builtin_function_or_method" || Value.type "method-wrapper" == Value.type "method-wrapper") = true by decide, if_true]
  refine W.KFB.if_so (by decide) ?_
  refine wpAny_bind (ESX.check_bound F.excBase_ValueError hC he rfl ?_)
  refine wpAny_bind (wpAny_pure (wpAny_pure ?_))
  refine ⟨Code.quiet_builtin _ (by decide +kernel), codeAny_builtin F.excBase_ValueError.initEntry ?_⟩
  rw [Around.under_plainId F.excBase_ValueError.init.plain _]
  wp_walk
  refine hq _ h.objs.size (fun b o hb ho => ?_) ?_
  · rw [Heap.get?_update_other _ _ (Ne.symm hb)]
    exact Heap.get?_push_of_some _ ho
  · rw [Heap.get?_update_self _ (Heap.get?_push_of_some _ he) rfl]
    rfl
section
variable {X : Cx} {pins : List (Addr × Obj)} {σ : L2.St} {H : Hp} {s : Shared}
theorem exc_first {C f c cc a : Addr} {fd : FuncData} {body : List Stmt} {p0 p1 p2 apos cpos pos : Pos} {j : Nat} {txt : Str} {ar : Arg} {pl : Sem Bool} (F : ExF X.prog X.K C f c cc fd) (I : L2.Inv X pins σ H s)
    (hfu : X.env.func = some f) (hco : X.env.code = .ref c) (hcl : X.env.cells.lookup ("__class__" : Str) = some cc) (hks : X.env.kindOf "super" = some .globalImplicit) (hkc : X.env.kindOf "__class__" = some .free)
    (hp : (fd.params.posonlyargs ++ fd.params.args).head? = some ar) (hN : X.N[0]? = some ar.arg) (hka : X.env.kindOf ar.arg = some .local) (h0 : σ[0]? = some (some (.ref a))) (hm : X.mg "super" = none) (ea : H a = some (exo a C none))
    (hi : interactive X.env = false) (hs : swapsWith (.Call (.Attribute (.Call (.Name "super" p0) [] [] p1) "__init__" apos) [.Constant (.str txt) j p2] [] cpos) none pos.line X.env = pure false)
    (hmc : eval (.Call (.Attribute (.Call (.Name "super" p0) [] [] p1) "__init__" apos) [.Constant (.str txt) j p2] [] cpos) X.env = (do
      let ov ← attributeBase (.Call (.Name "super" p0) [] [] p1) "__init__" X.env (eval (.Call (.Name "super" p0) [] [] p1) X.env)
      standAt apos.atName
      let (f, first) ← holding [ov] (getMethod ov "__init__" pl)
      callWith cpos f first (backTo cpos (starEach [.Constant (.str txt) j p2] X.env)) []))
    (he : starEach [.Constant (.str txt) j p2] X.env = (false, eval (.Constant (.str txt) j p2) X.env) :: starEach [] X.env) (hpl : (backTo cpos (starEach [] X.env)).any (·.1) = false) :
    _root_.PySem.wpAt (model X.prog X.w) X.A (.func body X.env) (exec (.Expr (.Call (.Attribute (.Call (.Name "super" p0) [] [] p1) "__init__" apos) [.Constant (.str txt) j p2] [] cpos) pos) X.env) (fun fl s' => fl = .next ∧ L2.Inv X pins σ H s') X.xe s := by
  obtain ⟨oc, od, osl, hf⟩ := F.fn
  obtain ⟨ccl, cdd, vs, ccs, file, tf, hcode, hvs, hfile⟩ := F.code
  obtain ⟨cl, cld, csl, hcell⟩ := F.cell
  obtain ⟨nm, q, N, bs, bm, sn, sub, ab, col, dd, k0, k1, k2, k3, k5, hC, hbm⟩ := F.oex.cls
  have K1 := I.kIn
  refine ks_wpAt_Expr_any ?_ hi hs
  refine ks_wpAt_MethodCall (pl := pl) ?_ hmc
  refine ks_wpAt_super_base hks hkc (by decide) hfu (K1 _ _ hf) rfl hp hco (K1 _ _ hcode) rfl hvs hfile F.top ?_
  obtain ⟨mb, b1, b2⟩ := I.mod.blt
  refine ks_loadName_global I.ok.kind hks (Calls.loadGlobal_builtin (by rw [I.ok.glob]; exact I.mod.glob.keeps I.bk) hm (by rw [I.ok.blt]; exact b1.keeps I.bk) ((b2 "super" (by decide)).trans boot_super) ⟨rfl, ?_⟩)
  refine wpAny_loadName_free I.ok.kind hkc hcl ⟨_, K1 _ _ hcell, rfl⟩ ?_
  obtain ⟨m, hn, hl⟩ := I.loc
  obtain ⟨u, ru, lk⟩ := hl 0 ar.arg (.ref a) hN h0 (.inl hka)
  obtain rfl : u = .ref a := ru
  have hmv : m ar.arg = some (.ref a) := by
    rcases lk with ⟨_, z⟩ | ⟨z | z, _⟩
    · exact z
    · rw [hka] at z; cases z
    · rw [hka] at z; cases z
  refine wpAny_loadName_local I.ok.kind hka hn hmv ?_
  obtain ⟨hp', g, d, t, os⟩ := s
  obtain ⟨t1, hx⟩ := exo_at I.hok ea
  have hC' := K1 _ _ hC
  refine ks_wpAny_isType_cls hC' rfl ⟨rfl, ?_⟩
  refine ks_wpAny_call_super hC' rfl hx rfl (fun _ z => by cases z) (looks_mroIn K1 F.subC) fun h1 e1 k1 => ?_
  have I1 : L2.Inv X pins σ H ⟨h1, g, d, t, os⟩ := I.kept (t' := t) k1
  have K2 := I1.kIn
  obtain ⟨cd, hcd⟩ := clsIn_of F.oex
  have hsup := F.sup
  unfold ks_superIn at hsup
  rw [hcd] at hsup
  have hInst : Looks (model X.prog X.w) h1 (isInstance (.ref a) (.type "ValueError")) true := by
    have LT : Looks (model X.prog X.w) h1 (typeOf (.ref a)) (.ref C) := fun A Q E s k q => wpAny_typeOf_ref (k _ _ (k1 _ _ hx)) q
    exact LT.andThen (looks_subIn K2 F.subV)
  have hne : a ≠ C := fun z => by
    rw [z, hC'] at hx
    cases hx
  refine kxs_getMethod kxs_ValueError e1 (looks_opaque K2 F.opq) (l₀ := cd.mro) (fun A Q E s k q => wpAny_bind ((looks_clsIn K2 hcd) A _ E s k (wpAny_pure q))) rfl K2 hsup hInst hne (by decide) ?_
  have k2 : ∀ b o, h1.get? b = some o → (h1.push (kxs_mw "ValueError.__init__" a)).get? b = some o := fun b o e => Heap.get?_push_of_some _ e
  have I2 : L2.Inv X pins σ H ⟨h1.push (kxs_mw "ValueError.__init__" a), g, d, t + 1, os⟩ := I1.kept (t' := t + 1) k2
  have hu : (h1.push (kxs_mw "ValueError.__init__" a)).get? h1.objs.size = some (kxs_mw "ValueError.__init__" a) := Heap.get?_push_at rfl rfl
  refine kxs_callWith (i := "ValueError.__init__") (x := a) ?_ ?_
  · rw [he]
    show (false || (backTo cpos (starEach [] X.env)).any (·.1)) = false
    rw [hpl]; rfl
  rw [he]
  refine Calls.evalArgs_plain ?_
  refine Calls.spliced_cons (Calls.Constant_str (k := j) (pos := p2) (Calls.spliced_nil ⟨hu, ?_⟩))
  obtain ⟨t2, hx2⟩ := exo_at (I2.tok (t + 2)).hok ea
  refine call_mwV (I2.kIn _ _ hC) hx2 hu (by show 1 ≤ sizeLine; decide) fun h' t3 k3 hx3 => ⟨rfl, ?_⟩
  have J := (I2.tok (t + 2)).write (t' := t + 2) (x := a) (e := a) (o := exo a C none) (by rw [ea]; exact True.intro) (.inl rfl) k3 ⟨_, hx3⟩ (exo_ok hx3)
  have eu : upd H a (exo a C none) = H := by
    funext b
    by_cases hb : b = a
    · rw [hb, upd_same, ea]
    · rw [upd_ne hb]
  rw [eu] at J
  exact J
end
abbrev nfE (name qual : Str) (params : Arguments) (body : List Stmt) (scope : Scope) (cc c : Addr) : NdefX.NF := ⟨name, qual, params, body, scope, [("__class__", cc)], c⟩
abbrev fdE (name qual : Str) (params : Arguments) (body : List Stmt) (scope : Scope) (cc c : Addr) (doc pm ct : Value) (an : Option Addr) : FuncData := PySem.W.fnX name qual params body scope [("__class__", cc)] .none .none doc pm an (.ref c) ct
theorem fn_exc {CX : CXT} {P : Program} {w : World} {K : PySem.W.Frag} {mg : Str → Option Value} {base : Heap} {k : Nat} {f c cc C : Addr} {name qual : Str} {params : Arguments} {rest : List Stmt} {scope : Scope} {doc pm ct : Value} {an : Option Addr} {N ps : List Str} {sp : Sp} {ar : Arg} {pl : Sem Bool}
    {p0 p1 p2 apos cpos pos : Pos} {j : Nat} {txt : Str}
    (F : ExF P K C f c cc (fdE name qual params (.Expr (.Call (.Attribute (.Call (.Name "super" p0) [] [] p1) "__init__" apos) [.Constant (.str txt) j p2] [] cpos) pos :: rest) scope cc c doc pm ct an))
    (hcd : PySem.W.codeIn K (.ref c) qual = true) (S : NdefX.NScope N ps ["__class__"] scope) (len : ∀ vs H Q E, sp vs H Q E → vs.length = ps.length) (hks : scope.names.lookup ("super" : Str) = some .globalImplicit)
    (hp : (params.posonlyargs ++ params.args).head? = some ar) (hN : N[0]? = some ar.arg) (hka : scope.names.lookup ar.arg = some .local) (hm : mg "super" = none)
    (hline : ∀ L : Addr, interactive (NdefX.envF (nfE name qual params (.Expr (.Call (.Attribute (.Call (.Name "super" p0) [] [] p1) "__init__" apos) [.Constant (.str txt) j p2] [] cpos) pos :: rest) scope cc c) f L) = false ∧ swapsWith (.Call (.Attribute (.Call (.Name "super" p0) [] [] p1) "__init__" apos) [.Constant (.str txt) j p2] [] cpos) none pos.line (NdefX.envF (nfE name qual params (.Expr (.Call (.Attribute (.Call (.Name "super" p0) [] [] p1) "__init__" apos) [.Constant (.str txt) j p2] [] cpos) pos :: rest) scope cc c) f L) = pure false ∧
      eval (.Call (.Attribute (.Call (.Name "super" p0) [] [] p1) "__init__" apos) [.Constant (.str txt) j p2] [] cpos) (NdefX.envF (nfE name qual params (.Expr (.Call (.Attribute (.Call (.Name "super" p0) [] [] p1) "__init__" apos) [.Constant (.str txt) j p2] [] cpos) pos :: rest) scope cc c) f L) = (do
        let ov ← attributeBase (.Call (.Name "super" p0) [] [] p1) "__init__" (NdefX.envF (nfE name qual params (.Expr (.Call (.Attribute (.Call (.Name "super" p0) [] [] p1) "__init__" apos) [.Constant (.str txt) j p2] [] cpos) pos :: rest) scope cc c) f L) (eval (.Call (.Name "super" p0) [] [] p1) (NdefX.envF (nfE name qual params (.Expr (.Call (.Attribute (.Call (.Name "super" p0) [] [] p1) "__init__" apos) [.Constant (.str txt) j p2] [] cpos) pos :: rest) scope cc c) f L))
        standAt apos.atName
        let (g, first) ← holding [ov] (getMethod ov "__init__" pl)
        callWith cpos g first (backTo cpos (starEach [.Constant (.str txt) j p2] (NdefX.envF (nfE name qual params (.Expr (.Call (.Attribute (.Call (.Name "super" p0) [] [] p1) "__init__" apos) [.Constant (.str txt) j p2] [] cpos) pos :: rest) scope cc c) f L))) []))
    (hbody : ∀ (A : Around) (outer : List Env) (s : Shared) (H : Hp) (vs : List V) (Q : VK) (E : XK), sp vs H Q E → ∃ a, vs[0]? = some (.ref a) ∧ H a = some (exo a C none) ∧
      ∃ t, PSs (NdefX.ncx CX P w K mg base N (nfE name qual params (.Expr (.Call (.Attribute (.Call (.Name "super" p0) [] [] p1) "__init__" apos) [.Constant (.str txt) j p2] [] cpos) pos :: rest) scope cc c) f A outer s H E) rest t ∧ t { nx := fun _ H' => Q .non H', rt := Q } (NdefX.startF N vs [none]) H) :
    FnOk P w K mg base CX (k + 1) f (fdE name qual params (.Expr (.Call (.Attribute (.Call (.Name "super" p0) [] [] p1) "__init__" apos) [.Constant (.str txt) j p2] [] cpos) pos :: rest) scope cc c doc pm ct an) ps sp := by
  refine ⟨len, fun A outer s H args us vs Q E hr e0 hb r hsp => ?_⟩
  obtain ⟨oc, od, osl, lk⟩ := F.fn
  obtain ⟨cl, cld, csl, hcell⟩ := F.cell
  have hl := len _ _ _ _ hsp
  have KX : K.In s.heap := e0.mod.kin.keeps fun b o e => (e0.bs b o e).1
  have lim : s.heap.NoLimit := e0.mod.nolimit.keeps fun b o e => (e0.bs b o e).1
  obtain ⟨a, h0, ea, t, ht, hq⟩ := hbody A outer s H vs Q E hsp
  have hcc := e0.mod.kin _ _ hcell
  have CA : NdefX.CellsAt [(("__class__" : Str), cc)] ["__class__"] [none] s.heap H := by
    have one : ∀ (y : Str) (c' : Addr), ([(("__class__" : Str), cc)] : List (Str × Addr)).lookup y = some c' → c' = cc ∧ y = "__class__" := fun y c' e => by
      simp only [List.lookup] at e
      split at e
      · rename_i q
        cases e
        exact ⟨rfl, by simpa using q⟩
      · cases e
    refine ⟨rfl, fun y c' e => ?_, fun x y c' e1 e2 => ?_, fun i y e => ?_⟩
    · obtain ⟨rfl, _⟩ := one y c' e
      exact ⟨(e0.bs _ _ hcc).2, _, _, (e0.bs _ _ hcc).1, rfl⟩
    · rw [(one x c' e1).2, (one y c' e2).2]
    · cases i with
      | zero =>
        simp at e
        subst e
        exact ⟨cc, by simp [List.lookup], fun v z => by simp at z⟩
      | succ i => simp at e
  refine ks_codeAny_call_defAt hr.depth (KX _ _ lk) rfl lim (PySem.W.codeRec_of KX hcd) rfl hb S.nocell (fun ⟨n, v⟩ hy => S.par n (List.of_mem_zip hy).1) (fun h₁ hns hk => ?_) S.co S.gen S.kind
  have I : L2.Inv (NdefX.ncx CX P w K mg base N (nfE name qual params (.Expr (.Call (.Attribute (.Call (.Name "super" p0) [] [] p1) "__init__" apos) [.Constant (.str txt) j p2] [] cpos) pos :: rest) scope cc c) f A outer s H E) [] (NdefX.startF N vs [none]) H { s with heap := h₁, toks := s.toks + (ps.zip us).length } := NdefX.inv_startN S hr.hd e0 hl r CA hns hk
  obtain ⟨hi, hs, hmc⟩ := hline s.heap.objs.size
  have hs0 : (NdefX.startF N vs [none])[0]? = some (some (.ref a)) := by
    unfold NdefX.startF
    cases vs with
    | nil => simp at h0
    | cons v vs => simp at h0; subst h0; simp
  refine ks_wpAt_execs_cons (ks_wpAt_mono (exc_first (X := NdefX.ncx CX P w K mg base N (nfE name qual params (.Expr (.Call (.Attribute (.Call (.Name "super" p0) [] [] p1) "__init__" apos) [.Constant (.str txt) j p2] [] cpos) pos :: rest) scope cc c) f A outer s H E) F I rfl rfl (by simp [NdefX.ncx, List.lookup]) hks (S.frk _ (by simp)) hp hN hka hs0 hm ea hi hs hmc rfl rfl) (fun fl s' z => ?_) fun e s' z => z)
  obtain ⟨rfl, J⟩ := z
  refine wpAt_of_wpAny (wpAny_mono (ht.run [] s' _ H _ J hq) (fun fl s2 hs2 => ?_) fun e s2 z => z)
  have fin : ∀ {σ' : L2.St} {H' : Hp} {v : V} {u : Value}, L2.Inv (NdefX.ncx CX P w K mg base N (nfE name qual params (.Expr (.Call (.Attribute (.Call (.Name "super" p0) [] [] p1) "__init__" apos) [.Constant (.str txt) j p2] [] cpos) pos :: rest) scope cc c) f A outer s H E) [] σ' H' s2 → L2.RelV v u → Q v H' → CE outer P w H s Q u s2 :=
    fun {σ' H' v u} J rv q => ⟨v, H', J.os, J.bare, J.base, J.hok, rv, q⟩
  cases fl with
  | ret u =>
    obtain ⟨v, σ', H', J, rv, q⟩ := hs2
    exact fin J rv q
  | next =>
    obtain ⟨σ', H', J, q⟩ := hs2
    exact fin (v := V.non) (u := Value.none) J rfl q
  | brk =>
    obtain ⟨_, _, _, q⟩ := hs2
    exact False.elim q
  | cont =>
    obtain ⟨_, _, _, q⟩ := hs2
    exact False.elim q
end W3
end

section
/-! WS: raise C(..) of the program's own classes. -/
namespace W3
open PySem PySem.Spec PyProof.Rows PySem.W
open L2
/-- what __init__ of an error promises: one field, two fields -/
def spE1 (C : Addr) (f1 : Str) : Sp := fun vs H Q E => ∃ (a : Addr) (y1 : V), vs = [.ref a, y1] ∧ H a = some (exo a C none) ∧ ∀ dx, H dx = none → dx ≠ a → Q .non (upd (upd H dx (exd dx [(f1, y1)])) a (exo a C (some dx)))
def spE2 (C : Addr) (f1 f2 : Str) : Sp := fun vs H Q E => ∃ (a : Addr) (y1 y2 : V), vs = [.ref a, y1, y2] ∧ H a = some (exo a C none) ∧ ∀ dx, H dx = none → dx ≠ a → Q .non (upd (upd (upd H dx (exd dx [(f1, y1)])) a (exo a C (some dx))) dx (exd dx [(f2, y2), (f1, y1)]))
section
variable {X : Cx} {q1 q2 q3 q4 r1 r2 r3 r4 : Pos} {sf a1 a2 f1 f2 : Str} {C : Addr}
theorem body1 {σ : L2.St} {H : Hp} {D : Ends} (T : OexC X.K C) (n1 : PySem.W.findIn X.K (.ref C) f1 = some none) (hN0 : X.N[0]? = some sf) (hN1 : X.N[1]? = some a1) (v0 : Vis X.env.scope sf) (v1 : Vis X.env.scope a1) (hd0 : (sf == ("__debug__" : Str)) = false) (hc0 : (sf == ("__classdict__" : Str)) = false) (hd1 : (a1 == ("__debug__" : Str)) = false) (hc1 : (a1 == ("__classdict__" : Str)) = false)
    (hs : swapsWith (.Name a1 q3) (some (.Attribute (.Name sf q1) f1 q2)) q4.line X.env = pure false) {a : Addr} {y1 : V} (e0 : σ[0]? = some (some (.ref a))) (e1 : σ[1]? = some (some y1)) (ea : H a = some (exo a C none)) (q : ∀ dx, H dx = none → dx ≠ a → D.nx σ (upd (upd H dx (exd dx [(f1, y1)])) a (exo a C (some dx)))) :
    ∃ t, PSs X [.Assign [.Attribute (.Name sf q1) f1 q2] (.Name a1 q3) q4] t ∧ t D σ H :=
  ⟨_, pss_one (ps_ost (pe_var (i := 0) hN0 v0 hd0 hc0) (pe_var (i := 1) hN1 v1 hd1 hc1) hs), ⟨y1, e1, .ref a, e0, a, C, rfl, T, n1, .inl ⟨ea, q⟩⟩⟩
theorem body2 {σ : L2.St} {H : Hp} {D : Ends} (T : OexC X.K C) (n1 : PySem.W.findIn X.K (.ref C) f1 = some none) (n2 : PySem.W.findIn X.K (.ref C) f2 = some none) (hN0 : X.N[0]? = some sf) (hN1 : X.N[1]? = some a1) (hN2 : X.N[2]? = some a2) (v0 : Vis X.env.scope sf) (v1 : Vis X.env.scope a1) (v2 : Vis X.env.scope a2)
    (hd0 : (sf == ("__debug__" : Str)) = false) (hc0 : (sf == ("__classdict__" : Str)) = false) (hd1 : (a1 == ("__debug__" : Str)) = false) (hc1 : (a1 == ("__classdict__" : Str)) = false) (hd2 : (a2 == ("__debug__" : Str)) = false) (hc2 : (a2 == ("__classdict__" : Str)) = false)
    (hs : swapsWith (.Name a1 q3) (some (.Attribute (.Name sf q1) f1 q2)) q4.line X.env = pure false) (hs2 : swapsWith (.Name a2 r3) (some (.Attribute (.Name sf r1) f2 r2)) r4.line X.env = pure false) {a : Addr} {y1 y2 : V} (e0 : σ[0]? = some (some (.ref a))) (e1 : σ[1]? = some (some y1)) (e2 : σ[2]? = some (some y2)) (ea : H a = some (exo a C none))
    (q : ∀ dx, H dx = none → dx ≠ a → D.nx σ (upd (upd (upd H dx (exd dx [(f1, y1)])) a (exo a C (some dx))) dx (exd dx [(f2, y2), (f1, y1)]))) :
    ∃ t, PSs X [.Assign [.Attribute (.Name sf q1) f1 q2] (.Name a1 q3) q4, .Assign [.Attribute (.Name sf r1) f2 r2] (.Name a2 r3) r4] t ∧ t D σ H := by
  refine ⟨_, pss_cons (ps_ost (pe_var (i := 0) hN0 v0 hd0 hc0) (pe_var (i := 1) hN1 v1 hd1 hc1) hs) (pss_one (ps_ost (pe_var (i := 0) hN0 v0 hd0 hc0) (pe_var (i := 2) hN2 v2 hd2 hc2) hs2)), ⟨y1, e1, .ref a, e0, a, C, rfl, T, n1, .inl ⟨ea, fun dx hn hne => ?_⟩⟩⟩
  refine ⟨y2, e2, .ref a, e0, a, C, rfl, T, n2, .inr ⟨dx, [(f1, y1)], upd_same, ?_, by simp, q dx hn hne⟩⟩
  rw [upd_ne hne, upd_same]
end
/-- raise c(..): the error's fields, the last one first -/
def ssRaiseX (c : Str) (ns : List Str) (a : SA) : SS := fun σ h => (a σ h).flo σ fun xs h1 => if xs.length = ns.length then .exc c (ns.zip xs).reverse σ h1 else .stk
theorem del_upd {H : Hp} {a d : Addr} {o1 o2 o3 : HO} (ha : H a = none) (hda : d ≠ a) : upd (del (upd (upd H d o1) a o2) a) d o3 = upd H d o3 := by
  funext b
  by_cases hb : b = d
  · rw [hb, upd_same, upd_same]
  · rw [upd_ne hb, upd_ne hb]
    by_cases hb2 : b = a
    · rw [hb2, del_same, ha]
    · rw [del_ne hb2, upd_ne hb2, upd_ne hb]
section
variable {X : Cx} {P : Pq} {W : WX} {e : Expr} {es : List Expr} {ar : SA} {x : Str} {C fI : Addr} {k : Nat} {fd : FuncData} {ps : List Str} {p pos pos' : Pos}
theorem exc_out {m : Mp} {H : Hp} {h : Hh} {σV : L2.St} {σ : St3} {D : Ends} {fs : List (Str × T)} {fv : List (Str × V)} {c : Str} (A : At X.K X.mg P m H σV σ h) (hm : X.mg c = some (.ref C)) (o : OutS X.K X.mg W D m H (.exc c fs σ h)) (r : RF X.K X.mg m H fs fv) {d : Addr} (hd : H d = none) : W (.ref C) (some d) σV (upd H d (.xd fv)) := by
  have E := Ext.garbage (o := .xd fv) A.hr hd
  exact o (.ref C) (some d) σV m _ E (A.sr.ext E) ⟨hm, .inr ⟨d, fv, rfl, upd_same, r.ext E⟩⟩ (A.hr.garbage hd)
theorem ds_raise1 {f1 : Str} (hc : X.calm = true) (tk : Takes X W) (T : OexC X.K C) (iC : PySem.W.findIn X.K (.ref C) "__init__" = some (some (.ref fI))) (tI : PySem.W.typeIn X.K (.ref fI) = some (.type "function"))
    (F1 : FnOk X.prog X.w X.K X.mg X.base (L2.CX X.prog X.w) k fI fd ps (spE1 C f1)) (hr : Room (k + 1) X.A) (hb : Binds X.K fd ps []) (hg : Gl X x) (hm : X.mg x = some (.ref C)) (ha : DA X P W (e :: es) ar)
    (hdb : (x == ("__debug__" : Str)) = false := by decide) (he : starEach (e :: es) X.env = (false, eval e X.env) :: starEach es X.env := by rfl) (hpl : (backTo pos (starEach es X.env)).any (·.1) = false := by rfl) :
    DS X P W (.Raise (some (.Call (.Name x p) (e :: es) [] pos)) none pos') (ssRaiseX x [f1] ar) := by
  refine PS.imp (ps_raise hc tk (pmk_oex T iC tI F1 hr hb .nil (passes_call tk fun _ _ _ _ z => z.elim) hg hm ha hdb he hpl)) fun D σV H ⟨m, h, σ, A, o⟩ => ?_
  refine A.flo (rel1 := RTs X.K X.mg) o fun m1 h1 ts vs H1 E1 r A1 o1 => ?_
  split at o1
  · rename_i hl
    match ts, hl with
    | [t], _ =>
      obtain ⟨v, rfl, rv⟩ := r.one
      refine ⟨by simp, fun a hn => ⟨a, v, rfl, upd_same, fun dx hdx hne => ⟨rfl, dx, [(f1, v)], upd_same, ?_, ?_, ?_⟩⟩⟩
      · rw [upd_ne hne, upd_same]
      · rw [upd_ne hne] at hdx; exact hdx
      · have hdx' : H1 dx = none := by rw [upd_ne hne] at hdx; exact hdx
        have eq : upd (del (upd (upd (upd H1 a (exo a C none)) dx (exd dx [(f1, v)])) a (exo a C (some dx))) a) dx (.xd [(f1, v)]) = upd H1 dx (.xd [(f1, v)]) := by
          funext b
          by_cases hb : b = dx
          · rw [hb, upd_same, upd_same]
          · rw [upd_ne hb, upd_ne hb]
            by_cases hb2 : b = a
            · rw [hb2, del_same, hn]
            · rw [del_ne hb2, upd_ne hb2, upd_ne hb, upd_ne hb2]
        rw [eq]
        exact exc_out A1 hm o1 (.cons rv .nil) hdx'
  · exact False.elim o1
theorem ds_raise2 {f1 f2 : Str} (hc : X.calm = true) (tk : Takes X W) (T : OexC X.K C) (iC : PySem.W.findIn X.K (.ref C) "__init__" = some (some (.ref fI))) (tI : PySem.W.typeIn X.K (.ref fI) = some (.type "function"))
    (F1 : FnOk X.prog X.w X.K X.mg X.base (L2.CX X.prog X.w) k fI fd ps (spE2 C f1 f2)) (hr : Room (k + 1) X.A) (hb : Binds X.K fd ps []) (hg : Gl X x) (hm : X.mg x = some (.ref C)) (ha : DA X P W (e :: es) ar)
    (hdb : (x == ("__debug__" : Str)) = false := by decide) (he : starEach (e :: es) X.env = (false, eval e X.env) :: starEach es X.env := by rfl) (hpl : (backTo pos (starEach es X.env)).any (·.1) = false := by rfl) :
    DS X P W (.Raise (some (.Call (.Name x p) (e :: es) [] pos)) none pos') (ssRaiseX x [f1, f2] ar) := by
  refine PS.imp (ps_raise hc tk (pmk_oex T iC tI F1 hr hb .nil (passes_call tk fun _ _ _ _ z => z.elim) hg hm ha hdb he hpl)) fun D σV H ⟨m, h, σ, A, o⟩ => ?_
  refine A.flo (rel1 := RTs X.K X.mg) o fun m1 h1 ts vs H1 E1 r A1 o1 => ?_
  split at o1
  · rename_i hl
    match ts, hl with
    | [t, t2], _ =>
      obtain ⟨v, v2, rfl, rv, rv2⟩ := r.two
      refine ⟨by simp, fun a hn => ⟨a, v, v2, rfl, upd_same, fun dx hdx hne => ⟨rfl, dx, [(f2, v2), (f1, v)], ?_, upd_same, ?_, ?_⟩⟩⟩
      · rw [upd_ne (Ne.symm hne), upd_same]
      · rw [upd_ne hne] at hdx; exact hdx
      · have hdx' : H1 dx = none := by rw [upd_ne hne] at hdx; exact hdx
        have eq : upd (del (upd (upd (upd (upd H1 a (exo a C none)) dx (exd dx [(f1, v)])) a (exo a C (some dx))) dx (exd dx [(f2, v2), (f1, v)])) a) dx (.xd [(f2, v2), (f1, v)]) = upd H1 dx (.xd [(f2, v2), (f1, v)]) := by
          funext b
          by_cases hb : b = dx
          · rw [hb, upd_same, upd_same]
          · rw [upd_ne hb, upd_ne hb]
            by_cases hb2 : b = a
            · rw [hb2, del_same, hn]
            · rw [del_ne hb2, upd_ne hb, upd_ne hb2, upd_ne hb, upd_ne hb2]
        rw [eq]
        exact exc_out A1 hm o1 (.cons rv2 (.cons rv .nil)) hdx'
  · exact False.elim o1
end
end W3
end

section
/-! WT: try: .. except C as e: .. except D: .. -/
namespace W3
open PySem PySem.Spec PyProof.Rows
open L2
abbrev Tsu := Addr → Value → Option Addr → TS
/-- what the clauses wish of an exception of the body, one after the other; with or without a name -/
def wManyA (K : PySem.W.Frag) (Wout : WX) (D : Ends) : List (Value × Option Nat × Tsu) → WX
  | [] => Wout
  | (c, none, ts) :: r => fun cls d σ H => ∃ b, PySem.W.exmOne K cls c = some b ∧ (b = true → ∀ a, H a = none → ts a cls d D σ H) ∧ (b = false → wManyA K Wout D r cls d σ H)
  | (c, some i, ts) :: r => fun cls d σ H => ∃ b, PySem.W.exmOne K cls c = some b ∧ (b = true → ∀ a, H a = none → ts a cls d { nx := fun σ' H' => D.nx (σ'.set i none) H', rt := D.rt, bk := fun σ' H' => D.bk (σ'.set i none) H', ct := fun σ' H' => D.ct (σ'.set i none) H' } (σ.set i (some (.ref a))) H) ∧ (b = false → wManyA K Wout D r cls d σ H)
inductive HdsA (X : Cx) : List ExceptHandler → List (Value × Option Nat × Tsu) → Prop
  | nil : HdsA X [] []
  | cons {x : Str} {c : Value} {ts : Tsu} {b₀ : Stmt} {suite : List Stmt} {np pos' : Pos} {hds : List ExceptHandler} {l : List (Value × Option Nat × Tsu)} (hc : Names X x c)
      (hsu : ∀ (a : Addr) (oe : Obj) (cls : Value) (d : Option Addr) (pn : List (Addr × Obj)), Zc cls d oe → (∃ vs, oe.data = .fields vs) → PSs (X.suite a ((a, oe) :: pn)) (b₀ :: suite) (ts a cls d)) (r : HdsA X hds l) :
      HdsA X (.ExceptHandler (some (.Name x np)) none (b₀ :: suite) pos' :: hds) ((c, none, ts) :: l)
  | cas {x n : Str} {i : Nat} {c : Value} {ts : Tsu} {b₀ : Stmt} {suite : List Stmt} {np pos' : Pos} {hds : List ExceptHandler} {l : List (Value × Option Nat × Tsu)} (hi : X.N[i]? = some n) (hln : X.env.kindOf n = some .local) (hc : Names X x c)
      (hsu : ∀ (a : Addr) (oe : Obj) (cls : Value) (d : Option Addr) (pn : List (Addr × Obj)), Zc cls d oe → (∃ vs, oe.data = .fields vs) → PSs (X.suite a ((a, oe) :: pn)) (b₀ :: suite) (ts a cls d)) (r : HdsA X hds l) :
      HdsA X (.ExceptHandler (some (.Name x np)) (some n) (b₀ :: suite) pos' :: hds) ((c, some i, ts) :: l)
section
variable {X : Cx} {body : List Stmt} {h₀ : ExceptHandler} {hds : List ExceptHandler} {l : List (Value × Option Nat × Tsu)} {pos : Pos} {tb : WX → TS} {Wout : WX}
theorem ps_tryA (hs : X.stack = X.env :: X.outer) (hf : X.env.frame = some X.env.locals) (hN : X.N.Nodup) (tk : Takes X Wout)
    (hb : ∀ (W : WX) (pn : List (Addr × Obj)) (xe : Value → Shared → Prop), Takes (X.tr pn xe) W → PassesOwn (model X.prog X.w) X.A X.env xe → PSs (X.tr pn xe) body (tb W))
    (hh : HdsA X (h₀ :: hds) l) : PS X (.Try body (h₀ :: hds) [] [] pos) (fun D σ H => tb (wManyA X.K Wout D l) D σ H) := by
  refine ⟨fun pins s σ H D I h => ?_⟩
  have ok := I.ok
  have hfr : X.A.frames = some (X.env :: X.outer) := by rw [ok.frames, hs]
  refine wpAny_Try_except ?_
  refine wpAny_mono ((hb (wManyA X.K Wout D l) (X.pn ++ pins) (fun e s₁ => wpAny (model X.prog X.w) X.A (noteFrame e X.env) (fun _ s₂ => wpAny (model X.prog X.w) X.A (setFlight e none) (fun _ s₃ =>
    wpAny (model X.prog X.w) X.A (handleBy e X.env (h₀ :: hds)) (SP X pins D) X.xe s₃) X.xe s₂) X.xe s₁) (fun u s' xx => ?_) PassesOwn.looking).run [] s σ H D (I.toTry _) h) (fun f s1 hsp => ?_) (fun e s1 he => he)
  · obtain ⟨a, B, sI, pins', σ', H', cls, d, rfl, J', nb, up, sky, na, os, ag, w⟩ := xx
    have J : L2.Inv X pins σ' H' sI := J'.ofTry ok
    have sky' : Sky B (X.env :: X.outer) a (Zc cls d) X.env.locals s'.heap := by rw [← hs]; exact sky
    show wpAny (model X.prog X.w) X.A (noteFrame (.ref a) X.env) _ _ _
    refine Sky.land Zc.steady hfr hf sky' fun h3 fl3 up3 => ?_
    have J3 : L2.Inv X pins σ' H' { s' with heap := h3 } := J.landed nb fl3.1 (up.trans up3) os ag
    obtain ⟨oe3, vs3, he3, hz3, hd3⟩ := fl3.there
    have notFr : ∀ {h : Heap} {o : Obj} {vs : Array Value}, h.FunFrames B (X.env :: X.outer) → h.get? a = some o → o.data = .fields vs → a ∉ frs (X.env :: X.outer) := fun {h o vs} ff e dd hm => by
      obtain ⟨_, o', e', hnf⟩ := ff.mem hm
      rw [e] at e'; cases e'
      exact hnf _ dd
    have nfr := notFr fl3.2.2.1 he3 hd3
    have nL : a ≠ X.env.locals := fun z => nfr (List.mem_filterMap.mpr ⟨X.env, List.mem_cons_self, by rw [hf, z]⟩)
    have nF : a ∉ X.fs := fun hm => by
      obtain ⟨e, he, q⟩ := List.mem_filterMap.mp hm
      exact nfr (List.mem_filterMap.mpr ⟨e, List.mem_cons_of_mem _ he, q⟩)
    have S3 := J3.suite he3 hd3 na nL nF
    have LT : PySem.W.Looks (model X.prog X.w) h3 (typeOf (.ref a)) cls := fun A Q E s k q => wpAny_typeOf_ref (k _ _ he3) (by rw [hz3.1]; exact q)
    have test : ∀ {x : Str} {c : Value} {np : Pos} {Q : Value → Shared → Prop} {E : Value → Shared → Prop}, Names X x c → Q c { s' with heap := h3 } → wpAny (model X.prog X.w) (X.A.mark (some (.ref a))) (eval (.Name x np) X.env) Q E { s' with heap := h3 } := fun {x c np Q E} hc q => by
      obtain ⟨hg, hdbg, hm | ⟨hm, hv, hnn⟩⟩ := hc
      · exact ld_glob (X := X.suite a ((a, oe3) :: (X.pn ++ pins))) S3 hg hm q hdbg
      · exact ld_blt (X := X.suite a ((a, oe3) :: (X.pn ++ pins))) S3 hg hm hv q hnn hdbg
    have go : ∀ {hds' : List ExceptHandler} {l' : List (Value × Option Nat × Tsu)}, HdsA X hds' l' → wManyA X.K Wout D l' cls d σ' H' →
        wpAny (model X.prog X.w) X.A (handleBy (.ref a) X.env hds') (SP X pins D) X.xe { s' with heap := h3 } := by
      intro hds' l' hk
      induction hk with
      | nil =>
        intro w
        refine wpAny_handleBy_nil ?_
        obtain ⟨k1, k2, k3, oe, vs, T, oT, ts', he, hz, hd, h1, hr⟩ := id fl3
        unfold PySem.passOn
        refine wpAny_bind (wpAny_field he hd h1 ?_)
        rw [if_neg (show ¬ ((Value.ref T == Value.none) = true) from by simp)]
        have fin : wpAny (model X.prog X.w) X.A (setFlight (.ref a) X.env.frame) (fun _ s4 => wpAny (model X.prog X.w) X.A (throw (.ref a) : Sem Flow) (SP X pins D) X.xe s4) X.xe { s' with heap := h3 } := by
          rw [hf]
          refine HandSPX.setFlight_upZ fl3 fun h4 hh4 up4 => wpAny_throw (tk _ _ ?_)
          exact ⟨a, B, sI, pins, σ', H', cls, d, rfl, J, nb, (up.trans up3).trans up4, .inr (.inr (by rw [hs]; exact hh4)), na, os, ag, w⟩
        first
          | exact wpAny_bind (wpAny_pure (wpAny_bind fin))
          | exact wpAny_bind fin
      | @cons x c ts b₀ suite np pos' hds2 l2 hc hsu r ih =>
        intro w
        obtain ⟨b, hb1, hyes, hno⟩ := w
        refine wpAny_handleBy_cons (codeAny_handlers_test ?_) (by intro q; cases q)
        have LM := PySem.W.exm_one (M := model X.prog X.w) (J3.kIn) LT hb1
        refine test hc (LM.here ?_)
        cases b with
        | true =>
          refine codeAny_handlers_suite ?_
          refine HandSPX.lands_againZ fl3 fun h4 fl4 up4 => ?_
          have J4 : L2.Inv X pins σ' H' { s' with heap := h4 } := J.landed nb fl4.1 ((up.trans up3).trans up4) os ag
          obtain ⟨oe4, vs4, he4, hz4, hd4⟩ := fl4.there
          have S4 := J4.suite he4 hd4 na nL nF
          refine wpAny_mono ((hsu a oe4 cls d (X.pn ++ pins) hz4 ⟨_, hd4⟩).run [] _ _ H' _ S4 (hyes rfl a na)) (fun f s6 hsp => ?_) (fun _ _ z => False.elim z)
          cases f with
          | next =>
            obtain ⟨σ6, H6, S6, q6⟩ := hsp
            exact ⟨_, _, S6.unsuite ok, q6⟩
          | brk =>
            obtain ⟨σ6, H6, S6, q6⟩ := hsp
            exact ⟨_, _, S6.unsuite ok, q6⟩
          | cont =>
            obtain ⟨σ6, H6, S6, q6⟩ := hsp
            exact ⟨_, _, S6.unsuite ok, q6⟩
          | ret u =>
            obtain ⟨v6, σ6, H6, S6, r6, q6⟩ := hsp
            exact ⟨_, _, _, S6.unsuite ok, r6, q6⟩
        | false =>
          show wpAny _ X.A (handleBy (.ref a) X.env hds2) _ _ _
          exact ih (hno rfl)
      | @cas x n i c ts b₀ suite np pos' hds2 l2 hi hln hc hsu r ih =>
        intro w
        obtain ⟨b, hb1, hyes, hno⟩ := w
        have hloc : Loc X.env.scope n := .inl hln
        refine wpAny_handleBy_cons (codeAny_handlers_test ?_) (by intro q; cases q)
        have LM := PySem.W.exm_one (M := model X.prog X.w) (J3.kIn) LT hb1
        refine test hc (LM.here ?_)
        cases b with
        | true =>
          refine codeAny_handlers_suite_as ?_
          refine HandSPX.lands_againZ fl3 fun h4 fl4 up4 => ?_
          have J4 : L2.Inv X pins σ' H' { s' with heap := h4 } := J.landed nb fl4.1 ((up.trans up3).trans up4) os ag
          obtain ⟨oe4, vs4, he4, hz4, hd4⟩ := fl4.there
          have S4 := J4.suite he4 hd4 na nL nF
          refine store_ok (X := X.suite a ((a, oe4) :: (X.pn ++ pins))) (v := .ref a) S4 hN hi hloc rfl (fun s5 S5 => ?_) (.inr hln)
          refine wpAny_mono ((hsu a oe4 cls d (X.pn ++ pins) hz4 ⟨_, hd4⟩).run [] s5 _ H' _ S5 (hyes rfl a na)) (fun f s6 hsp => ?_) (fun _ _ z => False.elim z)
          have end_ : ∀ {σ6 : L2.St} {H6 : Hp} {Q : Shared → Prop}, L2.Inv (X.suite a ((a, oe4) :: (X.pn ++ pins))) [] σ6 H6 s6 → (∀ s7, L2.Inv X pins (σ6.set i none) H6 s7 → Q s7) →
              wpAny (model X.prog X.w) X.A (do bindName X.env n .none; unbindBehindTheSuite X.env n pos') (fun _ s7 => Q s7) X.xe s6 := fun {σ6 H6 Q} S6 hq => gone_ok (S6.unsuite ok) hN hi hln hq
          cases f with
          | next =>
            obtain ⟨σ6, H6, S6, q6⟩ := hsp
            exact end_ S6 fun s7 J7 => ⟨_, _, J7, q6⟩
          | brk =>
            obtain ⟨σ6, H6, S6, q6⟩ := hsp
            exact end_ S6 fun s7 J7 => ⟨_, _, J7, q6⟩
          | cont =>
            obtain ⟨σ6, H6, S6, q6⟩ := hsp
            exact end_ S6 fun s7 J7 => ⟨_, _, J7, q6⟩
          | ret u =>
            obtain ⟨v6, σ6, H6, S6, r6, q6⟩ := hsp
            exact end_ S6 fun s7 J7 => ⟨_, _, _, J7, r6, q6⟩
        | false =>
          show wpAny _ X.A (handleBy (.ref a) X.env hds2) _ _ _
          exact ih (hno rfl)
    exact go hh w
  · cases f with
    | next =>
      obtain ⟨σ', H', J', q⟩ := hsp
      exact wpAny_execs_nil ⟨σ', H', J'.ofTry ok, q⟩
    | brk =>
      obtain ⟨σ', H', J', q⟩ := hsp
      exact ⟨σ', H', J'.ofTry ok, q⟩
    | cont =>
      obtain ⟨σ', H', J', q⟩ := hsp
      exact ⟨σ', H', J'.ofTry ok, q⟩
    | ret u =>
      obtain ⟨v, σ', H', J', r, q⟩ := hsp
      exact ⟨v, σ', H', J'.ofTry ok, r, q⟩
end
/-! ### in the tree semantics -/
abbrev XSub := List (Str × List Str)
structure Hdl where
  x : Str
  sl : Option Nat
  k : Str → List (Str × T) → SS
def clrF : Option Nat → Flo → Flo
  | none, .exc _ _ _ _ => .stk
  | none, r => r
  | some i, .nx σ h => .nx (σ.set i none) h
  | some i, .bk σ h => .bk (σ.set i none) h
  | some i, .ct σ h => .ct (σ.set i none) h
  | some _, .rt t h => .rt t h
  | some _, _ => .stk
def slSet : Option Nat → St3 → St3 | none, σ => σ | some i, σ => σ.set i none
def tryGo (XS : XSub) : List Hdl → Str → List (Str × T) → SS
  | [], c, fs => fun σ h => .exc c fs σ h
  | hd :: r, c, fs => fun σ h => match XS.lookup c with
    | none => .stk
    | some ss => if ss.contains hd.x then clrF hd.sl (hd.k c fs (slSet hd.sl σ) h) else tryGo XS r c fs σ h
/-- try: a except ..: -/
def ssTryX (XS : XSub) (a : SS) (hs : List Hdl) : SS := fun σ h => match a σ h with
  | .exc c fs σ1 h1 => tryGo XS hs c fs σ1 h1
  | r => r
def tHG {α β : Type} (K : PySem.W.Frag) (mg : Str → Option Value) (sl : Option Nat) (a : Addr) (c : Str) (fs : List (Str × T)) (cls : Value) (d : Option Addr) (rel : Mp → Hp → α → β → Prop) (se : St3 → Hh → Res α) : L2.St → Hp → (β → Hp → Prop) → Prop := fun σV H Q =>
  ∃ m h σ, At K mg PqT m H σV σ h ∧ (∀ i, sl = some i → i < σV.length → σV[i]? = some (some (.ref a))) ∧ XR K mg m H c fs cls d ∧ Out K mg rel WF σV Q m H (se σ h)
def tH (K : PySem.W.Frag) (mg : Str → Option Value) (sl : Option Nat) (a : Addr) (c : Str) (fs : List (Str × T)) (cls : Value) (d : Option Addr) (ss : SS) : TS := fun D σV H =>
  ∃ m h σ, At K mg PqT m H σV σ h ∧ (∀ i, sl = some i → i < σV.length → σV[i]? = some (some (.ref a))) ∧ XR K mg m H c fs cls d ∧ OutS K mg WF D m H (ss σ h)
/-- a clause's suite does what k tells -/
def HOk (X : Cx) (XS : XSub) (sl : Option Nat) (suite : List Stmt) (k : Str → List (Str × T) → SS) : Prop := ∀ (a : Addr) (oe : Obj) (cls : Value) (d : Option Addr) (pn : List (Addr × Obj)) (c : Str) (ss : List Str) (fs : List (Str × T)), Zc cls d oe → (∃ vs, oe.data = .fields vs) → XS.lookup c = some ss → X.mg c = some cls →
  PSs (X.suite a ((a, oe) :: pn)) suite (tH X.K X.mg sl a c fs cls d (k c fs))
/-- which errors a clause takes -/
def Catches (X : Cx) (XS : XSub) (x : Str) (cv : Value) : Prop := ∀ c ss cls, XS.lookup c = some ss → X.mg c = some cls → PySem.W.exmOne X.K cls cv = some (ss.contains x)
inductive DHs (X : Cx) (XS : XSub) : List ExceptHandler → List Hdl → Prop
  | nil : DHs X XS [] []
  | cons {x : Str} {cv : Value} {b₀ : Stmt} {suite : List Stmt} {np pos' : Pos} {hds : List ExceptHandler} {l : List Hdl} {k : Str → List (Str × T) → SS} (hc : Names X x cv) (hx : Catches X XS x cv) (hk : HOk X XS none (b₀ :: suite) k) (r : DHs X XS hds l) :
      DHs X XS (.ExceptHandler (some (.Name x np)) none (b₀ :: suite) pos' :: hds) (⟨x, none, k⟩ :: l)
  | cas {x n : Str} {i : Nat} {cv : Value} {b₀ : Stmt} {suite : List Stmt} {np pos' : Pos} {hds : List ExceptHandler} {l : List Hdl} {k : Str → List (Str × T) → SS} (hi : X.N[i]? = some n) (hln : X.env.kindOf n = some .local) (hc : Names X x cv) (hx : Catches X XS x cv)
      (hk : HOk X XS (some i) (b₀ :: suite) k) (r : DHs X XS hds l) :
      DHs X XS (.ExceptHandler (some (.Name x np)) (some n) (b₀ :: suite) pos' :: hds) (⟨x, some i, k⟩ :: l)
section
variable {X : Cx} {P : Pq} {W : WX}
theorem SR.setN {m : Mp} {H : Hp} {σ : St3} {σV : L2.St} (r : SR X.K X.mg m H σ σV) (i : Nat) (o : Option V) : SR X.K X.mg m H (σ.set i none) (σV.set i o) := by
  refine ⟨by rw [List.length_set, List.length_set]; exact r.1, fun j u e => ?_⟩
  by_cases hj : i = j
  · subst hj
    by_cases hi : i < σ.length
    · rw [List.getElem?_set_self hi] at e; cases e
    · rw [List.getElem?_eq_none (by rw [List.length_set]; omega)] at e; cases e
  · rw [List.getElem?_set_ne hj] at e
    obtain ⟨w, e2, q2⟩ := r.2 j u e
    exact ⟨w, by rw [List.getElem?_set_ne hj]; exact e2, q2⟩
def tsOf (X : Cx) (XS : XSub) (sl : Option Nat) (k : Str → List (Str × T) → SS) : Tsu := fun a cls d D σV H => ∃ c ss fs, XS.lookup c = some ss ∧ X.mg c = some cls ∧ tH X.K X.mg sl a c fs cls d (k c fs) D σV H
theorem hok_ps {XS : XSub} {sl : Option Nat} {suite : List Stmt} {k : Str → List (Str × T) → SS} (hk : HOk X XS sl suite k) (a : Addr) (oe : Obj) (cls : Value) (d : Option Addr) (pn : List (Addr × Obj)) (hz : Zc cls d oe) (hv : ∃ vs, oe.data = .fields vs) :
    PSs (X.suite a ((a, oe) :: pn)) suite (tsOf X XS sl k a cls d) :=
  ⟨fun pins s σ H D I ⟨c, ss, fs, h1, h2, h⟩ => (hk a oe cls d pn c ss fs hz hv h1 h2).run pins s σ H D I h⟩
theorem dhs_go {XS : XSub} {D : Ends} : ∀ {hds : List ExceptHandler} {l : List Hdl}, DHs X XS hds l → ∃ lv : List (Value × Option Nat × Tsu), HdsA X hds lv ∧ ∀ {c : Str} {fs : List (Str × T)} {σ1 : St3} {h1 : Hh} {m : Mp} {H : Hp} {cls : Value} {d : Option Addr} {σV : L2.St},
    SR X.K X.mg m H σ1 σV → XR X.K X.mg m H c fs cls d → HR X.K X.mg m h1 H → OutS X.K X.mg W D m H (tryGo XS l c fs σ1 h1) → wManyA X.K W D lv cls d σV H
  | _, _, .nil => ⟨[], .nil, fun {c fs σ1 h1 m H cls d σV} sr xr hr o => o cls d σV m H (Ext.refl _ _) sr xr hr⟩
  | _, _, .cons (k := k) hc hx hk r => by
    obtain ⟨lv, hl, go⟩ := dhs_go (D := D) r
    refine ⟨_ :: lv, .cons hc (fun a oe cls d pn hz hv => hok_ps hk a oe cls d pn hz hv) hl, fun {c fs σ1 h1 m H cls d σV} sr xr hr o => ?_⟩
    unfold tryGo at o
    dsimp only at o
    split at o
    · exact False.elim o
    · rename_i ss hss
      refine ⟨_, hx c ss cls hss xr.1, fun hb a na => ⟨c, ss, fs, hss, xr.1, m, h1, σ1, ⟨sr, hr, trivial⟩, (fun i z => nomatch z), xr, ?_⟩, fun hb => go sr xr hr ?_⟩
      · rw [if_pos hb] at o
        show OutS X.K X.mg WF D m H (k c fs σ1 h1)
        have o' : OutS X.K X.mg W D m H (clrF none (k c fs σ1 h1)) := o
        cases e : k c fs σ1 h1 with
        | nx σ2 h2 => rw [e] at o'; exact o'
        | rt t h2 => rw [e] at o'; exact o'
        | bk σ2 h2 => rw [e] at o'; exact o'
        | ct σ2 h2 => rw [e] at o'; exact o'
        | exc _ _ _ _ => rw [e] at o'; exact False.elim o'
        | stk => rw [e] at o'; exact o'
      · rw [if_neg (by rw [hb]; exact Bool.false_ne_true)] at o; exact o
  | _, _, .cas (k := k) (i := i) hi hln hc hx hk r => by
    obtain ⟨lv, hl, go⟩ := dhs_go (D := D) r
    refine ⟨_ :: lv, .cas hi hln hc (fun a oe cls d pn hz hv => hok_ps hk a oe cls d pn hz hv) hl, fun {c fs σ1 h1 m H cls d σV} sr xr hr o => ?_⟩
    unfold tryGo at o
    dsimp only at o
    split at o
    · exact False.elim o
    · rename_i ss hss
      refine ⟨_, hx c ss cls hss xr.1, fun hb a na => ⟨c, ss, fs, hss, xr.1, m, h1, σ1.set i none, ⟨sr.setN i _, hr, trivial⟩, (fun i' z hlt => ?_), xr, ?_⟩, fun hb => go sr xr hr ?_⟩
      · cases z
        rw [List.length_set] at hlt
        rw [List.getElem?_set_self hlt]
      · rw [if_pos hb] at o
        show OutS X.K X.mg WF _ m H (k c fs (σ1.set i none) h1)
        have o' : OutS X.K X.mg W D m H (clrF (some i) (k c fs (σ1.set i none) h1)) := o
        cases e : k c fs (σ1.set i none) h1 with
        | nx σ2 h2 => rw [e] at o'; exact fun σV2 m2 H2 E2 s2 R2 => o' _ m2 H2 E2 (s2.setN i none) R2
        | rt t h2 => rw [e] at o'; exact o'
        | bk σ2 h2 => rw [e] at o'; exact fun σV2 m2 H2 E2 s2 R2 => o' _ m2 H2 E2 (s2.setN i none) R2
        | ct σ2 h2 => rw [e] at o'; exact fun σV2 m2 H2 E2 s2 R2 => o' _ m2 H2 E2 (s2.setN i none) R2
        | exc _ _ _ _ => rw [e] at o'; exact False.elim o'
        | stk => rw [e] at o'; exact o'
      · rw [if_neg (by rw [hb]; exact Bool.false_ne_true)] at o; exact o
theorem ds_try {XS : XSub} {body : List Stmt} {h₀ : ExceptHandler} {hds : List ExceptHandler} {x1 : SS} {l : List Hdl} {pos : Pos} (hs : X.stack = X.env :: X.outer) (hf : X.env.frame = some X.env.locals) (hN : X.N.Nodup) (tk : Takes X W)
    (hb : ∀ (W : WX) (pn : List (Addr × Obj)) (xe : Value → Shared → Prop), Takes (X.tr pn xe) W → PassesOwn (model X.prog X.w) X.A X.env xe → DSs (X.tr pn xe) P W body x1) (hh : DHs X XS (h₀ :: hds) l) :
    DS X P W (.Try body (h₀ :: hds) [] [] pos) (ssTryX XS x1 l) := by
  refine ⟨fun pins s σV H D I h => ?_⟩
  obtain ⟨lv, hl, go⟩ := dhs_go (W := W) (D := D) hh
  refine (ps_tryA (tb := fun W => tS X.K X.mg P W x1) hs hf hN tk hb hl).run pins s σV H D I ?_
  obtain ⟨m, h, σ, A, o⟩ := h
  refine ⟨m, h, σ, A, ?_⟩
  unfold ssTryX at o
  cases e : x1 σ h with
  | nx σ1 h1 => rw [e] at o; exact o
  | rt t h1 => rw [e] at o; exact o
  | bk σ1 h1 => rw [e] at o; exact o
  | ct σ1 h1 => rw [e] at o; exact o
  | stk => rw [e] at o; exact o
  | exc c fs σ1 h1 =>
    rw [e] at o
    exact fun cls d σV' m' H' E sr xr hr => go sr xr hr (OutS.ext E o)
end
end W3
end

section
/-! WU: what except suites say: constants, fields of the error, isinstance of it, tuples. -/
namespace PySem.W
open PySem PySem.Spec PySem.Calls PyProof.Rows
section
variable {prog : Program} {w : World} {A : Around} {E : Value → Shared → Prop} {s : Shared} {K : Frag} {x D : Addr} {ox : Obj} {od : Option Obj}
theorem findObj_dataW {C : Addr} {name : Str} {a g : Value} (hc : (clsIn K C).isSome = true) (ha : findIn K (.ref C) name = some (some a)) (hg : specialIn K a "__get__" = some (some g)) (ht : takesIn K a = some true) : findObj K C od name = some (.bind g a) := by
  obtain ⟨cd, hc⟩ := Option.isSome_iff_exists.mp hc
  unfold findObj
  rw [hc, Option.bind_some, ha, Option.bind_some]
  simp [hg, ht]
theorem kin_classW {Q : Option Value → Shared → Prop} (hga : findIn K (.ref D) "__getattribute__" = some (some (.builtin "BaseException.__getattribute__"))) (hgt : findIn K (.ref D) "__getattr__" = some none) (hsub : subIn K (.ref D) (.type "BaseException") = some true)
    (hdct : hasDictIn K D = true) (ha : findIn K (.ref D) "__class__" = some (some (.builtin "object.__class__")))
    (hn : specialIn K (.builtin "object.__class__") "__get__" = some (some (.builtin "getset_descriptor.__get__"))) (htk : takesIn K (.builtin "object.__class__") = some true) (hm : mroIn K D (.type "object") = some true)
    (X : K.In s.heap) (I : InstAt s.heap x ox D od) (h : Q (some (.ref D)) { s with toks := s.toks + 1 }) : wpAny (model prog w) A (getAttr? (.ref x) "__class__") Q E s := by
  have hf : findObj K D od "__class__" = some (.bind (.builtin "getset_descriptor.__get__") (.builtin "object.__class__")) := findObj_dataW (by obtain ⟨cd, hc, _⟩ := any_some hdct; rw [hc]; rfl) ha hn htk
  obtain ⟨hp, g, d, t, os⟩ := s
  have L0 := I.type (M := model prog w)
  have L1 := looks_findIn (M := model prog w) X hga
  have L2 := looks_findIn (M := model prog w) X hgt
  have L3 := looks_find (M := model prog w) X I hf
  have sub : Looks (model prog w) hp (isInstance (.ref x) (.type "BaseException")) true := L0.andThen (looks_subIn X hsub)
  have hx0 : (false && onTheHeap (Value.builtin "BaseException.__getattribute__")) = false := rfl
  have hx2 : (Value.builtin "BaseException.__getattribute__" == Value.builtin "object.__getattribute__") = false := by decide +kernel
  have hx1 : (onTheHeap (Value.ref D) && Value.builtin "BaseException.__getattribute__" == Value.builtin "object.__getattribute__") = false := by rw [hx2]; rfl
  unfold getAttr? getAttrBy? getAttrBy
  refine wpAny_bind (wpAny_mkText (wpAny_bind (wpAny_attempt (wpAny_holding (wpAny_bind (L0.at (wpAny_bind (L1.at ?_))))))))
  show wpAny _ _ (if (onTheHeap (Value.ref D) && Value.builtin "BaseException.__getattribute__" == Value.builtin "object.__getattribute__") = true then _ else _) _ _ _
  rw [hx1, if_neg Bool.false_ne_true]
  unfold getAttrByItsOwn hookBefore
  refine wpAny_bind ?_
  rw [if_pos (show onTheHeap (Value.ref D) = true from rfl)]
  refine L2.at ?_
  refine wpAny_bind (wpAny_attempt (wpAny_holding ?_))
  unfold callGetattribute
  rw [hx0, if_neg Bool.false_ne_true]
  unfold boundAndCalled
  rw [PySem.F.excAttr_ValueError.ga.bind (.ref x)]
  refine wpAny_bind (wpAny_pure ?_)
  show wpAny _ _ (call (.builtin "BaseException.__getattribute__") [.ref x, .str "__class__" t]) _ _ _
  refine wpAny_call (codeAny_call_builtin PySem.F.excAttr_ValueError.ga.plain PySem.F.entry_bexc_ga ?_)
  refine @check_slot (model prog w) _ _ ⟨hp, g, d, t + 1, os⟩ "BaseException.__getattribute__" "BaseException" "__getattribute__" (.ref x) [.str "__class__" t] [] _ (by decide +kernel) (by decide +kernel) sub (PySem.F.args_bexc_ga (.ref x) (.str "__class__" t)) ?_
  unfold Builtin.«object.__getattribute__»
  refine wpAny_bind (wpAny_of_eq (a := ((Value.ref x : Value), [Value.str "__class__" t])) (by first | rfl | (simp only [slotArgs]; rfl)) ?_)
  refine wpAny_bind (wpAny_pure (wpAny_bind (L0.at (wpAny_bind (L3.at ?_)))))
  show wpAny _ _ (holding [Value.builtin "object.__class__"] (call (.builtin "getset_descriptor.__get__") [.builtin "object.__class__", .ref x, .ref D]) >>= ret) _ _ _
  refine wpAny_bind (wpAny_holding (wpAny_call (class_get (s := ⟨hp, g, d, t + 1, os⟩) (ox := ox) (od := od) X I hm ?_)))
  refine wpAny_pure ?_
  show wpAny _ _ (handedOut (.ref D)) _ _ _
  rw [handedOut_of (v := .ref D) rfl]
  first
    | exact wpAny_pure (wpAny_pure h)
    | exact wpAny_pure h
    | exact wpAny_pure (wpAny_bind (wpAny_pure (wpAny_pure h)))
theorem kitx_excW (hga : findIn K (.ref D) "__getattribute__" = some (some (.builtin "BaseException.__getattribute__"))) (hgt : findIn K (.ref D) "__getattr__" = some none) (hsub : subIn K (.ref D) (.type "BaseException") = some true) (hdct : hasDictIn K D = true) (ha : findIn K (.ref D) "__class__" = some (some (.builtin "object.__class__")))
    (hn : specialIn K (.builtin "object.__class__") "__get__" = some (some (.builtin "getset_descriptor.__get__"))) (htk : takesIn K (.builtin "object.__class__") = some true) (hm : mroIn K D (.type "object") = some true) :
    KitX K (.ref x) (.ref D) (fun h => InstAt h x ox D od) where
  ty := fun _ _ _ I => I.type
  it := fun _ _ X _ => by
    obtain ⟨cdD, hcD, _⟩ := any_some hdct
    unfold clsIn at hcD
    split at hcD
    · rename_i c' d' cd' sl' ho
      intro A' Q' E' s' k q
      unfold isType loadHead
      exact wpAny_bind (wpAny_loadPart (k _ _ (X _ _ ho)) (wpAny_pure q))
    · cases hcD
  ne := fun h tp dd its n sl X htp => by
    obtain ⟨cdD, hcD, _⟩ := any_some hdct
    refine Bool.eq_false_iff.mpr fun q => ?_
    have e : D = tp := Value.ref.inj (beq_iff_eq.mp q)
    subst e
    unfold clsIn at hcD
    split at hcD
    · rename_i c' d' cd' sl' ho
      have z := (X _ _ ho).symm.trans htp
      cases z
    · cases hcD
  ca := fun X I k => kin_classW hga hgt hsub hdct ha hn htk hm X I k
end
end PySem.W
namespace W3
open PySem PySem.Spec PyProof.Rows
open L2
/-- isinstance(e, c), e the caught error -/
theorem call_isX {X : Cx} {a D : Addr} {oe : Obj} {d : Option Addr} {pn : List (Addr × Obj)} (C : ExcC X.K D) (hz : Zc (.ref D) d oe) (hf : ∃ vs, oe.data = .fields vs) : CallR (X.suite a ((a, oe) :: pn)) (.builtin "isinstance") (fun xs H Q => (∀ dd, d = some dd → ∃ fv, H dd = some (.xd fv)) ∧ rIsE X.K D a xs H Q) := by
  intro pins s σ H xs us Q I r ⟨hdd, h⟩
  obtain ⟨c, cv, b, rfl, hcv, e, q⟩ := h
  cases r with
  | cons rx rr =>
    cases rr with
    | cons rt rr =>
      cases rr
      cases rx
      have ec := hcv _ rt
      subst ec
      obtain ⟨hget, _⟩ := I.pin (a, oe) (List.mem_append.mpr (.inl List.mem_cons_self))
      obtain ⟨vs, hv⟩ := hf
      have J : ∃ od, PySem.W.InstAt s.heap a oe D od := by
        obtain ⟨oc, od, oda, osl⟩ := oe
        obtain ⟨h1, h2⟩ := hz
        dsimp only at h1 h2 hv
        subst h1 h2 hv
        cases od with
        | none => exact ⟨none, hget, rfl, rfl, trivial⟩
        | some dd =>
          obtain ⟨fv, hx⟩ := hdd dd rfl
          obtain ⟨mA, hns, _⟩ := I.hok dd _ hx
          obtain ⟨o, es, ep, ho, _⟩ := hns
          exact ⟨some o, hget, rfl, rfl, ho⟩
      obtain ⟨od, J⟩ := J
      exact PySem.W.kia_one (PySem.W.kitx_excW C.hg C.hk C.hs C.hd C.ha C.hn C.ht C.hm) I.kIn J e (fun z => nomatch z) fun tk => ⟨.bl b, H, I.kept (t' := tk) fun _ _ z => z, rfl, q⟩
/-! ### expressions in a suite -/
def sXf (fs : List (Str × T)) (f : Str) : SE := fun _ h => match fs.lookup f with | some t => .ok t h | none => .stk
section
variable {X : Cx} {a : Addr} {oe : Obj} {pn : List (Addr × Obj)} {sl : Option Nat} {c : Str} {fs : List (Str × T)} {cls : Value} {d : Option Addr} {e : Expr} {es : List Expr} {se : SE} {ar : SA} {pos p p1 p2 : Pos}
abbrev HE (X : Cx) (a : Addr) (oe : Obj) (pn : List (Addr × Obj)) (sl : Option Nat) (c : Str) (fs : List (Str × T)) (cls : Value) (d : Option Addr) (e : Expr) (se : SE) : Prop := PE (X.suite a ((a, oe) :: pn)) e (tHG X.K X.mg sl a c fs cls d (RT X.K X.mg) se)
abbrev HA (X : Cx) (a : Addr) (oe : Obj) (pn : List (Addr × Obj)) (sl : Option Nat) (c : Str) (fs : List (Str × T)) (cls : Value) (d : Option Addr) (es : List Expr) (se : SA) : Prop := PA (X.suite a ((a, oe) :: pn)) es (tHG X.K X.mg sl a c fs cls d (RTs X.K X.mg) se)
theorem he_lift (h : DE (X.suite a ((a, oe) :: pn)) PqT WF e se) : HE X a oe pn sl c fs cls d e se := PE.imp h fun σV H Q ⟨m, h, σ, A, _, _, o⟩ => ⟨m, h, σ, A, o⟩
theorem XR.ext {m m' : Mp} {H H' : Hp} (x : XR X.K X.mg m H c fs cls d) (E : Ext m H m' H') : XR X.K X.mg m' H' c fs cls d := by
  refine ⟨x.1, ?_⟩
  rcases x.2 with z | ⟨dd, fv, h1, h2, h3⟩
  · exact .inl z
  · exact .inr ⟨dd, fv, h1, E.xds _ _ h2, h3.ext E⟩
theorem he_fld {i : Nat} {n f : Str} {C : Addr} (hN : X.N[i]? = some n) (hv : Vis X.env.scope n) (T : XfC X.K C) (hno : PySem.W.findIn X.K (.ref C) f = some none) (hcl : cls = .ref C) (hz : Zc cls d oe) (hf : ∃ vs, oe.data = .fields vs)
    (hd : (n == ("__debug__" : Str)) = false := by decide) (hcd : (n == ("__classdict__" : Str)) = false := by decide) (hb : attributeBase (.Name n p) f X.env (eval (.Name n p) X.env) = eval (.Name n p) X.env := by rfl) :
    HE X a oe pn (some i) c fs cls d (.Attribute (.Name n p) f pos) (sXf fs f) := by
  refine ⟨fun pins s σV H Q I ⟨m, h, σ, A, hi, xr, o⟩ => ?_⟩
  refine (pe_xf T hno hz hf (pe_var (X := X.suite a ((a, oe) :: pn)) (i := i) hN hv hd hcd) hb).run pins s σV H Q I ?_
  have hl : i < σV.length := by
    rw [I.len]
    exact (List.getElem?_eq_some_iff.mp hN).1
  have o' : Out X.K X.mg (RT X.K X.mg) WF σV Q m H (match fs.lookup f with | some t => .ok t h | none => .stk) := o
  split at o'
  · rename_i t ht
    rcases xr.2 with ⟨z, _⟩ | ⟨dd, fv, h1, h2, h3⟩
    · rw [z] at ht; cases ht
    · obtain ⟨v, hv', rv⟩ := h3.lookup ht
      exact ⟨.ref a, hi i rfl hl, rfl, hcl, dd, fv, v, h1, h2, hv', o' v m H (Ext.refl _ _) rv A.hr⟩
  · exact False.elim o'
theorem he_isi {i : Nat} {n x : Str} {D : Addr} {cv : Addr} {b : Bool} (hN : X.N[i]? = some n) (hv : Vis X.env.scope n) (C : ExcC X.K D) (hcl : cls = .ref D) (hz : Zc cls d oe) (hf : ∃ vs, oe.data = .fields vs) (hg : Gl X "isinstance") (hm : X.mg "isinstance" = none) (hgx : Gl X x) (hmx : X.mg x = some (.ref cv)) (hk : PySem.W.kitOne X.K (.ref D) (.ref cv) = some b)
    (hd : (n == ("__debug__" : Str)) = false := by decide) (hcd : (n == ("__classdict__" : Str)) = false := by decide) (hdx : (x == ("__debug__" : Str)) = false := by decide)
    (he : starEach [.Name n p1, .Name x p2] X.env = (false, eval (.Name n p1) X.env) :: starEach [.Name x p2] X.env := by rfl) (hpl : (backTo pos (starEach [.Name x p2] X.env)).any (·.1) = false := by rfl) (hs2 : starEach [.Name x p2] X.env = (false, eval (.Name x p2) X.env) :: starEach [] X.env := by rfl) :
    HE X a oe pn (some i) c fs cls d (.Call (.Name "isinstance" p) [.Name n p1, .Name x p2] [] pos) (sC (.bl b)) := by
  subst hcl
  refine ⟨fun pins s σV H Q I ⟨m, h, σ, A, hi, xr, o⟩ => ?_⟩
  refine (pe_callB (X := X.suite a ((a, oe) :: pn)) (call_isX C hz hf) hg hm boot_isinstance (pa_cons (pe_var (X := X.suite a ((a, oe) :: pn)) (i := i) hN hv hd hcd) (pa_cons (pe_glob (X := X.suite a ((a, oe) :: pn)) (v := .ref cv) hgx hmx rfl hdx) pa_nil hs2) he) (by decide) (by decide) he hpl).run pins s σV H Q I ?_
  have hl : i < σV.length := by
    rw [I.len]
    exact (List.getElem?_eq_some_iff.mp hN).1
  refine ⟨.ref a, hi i rfl hl, fun dd hdd => ?_, .ref cv, .ref cv, b, rfl, fun u hu => hu, hk, o _ m H (Ext.refl _ _) (.bl b) A.hr⟩
  rcases xr.2 with ⟨_, z⟩ | ⟨dd', fv, h1, h2, h3⟩
  · rw [z] at hdd; cases hdd
  · rw [h1] at hdd; cases hdd; exact ⟨fv, h2⟩
theorem ha_nil : HA X a oe pn sl c fs cls d [] saNil := PA.imp pa_nil fun σV H Q ⟨m, h, σ, A, _, _, o⟩ => o [] m H (Ext.refl _ _) .nil A.hr
theorem ha_cons (h1 : HE X a oe pn sl c fs cls d e se) (h2 : HA X a oe pn sl c fs cls d es ar) (hs : starEach (e :: es) X.env = (false, eval e X.env) :: starEach es X.env := by rfl) : HA X a oe pn sl c fs cls d (e :: es) (saCons se ar) :=
  PA.imp (pa_cons h1 h2 hs) fun σV H Q ⟨m, h, σ, A, hi, xr, o⟩ => by
    refine ⟨m, h, σ, A, hi, xr, ?_⟩
    refine (Out.bind (rel1 := RT X.K X.mg) o).mono fun b H1 ⟨m1, h1, t, E, r, R, o1⟩ => ?_
    refine ⟨m1, h1, σ, A.ext E R, hi, xr.ext E, ?_⟩
    refine (Out.bind (rel1 := RTs X.K X.mg) o1).mono fun bs H2 ⟨m2, h2, ts, E2, r2, R2, o2⟩ => ?_
    exact o2 _ m2 H2 (Ext.refl _ _) (.cons (r.ext E2) r2) R2
theorem he_tup {x1} (h : HA X a oe pn sl c fs cls d es ar) : HE X a oe pn sl c fs cls d (.Tuple es x1 pos) (sTup ar) := PE.imp (pe_tupN h) fun σV H Q ⟨m, h, σ, A, hi, xr, o⟩ => by
  refine ⟨m, h, σ, A, hi, xr, ?_⟩
  refine (Out.bind (rel1 := RTs X.K X.mg) o).mono fun bs H1 ⟨m1, h1, ts, E, r, R, o1⟩ => ?_
  split at o1
  · rename_i hz
    exact ⟨by rw [← r.length]; exact hz, fun p ob hp hd => OutP.newTup R r (o1.outP (fun _ _ _ z => by cases z)) hp hd⟩
  · exact False.elim o1
end
section
variable {X : Cx} {XS : XSub} {sl : Option Nat} {e : Expr} {pos py : Pos}
abbrev HEs (X : Cx) (XS : XSub) (sl : Option Nat) (e : Expr) (se : Str → List (Str × T) → SE) : Prop := ∀ (a : Addr) (oe : Obj) (cls : Value) (d : Option Addr) (pn : List (Addr × Obj)) (c : Str) (ss : List Str) (fs : List (Str × T)), Zc cls d oe → (∃ vs, oe.data = .fields vs) → XS.lookup c = some ss → X.mg c = some cls → HE X a oe pn sl c fs cls d e (se c fs)
theorem hok_ret {se : Str → List (Str × T) → SE} (h : HEs X XS sl e se) : HOk X XS sl [.Return (some e) pos] (fun c fs => ssRet (se c fs)) := fun a oe cls d pn c ss fs hz hf hl hm =>
  PSs.imp (pss_one (ps_ret (h a oe cls d pn c ss fs hz hf hl hm))) fun D σV H ⟨m, h, σ, A, hi, xr, o⟩ => by
    refine ⟨m, h, σ, A, hi, xr, ?_⟩
    have o' : OutS X.K X.mg WF D m H ((se c fs σ h).flo σ fun x h1 => .rt x h1) := o
    cases e1 : se c fs σ h with
    | ok t h1 => rw [e1] at o'; exact fun v m1 H1 E r R => o' v m1 H1 E r R
    | exc _ _ h1 => rw [e1] at o'; exact fun cls d m1 H1 E x R => o' cls d σV m1 H1 E (A.sr.ext E) x R
    | stk => rw [e1] at o'; exact o'
theorem hok_set {j : Nat} {y : Str} {se : Str → List (Str × T) → SE} (h : HEs X XS sl e se) (hN : X.N.Nodup) (hi : X.N[j]? = some y) (hx : Loc X.env.scope y) (hs : swapsWith e (some (.Name y py)) pos.line X.env = pure false := by rfl) (hf : X.fn y = true ∨ X.env.scope.names.lookup y = some .local := by first | exact .inl rfl | exact .inr rfl | assumption) :
    HOk X XS sl [.Assign [.Name y py] e pos] (fun c fs => ssAsg (se c fs) (sgName j)) := fun a oe cls d pn c ss fs hz hv hl hm =>
  PSs.imp (pss_one (ps_set (X := X.suite a ((a, oe) :: pn)) (i := j) hN hi hx (h a oe cls d pn c ss fs hz hv hl hm) hs hf)) fun D σV H ⟨m, h, σ, A, hi, xr, o⟩ => by
    refine ⟨m, h, σ, A, hi, xr, ?_⟩
    have o' : OutS X.K X.mg WF D m H ((se c fs σ h).flo σ fun x h1 => match sgName j x σ with | some σ1 => .nx σ1 h1 | none => .stk) := o
    cases e1 : se c fs σ h with
    | ok t h1 =>
      rw [e1] at o'
      exact fun v m1 H1 E r R => o' _ m1 H1 E ((A.sr.ext E).set r j) R
    | exc _ _ h1 => rw [e1] at o'; exact fun cls d m1 H1 E x R => o' cls d σV m1 H1 E (A.sr.ext E) x R
    | stk => rw [e1] at o'; exact o'
end
end W3
end

section
/-! WV: the __init__ of the program's errors, ready to print. -/
namespace W3
open PySem PySem.Spec PyProof.Rows
open L2
theorem bindsE {K : PySem.W.Frag} {fd : FuncData} {ps : List Str} (h : ∀ us : List Value, us.length = ps.length → bindArgs fd ⟨us, []⟩ = pure (ps.zip us)) : Binds K fd ps [] := by
  intro s us _ hl
  rw [List.append_nil] at hl ⊢
  exact .of_eq (h us hl)
abbrev envE (name qual : Str) (st : Stmt) (cc c f L : Addr) : Env := NdefX.envF (nfE name qual (defArgs st) (defBody st) (defScope st) cc c) f L
abbrev supS (p0 p1 p2 apos cpos pos : Pos) (j : Nat) (txt : Str) : Stmt := .Expr (.Call (.Attribute (.Call (.Name "super" p0) [] [] p1) "__init__" apos) [.Constant (.str txt) j p2] [] cpos) pos
abbrev stoS (sf f1 a1 : Str) (q1 q2 q3 q4 : Pos) : Stmt := .Assign [.Attribute (.Name sf q1) f1 q2] (.Name a1 q3) q4
/-- what is said of the first statement, where it stands -/
def LineE (name qual : Str) (st : Stmt) (cc c f : Addr) (p0 p1 p2 apos cpos pos : Pos) (j : Nat) (txt : Str) (pl : Sem Bool) : Prop := ∀ L : Addr, interactive (envE name qual st cc c f L) = false ∧
  swapsWith (.Call (.Attribute (.Call (.Name "super" p0) [] [] p1) "__init__" apos) [.Constant (.str txt) j p2] [] cpos) none pos.line (envE name qual st cc c f L) = pure false ∧
  eval (.Call (.Attribute (.Call (.Name "super" p0) [] [] p1) "__init__" apos) [.Constant (.str txt) j p2] [] cpos) (envE name qual st cc c f L) = (do
    let ov ← attributeBase (.Call (.Name "super" p0) [] [] p1) "__init__" (envE name qual st cc c f L) (eval (.Call (.Name "super" p0) [] [] p1) (envE name qual st cc c f L))
    standAt apos.atName
    let (g, first) ← holding [ov] (getMethod ov "__init__" pl)
    callWith cpos g first (backTo cpos (starEach [.Constant (.str txt) j p2] (envE name qual st cc c f L))) [])
theorem exc_ok1 {P : Program} {w : World} {K : PySem.W.Frag} {mg : Str → Option Value} {base : Heap} {f c cc C : Addr} {st : Stmt} {name qual sf a1 f1 txt : Str} {doc pm ct : Value} {an : Option Addr} {ar : Arg} {pl : Sem Bool} {p0 p1 p2 apos cpos pos q1 q2 q3 q4 : Pos} {j : Nat}
    (F : ExF P K C f c cc (fdE name qual (defArgs st) (defBody st) (defScope st) cc c doc pm ct an)) (hb : defBody st = [supS p0 p1 p2 apos cpos pos j txt, stoS sf f1 a1 q1 q2 q3 q4]) (hcd : PySem.W.codeIn K (.ref c) qual = true)
    (S : NdefX.NScope [sf, a1, "__class__"] [sf, a1] ["__class__"] (defScope st)) (hks : (defScope st).names.lookup ("super" : Str) = some .globalImplicit) (hp : ((defArgs st).posonlyargs ++ (defArgs st).args).head? = some ar) (har : ar.arg = sf) (hm : mg "super" = none) (hline : LineE name qual st cc c f p0 p1 p2 apos cpos pos j txt pl)
    (n1 : PySem.W.findIn K (.ref C) f1 = some none) (hs1 : ∀ L, swapsWith (.Name a1 q3) (some (.Attribute (.Name sf q1) f1 q2)) q4.line (envE name qual st cc c f L) = pure false)
    (hd0 : (sf == ("__debug__" : Str)) = false := by decide) (hc0 : (sf == ("__classdict__" : Str)) = false := by decide) (hd1 : (a1 == ("__debug__" : Str)) = false := by decide) (hc1 : (a1 == ("__classdict__" : Str)) = false := by decide) :
    FnOk P w K mg base (L2.CX P w) 1 f (fdE name qual (defArgs st) (defBody st) (defScope st) cc c doc pm ct an) [sf, a1] (spE1 C f1) := by
  unfold LineE at hline
  simp only [hb] at F hline hs1 ⊢
  refine fn_exc (k := 0) (pl := pl) F hcd S (fun vs H Q E ⟨a, y1, e, _⟩ => by rw [e]; rfl) hks hp (by rw [har]; rfl) (by rw [har]; exact S.par _ (by simp)) hm hline ?_
  rintro A outer s H vs Q E ⟨a, y1, rfl, ea, q⟩
  exact ⟨a, rfl, ea, body1 F.oex n1 rfl rfl (.inl (S.par _ (by simp))) (.inl (S.par _ (by simp))) hd0 hc0 hd1 hc1 (hs1 _) rfl rfl ea q⟩
theorem exc_ok2 {P : Program} {w : World} {K : PySem.W.Frag} {mg : Str → Option Value} {base : Heap} {f c cc C : Addr} {st : Stmt} {name qual sf a1 f1 a2 f2 txt : Str} {doc pm ct : Value} {an : Option Addr} {ar : Arg} {pl : Sem Bool} {p0 p1 p2 apos cpos pos q1 q2 q3 q4 r1 r2 r3 r4 : Pos} {j : Nat}
    (F : ExF P K C f c cc (fdE name qual (defArgs st) (defBody st) (defScope st) cc c doc pm ct an)) (hb : defBody st = [supS p0 p1 p2 apos cpos pos j txt, stoS sf f1 a1 q1 q2 q3 q4, stoS sf f2 a2 r1 r2 r3 r4]) (hcd : PySem.W.codeIn K (.ref c) qual = true)
    (S : NdefX.NScope [sf, a1, a2, "__class__"] [sf, a1, a2] ["__class__"] (defScope st)) (hks : (defScope st).names.lookup ("super" : Str) = some .globalImplicit) (hp : ((defArgs st).posonlyargs ++ (defArgs st).args).head? = some ar) (har : ar.arg = sf) (hm : mg "super" = none) (hline : LineE name qual st cc c f p0 p1 p2 apos cpos pos j txt pl)
    (n1 : PySem.W.findIn K (.ref C) f1 = some none) (n2 : PySem.W.findIn K (.ref C) f2 = some none) (hs1 : ∀ L, swapsWith (.Name a1 q3) (some (.Attribute (.Name sf q1) f1 q2)) q4.line (envE name qual st cc c f L) = pure false) (hs2 : ∀ L, swapsWith (.Name a2 r3) (some (.Attribute (.Name sf r1) f2 r2)) r4.line (envE name qual st cc c f L) = pure false)
    (hd0 : (sf == ("__debug__" : Str)) = false := by decide) (hc0 : (sf == ("__classdict__" : Str)) = false := by decide) (hd1 : (a1 == ("__debug__" : Str)) = false := by decide) (hc1 : (a1 == ("__classdict__" : Str)) = false := by decide) (hd2 : (a2 == ("__debug__" : Str)) = false := by decide) (hc2 : (a2 == ("__classdict__" : Str)) = false := by decide) :
    FnOk P w K mg base (L2.CX P w) 1 f (fdE name qual (defArgs st) (defBody st) (defScope st) cc c doc pm ct an) [sf, a1, a2] (spE2 C f1 f2) := by
  unfold LineE at hline
  simp only [hb] at F hline hs1 hs2 ⊢
  refine fn_exc (k := 0) (pl := pl) F hcd S (fun vs H Q E ⟨a, y1, y2, e, _⟩ => by rw [e]; rfl) hks hp (by rw [har]; rfl) (by rw [har]; exact S.par _ (by simp)) hm hline ?_
  rintro A outer s H vs Q E ⟨a, y1, y2, rfl, ea, q⟩
  exact ⟨a, rfl, ea, body2 F.oex n1 n2 rfl rfl rfl (.inl (S.par _ (by simp))) (.inl (S.par _ (by simp))) (.inl (S.par _ (by simp))) hd0 hc0 hd1 hc1 hd2 hc2 (hs1 _) (hs2 _) rfl rfl rfl ea q⟩
/-- what the caught errors say -/
def CatchesK (K : PySem.W.Frag) (mg : Str → Option Value) (XS : XSub) (x : Str) (cv : Value) : Prop := ∀ c ss cls, XS.lookup c = some ss → mg c = some cls → PySem.W.exmOne K cls cv = some (ss.contains x)
def XfAll (K : PySem.W.Frag) (mg : Str → Option Value) (XS : XSub) (FL : List Str) : Prop := ∀ c ss cls, XS.lookup c = some ss → mg c = some cls → ∃ C, cls = .ref C ∧ XfC K C ∧ ExcC K C ∧ ∀ f ∈ FL, PySem.W.findIn K (.ref C) f = some none
def IsAll (K : PySem.W.Frag) (mg : Str → Option Value) (XS : XSub) (x : Str) (cv : Addr) : Prop := ∀ c ss cls C, XS.lookup c = some ss → mg c = some cls → cls = .ref C → PySem.W.kitOne K (.ref C) (.ref cv) = some (ss.contains x)
def ssOf (XS : XSub) (c : Str) : List Str := (XS.lookup c).getD []
section
variable {X : Cx} {XS : XSub} {sl : Option Nat} {i : Nat} {n f x : Str} {FL : List Str} {p p1 p2 pos : Pos} {e : Expr} {es : List Expr} {se : SE} {sx : Str → List (Str × T) → SE} {ar : Str → List (Str × T) → SA}
theorem hx_lift (h : ∀ (a : Addr) (oe : Obj) (pn : List (Addr × Obj)), DE (X.suite a ((a, oe) :: pn)) PqT WF e se) : HEs X XS sl e (fun _ _ => se) := fun a oe cls d pn c ss fs _ _ _ _ => he_lift (h a oe pn)
theorem hx_fld (A : XfAll X.K X.mg XS FL) (hf : f ∈ FL) (hN : X.N[i]? = some n) (hv : Vis X.env.scope n) (hd : (n == ("__debug__" : Str)) = false := by decide) (hcd : (n == ("__classdict__" : Str)) = false := by decide) (hb : attributeBase (.Name n p) f X.env (eval (.Name n p) X.env) = eval (.Name n p) X.env := by rfl) :
    HEs X XS (some i) (.Attribute (.Name n p) f pos) (fun _ fs => sXf fs f) := fun a oe cls d pn c ss fs hz hv' hl hm => by
  obtain ⟨C, h1, h2, h3, h4⟩ := A c ss cls hl hm
  exact he_fld hN hv h2 (h4 f hf) h1 hz hv' hd hcd hb
theorem hx_isi {cv : Addr} (A : XfAll X.K X.mg XS FL) (I : IsAll X.K X.mg XS x cv) (hN : X.N[i]? = some n) (hv : Vis X.env.scope n) (hg : Gl X "isinstance") (hm : X.mg "isinstance" = none) (hgx : Gl X x) (hmx : X.mg x = some (.ref cv))
    (hd : (n == ("__debug__" : Str)) = false := by decide) (hcd : (n == ("__classdict__" : Str)) = false := by decide) (hdx : (x == ("__debug__" : Str)) = false := by decide)
    (he : starEach [.Name n p1, .Name x p2] X.env = (false, eval (.Name n p1) X.env) :: starEach [.Name x p2] X.env := by rfl) (hpl : (backTo pos (starEach [.Name x p2] X.env)).any (·.1) = false := by rfl) (hs2 : starEach [.Name x p2] X.env = (false, eval (.Name x p2) X.env) :: starEach [] X.env := by rfl) :
    HEs X XS (some i) (.Call (.Name "isinstance" p) [.Name n p1, .Name x p2] [] pos) (fun c _ => sC (.bl ((ssOf XS c).contains x))) := fun a oe cls d pn c ss fs hz hv' hl hmc => by
  obtain ⟨C, h1, h2, h3, h4⟩ := A c ss cls hl hmc
  have hk := I c ss cls C hl hmc h1
  have : ssOf XS c = ss := by unfold ssOf; rw [hl]; rfl
  show HE X a oe pn (some i) c fs cls d _ (sC (T.bl ((ssOf XS c).contains x)))
  rw [this]
  exact he_isi hN hv h3 h1 hz hv' hg hm hgx hmx hk hd hcd hdx he hpl hs2
abbrev HAs (X : Cx) (XS : XSub) (sl : Option Nat) (es : List Expr) (ar : Str → List (Str × T) → SA) : Prop := ∀ (a : Addr) (oe : Obj) (cls : Value) (d : Option Addr) (pn : List (Addr × Obj)) (c : Str) (ss : List Str) (fs : List (Str × T)), Zc cls d oe → (∃ vs, oe.data = .fields vs) → XS.lookup c = some ss → X.mg c = some cls → HA X a oe pn sl c fs cls d es (ar c fs)
theorem hxa_nil : HAs X XS sl [] (fun _ _ => saNil) := fun _ _ _ _ _ _ _ _ _ _ _ _ => ha_nil
theorem hxa_cons (h1 : HEs X XS sl e sx) (h2 : HAs X XS sl es ar) (hs : starEach (e :: es) X.env = (false, eval e X.env) :: starEach es X.env := by rfl) : HAs X XS sl (e :: es) (fun c fs => saCons (sx c fs) (ar c fs)) :=
  fun a oe cls d pn c ss fs hz hv hl hm => ha_cons (h1 a oe cls d pn c ss fs hz hv hl hm) (h2 a oe cls d pn c ss fs hz hv hl hm) hs
theorem hx_tup {x1} (h : HAs X XS sl es ar) : HEs X XS sl (.Tuple es x1 pos) (fun c fs => sTup (ar c fs)) := fun a oe cls d pn c ss fs hz hv hl hm => he_tup (h a oe cls d pn c ss fs hz hv hl hm)
end
end W3
end

section
/-! WW: facts told of every error class of a law. -/
namespace W3
open PySem PySem.Spec PyProof.Rows
open L2
def XAll (P : Str → List Str → Prop) : XSub → Prop
  | [] => True
  | (c, ss) :: r => P c ss ∧ XAll P r
theorem XAll.look {P : Str → List Str → Prop} : ∀ {XS : XSub}, XAll P XS → ∀ {c ss}, XS.lookup c = some ss → P c ss
  | [], _, _, _, e => by simp at e
  | (c, ss) :: r, h, c', ss', e => by
    simp only [List.lookup] at e
    split at e
    · rename_i q
      cases e
      obtain rfl : c' = c := by simpa using q
      exact h.1
    · exact h.2.look e
theorem catches_of {K : PySem.W.Frag} {mg : Str → Option Value} {XS : XSub} {x : Str} {cv : Value} (h : XAll (fun c ss => ∃ cls, mg c = some cls ∧ PySem.W.exmOne K cls cv = some (ss.contains x)) XS) : CatchesK K mg XS x cv := fun c ss cls hl hm => by
  obtain ⟨cls', h1, h2⟩ := h.look hl
  rw [hm] at h1; cases h1; exact h2
theorem xfall_of {K : PySem.W.Frag} {mg : Str → Option Value} {XS : XSub} {FL : List Str} (h : XAll (fun c ss => ∃ C, mg c = some (.ref C) ∧ XfC K C ∧ ExcC K C ∧ ∀ f ∈ FL, PySem.W.findIn K (.ref C) f = some none) XS) : XfAll K mg XS FL := fun c ss cls hl hm => by
  obtain ⟨C, h1, h2⟩ := h.look hl
  rw [hm] at h1; cases h1; exact ⟨C, rfl, h2⟩
theorem isall_of {K : PySem.W.Frag} {mg : Str → Option Value} {XS : XSub} {x : Str} {cv : Addr} (h : XAll (fun c ss => ∃ C, mg c = some (.ref C) ∧ PySem.W.kitOne K (.ref C) (.ref cv) = some (ss.contains x)) XS) : IsAll K mg XS x cv := fun c ss cls C hl hm e => by
  obtain ⟨C', h1, h2⟩ := h.look hl
  rw [hm] at h1; cases h1; cases e; exact h2
end W3
end

section
/-! WX: dicts compared. -/
namespace W3
open PySem PySem.Spec PyProof.Rows
open L2
def dicB (h : Hh) : T → Bool | .ref l => (match h[l]? with | some (.dic _) => true | _ => false) | _ => false
def oNeD (x y : T) (h : Hh) : Res T := if dicB h x = true ∧ dicB h y = true then .ok (.bl false) h else oNe x y h
theorem nx_neD : NoX2 oNeD := fun x y h c fs h' e => by
  unfold oNeD at e
  split at e
  · cases e
  · exact nx_ne x y h c fs h' e
section
variable {X : Cx}
theorem dic_at {K : PySem.W.Frag} {mg : Str → Option Value} {m : Mp} {h : Hh} {H : Hp} {t : T} {v : V} (R : HR K mg m h H) (r : RT K mg m H t v) (e : dicB h t = true) : ∃ a, v = .ref a ∧ H a = some (.dK []) := by
  cases t with
  | ref l =>
    simp only [dicB] at e
    split at e
    · rename_i d hd
      obtain ⟨a, ha, o⟩ := R.ob l _ hd
      cases r with
      | ref hm =>
        rw [ha] at hm
        cases hm
        exact ⟨a, rfl, o.2⟩
    · cases e
  | _ => cases e
theorem os_neD (hu : X.A.units + 65 < cLine) : OpR X (compareOp .NotEq) (rP2 X.K X.mg oNeD) := by
  intro pins s σ H x y v u Q I rx ry ⟨m, h, tx, ty, r1, r2, R, o⟩
  unfold oNeD at o
  split at o
  · rename_i hd
    obtain ⟨a, rfl, ea⟩ := dic_at R r1 hd.1
    obtain ⟨b, rfl, eb⟩ := dic_at R r2 hd.2
    exact op_ne_dictA (by omega) pins s σ H _ _ v u Q I rx ry ⟨a, b, [], [], rfl, rfl, ea, eb, rfl, by simp, o _ m H (Ext.refl _ _) (.bl _) R⟩
  · exact os_ne hu pins s σ H x y v u Q I rx ry ⟨m, h, tx, ty, r1, r2, R, o⟩
end
/-- int(x), x an integer or a bool -/
def bIntB (xs : List T) (h : Hh) : Res T :=
  match xs with
  | [.int i] => .ok (.int i) h
  | [.bl b] => .ok (.int (if b then 1 else 0)) h
  | _ => .stk
theorem nx_bintB : NoXL bIntB := fun xs h c fs h' e => by unfold bIntB at e; (repeat' split at e) <;> cases e
theorem cs_intB {X : Cx} : CallR X (.type "int") (rPL X.K X.mg bIntB) := by
  intro pins s σ H xs us Q I ru ⟨m, h, ts, r, R, o⟩
  unfold bIntB at o
  split at o
  · obtain ⟨v, rfl, r1⟩ := r.one
    cases r1 with
    | int i => exact call_int1 pins s σ H _ us Q I ru (.inl ⟨_, rfl, o _ m H (Ext.refl _ _) (.int _) R⟩)
  · obtain ⟨v, rfl, r1⟩ := r.one
    cases r1 with
    | bl b => exact call_int1 pins s σ H _ us Q I ru (.inr ⟨_, rfl, o _ m H (Ext.refl _ _) (.int _) R⟩)
  · exact False.elim o
@[simp] theorem e_intB_b (b : Bool) (h : Hh) : bIntB [.bl b] h = .ok (.int (if b then 1 else 0)) h := Eq.trans rfl rfl
@[simp] theorem e_intB_i (i : Int) (h : Hh) : bIntB [.int i] h = .ok (.int i) h := Eq.trans rfl rfl
end W3
end

section
/-! WY: except suites of two statements. -/
namespace W3
open PySem PySem.Spec PyProof.Rows
open L2
section
variable {X : Cx} {XS : XSub} {sl : Option Nat} {e1 e2 : Expr} {pos p1 p2 : Pos} {rest : List Stmt}
/-- if not t: return v, then the rest -/
theorem hok_ifret {se1 se2 : Str → List (Str × T) → SE} {k : Str → List (Str × T) → SS} (h1 : HEs X XS sl e1 se1) (h2 : HEs X XS sl e2 se2) (hk : HOk X XS sl rest k)
    (he : ∀ whole, isTrue e1 X.env whole = (do let v ← whole; standAt e1.pos; holding [v] (truthy v)) := by intro _; rfl) :
    HOk X XS sl (.If (.UnaryOp .Not e1 p1) [.Return (some e2) p2] [] pos :: rest) (fun c fs => ssCons (ssIf (stNot (sT (se1 c fs))) (ssCons (ssRet (se2 c fs)) ssNil) ssNil) (k c fs)) := fun a oe cls d pn c ss fs hz hf hl hm => by
  refine PSs.imp (pss_cons (ps_if (pt_not (pt_val (X := X.suite a ((a, oe) :: pn)) (h1 a oe cls d pn c ss fs hz hf hl hm) he)) (pss_one (ps_ret (h2 a oe cls d pn c ss fs hz hf hl hm))) pss_nil) (hk a oe cls d pn c ss fs hz hf hl hm)) fun D σV H ⟨m, h, σ, A, hi, xr, o⟩ => ?_
  refine ⟨m, h, σ, A, hi, xr, ?_⟩
  have o' : OutS X.K X.mg WF D m H ((((((se1 c fs σ h).bind fun x h1 => match x with | .bl b => .ok b h1 | _ => .stk).bind fun b h1 => .ok (!b) h1).flo σ fun b h1 => if b = true then ((se2 c fs σ h1).flo σ fun x h2 => .rt x h2).seq ssNil else .nx σ h1)).seq (k c fs)) := o
  cases e : se1 c fs σ h with
  | ok t h1 =>
    rw [e] at o'
    intro v m1 H1 E r R
    cases t with
    | bl b =>
      cases r
      refine ⟨b, rfl, ?_⟩
      cases b with
      | true =>
        have o2 : OutS X.K X.mg WF D m H (k c fs σ h1) := o'
        exact ⟨m1, h1, σ, A.ext E R, hi, xr.ext E, o2.ext E⟩
      | false =>
        have o2 : OutS X.K X.mg WF D m H ((((se2 c fs σ h1).flo σ fun x h2 => .rt x h2).seq ssNil).seq (k c fs)) := o'
        refine ⟨m1, h1, σ, A.ext E R, hi, xr.ext E, ?_⟩
        have o3 := o2.ext E
        cases e2 : se2 c fs σ h1 with
        | ok t h2 => rw [e2] at o3; exact fun v m2 H2 E2 r R => o3 v m2 H2 E2 r R
        | exc _ _ h2 => rw [e2] at o3; exact fun cls d m2 H2 E2 x R => o3 cls d σV m2 H2 E2 ((A.sr.ext E).ext E2) x R
        | stk => rw [e2] at o3; exact o3
    | _ => exact False.elim o'
  | exc _ _ h1 => rw [e] at o'; exact fun cls d m1 H1 E x R => o' cls d σV m1 H1 E (A.sr.ext E) x R
  | stk => rw [e] at o'; exact o'
end
/-- isinstance(e, (c1, c2)), e the caught error -/
theorem call_isX2 {X : Cx} {a D : Addr} {oe : Obj} {d : Option Addr} {pn : List (Addr × Obj)} (C : ExcC X.K D) (hz : Zc (.ref D) d oe) (hf : ∃ vs, oe.data = .fields vs) : CallR (X.suite a ((a, oe) :: pn)) (.builtin "isinstance") (fun xs H Q => (∀ dd, d = some dd → ∃ fv, H dd = some (.xd fv)) ∧
    ∃ (p c1 c2 : Addr) (b : Bool), xs = [.ref a, .ref p] ∧ H p = some (.tup [.ref c1, .ref c2]) ∧ PySem.W.kitAny X.K (.ref D) [.ref c1, .ref c2] = some b ∧ Q (.bl b) H) := by
  intro pins s σ H xs us Q I r ⟨hdd, h⟩
  obtain ⟨p, c1, c2, b, rfl, hT, e, q⟩ := h
  obtain ⟨u1, u2, rfl, r1, r2⟩ := vals2 r
  cases (show u2 = Value.ref p from r2)
  cases (show u1 = Value.ref a from r1)
  obtain ⟨hget, _⟩ := I.pin (a, oe) (List.mem_append.mpr (.inl List.mem_cons_self))
  obtain ⟨vs, hv⟩ := hf
  have J : ∃ od, PySem.W.InstAt s.heap a oe D od := by
    obtain ⟨oc, od, oda, osl⟩ := oe
    obtain ⟨h1, h2⟩ := hz
    dsimp only at h1 h2 hv
    subst h1 h2 hv
    cases od with
    | none => exact ⟨none, hget, rfl, rfl, trivial⟩
    | some dd =>
      obtain ⟨fv, hx⟩ := hdd dd rfl
      obtain ⟨mA, hns, _⟩ := I.hok dd _ hx
      obtain ⟨o, es, ep, ho, _⟩ := hns
      exact ⟨some o, hget, rfl, rfl, ho⟩
  obtain ⟨od, J⟩ := J
  obtain ⟨_, its, rv, o, h1, h2, n, h3⟩ := (show ObjOk X.prog X.w H s.heap p (.tup [.ref c1, .ref c2]) from I.hok p _ hT)
  have e3 : its = [.ref c1, .ref c2] := by
    obtain ⟨w1, w2, rfl, q1, q2⟩ := vals2 rv
    cases (show w1 = Value.ref c1 from q1)
    cases (show w2 = Value.ref c2 from q2)
    rfl
  subst e3
  obtain ⟨oc, od', dt, sl⟩ := o
  simp only at h2 h3
  subst h2 h3
  exact PySem.W.kia_tup (PySem.W.kitx_excW C.hg C.hk C.hs C.hd C.ha C.hn C.ht C.hm) I.kIn J h1 e (fun z => nomatch z) fun tk => ⟨.bl b, H, I.kept (t' := tk) fun _ _ z => z, rfl, q⟩
section
variable {X : Cx} {XS : XSub} {i q : Nat} {n x1 x2 : Str} {FL : List Str} {p p1 p2 p3 tpos pos : Pos}
theorem hx_isi2 {cv1 cv2 : Addr} (A : XfAll X.K X.mg XS FL) (I1 : IsAll X.K X.mg XS x1 cv1) (I2 : IsAll X.K X.mg XS x2 cv2) (hN : X.N[i]? = some n) (hv : Vis X.env.scope n) (hg : Gl X "isinstance") (hm : X.mg "isinstance" = none) (hg1 : Gl X x1) (hm1 : X.mg x1 = some (.ref cv1)) (hg2 : Gl X x2) (hm2 : X.mg x2 = some (.ref cv2))
    (hd : (n == ("__debug__" : Str)) = false := by decide) (hcd : (n == ("__classdict__" : Str)) = false := by decide) (hd1 : (x1 == ("__debug__" : Str)) = false := by decide) (hd2 : (x2 == ("__debug__" : Str)) = false := by decide)
    (he : starEach [.Name n p1, .Tuple [.Name x1 p2, .Name x2 p3] q tpos] X.env = (false, eval (.Name n p1) X.env) :: starEach [.Tuple [.Name x1 p2, .Name x2 p3] q tpos] X.env := by rfl) (hpl : (backTo pos (starEach [.Tuple [.Name x1 p2, .Name x2 p3] q tpos] X.env)).any (·.1) = false := by rfl)
    (hs1 : starEach [.Tuple [.Name x1 p2, .Name x2 p3] q tpos] X.env = (false, eval (.Tuple [.Name x1 p2, .Name x2 p3] q tpos) X.env) :: starEach [] X.env := by rfl)
    (hs2 : starEach [.Name x1 p2, .Name x2 p3] X.env = (false, eval (.Name x1 p2) X.env) :: starEach [.Name x2 p3] X.env := by rfl) (hs3 : starEach [.Name x2 p3] X.env = (false, eval (.Name x2 p3) X.env) :: starEach [] X.env := by rfl) :
    HEs X XS (some i) (.Call (.Name "isinstance" p) [.Name n p1, .Tuple [.Name x1 p2, .Name x2 p3] q tpos] [] pos) (fun c _ => sC (.bl ((ssOf XS c).contains x1 || (ssOf XS c).contains x2))) := fun a oe cls d pn c ss fs hz hv' hl hmc => by
  obtain ⟨C, rfl, h2, h3, h4⟩ := A c ss cls hl hmc
  have k1 := I1 c ss _ C hl hmc rfl
  have k2 := I2 c ss _ C hl hmc rfl
  have es : ssOf XS c = ss := by unfold ssOf; rw [hl]; rfl
  show HE X a oe pn (some i) c fs (.ref C) d _ (sC (T.bl ((ssOf XS c).contains x1 || (ssOf XS c).contains x2)))
  rw [es]
  refine ⟨fun pins s σV H Q I ⟨m, h, σ, A, hi, xr, o⟩ => ?_⟩
  refine (pe_callB (X := X.suite a ((a, oe) :: pn)) (call_isX2 h3 hz hv') hg hm boot_isinstance (pa_cons (pe_var (X := X.suite a ((a, oe) :: pn)) (i := i) hN hv hd hcd) (pa_cons (pe_tup (X := X.suite a ((a, oe) :: pn)) (pa_cons (pe_glob (X := X.suite a ((a, oe) :: pn)) (v := .ref cv1) hg1 hm1 rfl hd1) (pa_cons (pe_glob (X := X.suite a ((a, oe) :: pn)) (v := .ref cv2) hg2 hm2 rfl hd2) pa_nil hs3) hs2)) pa_nil hs1) he) (by decide) (by decide) he hpl).run pins s σV H Q I ?_
  have hlen : i < σV.length := by
    rw [I.len]
    exact (List.getElem?_eq_some_iff.mp hN).1
  refine ⟨.ref a, hi i rfl hlen, by show 2 ≤ sizeLine; decide, fun t ht => ⟨fun dd hdd => ?_, t, cv1, cv2, (ss.contains x1 || ss.contains x2), rfl, upd_same, ?_, ?_⟩⟩
  · rcases xr.2 with ⟨_, z⟩ | ⟨dd', fv, h1, h2, h3⟩
    · rw [z] at hdd; cases hdd
    · rw [h1] at hdd; cases hdd
      exact ⟨fv, by rw [upd_ne (fun z => by rw [z, ht] at h2; cases h2)]; exact h2⟩
  · exact kitAny_cons k1 (fun z => kitAny_cons k2 (fun z2 => by rw [z, z2]; exact kitAny_nil) (fun z2 => by rw [z2]; cases ss.contains x1 <;> rfl)) (fun z => by rw [z]; rfl)
  · have E := Ext.garbage (p := t) (o := .tup [.ref cv1, .ref cv2]) A.hr ht
    exact o _ m _ E (.bl _) (A.hr.garbage ht)
end
end W3
end

section
/-! WZ: tuple * int. -/
namespace L2
open PySem PySem.Spec PyProof.Rows
theorem tuple_mul1W (l : Addr) (items : Array Value) (n : Nat) (dd : Option Addr) (sl : Array (Option Value)) (u : Tok) :
    Meets (Builtin.«tuple.__mul__» ⟨[.ref l, .int 1 u], []⟩) (fun _ R s => s.heap.get? l = some { cls := .type "tuple", dict := dd, data := .seq items n, slots := sl } ∧ R (.ok (.ret (Value.ref l))) s) :=
  .of_wp fun prog w A R s h => by
    obtain ⟨hp, g, d, tk, os⟩ := s
    obtain ⟨hl, h⟩ := h
    have f1 := AutoSeq1.idx_int
    have c1 : (items.isEmpty || (1 : Int) == 1) = true := by simp
    wp_walk using wpAny_loadPart' hl
    repeat (first
      | (refine wpAny_ite_false (decide_eq_false (by decide)) ?_; wp_walk using wpAny_loadPart' hl)
      | (refine wpAny_ite_true (decide_eq_true (by rw [c1])) ?_; wp_walk using wpAny_loadPart' hl))
    exact ⟨_, rfl, h⟩
end L2
namespace L2
open PySem PySem.Spec PyProof.Rows
section
variable {X : Cx}
theorem op_repT1 : OpR X (binaryOp .Mult) (fun x y H Q => ∃ l xs, x = .ref l ∧ y = .int 1 ∧ SqT X.K H l xs ∧ Q (.ref l) H) := by
  intro pins s σ H x y v u Q I rx ry h
  obtain ⟨l, xs, rfl, rfl, hT, q⟩ := h
  cases rx
  obtain ⟨t, rfl⟩ := ry
  obtain ⟨its, r, ⟨⟨cls, dd, data, sl⟩, ho, hc, n, hd⟩, hs⟩ := I.tuple hT
  simp only at hc hd
  subst hc hd
  refine wpAny_binaryOp_repeat_ref (T := "tuple") (U := "int") (by decide) ⟨_, ho, rfl⟩ (fun s' => typeIs_int s' 1 t) noFill_tuple_mul F.fills_int_mul F.slot_int_rmul repeat_tuple F.slot_int_index.lookup
    (call_meets F.slot_int_rmul (typeIs_int s 1 t) F.entry_int_rmul (F.args_int_rmul_2 _ _) (int_rmul_tuple 1 t l its.toArray n dd sl)
      ⟨ho, rfl, ⟨_, ho, rfl⟩, call_meets F.slot_tuple_mul ⟨_, ho, rfl⟩ F.entry_tuple_mul (F.args_tuple_mul_2 _ _) (tuple_mul1W l its.toArray n dd sl t) ⟨ho, ?_⟩⟩)
  exact ⟨.ref l, H, I, rfl, q⟩
end
end L2
namespace W3
open PySem PySem.Spec PyProof.Rows
open L2
noncomputable def oMulT (x y : T) (h : Hh) : Res T :=
  match x, y with
  | .tup ts, .int k => if ts ≠ [] ∧ 1 ≤ k ∧ k ≤ 1000 ∧ ts.length ≤ 1000 then .ok (.tup (List.replicate k.toNat ts).flatten) h else .stk
  | x, y => oMul x y h
theorem nx_mulT : NoX2 oMulT := fun x y h c fs h' e => by
  unfold oMulT at e
  split at e
  · split at e <;> cases e
  · exact nx_mul _ _ h c fs h' e
theorem RTs.app {K : PySem.W.Frag} {mg : Str → Option Value} {m : Mp} {H : Hp} : ∀ {ts : List T} {vs : List V} {ts' : List T} {vs' : List V}, RTs K mg m H ts vs → RTs K mg m H ts' vs' → RTs K mg m H (ts ++ ts') (vs ++ vs')
  | _, _, _, _, .nil, r => r
  | _, _, _, _, .cons a b, r => .cons a (RTs.app b r)
theorem RTs.rep {K : PySem.W.Frag} {mg : Str → Option Value} {m : Mp} {H : Hp} {ts : List T} {vs : List V} (r : RTs K mg m H ts vs) : ∀ k, RTs K mg m H (List.replicate k ts).flatten (List.replicate k vs).flatten
  | 0 => .nil
  | k + 1 => by
    rw [List.replicate_succ, List.replicate_succ, List.flatten_cons, List.flatten_cons]
    exact RTs.app r (r.rep k)
theorem os_mulT {X : Cx} : OpR X (binaryOp .Mult) (rP2 X.K X.mg oMulT) := by
  intro pins s σ H x y v u Q I rx ry ⟨m, h, tx, ty, r1, r2, R, o⟩
  unfold oMulT at o
  split at o
  · split at o
    · rename_i ts k hk
      obtain ⟨k0, k1, k2, k3⟩ := hk
      cases r2
      cases r1 with
      | @tup a vs _ hq rr =>
        have hl := rr.length
        by_cases e1 : k = 1
        · subst e1
          have e2 : (List.replicate (1 : Int).toNat ts).flatten = ts := by simp
          rw [e2] at o
          exact op_repT1 pins s σ H _ _ v u Q I rx ry ⟨a, vs, rfl, rfl, hq, o _ m H (Ext.refl _ _) (.tup hq rr) R⟩
        · refine op_repN pins s σ H _ _ v u Q I rx ry ⟨a, k, vs, rfl, rfl, hq, fun e => k0 (by cases rr with | nil => rfl | cons _ _ => cases e), by omega, k2, by omega, fun p ob hp hd => OutP.newTup R (rr.rep k.toNat) o hp hd⟩
    · exact False.elim o
  · exact os_mul pins s σ H x y v u Q I rx ry ⟨m, h, _, _, r1, r2, R, o⟩
@[simp] theorem e_mulT_i (i : Int) (y : T) (h : Hh) : oMulT (.int i) y h = oMul (.int i) y h := by unfold oMulT; rfl
end W3
end

section
/-! WZA: for a, b in lists of pairs that are lists. -/
namespace W3
open PySem PySem.Spec PyProof.Rows
open L2
abbrev SGH := T → St3 → Hh → Option St3
def sgLst (n : Nat) (g : SGs) : SGH := fun t σ h => match t with
  | .ref l => match lstAt h l with | some ts => if ts.length = n then g ts σ else none | none => none
  | _ => none
def forRunH (s : Src) (g : SGH) (b : SS) : Nat → Nat → St3 → Hh → Flo
  | k, i, σ, h => match s.at h i with
    | none => .stk
    | some none => .nx σ h
    | some (some x) => match k with
      | 0 => .stk
      | k + 1 => match g x σ h with
        | none => .stk
        | some σ1 => match b σ1 h with
          | .nx σ2 h2 => forRunH s g b k (i + 1) σ2 h2
          | .ct σ2 h2 => forRunH s g b k (i + 1) σ2 h2
          | .bk σ2 h2 => .nx σ2 h2
          | r => r
def ssForH (si : SI) (g : SGH) (b : SS) : SS := fun σ h => (si σ h).flo σ fun s h1 => forRunH s g b (s.len h1) 0 σ h1
def tTgH (K : PySem.W.Frag) (mg : Str → Option Value) (P : Pq) (is : List Nat) (g : SGH) : TG := fun v σV H Q => ∃ m h σ t, At K mg P m H σV σ h ∧ RT K mg m H t v ∧
  (match g t σ h with | some σ' => ∀ σV', SR K mg m H σ' σV' → Only3 is σV σV' → Q σV' H | none => False)
abbrev DGH (X : Cx) (P : Pq) (tg : Expr) (is : List Nat) (g : SGH) : Prop := PG X tg (tTgH X.K X.mg P is g)
section
variable {X : Cx} {P : Pq} {W : WX} {tg iter : Expr} {si : SI} {body : List Stmt} {x1 : SS} {pos : Pos} {es : List Expr}
theorem dgh_lst {k n : Nat} {is : List Nat} {gs : SGs} (hc : X.calm = true) (h : DGs X P es is gs) (hn : (assignEach es X.env).length = n := by rfl) (hst : (assignEach es X.env).findIdx? (·.1) = none := by rfl) : DGH X P (.Tuple es k pos) is (sgLst n gs) :=
  PG.imp (pg_lst hc h hn hst) fun v σV H Q ⟨m, h, σ, t, A, r, q⟩ => by
    unfold sgLst at q
    split at q
    · rename_i σ' e
      split at e
      · rename_i l
        split at e
        · rename_i ts hts
          split at e
          · rename_i hl
            cases r with
            | @ref _ a hm =>
              have hob : h[l]? = some (.lst ts) := by
                unfold lstAt at hts
                split at hts
                · rename_i e2; cases hts; exact e2
                · cases hts
              obtain ⟨a', ha, vs, hv, rr⟩ := A.hr.ob l _ hob
              rw [hm] at ha; cases ha
              refine ⟨a, vs, rfl, .inl (.inl hv), by rw [← rr.length]; exact hl, m, h, σ, ts, A, rr, ?_⟩
              rw [e]; exact q
          · cases e
        · cases e
      · cases e
    · exact False.elim q
theorem ds_forH {is : List Nat} {g : SGH} (hp : PassesOwn (model X.prog X.w) X.A X.env X.xe) (hc : X.calm = true) (hi : DI X P W tg iter si) (hg : DGH X P tg is g) (hb : DSs X P W body x1)
    (hs : ∀ x, foldedSetIterable iter X.env x = pure x := by intro _; rfl) : DS X P W (.For tg iter body [] pos) (ssForH si g x1) := PS.imp (ps_for hp hc hi hg hb hs) fun D σV H ⟨m, h, σ, A, o⟩ => by
  refine A.flo (rel1 := SrcJ X.K X.mg) o fun m1 h1 s J H1 E1 S A1 o1 => ?_
  refine ⟨fun i k σV' H' => ∃ m' h' σ', Ext m1 H1 m' H' ∧ At X.K X.mg P m' H' σV' σ' h' ∧ OutS X.K X.mg W D m1 H1 (forRunH s g x1 k i σ' h'), ⟨s.len h1, m1, h1, σ, Ext.refl _ _, A1, o1⟩, ?_⟩
  rintro i k σV' H' ⟨m', h', σ', E', A', o'⟩
  unfold forRunH at o'
  cases es : s.at h' i with
  | none => rw [es] at o'; exact False.elim o'
  | some ox =>
    cases ox with
    | none =>
      rw [es] at o'
      exact .inl ⟨S.stop m' h' H' i E'.tr A'.hr es, o' σV' m' H' E' A'.sr A'.hr⟩
    | some x =>
      rw [es] at o'
      cases k with
      | zero => exact False.elim o'
      | succ k =>
        obtain ⟨jg, jy⟩ := S.go m' h' H' i x E'.tr A'.hr es
        refine .inr ⟨jg, _, fun σV2 H'' q => ⟨k, Nat.lt_succ_self k, q⟩, fun y H2 hy => ?_⟩
        obtain ⟨E2, R2, rx⟩ := jy y H2 hy
        have A2 : At X.K X.mg P m' H2 σV' σ' h' := A'.ext E2 R2
        refine ⟨m', h', σ', x, A2, rx, ?_⟩
        dsimp only at o'
        cases eg : g x σ' h' with
        | none => rw [eg] at o'; exact False.elim o'
        | some σ1 =>
          rw [eg] at o'
          intro σV1 s1 _
          refine ⟨m', h', σ1, ⟨s1, R2, A2.pr⟩, ?_⟩
          dsimp only at o'
          have up : ∀ {r : Flo}, OutS X.K X.mg W D m1 H1 r → OutS X.K X.mg W D m' H2 r := fun q => OutS.ext (E'.trans E2) q
          cases eb : x1 σ1 h' with
          | nx σ2 h2 =>
            rw [eb] at o'
            exact fun σV3 m3 H3 E3 s3 R3 => ⟨m3, h2, σ2, (E'.trans E2).trans E3, ⟨s3, R3, P.st E3 A2.pr⟩, o'⟩
          | ct σ2 h2 =>
            rw [eb] at o'
            exact fun σV3 m3 H3 E3 s3 R3 => ⟨m3, h2, σ2, (E'.trans E2).trans E3, ⟨s3, R3, P.st E3 A2.pr⟩, o'⟩
          | bk σ2 h2 => rw [eb] at o'; exact up o'
          | rt t h2 => rw [eb] at o'; exact up (r := .rt t h2) o'
          | exc c fs σ2 h2 => rw [eb] at o'; exact up (r := .exc c fs σ2 h2) o'
          | stk => rw [eb] at o'; exact o'
end
end W3
end

section
/-! WZB: xs.index(y), xs a list or a tuple. -/
namespace W3
open PySem PySem.Spec PyProof.Rows
open L2
def isT : T → Bool | .tup _ => true | _ => false
/-- o.m(..), o a list or a tuple -/
def sMtA (f : T → List T → Hh → Res T) (o : SE) (a : SA) : SE := fun σ h => (o σ h).bind fun x h1 => if (isL x h1 || isT x) = true then (a σ h1).bind fun xs h2 => f x xs h2 else .stk
theorem nx_index : NoXM mIndex := fun x y h c fs h' e => by unfold mIndex at e; (repeat' split at e) <;> cases e
theorem findE_some {d : PyData} : ∀ {ds : List PyData} {k j : Nat}, findE d ds k = some j → true ∈ ds.map (fun z => PyData.eqv z d) ∧ j = k + (ds.map fun z => PyData.eqv z d).idxOf true
  | [], _, _, e => by cases e
  | z :: ds, k, j, e => by
    unfold findE at e
    rw [List.map_cons, List.idxOf_cons]
    cases hz : PyData.eqv z d with
    | true => rw [hz] at e; simp at e; simp [e]
    | false =>
      rw [hz] at e
      obtain ⟨h1, h2⟩ := findE_some (k := k + 1) (by simpa using e)
      refine ⟨List.mem_cons_of_mem _ h1, ?_⟩
      rw [h2]; simp; omega
theorem readsAll_len {h : Heap} : ∀ {vs : List Value} {ds : List PyData} {as : List Addr}, ReadsAll h vs ds as → vs.length = ds.length
  | _, _, _, .nil => rfl
  | _, _, _, .cons _ r => by rw [List.length_cons, List.length_cons, readsAll_len r]
theorem readsAll_at {h : Heap} : ∀ {vs : List Value} {ds : List PyData} {as : List Addr}, ReadsAll h vs ds as → PyData.canLayAll0 ds = true → ∀ (j : Nat) (h1 : j < vs.length) (h2 : j < ds.length), PySem.SeqAt.readOf h vs[j] = ds[j]
  | _, _, _, .nil, _, _, h1, _ => absurd h1 (Nat.not_lt_zero _)
  | _, _, _, .cons r _, hc, 0, _, _ => by
    simp only [PyData.canLayAll0, Bool.and_eq_true] at hc
    exact PySem.SeqAt.readOf_eq hc.1 r
  | _, _, _, .cons _ rr, hc, j + 1, h1, h2 => by
    simp only [PyData.canLayAll0, Bool.and_eq_true] at hc
    exact readsAll_at rr hc.2 j (Nat.lt_of_succ_lt_succ h1) (Nat.lt_of_succ_lt_succ h2)
section
variable {X : Cx} {P : Pq} {W : WX} {o e : Expr} {so : SE} {apos cpos : Pos} {es : List Expr} {ar : SA}
theorem index_run (hu : X.A.units + 65 < cLine) {pins : List (Addr × Obj)} {s : Shared} {σ : L2.St} {H : Hp} {x y : V} {v u : Value} {m : Mp} {h : Hh} {tx ty : T} {Q : VK} (I : L2.Inv X pins σ H s) (rx : RelV x v) (ry : RelV y u) (r1 : RT X.K X.mg m H tx x)
    (r2 : RT X.K X.mg m H ty y) (R : HR X.K X.mg m h H) (o : OutP X.K X.mg Q m H (mIndex tx [ty] h)) {id : String} (hid : (id = "list.index" ∧ ∃ ds, toD h 24 tx = some (.list ds)) ∨ (id = "tuple.index" ∧ ∃ ds, toD h 24 tx = some (.tuple ds))) :
    wpAny (model X.prog X.w) X.A (call (.builtin id) [v, u]) (EP X pins σ Q) X.xe s := by
  have key : ∀ (vs : Array Value) (ds : List PyData) (as bs : List Addr) (d : PyData) (j : Nat), ReadsAll s.heap vs.toList ds as → Reads s.heap u d bs → PyData.canLayAll0 ds = true → d.canLay0 = true → X.A.units + 1 + min (PyData.depthAll ds) d.depth < cLine → findE d ds 0 = some j →
      PySem.SeqAt.ItemsEq X.A.in1 s vs.toList (ds.map fun z => PyData.eqv z d) u true ∧ true ∈ ds.map (fun z => PyData.eqv z d) ∧ (ds.map fun z => PyData.eqv z d).idxOf true = j := by
    intro vs ds as bs d j h4 rd hds hd hz ej
    obtain ⟨q1, q2⟩ := findE_some ej
    refine ⟨⟨by rw [List.length_map]; exact readsAll_len h4, fun i h1 h2 => ?_⟩, q1, by omega⟩
    have := PySem.SeqAt.items_eqAt h4 rd hds hd hz vs.toList[i] (by rw [← Array.mem_toList_iff]; exact List.getElem_mem h1)
    rw [List.length_map] at h2
    rw [readsAll_at h4 hds i h1 h2] at this
    simpa using this
  cases hty : toD h 24 ty with
  | none =>
    exfalso
    unfold mIndex at o
    simp only [hty] at o
    rcases hid with ⟨_, ds, e⟩ | ⟨_, ds, e⟩ <;> (rw [e] at o; exact o)
  | some d =>
    obtain ⟨d2, s2⟩ := toD_shaped R r2 hty
    obtain ⟨bs, p2⟩ := Dp.reads I d y u d2 ry
    rcases hid with ⟨rfl, ds, e⟩ | ⟨rfl, ds, e⟩
    · obtain ⟨d1, s1⟩ := toD_shaped R r1 e
      obtain ⟨as, p1⟩ := Dp.reads I (.list ds) x v d1 rx
      unfold mIndex at o
      simp only [hty, e] at o
      split at o
      · rename_i j ej
        have rm := room_in_shaped (xs := ds) s2 hu
        have cl : PyData.canLayAll0 ds = true := SeqAt.canLay_of_shaped s1
        cases p1 with
        | @list a ob vs n _ as h1 h2 h3 h4 =>
          obtain ⟨k1, k2, k3⟩ := key vs ds _ _ d j h4 p2 cl (SeqAt.canLay_of_shaped s2) rm ej
          refine PySem.SeqAt.call_list_index (vs := vs.toList) (ks := ds.map fun z => PyData.eqv z d) (k := true) ⟨ob, h1, h2, n, by simpa using h3⟩ k1 ?_ k2 ?_
          · cases x with
            | ref b =>
              cases rx
              have : ∃ xs, SqL X.K H a xs := by
                cases d1 with
                | lst hq _ => exact ⟨_, hq⟩
              obtain ⟨xs, hq⟩ := this
              obtain ⟨its, rv, ⟨ob2, n2, g1, g2, g3, g4⟩, hz⟩ := I.list hq
              rw [h1] at g1; cases g1
              rw [h3] at g4
              injection g4 with g4 _
              rw [List.length_map, ← readsAll_len h4, g4]
              simpa [← rv.length] using hz
            | _ => first | (cases rx; done) | (obtain ⟨_, rx⟩ := rx; cases rx)
          · rw [k3]
            exact ⟨.int j, H, I.kept (t' := s.toks + 1) (fun _ _ q => q), ⟨_, rfl⟩, o _ m H (Ext.refl _ _) (.int _) R⟩
      · exact False.elim o
    · obtain ⟨d1, s1⟩ := toD_shaped R r1 e
      obtain ⟨as, p1⟩ := Dp.reads I (.tuple ds) x v d1 rx
      unfold mIndex at o
      simp only [hty, e] at o
      split at o
      · rename_i j ej
        have rm := room_in_shaped (xs := ds) s2 hu
        have cl : PyData.canLayAll0 ds = true := SeqAt.canLay_of_shaped s1
        cases p1 with
        | @tuple a ob vs n _ as h1 h2 h3 h4 =>
          obtain ⟨k1, k2, k3⟩ := key vs ds _ _ d j h4 p2 cl (SeqAt.canLay_of_shaped s2) rm ej
          refine PySem.SeqAt.call_tuple_index (vs := vs.toList) (ks := ds.map fun z => PyData.eqv z d) (k := true) ⟨ob, h1, h2, n, by simpa using h3⟩ k1 k2 ?_
          rw [k3]
          exact ⟨.int j, H, I.kept (t' := s.toks + 1) (fun _ _ q => q), ⟨_, rfl⟩, o _ m H (Ext.refl _ _) (.int _) R⟩
      · exact False.elim o
theorem sqn_obj {pins : List (Addr × Obj)} {s : Shared} {σ : L2.St} {H : Hp} {a : Addr} {vs : List V} (I : L2.Inv X pins σ H s) (h : SqN X.K H a vs) : s.TypeIs (.ref a) "tuple" ∧ ∃ ob, s.heap.get? a = some ob ∧ ob.dict = none := by
  obtain ⟨its, r, p, _⟩ := I.tuple h.t
  refine ⟨p.typeIs, ?_⟩
  rcases h with ⟨ob, h, hd⟩ | ⟨ob, _, _, hk, _, hd, _⟩
  · exact ⟨ob, (I.hok a _ h).1, hd⟩
  · exact ⟨ob, I.kIn a ob hk, hd⟩
def TyQ (X : Cx) (T : String) (x : V) (H : Hp) : Prop := ∀ (pins : List (Addr × Obj)) (σ : L2.St) (s : Shared) (v : Value), L2.Inv X pins σ H s → L2.RelV x v → s.TypeIs v T ∧ ∀ a, v = .ref a → ∃ ob, s.heap.get? a = some ob ∧ ob.dict = none
/-- o.m(..), the kind of o found as it runs -/
def tBX (X : Cx) (name : Str) (r : String → V → List V → Hp → VK → Prop) (to : TE) (t : TA) : TE := fun σ H Q => to σ H fun x H1 => ∃ T id, PlainAttrs T ∧ Slot T name id ∧ typeOf (.builtin id) = pure (.type "method_descriptor") ∧ TyQ X T x H1 ∧ t σ H1 fun xs H2 => r id x xs H2 Q
theorem pe_bmX {name : Str} {r : String → V → List V → Hp → VK → Prop} {to : TE} {t : TA} (hm : ∀ id, MtR X id (r id)) (ho : PE X o to) (ha : PA X (e :: es) t)
    (hbase : attributeBase o name X.env (eval o X.env) = eval o X.env)
    (hfew : ((backTo cpos (starEach (e :: es) X.env)).all (fun x => !x.1) && (backToKw cpos (keywordEach [] X.env)).all (fun x => x.1.isSome)
      && decide ((e :: es).length + ([] : List Keyword).length + (if ([] : List Keyword).isEmpty then 0 else 1) < 30)) = true)
    (hline : (apos.endLine == cpos.line) = true) (hs : starEach (e :: es) X.env = (false, eval e X.env) :: starEach es X.env) (hplain : (backTo cpos (starEach es X.env)).any (·.1) = false) :
    PE X (.Call (.Attribute o name apos) (e :: es) [] cpos) (tBX X name r to t) := ⟨fun pins s σ H Q I h => by
  refine wpAny_Call_method_late hbase hfew hline rfl (thn (ho.run pins s σ H _ I h) fun v s1 w => ?_)
  obtain ⟨x, H1, I1, r1, T, id, pa, sl, ty, tq, q1⟩ := w
  obtain ⟨k1, k2⟩ := tq pins σ s1 v I1 r1
  have arg := ha.run cpos pins s1 σ H1 _ I1 q1
  rw [hs] at arg
  refine ⟨T, id, pa, sl, ty, k1, k2, ?_⟩
  rw [hs]
  refine Calls.callWith_builtin ?_ (Calls.evalArgs_plain (thn arg fun us s2 ⟨xs, H2, I2, r2, q2⟩ => hm id pins s2 σ H2 x xs v us Q I2 r1 r2 q2))
  show (false || (backTo cpos (starEach es X.env)).any (·.1)) = false
  rw [hplain]
  rfl⟩
def rIx (K : PySem.W.Frag) (mg : Str → Option Value) (id : String) (x : V) (xs : List V) (H : Hp) (Q : VK) : Prop :=
  ∃ m h t ts, RT K mg m H t x ∧ RTs K mg m H ts xs ∧ HR K mg m h H ∧ OutP K mg Q m H (mIndex t ts h) ∧ ((id = "list.index" ∧ isT t = false) ∨ (id = "tuple.index" ∧ isT t = true))
theorem ms_index (hu : X.A.units + 65 < cLine) (id : String) : MtR X id (rIx X.K X.mg id) := by
  intro pins s σ H x xs v us Q I rx rs ⟨m, h, t, ts, r, rr, R, o, hid⟩
  have one : ∃ ty, ts = [ty] := by
    unfold mIndex at o
    split at o
    · exact ⟨_, rfl⟩
    · exact False.elim o
  obtain ⟨ty, rfl⟩ := one
  obtain ⟨y, rfl, ry⟩ := rr.one
  obtain ⟨u, rfl, ru⟩ := Vals.one rs
  refine index_run hu I rx ru r ry R o ?_
  have kd : ∀ d, toD h 24 t = some d → (isT t = true → ∃ ds, d = .tuple ds) ∧ ((∃ ds, d = .list ds) → isT t = false) := by
    intro d e
    cases t with
    | tup us =>
      have e' : (optL (toD h 23) us).map PyData.tuple = some d := e
      cases q : optL (toD h 23) us with
      | none => rw [q] at e'; cases e'
      | some ds => rw [q] at e'; cases e'; exact ⟨fun _ => ⟨ds, rfl⟩, fun ⟨_, z⟩ => by cases z⟩
    | _ => exact ⟨fun z => (by cases z), fun _ => rfl⟩
  unfold mIndex at o
  simp only at o
  rcases hid with ⟨e1, e2⟩ | ⟨e1, e2⟩
  · refine .inl ⟨e1, ?_⟩
    split at o
    · rename_i ds d q1 q2; exact ⟨ds, q1⟩
    · rename_i ds d q1 q2
      exfalso
      cases t with
      | tup us => cases e2
      | ref l =>
        have q3 : (match h[l]? with | some (.lst ts) => (optL (toD h 23) ts).map PyData.list | _ => none) = some (PyData.tuple ds) := q1
        split at q3
        · rename_i us _
          cases q : optL (toD h 23) us with
          | none => rw [q] at q3; cases q3
          | some _ => rw [q] at q3; cases q3
        · cases q3
      | fl us =>
        have q3 : (optL (toD h 23) us).map PyData.list = some (PyData.tuple ds) := q1
        cases q : optL (toD h 23) us with
        | none => rw [q] at q3; cases q3
        | some _ => rw [q] at q3; cases q3
      | _ => cases q1
    · exact False.elim o
  · refine .inr ⟨e1, ?_⟩
    split at o
    · rename_i ds d q1 q2
      have := (kd _ q1).2 ⟨ds, rfl⟩
      rw [e2] at this; cases this
    · rename_i ds d q1 q2; exact ⟨ds, q1⟩
    · exact False.elim o
theorem de_index (hu : X.A.units + 65 < cLine) (ho : DE X P W o so) (ha : DA X P W [e] ar)
    (hbase : attributeBase o "index" X.env (eval o X.env) = eval o X.env := by rfl)
    (hfew : ((backTo cpos (starEach [e] X.env)).all (fun x => !x.1) && (backToKw cpos (keywordEach [] X.env)).all (fun x => x.1.isSome)
      && decide ([e].length + ([] : List Keyword).length + (if ([] : List Keyword).isEmpty then 0 else 1) < 30)) = true := by rfl)
    (hline : (apos.endLine == cpos.line) = true := by rfl) (hs : starEach [e] X.env = (false, eval e X.env) :: starEach [] X.env := by rfl) (hplain : (backTo cpos (starEach [] X.env)).any (·.1) = false := by rfl) :
    DE X P W (.Call (.Attribute o "index" apos) [e] [] cpos) (sMtA mIndex so ar) :=
  PE.imp (pe_bmX (name := "index") (r := rIx X.K X.mg) (ms_index hu) ho ha hbase hfew hline hs hplain) fun σV H Q ⟨m, h, σ, A, o⟩ => by
    refine A.first (rel1 := RT X.K X.mg) o fun m1 h1 t x H1 E1 r A1 o1 => ?_
    split at o1
    · rename_i hl
      have fin : ∀ id, ((id = "list.index" ∧ isT t = false) ∨ (id = "tuple.index" ∧ isT t = true)) → tAr X.K X.mg P W ar σV H1 fun xs H2 => rIx X.K X.mg id x xs H2 Q := fun id hid => by
        refine A1.first (rel1 := RTs X.K X.mg) o1 fun m2 h2 ts xs H2 E2 r2 A2 o2 => ?_
        exact ⟨m2, h2, t, ts, r.ext E2, r2, A2.hr, o2.outP (nx_index _ _ _), hid⟩
      cases r with
      | @tup a vs us hq rr => exact ⟨"tuple", "tuple.index", PySem.F.plainAttrs_tuple, PySem.F.slot_tuple_index, PySem.F.type_tuple_index, fun pins σ s v I rv => by
          cases rv
          obtain ⟨k1, k2⟩ := sqn_obj I hq
          exact ⟨k1, fun b eb => by cases eb; exact k2⟩, fin _ (.inr ⟨rfl, rfl⟩)⟩
      | @ref l a e1 =>
        have hl' : (lstAt h1 l).isSome = true := by simpa [isT, isL] using hl
        obtain ⟨ts, q⟩ := Option.isSome_iff_exists.mp hl'
        obtain ⟨vs, g, _⟩ := A1.hr.lst e1 q
        exact ⟨"list", "list.index", PySem.F.plainAttrs_list, PySem.F.slot_list_index, PySem.F.type_list_index, fun pins σ s v I rv => tyV_is I rv (.inl ⟨rfl, vs, SqL.of g⟩), fin _ (.inl ⟨rfl, rfl⟩)⟩
      | @fl a vs ts hq _ => exact ⟨"list", "list.index", PySem.F.plainAttrs_list, PySem.F.slot_list_index, PySem.F.type_list_index, fun pins σ s v I rv => tyV_is I rv (.inl ⟨rfl, vs, hq.sq⟩), fin _ (.inl ⟨rfl, rfl⟩)⟩
      | _ => cases hl
    · exact False.elim o1
end
end W3
end

section
/-! WZC: sets of tuples of keys (ints and texts): how many different ones. -/
namespace W3
open PySem PySem.Spec PyProof.Rows
open L2
abbrev TKs := List Key
abbrev hTk (P : Program) (w : World) (k : TKs) : Int := tupleKeyHash (mixKind P w) k
abbrev IsTk (P : Program) (w : World) (h : Heap) (k : TKs) (b : Addr) : Prop := IsTupleKey (mixKind P w) h k b
def flatV (v : Value) : Prop := (∃ i t, v = .int i t) ∨ ∃ x t, v = .str x t
theorem flat_items {P : Program} {w : World} {k : TKs} {vs : List Value} (r : ItemsAre (mixKind P w) k vs) : ∀ v ∈ vs, flatV v := by
  induction r with
  | nil => exact fun v z => nomatch z
  | cons e _ ih =>
    intro v z
    cases z with
    | head => exact (keyIs_shape e).elim (fun ⟨i, t, q, _⟩ => .inl ⟨_, _, by assumption⟩) (fun ⟨x, t, q, _⟩ => .inr ⟨_, _, by assumption⟩)
    | tail _ z => exact ih v z
theorem flat_cls {v : Value} (f : flatV v) (n : Nat) : ofAClassStatement n v = pure false := by
  rcases f with ⟨i, t, rfl⟩ | ⟨x, t, rfl⟩ <;> cases n <;> rfl
theorem flat_hash {v : Value} (f : flatV v) (n : Nat) : ∃ r, hashByValue n v = pure r := by
  rcases f with ⟨i, t, rfl⟩ | ⟨x, t, rfl⟩ <;> cases n <;> exact ⟨_, rfl⟩
section
variable {P : Program} {w : World} {A : Around} {E : Value → Shared → Prop} {s : Shared}
/-- no class statement's object -/
theorem tk_cls {k : TKs} {b : Addr} {Q : Bool → Shared → Prop} (hk : IsTk P w s.heap k b) (fin : Q false s) : wpAny (model P w) A (ofAClassStatement 8 (.ref b)) Q E s := by
  have ty := hk.typeIs
  obtain ⟨ob, its, n, e1, _, e2, r⟩ := hk
  unfold ofAClassStatement
  refine wpAny_bind (wpAny_typeOf ty ?_)
  dsimp only
  have yes : (("tuple" : String) == "tuple") = true := by decide
  simp only [yes, if_true, Bool.not_true, Bool.false_eq_true, if_false]
  try refine wpAny_bind (wpAny_pure ?_)
  try simp only [Bool.not_true, Bool.false_eq_true, if_false]
  show wpAny _ _ (seqItems? (.ref b) >>= _) _ _ s
  refine wpAny_bind (wpAny_seqItems e1 e2 (wpAny_bind ?_))
  show wpAny _ _ (forIn its _ _) _ _ s
  rw [← Array.forIn_toList]
  refine wpAny_forIn_list _ (fun left r z => (r.1 = none ∧ z = s) ∧ ∀ v ∈ left, flatV v) _ (fun v left r z q => ?_) (fun r z q => ?_) _ _ ⟨⟨rfl, rfl⟩, flat_items r⟩
  · obtain ⟨⟨_, rfl⟩, all⟩ := q
    rw [flat_cls (all v (.head _))]
    refine wpAny_bind (wpAny_pure ?_)
    simp only [Bool.false_eq_true, if_false]
    exact wpAny_pure ⟨⟨rfl, rfl⟩, fun u hu => all u (.tail _ hu)⟩
  · obtain ⟨r1, r2⟩ := r
    obtain ⟨⟨e, rfl⟩, _⟩ := q
    simp only at e
    subst e
    exact wpAny_pure fin
/-- is its hash by value: some answer -/
theorem tk_hashBy {k : TKs} {b : Addr} {Q : Bool → Shared → Prop} (hk : IsTk P w s.heap k b) (fin : ∀ r, Q r s) : wpAny (model P w) A (hashByValue 8 (.ref b)) Q E s := by
  have ty := hk.typeIs
  obtain ⟨ob, its, n, e1, _, e2, r⟩ := hk
  unfold hashByValue
  refine wpAny_bind (wpAny_specialOf ty PySem.F.slot_tuple_hash.lookup ?_)
  show wpAny _ _ (seqItems? (.ref b) >>= _) _ _ s
  refine wpAny_bind (wpAny_seqItems e1 e2 (wpAny_bind ?_))
  show wpAny _ _ (forIn its _ _) _ _ s
  rw [← Array.forIn_toList]
  refine wpAny_forIn_list _ (fun left r z => z = s ∧ ∀ v ∈ left, flatV v) _ (fun v left r z q => ?_) (fun r z q => ?_) _ _ ⟨rfl, flat_items r⟩
  · obtain ⟨rfl, all⟩ := q
    obtain ⟨a, ea⟩ := flat_hash (all v (.head _)) 7
    rw [ea]
    refine wpAny_bind (wpAny_pure ?_)
    cases a with
    | true => simp only [Bool.not_true, Bool.false_eq_true, if_false]; exact wpAny_pure ⟨rfl, fun u hu => all u (.tail _ hu)⟩
    | false => simp only [Bool.not_false, if_true]; exact wpAny_pure (wpAny_pure (fin _))
  · obtain ⟨r1, r2⟩ := r
    obtain ⟨rfl, _⟩ := q
    cases r1 with
    | none => exact wpAny_pure (fin _)
    | some x => exact wpAny_pure (fin _)
theorem tk_seen {k : TKs} {b : Addr} {Q : Bool → Shared → Prop} (hk : IsTk P w s.heap k b) {ys : List Value} (hy : ∀ y ∈ ys, ∃ j c, y = Value.ref c ∧ IsTk P w s.heap j c) (fin : Q false s) :
    wpAny (model P w) A (searchCouldBeSeen (.ref b) ys) Q E s := by
  unfold searchCouldBeSeen
  refine wpAny_bind (wpAny_forIn_list _ (fun left r z => (r.1 = none ∧ z = s) ∧ ∀ y ∈ left, ∃ j c, y = Value.ref c ∧ IsTk P w s.heap j c) _ (fun v left r z q => ?_) (fun r z q => ?_) _ _ ⟨⟨rfl, rfl⟩, hy⟩)
  · obtain ⟨⟨_, rfl⟩, all⟩ := q
    obtain ⟨j, c, rfl, hc⟩ := all v (.head _)
    have go : (none : Option Bool) = none ∧ z = z := ⟨rfl, rfl⟩
    dsimp only
    by_cases hv : (b == c || (carriedByValue (.ref b) && carriedByValue (.ref c))) = true
    · exact wp_if_pos hv (wpAny_pure ⟨⟨rfl, rfl⟩, fun u hu => all u (.tail _ hu)⟩)
    · refine wp_if_neg hv (wpAny_bind (wpAny_eqIsQuiet_tuple hk ?_))
      simp only [Bool.not_true, Bool.false_eq_true, if_false]
      refine wpAny_bind (wpAny_eqIsQuiet_tuple hc ?_)
      simp only [Bool.not_true, Bool.false_eq_true, if_false]
      refine wpAny_bind (tk_cls hk ?_)
      simp only [Bool.false_eq_true, if_false]
      refine wpAny_bind (tk_cls hc ?_)
      simp only [Bool.false_eq_true, if_false]
      exact wpAny_pure ⟨⟨rfl, rfl⟩, fun u hu => all u (.tail _ hu)⟩
  · obtain ⟨r1, r2⟩ := r
    obtain ⟨⟨e, rfl⟩, _⟩ := q
    simp only at e
    subst e
    exact wpAny_pure fin
end
/-! ### the table -/
abbrev TkL := List (Addr × TKs)
def rowTk (P : Program) (w : World) (p : Addr × TKs) : Int × Value := (hTk P w p.2, .ref p.1)
/-- a set of tuples at a: the rows L -/
structure SetTk (P : Program) (w : World) (h : Heap) (a : Addr) (L : TkL) (es : Array (Int × Value)) (ep : Nat) (t : SetTable) : Prop where
  at_ : ∃ o, h.get? a = some o ∧ o.ExactSet ∧ o.data = .set es ep t
  rows : es.toList = L.map (rowTk P w)
  tab : TabOk t ((L.map (rowTk P w)).map (·.1))
  nd : (L.map (·.2)).Nodup
  tup : ∀ p ∈ L, IsTk P w h p.2 p.1
  room : L.length * 5 < t.mask * 3
  few : L.length < 64
section
variable {P : Program} {w : World} {A : Around} {E : Value → Shared → Prop} {s : Shared} {a : Addr} {L : TkL} {es : Array (Int × Value)} {ep : Nat} {t : SetTable}
theorem rows_size (h : es.toList = L.map (rowTk P w)) : es.size = L.length := by
  rw [← Array.length_toList, h, List.length_map]
theorem rows_at (h : es.toList = L.map (rowTk P w)) {i : Nat} {p : Addr × TKs} (e : L[i]? = some p) : es[i]? = some (rowTk P w p) := by
  rw [← Array.getElem?_toList, h, List.getElem?_map, e]
  rfl
theorem fits_of (e : t.place.size = es.size) (d : t.dummies = #[]) (m : es.size ≤ t.mask) : t.fits es.size = true := by
  unfold SetTable.fits SetTable.fill
  rw [d, Bool.and_eq_true, beq_iff_eq, decide_eq_true_eq]
  exact ⟨e, by show t.place.size + 0 ≤ t.mask; omega⟩
theorem SetTk.fits (R : SetTk P w s.heap a L es ep t) : t.fits es.size = true := by
  have z1 := R.tab.sz
  have z2 := rows_size R.rows
  have z3 := R.room
  simp only [List.length_map] at z1
  exact fits_of (by omega) R.tab.dm (by omega)
/-- where the way of a hash stands behind n steps -/
abbrev stp (m : Nat) (h : Int) (n : Nat) : SetTable.Probe := nth m (runAt m (SetTable.bits h % (m + 1)) (SetTable.bits h)) n
theorem stp_dummy (m : Nat) (h : Int) (n : Nat) : (stp m h n).dummy = none := by
  have go : ∀ (n : Nat) (p : SetTable.Probe), p.dummy = none → (nth m p n).dummy = none := fun n => by
    induction n with
    | zero => exact fun p z => z
    | succ n ih => exact fun p z => ih (adv m p) (by unfold adv; split <;> exact z)
  exact go n _ rfl
theorem stp_add (m : Nat) (h : Int) (c q : Nat) : nth m (stp m h c) q = stp m h (c + q) := (nth_add m c _ q).symm
theorem tk_search (R : SetTk P w s.heap a L es ep t) {x : Addr} {k : TKs} (hx : IsTk P w s.heap k x) (hu : A.units < cLine) {N : Nat} (hN : N < 10 * SetTable.turns t.mask)
    (free : way t.mask (hTk P w k) N ∉ t.place.toList) (full : ∀ c, c < N → way t.mask (hTk P w k) c ∈ t.place.toList) {Q : SetFound → Shared → Prop}
    (yes : k ∈ L.map (·.2) → Q (.there none) s) (no : k ∉ L.map (·.2) → Q (.free (way t.mask (hTk P w k) N) false) s) :
    ∀ (f c : Nat) (st : Option SetTable.Probe), st.getD (t.probeStart (hTk P w k)) = stp t.mask (hTk P w k) c → c ≤ N → N - c < f →
      (∀ (i : Nat) p, L[i]? = some p → p.2 = k → ∃ d, (c ≤ d ∧ d < N) ∧ t.place.toList[i]? = some (way t.mask (hTk P w k) d)) → wpAny (model P w) A (setSearchFrom a (.ref x) (hTk P w k) true f st) Q E s := by
  intro f
  induction f with
  | zero => exact fun c st _ _ z _ => absurd z (Nat.not_lt_zero _)
  | succ f ih =>
    intro c st est hc hf ahead
    obtain ⟨o, ho, _, hd⟩ := R.at_
    have odd : ¬ t.gaveWay = true := by unfold SetTable.gaveWay; rw [mask_odd R.tab.mok]; decide
    rw [setSearchFrom_succ]
    refine wpAny_bind (wpAny_setState_of ho hd R.fits ?_)
    dsimp only
    refine wp_if_neg odd ?_
    try refine wpAny_bind (wpAny_pure ?_)
    have j1 : ∀ q, (nth t.mask (stp t.mask (hTk P w k) c) q).j = way t.mask (hTk P w k) (c + q) := fun q => congrArg SetTable.Probe.j (stp_add _ _ c q)
    have hashes : ∀ (i : Nat) p, L[i]? = some p → (es[i]?.map (·.1)).getD 0 = hTk P w p.2 := fun i p e => by rw [rows_at R.rows e]; rfl
    have plan := go_spec t R.tab.ris R.tab.dm (fun i => (es[i]?.map (·.1)).getD 0) (hTk P w k) (10 * SetTable.turns t.mask) (N - c) _ (stp_dummy t.mask (hTk P w k) c) (by omega)
      (fun q hq => by rw [j1]; exact full (c + q) (by omega)) (by rw [j1, show c + (N - c) = N by omega]; exact free)
    rcases plan with ⟨q, i, hq, hi, hh, before, ep1⟩ | ⟨before, ep1⟩
    · have ep2 : t.probe (fun i => (es[i]?.map (·.1)).getD 0) (hTk P w k) (st.getD (t.probeStart (hTk P w k))) = some (.candidate (way t.mask (hTk P w k) (c + q)) i (stp t.mask (hTk P w k) (c + (q + 1)))) := by
        rw [est, ← j1, ← stp_add]
        exact ep1
      rw [ep2]
      dsimp only
      rw [j1] at hi
      obtain ⟨p, hp⟩ : ∃ p, L[i]? = some p := by
        have z1 := (List.getElem?_eq_some_iff.mp hi).1
        have z2 := R.tab.sz
        simp only [List.length_map, Array.length_toList] at z1 z2
        exact ⟨L[i]'(by omega), List.getElem?_eq_getElem _⟩
      have hm := List.mem_of_getElem? hp
      have live : t.slot (way t.mask (hTk P w k) (c + q)) = .live i := slot_live R.tab.ris hi
      have tail : wpAny (model P w) A (searchRest a (.ref x) (hTk P w k) true f es t (way t.mask (hTk P w k) (c + q)) i (stp t.mask (hTk P w k) (c + (q + 1)))) Q E s := by
        unfold searchRest
        rw [rows_at R.rows hp]
        dsimp only [rowTk]
        refine wpAny_bind (wpAny_holding (wpAny_eqBool_tuple hu (R.tup p hm) hx (wpAny_bind (wpAny_setState_of ho hd R.fits ?_))))
        dsimp only
        by_cases ek : p.2 = k
        · exact wp_if_pos (by simp [ek]) (wpAny_pure (yes (List.mem_map.mpr ⟨p, hm, ek⟩)))
        · refine wp_if_neg (by simp [ek]) ?_
          try refine wpAny_bind (wpAny_pure ?_)
          rw [sameMem]
          dsimp only
          simp only [if_true, live, rows_at R.rows hp, rowTk]
          refine wpAny_bind (wpAny_isSame_ref_self (wpAny_bind (wpAny_pure ?_)))
          simp only [if_true]
          refine wp_if_neg (by simp [ek]) (ih (c + (q + 1)) _ rfl (by omega) (by omega) fun i0 p0 e0 k0 => ?_)
          obtain ⟨d, ⟨d1, d2⟩, d3⟩ := ahead i0 p0 e0 k0
          refine ⟨d, ⟨?_, d2⟩, d3⟩
          by_cases lt : d < c + q
          · exact absurd ((hashes i0 p0 e0).trans (congrArg (hTk P w) k0)) (before (d - c) i0 (by omega) (by rw [j1, show c + (d - c) = d by omega]; exact d3))
          · by_cases eq : d = c + q
            · subst eq
              have l2 := slot_live R.tab.ris d3
              rw [live] at l2
              injection l2 with l2
              subst l2
              rw [hp] at e0
              cases e0
              exact absurd k0 ek
            · omega
      by_cases ld : t.led = true
      · refine wp_if_neg (by simp [ld]) ?_
        try refine wpAny_bind (wpAny_pure ?_)
        exact tail
      · refine wp_if_pos (by simp [ld]) (wpAny_bind (tk_seen hx (fun y hy => ?_) (wp_if_neg (by decide) ?_)))
        · obtain ⟨e, he, rfl⟩ := List.mem_map.mp hy
          have he2 : e ∈ es.toList := by
            have : e ∈ es ∧ e.1 = hTk P w k := by simpa using he
            simpa using this.1
          rw [R.rows] at he2
          obtain ⟨p2, hp2, rfl⟩ := List.mem_map.mp he2
          exact ⟨p2.2, p2.1, rfl, R.tup p2 hp2⟩
        · try refine wpAny_bind (wpAny_pure ?_)
          exact tail
    · have ep2 : t.probe (fun i => (es[i]?.map (·.1)).getD 0) (hTk P w k) (st.getD (t.probeStart (hTk P w k))) = some (.empty (way t.mask (hTk P w k) N) none) := by
        rw [est, show way t.mask (hTk P w k) N = (nth t.mask (stp t.mask (hTk P w k) c) (N - c)).j by rw [j1, show c + (N - c) = N by omega]]
        exact ep1
      rw [ep2]
      dsimp only
      refine wpAny_pure (no fun hm => ?_)
      obtain ⟨p0, h0, k0⟩ := List.mem_map.mp hm
      obtain ⟨i0, e0⟩ := List.getElem?_of_mem h0
      obtain ⟨d, ⟨d1, d2⟩, d3⟩ := ahead i0 p0 e0 k0
      exact before (d - c) i0 (by omega) (by rw [j1, show c + (d - c) = d by omega]; exact d3) ((hashes i0 p0 e0).trans (congrArg (hTk P w) k0))
theorem tk_find (R : SetTk P w s.heap a L es ep t) {x : Addr} {k : TKs} (hx : IsTk P w s.heap k x) (hu : A.units < cLine) {Q : SetFound → Shared → Prop} (yes : k ∈ L.map (·.2) → Q (.there none) s)
    (no : ∀ N, k ∉ L.map (·.2) → way t.mask (hTk P w k) N ∉ t.place.toList → (∀ c, c < N → way t.mask (hTk P w k) c ∈ t.place.toList) → Q (.free (way t.mask (hTk P w k) N) false) s) : wpAny (model P w) A (setSearch a (.ref x) (hTk P w k) true) Q E s := by
  have rm := R.room
  obtain ⟨N, n1, n2, n3⟩ := R.tab.first (by simp only [List.length_map]; omega) (hTk P w k)
  have big : N < 100000 := by
    have : 10 * SetTable.turns t.mask ≤ 1420 := by
      unfold SetTable.turns
      rcases R.tab.mok with e | e | e <;> omega
    omega
  unfold setSearch
  refine tk_search R hx hu n1 n2 n3 yes (fun z => no N z n2 n3) 100000 0 none rfl (Nat.zero_le _) (by omega) fun i p e ek => ?_
  have z1 : ((L.map (rowTk P w)).map (·.1))[i]? = some (hTk P w k) := by simp only [List.getElem?_map, e, Option.map_some, rowTk, ek]
  have z2 : i < t.place.toList.length := by
    have q1 := (List.getElem?_eq_some_iff.mp e).1
    have q2 := R.tab.sz
    simp only [List.length_map] at q2
    rw [Array.length_toList]
    omega
  obtain ⟨d, d1, d2⟩ := R.tab.before n2 z1 (List.getElem?_eq_getElem z2)
  exact ⟨d, ⟨Nat.zero_le _, d1⟩, by rw [List.getElem?_eq_getElem z2, d2]⟩
theorem tk_same {h h2 : Heap} {k : TKs} {b : Addr} {o : Obj} (hb : IsTk P w h k b) (ho : h.get? a = some o) (hd : o.data = .set es ep t) (sb : Heap.SameBut a h h2) : IsTk P w h2 k b := by
  obtain ⟨o2, its, n, e1, e2, e3, e4⟩ := hb
  refine ⟨o2, its, n, (sb.2 b fun z => ?_).trans e1, e2, e3, e4⟩
  subst z
  rw [ho] at e1
  cases e1
  rw [hd] at e3
  cases e3
theorem fm_all {α : Type} (L : List α) : (List.range L.length).filterMap (fun i => L[i]?) = L := by
  have e1 : (List.range L.length).map (fun i => L[i]?) = L.map some := by
    apply List.ext_getElem?
    intro i
    rw [List.getElem?_map, List.getElem?_map]
    by_cases h : i < L.length
    · simp [h]
    · simp [h]
  have e2 : (List.range L.length).filterMap (fun i => L[i]?) = ((List.range L.length).map (fun i => L[i]?)).filterMap id := by rw [List.filterMap_map]; rfl
  rw [e2, e1, List.filterMap_map]
  simp
theorem fm_rows {ord : List Nat} (h : es.toList = L.map (rowTk P w)) : ord.filterMap (fun i => es[i]?) = (ord.filterMap fun i => L[i]?).map (rowTk P w) := by
  rw [List.map_filterMap]
  congr 1
  funext i
  rw [← Array.getElem?_toList, h, List.getElem?_map]
theorem tk_relay {o : Obj} (ho : s.heap.get? a = some o) (hex : o.ExactSet) (hd : o.data = .set es ep t) (hr : es.toList = L.map (rowTk P w)) (hsz : t.place.size = es.size) (hdm : t.dummies = #[]) (hfl : es.size ≤ t.mask)
    (nd : (L.map (·.2)).Nodup) (tup : ∀ p ∈ L, IsTk P w s.heap p.2 p.1) (few : L.length < 64) {wanted M : Nat} (hM : MaskOk M) (hw : SetTable.sizeAbove wanted - 1 = M) (hw2 : SetTable.sizeAbove wanted ≤ 128) (rm : L.length * 5 < M * 3) {Q : Unit → Shared → Prop}
    (fin : ∀ h2 L2 es2 ep2 t2, Heap.SameBut a s.heap h2 → SetTk P w h2 a L2 es2 ep2 t2 → L2.Perm L → Q () { s with heap := h2 }) : wpAny (model P w) A (setRelay a wanted) Q E s := by
  have ln := rows_size hr
  obtain ⟨t2, ord, e, pm, tb, em, _, _, ed⟩ := relaid_ok t (hs := es.map (·.1)) (wanted := wanted) hw hM (by rw [Array.size_map, ln]; omega)
  rw [Array.size_map, ln] at pm
  obtain ⟨L2, hL2⟩ : ∃ L2, L2 = ord.toList.filterMap fun i => L[i]? := ⟨_, rfl⟩
  have pm2 : L2.Perm L := by
    have := pm.filterMap fun i => L[i]?
    rw [fm_all] at this
    rw [hL2]; exact this
  have er : (ord.filterMap (es[·]?)).toList = L2.map (rowTk P w) := by
    rw [Array.toList_filterMap, hL2]; exact fm_rows hr
  have sz2 : (ord.filterMap (es[·]?)).size = es.size := by rw [rows_size er, ln, pm2.length_eq]
  have eh : (ord.toList.map fun i => (es.map (·.1)).getD i 0) = (L2.map (rowTk P w)).map (·.1) := by
    rw [← er, Array.toList_filterMap]
    have lt : ∀ i ∈ ord.toList, i < es.size := fun i hi => by rw [ln]; exact List.mem_range.mp (pm.mem_iff.mp hi)
    generalize ord.toList = os at lt
    induction os with
    | nil => rfl
    | cons i os ih =>
      have hi := lt i (.head _)
      have ei : es[i]? = some es[i] := by simp [hi]
      rw [List.map_cons, List.filterMap_cons_some ei, List.map_cons, ih fun j hj => lt j (.tail _ hj)]
      congr 1
      simp [Array.getD_eq_getD_getElem?, hi]
  rw [eh] at tb
  rw [setRelay_eq]
  refine wpAny_bind (wpAny_setState_of ho hd (fits_of hsz hdm hfl) ?_)
  dsimp only
  refine wp_if_neg (by rw [sizeLine_eq]; omega) ?_
  try refine wpAny_bind (wpAny_pure ?_)
  rw [e]
  dsimp only
  refine wpAny_bind (wp_if_neg (by rw [sz2]; simp) ?_)
  try refine wpAny_bind (wpAny_pure ?_)
  refine wpAny_pure ?_
  dsimp only
  refine wpAny_storeSet_of ho hd ?_ (by rw [sz2, ln, sizeLine_eq]; omega)
  have sb : Heap.SameBut a s.heap (s.heap.update a (Obj.putSet (ord.filterMap (es[·]?)) t2)) := Heap.SameBut.update ..
  exact fin _ L2 _ (ep + 1) t2 sb ⟨⟨_, store_at ho hd, ⟨hex.1, hex.2.1, hex.2.2⟩, rfl⟩, er, tb, (pm2.map (·.2)).nodup_iff.mpr nd, fun p hp => tk_same (tup p (pm2.mem_iff.mp hp)) ho hd sb, by rw [pm2.length_eq, em]; exact rm, by rw [pm2.length_eq]; exact few⟩ pm2
theorem tk_add (R : SetTk P w s.heap a L es ep t) {x : Addr} {k : TKs} (hx : IsTk P w s.heap k x) (hu : A.units < cLine) (few : L.length + 1 < 64) {Q : Bool → Shared → Prop}
    (fin : ∀ b h2 L2 es2 ep2 t2, Heap.SameBut a s.heap h2 → SetTk P w h2 a L2 es2 ep2 t2 → ((k ∈ L.map (·.2) ∧ L2 = L) ∨ (k ∉ L.map (·.2) ∧ L2.Perm ((x, k) :: L))) → Q b { s with heap := h2 }) :
    wpAny (model P w) A (setAddHashed a (.ref x) (hTk P w k)) Q E s := by
  obtain ⟨o, ho, hex, hd⟩ := R.at_
  have ln := rows_size R.rows
  have rm := R.room
  unfold setAddHashed
  refine wpAny_holding ?_
  rw [show (100000 : Nat) = 99999 + 1 from rfl, setAddHashedIn_succ]
  refine wpAny_bind (wpAny_setState_of ho hd R.fits ?_)
  dsimp only
  refine wp_if_neg (by simp [byScan, Value.scannable]) ?_
  try refine wpAny_bind (wpAny_pure ?_)
  refine wpAny_bind (tk_find R hx hu (fun hm => ?_) fun N hm n2 n3 => ?_)
  · dsimp only
    exact wpAny_pure (fin false s.heap L es ep t (Heap.SameBut.refl a s.heap) R (.inl ⟨hm, rfl⟩))
  · dsimp only
    refine wpAny_bind (wpAny_setState_of ho hd R.fits ?_)
    dsimp only
    have put := R.tab.put n2 n3
    generalize hpt : t.put (way t.mask (hTk P w k) N) = pt at put ⊢
    obtain ⟨t1, p⟩ := pt
    dsimp only at put ⊢
    obtain ⟨g1, g2, g3, g4, g5, g6, g7, g8, g9⟩ := put
    subst g1
    generalize hpp : SetTable.below t.place (way t.mask (hTk P w k) N) = p at g2 g3 ⊢
    -- from the hash's answer on
    have rest : ∀ t1' : SetTable, t1'.place = t1.place → t1'.dummies = t1.dummies → t1'.mask = t1.mask → t1'.fill = t1.fill → wpAny (model P w) A (do
        storeSet a (SetTable.insertAt es p (hTk P w k, Value.ref x)) t1'
        if !false && t1'.tooFull then setRelay a (SetTable.grown (es.size + 1))
        return true) Q E s := by
      intro t1' w1 w2 w3 w4
      obtain ⟨L1, hL1⟩ : ∃ L1, L1 = L.take p ++ (x, k) :: L.drop p := ⟨_, rfl⟩
      have pm : L1.Perm ((x, k) :: L) := by rw [hL1]; exact put_perm L p (x, k)
      have er : (SetTable.insertAt es p (hTk P w k, Value.ref x)).toList = L1.map (rowTk P w) := by
        rw [SetTable.toList_insertAt, R.rows, hL1, List.map_append, List.map_cons, List.map_take, List.map_drop]; rfl
      have tb : TabOk t1' ((L1.map (rowTk P w)).map (·.1)) := by
        have e : (L1.map (rowTk P w)).map (·.1) = ((L.map (rowTk P w)).map (·.1)).take p ++ hTk P w k :: ((L.map (rowTk P w)).map (·.1)).drop p := by
          rw [hL1, List.map_append, List.map_cons, List.map_append, List.map_cons, List.map_take, List.map_drop, List.map_take, List.map_drop]; rfl
        rw [e]
        exact ⟨by rw [w1]; exact g3.ris, by rw [w2]; exact g3.dm, by rw [w1]; exact g3.sz, by rw [w3]; exact g3.mok, by rw [w1, w3]; exact g3.bd, by rw [w1, w3]; exact g3.reach⟩
      have l1 := pm.length_eq
      rw [List.length_cons] at l1
      have nd1 : (L1.map (·.2)).Nodup := (pm.map (·.2)).nodup_iff.mpr (by rw [List.map_cons]; exact List.nodup_cons.mpr ⟨hm, R.nd⟩)
      have sz1 := rows_size er
      generalize SetTable.insertAt es p (hTk P w k, Value.ref x) = es1 at er sz1 ⊢
      refine wpAny_bind (wpAny_storeSet_of ho hd ?_ (by rw [sz1, l1, sizeLine_eq]; omega))
      have sb : Heap.SameBut a s.heap (s.heap.update a (Obj.putSet es1 t1')) := Heap.SameBut.update ..
      have ho1 := store_at (es' := es1) (t' := t1') ho hd
      generalize s.heap.update a (Obj.putSet es1 t1') = h1 at sb ho1 ⊢
      have tup1 : ∀ q ∈ L1, IsTk P w h1 q.2 q.1 := fun q hq => by
        rcases List.mem_cons.mp (pm.mem_iff.mp hq) with e | z
        · rw [e]; exact tk_same hx ho hd sb
        · exact tk_same (R.tup q z) ho hd sb
      have fl : t1'.fill = L.length + 1 := by rw [w4, g9]; simp only [List.length_map]
      by_cases hf : t1'.tooFull = true
      · have big : (L.length + 1) * 5 ≥ t1'.mask * 3 := by
          have q := hf
          unfold SetTable.tooFull at q
          rw [decide_eq_true_eq, fl] at q
          exact q
        have two : (t.mask = 7 ∧ L.length = 4) ∨ (t.mask = 31 ∧ L.length = 18) := by
          rw [w3, g4] at big
          rcases R.tab.mok with e | e | e
          · exact .inl ⟨e, by rw [e] at big rm; omega⟩
          · exact .inr ⟨e, by rw [e] at big rm; omega⟩
          · exfalso; rw [e] at big; omega
        have ps : t1'.place.size = es1.size := by
          have q := tb.sz
          simp only [List.length_map] at q
          omega
        have go : ∀ M, MaskOk M → SetTable.sizeAbove (SetTable.grown (L.length + 1)) - 1 = M → SetTable.sizeAbove (SetTable.grown (L.length + 1)) ≤ 128 → (L.length + 1) * 5 < M * 3 →
            wpAny (model P w) A (setRelay a (SetTable.grown (L.length + 1))) (fun _ z => wpAny (model P w) A (pure true) Q E z) E { s with heap := h1 } := fun M m1 m2 m3 m4 =>
          tk_relay (s := { s with heap := h1 }) ho1 ⟨hex.1, hex.2.1, hex.2.2⟩ rfl er ps tb.dm (by rw [sz1, l1, w3, g4]; rcases two with ⟨e, e2⟩ | ⟨e, e2⟩ <;> omega) nd1 tup1 (by omega) m1 m2 m3 (by rw [l1]; exact m4)
            fun h2 L2 es2 ep2 t2 sb2 R2 pm2 => wpAny_pure (fin true h2 L2 es2 ep2 t2 (sb.trans sb2) R2 (.inr ⟨hm, pm2.trans pm⟩))
        have go2 : wpAny (model P w) A (setRelay a (SetTable.grown (L.length + 1))) (fun _ z => wpAny (model P w) A (pure true) Q E z) E { s with heap := h1 } := by
          rcases two with ⟨_, e2⟩ | ⟨_, e2⟩
          · exact go 31 (.inr (.inl rfl)) (by rw [e2, size_20]) (by rw [e2, size_20]; decide) (by omega)
          · exact go 127 (.inr (.inr rfl)) (by rw [e2, size_76]) (by rw [e2, size_76]; decide) (by omega)
        rw [ln]
        first
          | exact wpAny_bind (wp_if_pos (by simp [hf]) go2)
          | exact wp_if_pos (by simp [hf]) (wpAny_bind go2)
      · have fin2 : wpAny (model P w) A (pure true) Q E { s with heap := h1 } := by
          refine wpAny_pure (fin true h1 L1 es1 (ep + 1) t1' sb ⟨⟨_, ho1, ⟨hex.1, hex.2.1, hex.2.2⟩, rfl⟩, er, tb, nd1, tup1, ?_, by omega⟩ (.inr ⟨hm, pm⟩))
          have q := hf
          unfold SetTable.tooFull at q
          rw [decide_eq_true_eq, fl] at q
          rw [l1]
          omega
        first
          | exact wp_if_neg (by simp [hf]) fin2
          | exact wpAny_bind (wp_if_neg (by simp [hf]) (wpAny_pure fin2))
    have both : ∀ r : Bool, wpAny (model P w) A (do
        storeSet a (SetTable.insertAt es p (hTk P w k, Value.ref x)) (if r = true then t1 else { t1 with plain := false })
        if !false && (if r = true then t1 else { t1 with plain := false }).tooFull then setRelay a (SetTable.grown (es.size + 1))
        return true) Q E s := fun r => by
      cases r with
      | true => exact rest t1 rfl rfl rfl rfl
      | false => exact rest { t1 with plain := false } rfl rfl rfl rfl
    by_cases pl : t1.plain = true
    · first
        | exact wpAny_bind (wp_if_pos pl (tk_hashBy hx both))
        | exact wp_if_pos pl (wpAny_bind (tk_hashBy hx both))
    · first
        | exact wpAny_bind (wp_if_neg pl (wpAny_pure (both true)))
        | exact wp_if_neg pl (wpAny_bind (wpAny_pure (both true)))
end
/-! ### set(t) -/
/-- what the set has of the first i items -/
structure Has (ks : TkL) (i : Nat) (L : TkL) : Prop where
  sub : ∀ p ∈ L, p ∈ ks.take i
  all : ∀ p ∈ ks.take i, p.2 ∈ L.map (·.2)
  le : L.length ≤ i
theorem Has.next {ks L L2 : TkL} {i : Nat} {x : Addr × TKs} (g : Has ks i L) (h : ks[i]? = some x) (c : (x.2 ∈ L.map (·.2) ∧ L2 = L) ∨ (x.2 ∉ L.map (·.2) ∧ L2.Perm (x :: L))) : Has ks (i + 1) L2 := by
  have et : ks.take (i + 1) = ks.take i ++ [x] := by rw [List.take_add_one, h]; rfl
  rcases c with ⟨hm, rfl⟩ | ⟨_, pm⟩
  · refine ⟨fun p hp => by rw [et]; exact List.mem_append_left _ (g.sub p hp), fun p hp => ?_, Nat.le_succ_of_le g.le⟩
    rw [et] at hp
    rcases List.mem_append.mp hp with z | z
    · exact g.all p z
    · rw [List.mem_singleton.mp z]; exact hm
  · refine ⟨fun p hp => ?_, fun p hp => ?_, by rw [pm.length_eq, List.length_cons]; exact Nat.succ_le_succ g.le⟩
    · rw [et]
      rcases List.mem_cons.mp (pm.mem_iff.mp hp) with e | z
      · rw [e]; exact List.mem_append_right _ (List.mem_singleton.mpr rfl)
      · exact List.mem_append_left _ (g.sub p z)
    · rw [(pm.map (·.2)).mem_iff, List.map_cons]
      rw [et] at hp
      rcases List.mem_append.mp hp with z | z
      · exact .tail _ (g.all p z)
      · rw [List.mem_singleton.mp z]; exact .head _
section
variable {P : Program} {w : World} {A : Around} {E : Value → Shared → Prop} {s : Shared}
theorem tk_keep {h h2 : Heap} {k : TKs} {b : Addr} (x : IsTk P w h k b) (kp : ∀ c o, h.get? c = some o → h2.get? c = some o) : IsTk P w h2 k b :=
  let ⟨o, its, n, e, r⟩ := x
  ⟨o, its, n, kp b o e, r⟩
theorem SetTk.keep {h h2 : Heap} {a : Addr} {L : TkL} {es : Array (Int × Value)} {ep : Nat} {t : SetTable} (R : SetTk P w h a L es ep t) (ha : ∀ o, h.get? a = some o → h2.get? a = some o) (ht : ∀ p ∈ L, IsTk P w h2 p.2 p.1) : SetTk P w h2 a L es ep t :=
  let ⟨o, e, r⟩ := R.at_
  ⟨⟨o, ha o e, r⟩, R.rows, R.tab, R.nd, ht, R.room, R.few⟩
theorem tk_fresh {h : Heap} {a : Addr} (e : h.get? a = some (freshSet w)) : SetTk P w h a [] #[] 0 (.fresh 0 0 (!w.params.followText "set-order")) where
  at_ := ⟨_, e, ⟨rfl, rfl, rfl⟩, rfl⟩
  rows := rfl
  tab := ⟨.nil, rfl, rfl, .inl rfl, fun x z => (by cases z), fun i h j z => (by simp at z)⟩
  nd := List.nodup_nil
  tup := fun p z => (by cases z)
  room := by show 0 * 5 < 7 * 3; decide
  few := by show 0 < 64; decide
theorem loopTk {I : Addr} {fp wr : List Addr} {G : Array GenState → Array GenState → Prop} {n : Nat} {Pv : Nat → Value → Prop} {St : Nat → Shared → Prop} {R : Result → Shared → Prop}
    (Wk : WalksS P w A.in1 I fp wr G n Pv St) (D : Addr) (nD : D ∉ fp) (ks : TkL) (hn : n = ks.length) (few : ks.length < 64) (hv : ∀ i v, Pv i v → ∃ p, ks[i]? = some p ∧ v = .ref p.1) (h0 : Heap) (hk : ∀ p ∈ ks, IsTk P w h0 p.2 p.1) (d0 : h0.get? D = none)
    (w0 : ∀ b ∈ wr, h0.get? b = none) (hu : A.in1.units < cLine) :
    ∀ (left i : Nat) (z : Shared), n - i = left → i ≤ n → St i z → (∀ b o, h0.get? b = some o → z.heap.get? b = some o) → (∃ L es ep t, SetTk P w z.heap D L es ep t ∧ Has ks i L) →
      (∀ z2 L es ep t, Moved (D :: wr) G z z2 → SetTk P w z2.heap D L es ep t → Has ks n L → (∀ b o, h0.get? b = some o → z2.heap.get? b = some o) → R (.ok (.ret .none)) z2) → codeAny (model P w) A (.builtin "set.update.loop" ⟨[.ref D, .ref I], []⟩) R z := by
  have nW : D ∉ wr := fun q => nD (Wk.sub _ q)
  have more : ∀ b ∈ wr, b ∈ D :: wr := fun b q => .tail _ q
  have mv0 : ∀ {z z2 : Shared}, Moved wr G z z2 → (∀ b o, h0.get? b = some o → z.heap.get? b = some o) → ∀ b o, h0.get? b = some o → z2.heap.get? b = some o := fun mv kp b o e => mv.heap b o (fun q => by rw [w0 b q] at e; cases e) (kp b o e)
  intro left
  induction left with
  | zero =>
    intro i z e1 e2 st kp ⟨L, es, ep, t, S, g⟩ fin
    obtain rfl : i = n := by omega
    refine codeAny_builtin PyProof.Rows.F.entry_set_update_loop ?_
    rw [Around.under_plainId PyProof.Rows.F.plain_set_update_loop _]
    show wpAny _ A.in1 (pyNext (.ref I) >>= _) _ _ z
    refine wpAny_bind (Wk.done z _ _ st fun z2 mv => ?_)
    show wpAny _ A.in1 (ret Value.none) _ _ z2
    have kp2 := mv0 mv kp
    exact wpAny_pure (fin z2 L es ep t (mv.mono more) (S.keep (fun o q => mv.heap D o nW q) fun p hp => tk_keep (hk p (List.mem_of_mem_take (g.sub p hp))) kp2) g kp2)
  | succ left ih =>
    intro i z e1 e2 st kp ⟨L, es, ep, t, S, g⟩ fin
    have lt : i < n := by omega
    refine codeAny_builtin PyProof.Rows.F.entry_set_update_loop ?_
    rw [Around.under_plainId PyProof.Rows.F.plain_set_update_loop _]
    show wpAny _ A.in1 (pyNext (.ref I) >>= _) _ _ z
    refine wpAny_bind (Wk.item i z _ _ lt st fun v z2 pv st2 mv => ?_)
    obtain ⟨p, hp, rfl⟩ := hv i v pv
    have kp2 := mv0 mv kp
    have S2 : SetTk P w z2.heap D L es ep t := S.keep (fun o q => mv.heap D o nW q) fun q hq => tk_keep (hk q (List.mem_of_mem_take (g.sub q hq))) kp2
    have hx : IsTk P w z2.heap p.2 p.1 := tk_keep (hk p (List.mem_of_getElem? hp)) kp2
    show wpAny _ A.in1 (holding [Value.ref p.1] (setAdd D (.ref p.1)) >>= _) _ _ z2
    refine wpAny_bind (wpAny_holding ?_)
    unfold setAdd
    refine wpAny_holding (wpAny_bind (wpAny_pyHash_tuple hu hx ?_))
    refine tk_add (s := { z2 with toks := z2.toks + (p.2.length + 1) }) S2 hx hu (by have := g.le; omega) fun b h3 L3 es3 ep3 t3 sb S3 c => ?_
    have kp3 : ∀ b o, h0.get? b = some o → h3.get? b = some o := fun b o e => (sb.2 b (fun q => by rw [q, d0] at e; cases e)).trans (kp2 b o e)
    refine wpAny_pure ⟨plainId_quiet PyProof.Rows.F.plain_set_update_loop _, ih (i + 1) _ (by omega) lt (Wk.frame _ z2 _ _ st2 (Nat.le_add_right _ _) fun b hb o q => ?_) kp3 ⟨L3, es3, ep3, t3, S3, g.next hp c⟩ fun z4 L4 es4 ep4 t4 mv4 S4 g4 kp4 => ?_⟩
    · rw [sb.2 b (fun q : b = D => nD (q ▸ hb))]; exact q
    · refine fin z4 L4 es4 ep4 t4 (Moved.trans Wk.gtrans ((mv.mono more).then_heap (Nat.le_add_right _ _) fun b o hb q => ?_) mv4) S4 g4 kp4
      rw [sb.2 b (fun q : b = D => hb (by rw [q]; exact .head _))]; exact q
set_option maxHeartbeats 3200000 in
theorem call_setTk {l : Addr} {items : Array Value} (ks : TkL) {Q : Value → Shared → Prop} (hh : A.handled = none) (hl : s.heap.IsTuple l items) (hit : items.toList = ks.map fun p => Value.ref p.1) (hk : ∀ p ∈ ks, IsTk P w s.heap p.2 p.1) (few : ks.length < 64) (hu : A.units + 3 < cLine)
    (fin : ∀ (h2 : Heap) (tk : Nat) L es ep t, SetTk P w h2 s.heap.objs.size L es ep t → Has ks ks.length L → (∀ b o, s.heap.get? b = some o → h2.get? b = some o) → Q (.ref s.heap.objs.size) { s with heap := h2, toks := tk }) :
    wpAny (model P w) A (call (.type "set") [.ref l]) Q E s := by
  have hisz : items.size = ks.length := by rw [← Array.length_toList, hit, List.length_map]
  obtain ⟨c, tl, hmro⟩ := PySem.F.called_set.mro
  have hmade := PySem.F.called_set.made
  have hsub := PySem.F.called_set.sub
  refine wpAny_call (codeAny_of_tree ?_)
  show wpAny _ _ (callAny (.type "set") _) _ _ _
  refine wpAny_pure ⟨Code.quiet_builtin _ (by decide +kernel), codeAny_builtin PySem.F.entry_type_call ?_⟩
  rw [Around.under_plain (weight_type_call_type "set" [.ref l] []) rfl]
  have h1 := PySem.F.called_set.notType
  have h2 := PySem.F.called_set.canCreate
  have hct := PySem.F.typeCall_set_1 (.ref l)
  repeat (any_goals (first | assumption | wp_step))
  refine codeAny_mono (code_set_led1 (.ref l) (E := E) (Q₁ := fun obj z => obj = .ref s.heap.objs.size ∧ z = { s with heap := s.heap.push (freshSet w) }) ⟨rfl, rfl⟩) fun r z hr => ?_
  cases r with
  | error e => exact hr
  | ok fl =>
    cases fl with
    | next => exact hr.elim
    | brk => exact hr.elim
    | cont => exact hr.elim
    | ret obj =>
      obtain ⟨rfl, rfl⟩ := hr
      have hS : (s.heap.push (freshSet w)).get? s.heap.objs.size = some (freshSet w) := Heap.get?_push_size _ rfl
      have hT : Shared.TypeIs { s with heap := s.heap.push (freshSet w) } (.ref s.heap.objs.size) "set" := ⟨_, hS, rfl⟩
      have hli := PySem.F.called_set.init.lookup
      have hbi := PySem.F.called_set.init.bind (.ref s.heap.objs.size)
      repeat (any_goals (first | assumption | wp_step))
      refine codeAny_mono (codeAny_call_builtin (R := wants (fun r z => r = .none ∧ ∃ h2 tk L es ep t, z = { s with heap := h2, toks := tk } ∧ SetTk P w h2 s.heap.objs.size L es ep t ∧ Has ks ks.length L ∧ ∀ b o, s.heap.get? b = some o → h2.get? b = some o) E)
        PySem.F.called_set.init.plain PySem.F.entry_set_init (check_set_init_1 hT ?_)) fun r2 z2 hr2 => ?_
      · obtain ⟨⟨oc, od, odat, osl⟩, hol, hcl, nl, hdl⟩ := hl
        simp only at hcl hdl
        subst hcl
        subst hdl
        have hol' : (s.heap.push (freshSet w)).get? l = some { cls := .type "tuple", dict := od, data := .seq items nl, slots := osl } := Heap.get?_push_of_some _ hol
        have hsls := PySem.F.sub_tuple_set
        have hslf := PySem.F.sub_tuple_frozenset
        have hne : (Value.type "tuple" == Value.type "dict") = false := by decide
        have hl1 : (s.heap.push (freshSet w)).IsTuple l items := ⟨_, hol', rfl, nl, rfl⟩
        unfold Builtin.«set.__init__» noKeywords Builtin.Frozenset.updateFrom
        generalize hPI : pyIter = PI
        wp_walk
        subst hPI
        refine wpAny_pyIter_tuple hl1 (wpAny_bind (wpAny_runValue ?_))
        have lS : l < s.heap.objs.size := Heap.lt_size hol
        have hh3 : A.in1.in1.in1.handled = none := by simp [hh]
        have neI : l ≠ (s.heap.push (freshSet w)).objs.size := by
          rw [Heap.size_push]
          exact Nat.ne_of_lt (Nat.lt_succ_of_lt lS)
        have nSf : s.heap.objs.size ∉ [(s.heap.push (freshSet w)).objs.size, l] := by
          rw [Heap.size_push]
          simp only [List.mem_cons, List.not_mem_nil, or_false, not_or]
          exact ⟨Nat.ne_of_lt (Nat.lt_succ_self _), Nat.ne_of_gt lS⟩
        have none_of : ∀ b, s.heap.objs.size ≤ b → s.heap.get? b = none := fun b hb => by
          cases q : s.heap.get? b with
          | none => rfl
          | some o => exact absurd (Nat.lt_of_lt_of_le (Heap.lt_size q) hb) (Nat.lt_irrefl _)
        refine loopTk ((Walks.tuple hh3 _ l neI items).toS) s.heap.objs.size nSf ks hisz few (fun i v q => ?_) s.heap hk (none_of _ (Nat.le_refl _)) (fun b hb => none_of b (by rw [List.mem_singleton.mp hb, Heap.size_push]; exact Nat.le_succ _)) hu items.size 0 _ (by omega) (Nat.zero_le _)
          ⟨⟨_, Heap.get?_push_size _ rfl, rfl, rfl⟩, hl1.push _⟩ (fun b o q => Heap.get?_push_of_some _ (Heap.get?_push_of_some _ q)) ⟨[], #[], 0, _, tk_fresh (Heap.get?_push_of_some _ hS), ⟨fun p z => (by cases z), fun p z => (by simp at z), Nat.le_refl _⟩⟩ ?_
        · have q2 : items.toList[i]? = some v := by rw [Array.getElem?_toList]; exact q
          rw [hit, List.getElem?_map] at q2
          cases hq : ks[i]? with
          | none => rw [hq] at q2; cases q2
          | some p => rw [hq] at q2; exact ⟨p, rfl, (Option.some.inj q2).symm⟩
        · intro z4 L es ep t mv S4 g4 kp
          obtain ⟨h4, g2, d4, tk4, os4⟩ := z4
          have eg : g2 = s.gens := mv.gens
          have ed : d4 = s.drawn := mv.drawn
          have eo : os4 = s.os := mv.os
          subst eg; subst ed; subst eo
          refine wpAny_pure ?_
          show wpAny _ _ (ret Value.none) _ _ _
          exact wpAny_pure ⟨rfl, h4, tk4, L, es, ep, t, rfl, S4, hisz ▸ g4, kp⟩
      · cases r2 with
        | error e => exact hr2
        | ok fl2 =>
          cases fl2 with
          | next => exact hr2.elim
          | brk => exact hr2.elim
          | cont => exact hr2.elim
          | ret r =>
            obtain ⟨rfl, h4, tk, L, es, ep, t, rfl, S4, g4, kp⟩ := hr2
            repeat (any_goals (first | assumption | wp_step))
            exact fin _ _ _ _ _ _ S4 g4 kp
end
end W3
end

section
/-! WZD: len(set(t)), t a tuple of tuples of keys. -/
namespace W3
open PySem PySem.Spec PyProof.Rows
open L2
instance decMemTk (k : TKs) (l : List TKs) : Decidable (k ∈ l) := decidable_of_iff (l.any (fun j => decide (j = k)) = true) (by simp [List.any_eq_true])
/-- each once -/
def uqT : List TKs → List TKs
  | [] => []
  | k :: ks => if k ∈ ks then uqT ks else k :: uqT ks
theorem uqT_mem (k : TKs) : ∀ ks, k ∈ uqT ks ↔ k ∈ ks
  | [] => by simp [uqT]
  | j :: ks => by
    unfold uqT
    split
    · rename_i h
      rw [uqT_mem k ks, List.mem_cons]
      exact ⟨.inr, fun z => z.elim (fun e => e ▸ h) id⟩
    · rw [List.mem_cons, List.mem_cons, uqT_mem k ks]
theorem uqT_nd : ∀ ks, (uqT ks).Nodup
  | [] => List.nodup_nil
  | j :: ks => by
    unfold uqT
    split
    · exact uqT_nd ks
    · rename_i h
      exact List.nodup_cons.mpr ⟨fun z => h ((uqT_mem j ks).mp z), uqT_nd ks⟩
theorem uqT_le : ∀ ks, (uqT ks).length ≤ ks.length
  | [] => Nat.le_refl _
  | j :: ks => by
    have := uqT_le ks
    unfold uqT
    split
    · rw [List.length_cons]; omega
    · rw [List.length_cons, List.length_cons]; omega
theorem uqT_len (ks : List TKs) : (uqT ks).length = ks.length ↔ ks.Nodup := by
  induction ks with
  | nil => simp [uqT]
  | cons j ks ih =>
    have := uqT_le ks
    unfold uqT
    rw [List.nodup_cons]
    split
    · rename_i h
      rw [List.length_cons]
      exact ⟨fun z => by omega, fun z => absurd h z.1⟩
    · rename_i h
      rw [List.length_cons, List.length_cons, ← ih]
      exact ⟨fun z => ⟨h, by omega⟩, fun z => by omega⟩
theorem has_len {ks L : TkL} (g : Has ks ks.length L) (nd : (L.map (·.2)).Nodup) : L.length = (uqT (ks.map (·.2))).length := by
  have e : L.length = (L.map (·.2)).length := by simp
  rw [e]
  apply Nat.le_antisymm
  · refine List.Nodup.length_le_of_subset nd fun k hk => ?_
    obtain ⟨p, hp, rfl⟩ := List.mem_map.mp hk
    exact (uqT_mem _ _).mpr (List.mem_map.mpr ⟨p, List.mem_of_mem_take (g.sub p hp), rfl⟩)
  · refine List.Nodup.length_le_of_subset (uqT_nd _) fun k hk => ?_
    obtain ⟨p, hp, rfl⟩ := List.mem_map.mp ((uqT_mem _ _).mp hk)
    exact g.all p (by rw [List.take_length]; exact hp)
/-- a set of n things -/
def SetN (a : Addr) (n : Nat) : HO := .ext fun h => ∃ o es ep t, h.get? a = some o ∧ o.ExactSet ∧ o.data = .set es ep t ∧ t.fits es.size = true ∧ es.size = n ∧ n < 64
section
variable {X : Cx} {P : Pq} {W : WX} {a : Expr} {sa : SE} {pos p p2 q2 : Pos}
theorem cr_lenN : CallR X (.builtin "len") (fun xs H Q => ∃ D n, xs = [.ref D] ∧ H D = some (SetN D n) ∧ Q (.int n) H) := by
  intro pins s σ H xs us Q I ru hq
  obtain ⟨D, n, rfl, hD, q⟩ := hq
  obtain ⟨u, rfl, r1⟩ := vals1 ru
  obtain rfl : _ = Value.ref D := r1
  obtain ⟨⟨ob, es, ep, t, ho, hex, hd, hf, hn, hb⟩, _⟩ := I.hok D _ hD
  have h63 : es.size < 2 ^ 63 := Nat.lt_trans (by omega : es.size < 64) (by decide)
  exact call_len_set ho hex hd hf (by exact_mod_cast h63) ⟨.int n, H, I.tok _, ⟨_, by rw [hn]⟩, q⟩
theorem cr_setN (hc : X.calm = true) (hu : X.A.units + 65 < cLine) : CallR X (.type "set") (fun xs H Q => ∃ (l : Addr) (ks : TkL), xs = [.ref l] ∧ SqT X.K H l (ks.map fun p => V.ref p.1) ∧ (∀ p ∈ ks, SqT X.K H p.1 (p.2.map kV)) ∧ ks.length < 64 ∧
    ∀ D, H D = none → Q (.ref D) (upd H D (SetN D (uqT (ks.map (·.2))).length))) := by
  intro pins s σ H xs us Q I ru hq
  obtain ⟨l, ks, rfl, hl, hks, few, q⟩ := hq
  obtain ⟨u, rfl, r1⟩ := vals1 ru
  obtain rfl : _ = Value.ref l := r1
  obtain ⟨its, rv, ht, _⟩ := I.tuple hl
  have refs : ∀ (ks : TkL) (vs : List Value), Vals (ks.map fun p => V.ref p.1) vs → vs = ks.map fun p => Value.ref p.1 := fun ks => by
    induction ks with
    | nil => intro vs r; cases r; rfl
    | cons k ks ih =>
      intro vs r
      cases r with
      | cons r rr => cases r; rw [ih _ rr]; rfl
  have items : ∀ (k : TKs) (vs : List Value), Vals (k.map kV) vs → ItemsAre (mixKind X.prog X.w) k vs := fun k => by
    induction k with
    | nil => intro vs r; cases r; exact .nil
    | cons k ks ih =>
      intro vs r
      cases r with
      | cons r rr => exact .cons (kV_is r) (ih _ rr)
  have hk : ∀ p ∈ ks, IsTk X.prog X.w s.heap p.2 p.1 := fun p hp => by
    obtain ⟨its2, r2, ⟨o, e1, e2, n, e3⟩, _⟩ := I.tuple (hks p hp)
    exact ⟨o, its2.toArray, n, e1, e2, e3, by simpa using items _ _ r2⟩
  refine call_setTk ks (I.ok.hd hc) ht (by simpa using refs ks its rv) hk few (by omega) fun h2 tk L es ep t S g kp => ?_
  have en := has_len g S.nd
  have sz := rows_size S.rows
  have few2 := S.few
  obtain ⟨o, e1, e2, e3⟩ := S.at_
  refine ⟨.ref s.heap.objs.size, _, I.laid (t' := tk) (o := SetN s.heap.objs.size (uqT (ks.map (·.2))).length) kp (Nat.le_refl _) ⟨⟨o, es, ep, t, e1, e2, e3, SetTk.fits (s := { s with heap := h2 }) S, by omega, by omega⟩, ⟨o, e1⟩, ?_⟩, rfl, q _ (I.hok.fresh (Nat.le_refl _))⟩
  intro h1 h2 ⟨o, es, ep, t, e1, r⟩ k
  exact ⟨o, es, ep, t, k o e1, r⟩
def tkT : T → Option TKs | .tup us => keysT us | _ => none
/-- len(set(x)), x a tuple of tuples of keys -/
def oLenSetP (x : T) (h : Hh) : Res T := match x with
  | .tup ts => (match optL tkT ts with | some ks => if ks.length < 64 then .ok (.int (uqT ks).length) h else .stk | none => .stk)
  | _ => .stk
theorem nx_olensetP : NoX1 oLenSetP := fun x h c fs h' e => by unfold oLenSetP at e; (repeat' split at e) <;> cases e
theorem tks_of {m : Mp} {H : Hp} : ∀ {ts : List T} {vs : List V} {ks : List TKs}, RTs X.K X.mg m H ts vs → optL tkT ts = some ks → ∃ L : TkL, vs = L.map (fun p => V.ref p.1) ∧ L.map (·.2) = ks ∧ ∀ p ∈ L, SqT X.K H p.1 (p.2.map kV)
  | _, _, _, .nil, e => by cases e; exact ⟨[], rfl, rfl, fun p z => by cases z⟩
  | _, _, _, .cons (t := t) (ts := ts) r q, e => by
    unfold optL at e
    cases h1 : tkT t with
    | none => rw [h1] at e; simp at e
    | some k =>
      cases h2 : optL tkT ts with
      | none => rw [h1, h2] at e; simp at e
      | some ks =>
        rw [h1, h2] at e
        cases e
        obtain ⟨L, rfl, rfl, hL⟩ := tks_of q h2
        cases r with
        | @tup b vs us hq rr =>
          have e3 := keys_of rr (show keysT us = some k from h1)
          subst e3
          exact ⟨(b, k) :: L, rfl, rfl, fun p hp => by rcases List.mem_cons.mp hp with rfl | z; exact hq.t; exact hL p z⟩
        | _ => cases h1
theorem de_lenSetP (hc : X.calm = true) (hu : X.A.units + 65 < cLine) (hg : Gl X "len") (hm : X.mg "len" = none) (hg2 : Gl X "set") (hm2 : X.mg "set" = none) (ha : DE X P W a sa)
    (he : starEach [a] X.env = (false, eval a X.env) :: starEach [] X.env := by rfl) (hpl : (backTo p2 (starEach [] X.env)).any (·.1) = false := by rfl)
    (he2 : starEach [.Call (.Name "set" q2) [a] [] p2] X.env = (false, eval (.Call (.Name "set" q2) [a] [] p2) X.env) :: starEach [] X.env := by rfl) (hpl2 : (backTo pos (starEach [] X.env)).any (·.1) = false := by rfl) :
    DE X P W (.Call (.Name "len" p) [.Call (.Name "set" q2) [a] [] p2] [] pos) (s1 oLenSetP sa) :=
  PE.imp (pe_callB cr_lenN hg hm boot_len (pa_cons (pe_callTy (cr_setN hc hu) hg2 hm2 boot_set (pa_cons ha pa_nil he) (by decide) (by decide) he hpl) pa_nil he2) (by decide) (by decide) he2 hpl2) fun σV H Q h => by
    refine tG.mono (fun v H1 hq => ?_) (one nx_olensetP h)
    obtain ⟨m, h, t, r, R, o⟩ := hq
    cases r with
    | @tup l vs ts hl rr =>
      have o' : OutP X.K X.mg Q m H1 (match optL tkT ts with
        | some ks => if ks.length < 64 then .ok (.int (uqT ks).length) h else .stk
        | none => .stk) := o
      split at o'
      · rename_i ks hk
        split at o'
        · rename_i few
          obtain ⟨L, rfl, rfl, hL⟩ := tks_of rr hk
          refine ⟨l, L, rfl, hl.t, hL, by simpa using few, fun D hD => ⟨D, _, rfl, upd_same, ?_⟩⟩
          exact o' _ m _ (Ext.garbage R hD) (.int _) (R.garbage hD)
        · exact False.elim o'
      · exact False.elim o'
    | _ => exact False.elim o
end
end W3
end

section
/-! WZE: sorted(x), x a list or a tuple of data that are alike. -/
namespace W3
open PySem PySem.Spec PyProof.Rows
open L2
section
variable {prog : Program} {w : World} {A : Around} {E : Value → Shared → Prop} {s : Shared}
/-- the items of a list or a tuple, collected -/
theorem collect_seq {l : Addr} {o : Obj} {n : Nat} {T : String} {vs : List Value} {Q : List Value → Shared → Prop} (ho : s.heap.get? l = some o) (hT : T = "list" ∨ T = "tuple") (hc : o.cls = .type T) (hd : o.data = .seq vs.toArray n) (hz : vs.length ≤ sizeLine)
    (fin : Q vs { s with heap := (s.heap.push (seqObj "list" #[] 0)).update s.heap.objs.size (Obj.mapSeq (· ++ vs.toArray)) }) : wpAny (model prog w) A (collect (.ref l)) Q E s := by
  have new : (s.heap.push (seqObj "list" #[] 0)).get? s.heap.objs.size = some (seqObj "list" #[] 0) := Heap.get?_push_size _ rfl
  have ho2 : (s.heap.push (seqObj "list" #[] 0)).get? l = some o := Heap.get?_push_of_some _ ho
  unfold collect
  refine wpAny_bind (wpAny_runValue (codeAny_builtin entry_proto_collect' ?_))
  show wpAny _ _ (do again (.builtin "list.__iadd__" ⟨[← newList [], .ref l], []⟩)) _ _ s
  refine wpAny_bind (wpAny_newList (wpAny_pure ⟨Code.quiet_builtin _ (by decide +kernel), codeAny_builtin entry_list_iadd' ?_⟩))
  show wpAny _ _ (Builtin.List.listExtendWith (.ref s.heap.objs.size) (.ref l) (.ref s.heap.objs.size)) _ _ { s with heap := s.heap.push (seqObj "list" #[] 0) }
  unfold Builtin.List.listExtendWith
  refine wpAny_bind (wpAny_typeOf (T := T) ⟨o, ho2, hc⟩ ?_)
  have q1 : (Value.type "list" == Value.type "list") = true := by decide
  have q2 : (Value.type "tuple" == Value.type "tuple") = true := by decide
  refine wp_if_pos (by rcases hT with rfl | rfl <;> simp [q1, q2]) ?_
  refine wpAny_bind (listItems_at ho2 hd (wpAny_bind (listItems_at new rfl (wp_if_neg (by simp) (wpAny_bind (listUpdate_at new rfl ?_ (Nat.zero_le _) ?_))))))
  · refine wpAny_pure ?_
    show wpAny (model prog w) A (load s.heap.objs.size >>= _) Q E _
    refine wpAny_bind (wpAny_load (get?_update_seq new _) ?_)
    show wpAny _ _ (pure ((#[] : Array Value) ++ vs.toArray).toList) Q E _
    rw [show ((#[] : Array Value) ++ vs.toArray).toList = vs by simp]
    exact wpAny_pure fin
  · show (#[] ++ vs.toArray).size ≤ sizeLine + 1
    simp only [Array.size_append, List.size_toArray, List.length_nil]
    omega
theorem sorted_seq {β : Type} {R : Value → β → Prop} {enc : β → PyData} {bs : List β} {l : Addr} {o : Obj} {n : Nat} {T : String} {vs : List Value} {Q : Value → Shared → Prop} (ho : s.heap.get? l = some o) (hT : T = "list" ∨ T = "tuple") (hc : o.cls = .type T) (hd : o.data = .seq vs.toArray n)
    (e : PySem.W.EachIs R vs bs) (er : PySem.W.EachIs (fun v b => ∃ as, Reads s.heap v (enc b) as) vs bs) (hal : PySem.W.AllAlike (bs.map enc)) (hk : PySem.W.Sortable (bs.map enc)) (hz : bs.length ≤ sizeLine) (hu : ∀ b, b ∈ bs → A.units + 2 + (enc b).depth < cLine)
    (fin : ∀ out, PySem.W.EachIs R out (bs.mergeSort (PySem.W.dataLe false enc)) → Q (.ref (s.heap.objs.size + 1)) { s with heap := sortedAll s.heap vs (List.toArray out) }) : wpAny (model prog w) A (call (.builtin "sorted") [.ref l]) Q E s := by
  have hz2 : vs.length ≤ sizeLine := by rw [e.length]; exact hz
  have er2 : PySem.W.EachIs (fun v b => ∃ as, Reads (PySem.W.sortingHeap (PySem.W.copyHeap s.heap vs) (s.heap.objs.size + 1) vs) v (enc b) as) vs bs := er.mono fun _ _ ⟨as, r⟩ => ⟨as, PyProof.Rows.Reads.keeps (fun _ _ => PySem.W.sorting_copy_old) r⟩
  have S := PySem.W.SortsAt.data (prog := prog) (w := w) (A := A.in1.in1) (s := { s with heap := PySem.W.sortingHeap (PySem.W.copyHeap s.heap vs) (s.heap.objs.size + 1) vs }) (PySem.W.each_map (R := fun v d => ∃ as, Reads (PySem.W.sortingHeap (PySem.W.copyHeap s.heap vs) (s.heap.objs.size + 1) vs) v d as) enc er2) hal hk (PySem.W.bound_map hu)
  refine PySem.Calls.call_function_entry kind_sorted plain_sorted entry_sorted (args_sorted1 _) ?_
  unfold Builtin.«sorted»
  refine wpAny_bind (m := checkCount "sorted" 1 1 _) (wpAny_pure (wpAny_bind (collect_seq ho hT hc hd hz2 (wpAny_bind (wpAny_newList ?_ hz2)))))
  have sz2 : ((s.heap.push (seqObj "list" #[] 0)).update s.heap.objs.size (Obj.mapSeq (· ++ vs.toArray))).objs.size = s.heap.objs.size + 1 := by rw [Heap.size_update, size_push']
  show wpAny _ _ _ _ _ { s with heap := PySem.W.copyHeap s.heap vs }
  rw [sz2]
  refine wpAny_bind (wpAny_holding (wpAny_call_entry slot_list_sort ⟨_, PySem.W.copyHeap_at s.heap vs, rfl⟩ entry_list_sort (PySem.W.list_sort_vals (s := { s with heap := PySem.W.copyHeap s.heap vs }) (PySem.W.copyHeap_at s.heap vs) S hz2 ⟨_, rfl, ?_⟩) (args_list_sort _)))
  exact wpAny_pure ⟨_, rfl, fin _ (PySem.W.sortVals_data false e er2 hal)⟩
end
/-! ### as a rule of the layer -/
section
variable {X : Cx} {P : Pq} {W : WX}
theorem each_of_vals {xs : List V} {us : List Value} (r : Vals xs us) : ∀ {ds : List PyData}, xs.length = ds.length → PySem.W.EachIs (fun v (b : V × PyData) => L2.RelV b.1 v) us (xs.zip ds) := by
  induction r with
  | nil => intro ds e; cases ds with | nil => exact .nil | cons _ _ => simp at e
  | cons r _ ih =>
    intro ds e
    cases ds with
    | nil => simp at e
    | cons d ds => exact .cons r (ih (by simpa using e))
theorem vals_of_each : ∀ {us : List Value} {bs : List (V × PyData)}, PySem.W.EachIs (fun v (b : V × PyData) => L2.RelV b.1 v) us bs → Vals (bs.map (·.1)) us
  | _, _, .nil => .nil
  | _, _, .cons r h => .cons r (vals_of_each h)
theorem each_reads {pins : List (Addr × Obj)} {s : Shared} {σ : L2.St} {H : Hp} (I : L2.Inv X pins σ H s) : ∀ {us : List Value} {bs : List (V × PyData)}, PySem.W.EachIs (fun v (b : V × PyData) => L2.RelV b.1 v) us bs → (∀ b ∈ bs, Dp X.K H b.1 b.2) → PySem.W.EachIs (fun v (b : V × PyData) => ∃ as, Reads s.heap v b.2 as) us bs
  | _, _, .nil, _ => .nil
  | _, _, .cons (b := b) r h, q => .cons (Dp.reads I b.2 b.1 _ (q b (.head _)) r) (each_reads I h fun c hc => q c (.tail _ hc))
abbrev leD (a b : V × PyData) : Bool := PySem.W.dataLe false (fun b : V × PyData => b.2) a b
theorem cr_sorted (hu : X.A.units + 65 < cLine) : CallR X (.builtin "sorted") (fun xs H Q => ∃ (p : Addr) (bs : List (V × PyData)), xs = [.ref p] ∧ (SqL X.K H p (bs.map (·.1)) ∨ SqT X.K H p (bs.map (·.1))) ∧ (∀ b ∈ bs, Dp X.K H b.1 b.2 ∧ b.2.depth ≤ 24) ∧
    PySem.W.AllAlike (bs.map (·.2)) ∧ PySem.W.Sortable (bs.map (·.2)) ∧ bs.length ≤ 1000 ∧ ∀ q, H q = none → Q (.ref q) (upd H q (.lst ((bs.mergeSort leD).map (·.1))))) := by
  intro pins s σ H xs us Q I r h
  obtain ⟨p, bs, rfl, hp, hb, al, so, few, q⟩ := h
  obtain ⟨u, rfl, rx⟩ := vals1 r
  obtain rfl : _ = Value.ref p := rx
  have z : bs.length ≤ sizeLine := by rw [sizeLine_eq]; omega
  have obj : ∃ (its : List Value) (o : Obj) (n : Nat) (T : String), Vals (bs.map (·.1)) its ∧ s.heap.get? p = some o ∧ (T = "list" ∨ T = "tuple") ∧ o.cls = .type T ∧ o.data = .seq its.toArray n := by
    rcases hp with hp | hp
    · obtain ⟨its, rv, ⟨o, n, e1, e2, _, e3⟩, _⟩ := I.list hp
      exact ⟨its, o, n, "list", rv, e1, .inl rfl, e2, e3⟩
    · obtain ⟨its, rv, ⟨o, e1, e2, n, e3⟩, _⟩ := I.tuple hp
      exact ⟨its, o, n, "tuple", rv, e1, .inr rfl, e2, e3⟩
  obtain ⟨its, o, n, T, rv, e1, hT, e2, e3⟩ := obj
  have ez : (bs.map (·.1)).zip (bs.map (·.2)) = bs := by
    rw [List.zip_map']
    simp
  have ea := each_of_vals rv (ds := bs.map (·.2)) (by simp)
  rw [ez] at ea
  refine sorted_seq (enc := fun b : V × PyData => b.2) e1 hT e2 e3 ea (each_reads I ea fun b q => (hb b q).1) al so z (fun b q => by have := (hb b q).2; omega) fun out eo => ?_
  have vo := vals_of_each eo
  refine ⟨.ref (s.heap.objs.size + 1), _, I.laid (t' := s.toks) (o := .lst ((bs.mergeSort leD).map (·.1))) (fun b o e => sortedAll_old e) (Nat.le_succ _) ⟨?_, out, ?_⟩, rfl, q _ (I.hok.fresh (Nat.le_succ _))⟩
  · rw [List.length_map, List.length_mergeSort]; exact z
  · obtain ⟨n2, e4⟩ := sortedAll_at s.heap its out.toArray
    exact ⟨n2, vo, e4⟩
/-! ### by values -/
def alikeB (ds : List PyData) : Bool := ds.all fun d => ds.all fun e => PySem.W.alike d e
def isTup1 : PyData → Bool | .tuple (_ :: _) => true | _ => false
def isOth : PyData → Bool | .none => false | .tuple _ => false | _ => true
def sortableB (ds : List PyData) : Bool := ds.all isTup1 || ds.all isOth
abbrev leT (a b : T × PyData) : Bool := PySem.W.dataLe false (fun b : T × PyData => b.2) a b
/-- the items in ascending order -/
def sortT (ts : List T) (ds : List PyData) : List T := ((ts.zip ds).mergeSort leT).map (·.1)
def bSortI (ts : List T) (h : Hh) : Res T := match optL (toD h 24) ts with
  | some ds => if alikeB ds = true ∧ sortableB ds = true ∧ ts.length ≤ 1000 then alloc (.lst (sortT ts ds)) h else .stk
  | none => .stk
def bSorted (xs : List T) (h : Hh) : Res T := match xs with
  | [.tup ts] => bSortI ts h
  | [.fl ts] => bSortI ts h
  | [.ref l] => (match lstAt h l with | some ts => bSortI ts h | none => .stk)
  | _ => .stk
theorem nx_sorted : NoXL bSorted := fun x h c fs h' e => by unfold bSorted bSortI alloc at e; (repeat' split at e) <;> cases e
theorem optL_len {α : Type} {f : T → Option α} : ∀ {ts : List T} {ds : List α}, optL f ts = some ds → ts.length = ds.length
  | [], _, e => by cases e; rfl
  | t :: ts, ds, e => by
    unfold optL at e
    cases h1 : f t with
    | none => rw [h1] at e; simp at e
    | some d =>
      cases h2 : optL f ts with
      | none => rw [h1, h2] at e; simp at e
      | some ds => rw [h1, h2] at e; cases e; simp [optL_len h2]
theorem sort_rel {m : Mp} {H : Hp} {ts : List T} {vs : List V} (r : RTs X.K X.mg m H ts vs) (ds : List PyData) (hl : ts.length = ds.length) : RTs X.K X.mg m H (sortT ts ds) (((vs.zip ds).mergeSort leD).map (·.1)) := by
  have key : ∀ (ts : List T) (vs : List V) (ds : List PyData), RTs X.K X.mg m H ts vs → ts.length = ds.length → ∃ zs : List ((T × V) × PyData), ts.zip ds = zs.map (fun z => (z.1.1, z.2)) ∧ vs.zip ds = zs.map (fun z => (z.1.2, z.2)) ∧ ∀ z ∈ zs, RT X.K X.mg m H z.1.1 z.1.2 := by
    intro ts vs ds r
    induction ds generalizing ts vs with
    | nil => intro e; cases r with | nil => exact ⟨[], rfl, rfl, fun z h => (by cases h)⟩ | cons _ _ => simp at e
    | cons d ds ih =>
      intro e
      cases r with
      | nil => simp at e
      | @cons t0 _ v0 _ r1 rr =>
        obtain ⟨zs, e1, e2, e3⟩ := ih _ _ rr (by simpa using e)
        exact ⟨((t0, v0), d) :: zs, by simp [e1], by simp [e2], fun z h => by rcases List.mem_cons.mp h with rfl | h; exact r1; exact e3 z h⟩
  obtain ⟨zs, e1, e2, e3⟩ := key ts vs ds r hl
  unfold sortT
  rw [e1, e2]
  rw [← PySem.W.sort_maps (r := fun a b : (T × V) × PyData => PySem.W.dataLe false (fun z : (T × V) × PyData => z.2) a b) (s := leT) (fun z : (T × V) × PyData => (z.1.1, z.2)) (fun a _ b _ => rfl), ← PySem.W.sort_maps (r := fun a b : (T × V) × PyData => PySem.W.dataLe false (fun z : (T × V) × PyData => z.2) a b) (s := leD) (fun z : (T × V) × PyData => (z.1.2, z.2)) (fun a _ b _ => rfl), List.map_map, List.map_map]
  have all : ∀ z ∈ zs.mergeSort (fun a b : (T × V) × PyData => PySem.W.dataLe false (fun z : (T × V) × PyData => z.2) a b), RT X.K X.mg m H z.1.1 z.1.2 := fun z h => e3 z (List.mem_mergeSort.mp h)
  generalize zs.mergeSort (fun a b : (T × V) × PyData => PySem.W.dataLe false (fun z : (T × V) × PyData => z.2) a b) = ys at all
  induction ys with
  | nil => exact .nil
  | cons y ys ih => exact .cons (all y (.head _)) (ih fun z h => all z (.tail _ h))
theorem cs_sorted (hu : X.A.units + 65 < cLine) : CallR X (.builtin "sorted") (rPL X.K X.mg bSorted) := by
  intro pins s σ H xs us Q I ru ⟨m, h, ts, r, R, o⟩
  have go : ∀ (p : Addr) (vs : List V) (us' : List T), xs = [.ref p] → (SqL X.K H p vs ∨ SqT X.K H p vs) → RTs X.K X.mg m H us' vs → OutP X.K X.mg Q m H (bSortI us' h) → wpAny (model X.prog X.w) X.A (call (.builtin "sorted") us) (EP X pins σ Q) X.xe s := by
    intro p vs ts ex hp rr o
    unfold bSortI at o
    split at o
    · rename_i ds ed
      split at o
      · rename_i cond
        obtain ⟨c1, c2, c3⟩ := cond
        obtain ⟨d1, d2, d3⟩ := optL_dp (n := 24) (fun t v d r e => toD_dp R 24 t v d r e) rr ed
        have hl := optL_len ed
        have hl2 := rr.length
        have z1 : (vs.zip ds).map (·.1) = vs := List.map_fst_zip (by omega)
        have z2 : (vs.zip ds).map (·.2) = ds := List.map_snd_zip (by omega)
        have dps : ∀ (vs : List V) (ds : List PyData), DpAll X.K H vs ds → PyData.depthAll ds ≤ 24 → ∀ b ∈ vs.zip ds, Dp X.K H b.1 b.2 ∧ b.2.depth ≤ 24 := by
          intro vs
          induction vs with
          | nil => intro ds q _ b hb; cases q; cases hb
          | cons v vs ih =>
            intro ds q dd b hb
            cases q with
            | cons q1 q2 =>
              simp only [PyData.depthAll] at dd
              rcases List.mem_cons.mp hb with rfl | hb
              · exact ⟨q1, by simp only; omega⟩
              · exact ih _ q2 (by omega) b hb
        refine cr_sorted hu pins s σ H xs us Q I ru ⟨p, vs.zip ds, ex, by rw [z1]; exact hp, dps vs ds d1 d3, ?_, ?_, by rw [List.length_zip]; omega, fun q hq => OutP.newLst R (sort_rel rr ds hl) o hq⟩
        · rw [z2]
          intro d hd e he
          exact List.all_eq_true.mp (List.all_eq_true.mp c1 d hd) e he
        · rw [z2]
          unfold sortableB at c2
          rw [Bool.or_eq_true] at c2
          rcases c2 with c2 | c2
          · refine .inl fun d hd => ?_
            have := List.all_eq_true.mp c2 d hd
            unfold isTup1 at this
            split at this
            · exact ⟨_, _, rfl⟩
            · cases this
          · refine .inr fun d hd => ?_
            have := List.all_eq_true.mp c2 d hd
            unfold isOth at this
            split at this
            · cases this
            · cases this
            · rename_i h1 h2; exact ⟨h1, h2⟩
      · exact False.elim o
    · exact False.elim o
  unfold bSorted at o
  split at o
  · obtain ⟨v, rfl, r1⟩ := r.one
    cases r1 with
    | tup hq r2 => exact go _ _ _ rfl (.inr hq.t) r2 o
  · obtain ⟨v, rfl, r1⟩ := r.one
    cases r1 with
    | fl hq r2 => exact go _ _ _ rfl (.inl hq.sq) r2 o
  · obtain ⟨v, rfl, r1⟩ := r.one
    split at o
    · rename_i ts q1
      cases r1 with
      | ref e1 =>
        obtain ⟨vs, g1, r2⟩ := R.lst e1 q1
        exact go _ _ _ rfl (.inl (SqL.of g1)) r2 o
    · exact False.elim o
  · exact False.elim o
end
end W3
end

section
/-! WZF: zip of two tuples; constants of the module that are tuples and dicts. -/
namespace W3
open PySem PySem.Spec PyProof.Rows
open L2
/-- the tuples at a and b, their items in new pairs -/
def It2 (K : PySem.W.Frag) (a b : Addr) : It where
  go := fun i H => ∃ (xs ys : List V) (x y : V), (SqT K H a xs ∧ xs[i]? = some x) ∧ SqT K H b ys ∧ ys[i]? = some y
  yld := fun i H v H2 => ∃ q x y ob, (v = .ref q ∧ H q = none ∧ ob.dict = none) ∧ H2 = upd H q (.frz ob (.tup [x, y])) ∧ (∀ xs, SqT K H a xs → xs[i]? = some x) ∧ ∀ ys, SqT K H b ys → ys[i]? = some y
  stop := fun i H => ∃ xs ys : List V, (SqT K H a xs ∧ SqT K H b ys) ∧ (xs.length ≤ i ∨ ys.length ≤ i)
theorem turn2 {P : Program} {w : World} {K : PySem.W.Frag} {elts : List Expr} {kk : Nat} {tpos : Pos} {a b z TI TO j1 j2 : Addr} (D : ZipApart z TI TO j1 j2 a b) :
    Turn P w K (.Tuple elts kk tpos) (It2 K a b) [z, TI, TO, j1, j2] z (fun i h => IsZip h z TI TO .none ∧ IsPair h TI (.ref j1) (.ref j2) ∧ (∃ x y, IsPair h TO x y) ∧ h.IsTupleIter j1 a i ∧ h.IsTupleIter j2 b i) where
  mem := .head _
  obj := fun i h st c hc => by
    obtain ⟨s1, s2, ⟨_, _, s3⟩, ⟨o4, s4, _, d4⟩, o5, s5, _, d5⟩ := st
    simp only [List.mem_cons, List.not_mem_nil, or_false] at hc
    rcases hc with rfl | rfl | rfl | rfl | rfl
    · exact ⟨_, s1, fun _ q => nomatch q⟩
    · exact ⟨_, s2, fun _ q => nomatch q⟩
    · exact ⟨_, s3, fun _ q => nomatch q⟩
    · exact ⟨o4, s4, fun _ q => by rw [d4] at q; cases q⟩
    · exact ⟨o5, s5, fun _ q => by rw [d5] at q; cases q⟩
  keep := fun i h h2 st k => by
    obtain ⟨s1, s2, ⟨x, y, s3⟩, s4, s5⟩ := st
    exact ⟨k z (by simp) _ s1, k TI (by simp) _ s2, ⟨x, y, k TO (by simp) _ s3⟩, s4.at fun o q => k j1 (by simp) o q, s5.at fun o q => k j2 (by simp) o q⟩
  item := by
    intro X hP hw hK hc i pins s σ H E I hf st hg
    subst hP hw hK
    obtain ⟨s1, s2, ⟨x0, y0, s3⟩, s4, s5⟩ := st
    obtain ⟨xs, ys, x, y, ⟨qx, ex⟩, qy, ey⟩ := hg
    obtain ⟨us, rv, p1, _⟩ := I.tuple qx
    obtain ⟨ws, rw, p2, _⟩ := I.tuple qy
    obtain ⟨u, eu, ru⟩ := rv.get ex
    obtain ⟨v, ev, rv2⟩ := rw.get ey
    have zl : z < s.heap.objs.size := Heap.lt_size s1
    refine RZ.pyNext_zipT_item D s1 s2 s3 s4 s5 p1 p2 (x := u) (y := v) (by simpa using eu) (by simpa using ev) fun h2 g1 g3 g4 g5 gT gs gk => ?_
    refine ⟨_, rfl, wpAny_letOwnedTupleGo_zip (s := { s with heap := h2 }) g1 fun h3 f1 sb => ?_⟩
    have at3 : h3.get? s.heap.objs.size = some { cls := .type "tuple", data := .seq #[u, v] } := (sb.2 _ (Nat.ne_of_gt zl)).trans gT
    have new : ObjOk X.prog X.w (upd H s.heap.objs.size (.frz { cls := .type "tuple", data := .seq #[u, v] } (.tup [x, y]))) h3 s.heap.objs.size (.frz { cls := .type "tuple", data := .seq #[u, v] } (.tup [x, y])) :=
      ⟨at3, by show 2 ≤ sizeLine; decide, [u, v], .cons ru (.cons rv2 .nil), _, at3, rfl, _, rfl⟩
    have J : L2.Inv X pins σ (upd H s.heap.objs.size (.frz { cls := .type "tuple", data := .seq #[u, v] } (.tup [x, y]))) { s with heap := h3 } :=
      I.turnedNew (t' := s.toks) (ch := [z, TI, TO, j1, j2]) (fun c o hb q => (sb.2 c (fun e => hb (by simp [e]))).trans (gk c o (fun e => hb (by simp [e])) (fun e => hb (by simp [e])) (fun e => hb (by simp [e])) (fun e => hb (by simp [e])) q)) hf (Nat.le_refl _) new
    refine ⟨.ref s.heap.objs.size, _, J, rfl, ⟨_, x, y, _, ⟨rfl, I.hok.fresh (Nat.le_refl _), rfl⟩, rfl, fun l hl => by rw [I.tuple_inj hl qx]; exact ex, fun l hl => by rw [I.tuple_inj hl qy]; exact ey⟩,
      ⟨f1, (sb.2 _ D.TIz).trans (gk _ _ D.TIz D.TITO D.TIi1 D.TIi2 s2), ⟨u, v, (sb.2 _ D.TOz).trans g3⟩, g4.at fun o q => (sb.2 _ D.i1z).trans q, g5.at fun o q => (sb.2 _ D.i2z).trans q⟩, fun c hcm => ?_⟩
    have hlt : c < s.heap.objs.size := by
      simp only [List.mem_cons, List.not_mem_nil, or_false] at hcm
      rcases hcm with rfl | rfl | rfl | rfl | rfl
      · exact zl
      · exact Heap.lt_size s2
      · exact Heap.lt_size s3
      · obtain ⟨_, e, _⟩ := s4; exact Heap.lt_size e
      · obtain ⟨_, e, _⟩ := s5; exact Heap.lt_size e
    rw [upd_ne (Nat.ne_of_lt hlt)]
    exact (hf c hcm).1
  done := by
    intro X hP hw hK hc i pins s σ H E I hf st hg
    subst hP hw hK
    obtain ⟨s1, s2, ⟨x0, y0, s3⟩, s4, s5⟩ := st
    obtain ⟨xs, ys, ⟨qx, qy⟩, en⟩ := hg
    obtain ⟨us, rv, p1, _⟩ := I.tuple qx
    obtain ⟨ws, rw, p2, _⟩ := I.tuple qy
    have n1 := rv.length
    have n2 := rw.length
    have he : us.toArray[i]? = none ∨ ws.toArray[i]? = none := en.elim (fun q => .inl (by simp; omega)) (fun q => .inr (by simp; omega))
    exact RZ.pyNext_zipT_end (I.ok.hd hc) D s1 s2 s3 s4 s5 p1 p2 he fun h2 gk => ⟨rfl, I.turnedL (t' := s.toks) (ch := [z, TI, TO, j1, j2]) (fun c o hb q =>
      gk c o (fun e => hb (by simp [e])) (fun e => hb (by simp [e])) (fun e => hb (by simp [e])) (fun e => hb (by simp [e])) q) hf⟩
  self := fun A i s Q E st h => wpAny_pyIter_zip st.1 h
theorem pi_zip2 {X : Cx} {e e2 : Expr} {ta : TA} {p pos tpos : Pos} {elts : List Expr} {kk : Nat} (hg : Gl X "zip") (hm : X.mg "zip" = none) (ha : PA X [e, e2] ta)
    (hs : starEach [e, e2] X.env = (false, eval e X.env) :: starEach [e2] X.env) (hpl : (backTo pos (starEach [e2] X.env)).any (·.1) = false) :
    PI X (.Tuple elts kk tpos) (.Call (.Name "zip" p) [e, e2] [] pos) (fun σ H R => ta σ H fun vs H1 => ∃ a b xs ys, vs = [.ref a, .ref b] ∧ (SqT X.K H1 a xs ∧ SqT X.K H1 b ys) ∧ R (It2 X.K a b) H1) := by
  refine ⟨fun pins s σ H R I h => Call_ (ld_blt I hg hm PyProof.Rows.boot_zip (PyProof.Rows.callWith_type1 (thn (ha.run pos pins s σ H _ I h) fun us s1 ⟨vs, H1, I1, r1, q1⟩ => ?_) hs hpl))⟩
  obtain ⟨a, b, xs, ys, rfl, ⟨qx, qy⟩, q⟩ := q1
  obtain ⟨u1, u2, rfl, ra, rb⟩ := Vals.two r1
  cases ra
  cases rb
  obtain ⟨its1, _, p1, _⟩ := I1.tuple qx
  obtain ⟨its2, _, p2, _⟩ := I1.tuple qy
  obtain ⟨o1, ho1, _⟩ := id p1
  obtain ⟨o2, ho2, _⟩ := id p2
  refine RZ.call_zipT (show s1.heap.IsTuple a its1.toArray from p1) (show s1.heap.IsTuple b its2.toArray from p2) fun h2 g1 g2 g3 g4 g5 gs gk => wpAny_pyIter_zip g1 ?_
  refine ⟨s1.heap.objs.size + 4, [s1.heap.objs.size + 4, s1.heap.objs.size + 2, s1.heap.objs.size + 3, s1.heap.objs.size, s1.heap.objs.size + 1], _, _, H1, rfl, I1.kept (t' := s1.toks) gk,
    turn2 (PySem.W.ktu_apart s1.heap.objs.size a b (Heap.lt_size ho1) (Heap.lt_size ho2)), ⟨g1, g2, ⟨_, _, g3⟩, g4, g5⟩, fun c hc => ?_, q⟩
  have hle : s1.heap.objs.size ≤ c := by
    simp only [List.mem_cons, List.not_mem_nil, or_false] at hc
    rcases hc with rfl | rfl | rfl | rfl | rfl <;> first | exact Nat.le_refl _ | exact Nat.le_add_right _ _
  exact I1.fpOk hle (I1.hok.fresh hle)
def zipL : List T → List T → List T
  | x :: xs, y :: ys => .tup [x, y] :: zipL xs ys
  | _, _ => []
theorem zipL_get : ∀ (xs ys : List T) (i : Nat), (zipL xs ys)[i]? = match xs[i]?, ys[i]? with | some x, some y => some (.tup [x, y]) | _, _ => none
  | [], ys, i => by simp [zipL]
  | x :: xs, [], i => by simp [zipL]
  | x :: xs, y :: ys, 0 => by simp [zipL]
  | x :: xs, y :: ys, i + 1 => by
    show (zipL xs ys)[i]? = _
    rw [zipL_get xs ys i]
    simp
section
variable {K : PySem.W.Frag} {mg : Str → Option Value} {m : Mp} {H : Hp}
theorem srcj_zip2 {a b : Addr} {vs ws : List V} {ts us : List T} (hq : SqT K H a vs) (r : RTs K mg m H ts vs) (hq2 : SqT K H b ws) (r2 : RTs K mg m H us ws) : SrcJ K mg m H (.its (zipL ts us)) (It2 K a b) where
  go := fun m' h' H' i x E R e => by
    have e' : (zipL ts us)[i]? = some x := Option.some.inj e
    rw [zipL_get] at e'
    cases hx : ts[i]? with
    | none => rw [hx] at e'; cases e'
    | some t =>
      cases hy : us[i]? with
      | none => rw [hx, hy] at e'; cases e'
      | some u =>
        rw [hx, hy] at e'
        have e2 : T.tup [t, u] = x := Option.some.inj e'
        subst e2
        obtain ⟨v, ev, rv⟩ := r.get hx
        obtain ⟨w, ew, rw⟩ := r2.get hy
        refine ⟨⟨vs, ws, v, w, ⟨SqT.tr E hq, ev⟩, SqT.tr E hq2, ew⟩, fun y H2 ⟨q, z1, z2, ob, ⟨e1, hT, hd⟩, e2, e3, e4⟩ => ?_⟩
        subst e1 e2
        have q1 := e3 vs (SqT.tr E hq)
        rw [ev] at q1; cases q1
        have q2 := e4 ws (SqT.tr E hq2)
        rw [ew] at q2; cases q2
        have E2 := Ext.garbage (o := .frz ob (.tup [v, w])) R hT
        exact ⟨E2, R.garbage hT, .tup (.inl ⟨ob, upd_same, hd⟩) (.cons ((rv.tr E).ext E2) (.cons ((rw.tr E).ext E2) .nil))⟩
  stop := fun m' h' H' i E R e => by
    have e' : (zipL ts us)[i]? = none := Option.some.inj e
    rw [zipL_get] at e'
    refine ⟨vs, ws, ⟨SqT.tr E hq, SqT.tr E hq2⟩, ?_⟩
    rw [← r.length, ← r2.length]
    cases hx : ts[i]? with
    | none => exact .inl (List.getElem?_eq_none_iff.mp hx)
    | some t =>
      cases hy : us[i]? with
      | none => exact .inr (List.getElem?_eq_none_iff.mp hy)
      | some u => rw [hx, hy] at e'; cases e'
end
def zipOf (xs : List T) (h : Hh) : Res Src := match xs with | [.tup ts, .tup us] => .ok (.its (zipL ts us)) h | _ => .stk
/-- zip(.., ..) of two tuples -/
def siZip (a : SA) : SI := fun σ h => (a σ h).bind zipOf
section
variable {X : Cx} {P : Pq} {W : WX} {a b c : Expr} {ar : SA} {sb : SE} {pos p : Pos}
theorem di_zip {p tpos : Pos} {elts : List Expr} {kk : Nat} (hg : Gl X "zip") (hm : X.mg "zip" = none) (ha : DA X P W [a, b] ar) (hs : starEach [a, b] X.env = (false, eval a X.env) :: starEach [b] X.env := by rfl) (hpl : (backTo pos (starEach [b] X.env)).any (·.1) = false := by rfl) : DI X P W (.Tuple elts kk tpos) (.Call (.Name "zip" p) [a, b] [] pos) (siZip ar) :=
  PI.imp (pi_zip2 hg hm ha hs hpl) fun σV H R ⟨m, h, σ, A, o⟩ => by
    refine A.first (rel1 := RTs X.K X.mg) o fun m1 h1 ts x H1 E1 r A1 o1 => ?_
    unfold zipOf at o1
    split at o1
    · obtain ⟨v, w, rfl, r1, r2⟩ := r.two
      cases r1 with
      | @tup a vs ts hq q1 =>
        cases r2 with
        | @tup b ws us hq2 q2 =>
          exact ⟨a, b, vs, ws, rfl, ⟨hq.t, hq2.t⟩, o1 _ m1 H1 (Ext.refl _ _) (srcj_zip2 hq.t q1 hq2.t q2) A1.hr⟩
    · exact False.elim o1
/-! ### constants -/
/-- the module's object at a is the value t, whatever happens -/
def KIs (K : PySem.W.Frag) (mg : Str → Option Value) (a : Addr) (t : T) : Prop := ∀ m H, RT K mg m H t (.ref a)
theorem dgk {x : Str} {t : T} (hm : ∃ a, X.mg x = some (.ref a) ∧ KIs X.K X.mg a t) (hg : Gl X x := by rfl) (hd : (x == ("__debug__" : Str)) = false := by decide) : DE X P W (.Name x pos) (sC t) := by
  obtain ⟨a, hm, k⟩ := hm
  exact de_glob (v := .ref a) hg hm rfl (fun m H => k m H) hd
/-- texts, as values of the module -/
inductive StrsK : List Str → List Value → Prop
  | nil : StrsK [] []
  | cons {s : Str} {t : Tok} {ss : List Str} {vs : List Value} : StrsK ss vs → StrsK (s :: ss) (.str s t :: vs)
theorem kis_strs {K : PySem.W.Frag} {mg : Str → Option Value} {a : Addr} {ss : List Str} {its : Array Value} {n : Nat} {sl : Array (Option Value)} (hk : K.lookup a = some ⟨.type "tuple", none, .seq its n, sl⟩) (hz : its.size ≤ sizeLine) (hs : StrsK ss its.toList) (ho : ss.all PyData.strOk = true) : KIs K mg a (.tup (ss.map T.str)) := fun m H => by
  have v : Vals (ss.map V.str) its.toList := by
    generalize its.toList = vs at hs
    induction hs with
    | nil => exact .nil
    | cons _ ih => exact .cons ⟨_, rfl⟩ (ih (by simp only [List.all_cons, Bool.and_eq_true] at ho; exact ho.2))
  refine .tup (vs := ss.map V.str) (.inr ⟨_, its, n, hk, rfl, rfl, rfl, hz, v⟩) ?_
  clear hs v
  induction ss with
  | nil => exact .nil
  | cons s ss ih =>
    simp only [List.all_cons, Bool.and_eq_true] at ho
    exact .cons (.str ho.1) (ih ho.2)
/-- the module's dict at a: texts to values -/
def KDic (K : PySem.W.Frag) (w : World) (mg : Str → Option Value) (a : Addr) (kvs : List (Str × T)) : Prop := ∀ k t, kvs.lookup k = some t → ∃ b, KDct K w a k (.ref b) ∧ KIs K mg b t
def oMenu (kvs : List (Str × T)) (x : T) (h : Hh) : Res T := match x with | .str s => (match kvs.lookup s with | some t => .ok t h | none => .stk) | _ => .stk
theorem nx_menu (kvs : List (Str × T)) : NoX1 (oMenu kvs) := fun x h c fs h' e => by unfold oMenu at e; (repeat' split at e) <;> cases e
theorem de_menu {x : Str} {kvs : List (Str × T)} (hm : ∃ a, X.mg x = some (.ref a) ∧ KDic X.K X.w X.mg a kvs) (hb : DE X P W b sb) (hg : Gl X x := by rfl) (hd : (x == ("__debug__" : Str)) = false := by decide) (hs : PlainIx b := by intro _ _; rfl) :
    DE X P W (.Subscript (.Name x p) b pos) (s1 (oMenu kvs) sb) := by
  obtain ⟨a, hm, kd⟩ := hm
  refine PE.imp (pe_ix ix_kdict (pe_glob (v := .ref a) hg hm rfl hd) hb hs) fun σV H Q h => ?_
  refine tG.mono (fun v H1 hq => ?_) (one (nx_menu kvs) h)
  obtain ⟨m, h, t, r, R, o⟩ := hq
  cases r with
  | str hs =>
    rename_i k
    have o' : OutP X.K X.mg Q m H1 (match kvs.lookup k with | some t => .ok t h | none => .stk) := o
    split at o'
    · rename_i t e
      obtain ⟨b, q1, q2⟩ := kd k t e
      exact ⟨a, k, _, rfl, rfl, q1, o' _ m H1 (Ext.refl _ _) (q2 m H1) R⟩
    · exact False.elim o'
  | _ => exact False.elim o
end
end W3
namespace W3
open PySem PySem.Spec PyProof.Rows
open L2
/-- the dict's rows one by one -/
inductive KRows (K : PySem.W.Frag) (w : World) (mg : Str → Option Value) (a : Addr) : List (Str × T) → Prop
  | nil : KRows K w mg a []
  | cons {k : Str} {t : T} {r : List (Str × T)} : (∃ b, KDct K w a k (.ref b) ∧ KIs K mg b t) → KRows K w mg a r → KRows K w mg a ((k, t) :: r)
theorem kdic_of {K : PySem.W.Frag} {w : World} {mg : Str → Option Value} {a : Addr} {kvs : List (Str × T)} (h : KRows K w mg a kvs) : KDic K w mg a kvs := by
  induction h with
  | nil => intro k t e; simp [List.lookup] at e
  | @cons k0 t0 r q _ ih =>
    intro k t e
    simp only [List.lookup] at e
    split at e
    · rename_i hk
      cases e
      have : k = k0 := by simpa using hk
      subst this
      exact q
    · exact ih k t e
end W3
end

section
/-! PA: how the combinators run; loops with what they keep. No model here. -/
namespace W3
open PySem
theorem sz : sizeLine = 16777216 := by decide +kernel
@[simp] theorem sz_0 : 0 ≤ sizeLine := by decide +kernel
@[simp] theorem sz_1 : 1 ≤ sizeLine := by decide +kernel
@[simp] theorem sz_2 : 2 ≤ sizeLine := by decide +kernel
@[simp] theorem sz_3 : 3 ≤ sizeLine := by decide +kernel
@[simp] theorem sz_4 : 4 ≤ sizeLine := by decide +kernel
@[simp] theorem sz_5 : 5 ≤ sizeLine := by decide +kernel
@[simp] theorem sz_6 : 6 ≤ sizeLine := by decide +kernel
@[simp] theorem sz_7 : 7 ≤ sizeLine := by decide +kernel
@[simp] theorem sz_8 : 8 ≤ sizeLine := by decide +kernel
@[simp] theorem sz_9 : 9 ≤ sizeLine := by decide +kernel
@[simp] theorem sz_10 : 10 ≤ sizeLine := by decide +kernel
@[simp] theorem sz_11 : 11 ≤ sizeLine := by decide +kernel
@[simp] theorem sz_12 : 12 ≤ sizeLine := by decide +kernel
@[simp] theorem sz_13 : 13 ≤ sizeLine := by decide +kernel
@[simp] theorem sz_14 : 14 ≤ sizeLine := by decide +kernel
@[simp] theorem sz_15 : 15 ≤ sizeLine := by decide +kernel
@[simp] theorem sz_16 : 16 ≤ sizeLine := by decide +kernel
@[simp] theorem sz_17 : 17 ≤ sizeLine := by decide +kernel
@[simp] theorem sz_18 : 18 ≤ sizeLine := by decide +kernel
@[simp] theorem sz_19 : 19 ≤ sizeLine := by decide +kernel
@[simp] theorem sz_20 : 20 ≤ sizeLine := by decide +kernel
@[simp] theorem sz_21 : 21 ≤ sizeLine := by decide +kernel
@[simp] theorem sz_22 : 22 ≤ sizeLine := by decide +kernel
@[simp] theorem sz_23 : 23 ≤ sizeLine := by decide +kernel
@[simp] theorem sz_24 : 24 ≤ sizeLine := by decide +kernel
@[simp] theorem sz_25 : 25 ≤ sizeLine := by decide +kernel
@[simp] theorem sz_26 : 26 ≤ sizeLine := by decide +kernel
@[simp] theorem sz_ne : (sizeLine = 0) = False := by rw [sz]; simp
@[simp] theorem sz_lt1 : 0 < sizeLine := by decide +kernel
theorem szle {n : Nat} (h : n ≤ 16777216) : n ≤ sizeLine := by rw [sz]; exact h
theorem szlt {n : Nat} (h : n < 16777216) : n < sizeLine := by rw [sz]; exact h
/-- x is an instance of c, m its class's own -/
def mOk (c m : Str) (x : T) (h : Hh) : Bool := match x with
  | .ref l => match insAt h l with
    | some (d, fs) => decide (d = c ∧ fs.lookup m = none)
    | none => false
  | _ => false
/-- x.f = y -/
def fSet (cs : List (Str × List Str)) (x : T) (f : Str) (y : T) (σ : St3) (h2 : Hh) : Flo := match x with
  | .ref l => match insAt h2 l with
    | some (c, fs) => match cs.lookup c with
      | some as => if as.contains f && decide (fs.length < 1000) then .nx σ (h2.set l (.ins c (putT f y fs))) else .stk
      | none => .stk
    | none => .stk
  | _ => .stk
section
variable {σ : St3} {h : Hh}
@[simp] theorem e_sC (t : T) : sC t σ h = .ok t h := Eq.trans rfl rfl
@[simp] theorem e_s1 (f : T → Hh → Res T) (a : SE) : s1 f a σ h = (a σ h).bind f := Eq.trans rfl rfl
@[simp] theorem e_s2 (f : T → T → Hh → Res T) (a b : SE) : s2 f a b σ h = (a σ h).bind fun x h1 => (b σ h1).bind fun y h2 => f x y h2 := Eq.trans rfl rfl
@[simp] theorem e_sVar (i : Nat) : sVar i σ h = match σ[i]? with | some (some t) => .ok t h | _ => .stk := Eq.trans rfl rfl
@[simp] theorem e_sT (a : SE) : sT a σ h = (a σ h).bind fun x h1 => match x with | .bl b => .ok b h1 | _ => .stk := Eq.trans rfl rfl
@[simp] theorem e_stAnd (a b : ST) : stAnd a b σ h = (a σ h).bind fun x h1 => if x = true then b σ h1 else .ok false h1 := Eq.trans rfl rfl
@[simp] theorem e_stOr (a b : ST) : stOr a b σ h = (a σ h).bind fun x h1 => if x = true then .ok true h1 else b σ h1 := Eq.trans rfl rfl
@[simp] theorem e_stNot (a : ST) : stNot a σ h = (a σ h).bind fun x h1 => .ok (!x) h1 := Eq.trans rfl rfl
@[simp] theorem e_sB (a : ST) : sB a σ h = (a σ h).bind fun x h1 => .ok (.bl x) h1 := Eq.trans rfl rfl
@[simp] theorem e_sIf (c : ST) (a b : SE) : sIf c a b σ h = (c σ h).bind fun x h1 => if x = true then a σ h1 else b σ h1 := Eq.trans rfl rfl
@[simp] theorem e_sChain (f g : T → T → Hh → Res T) (a b c : SE) : sChain f g a b c σ h = (a σ h).bind fun x h1 => (b σ h1).bind fun y h2 => (f x y h2).bind fun z h3 => match z with
  | .bl k => if k = true then (c σ h3).bind fun w h4 => g y w h4 else .ok (.bl false) h3
  | _ => .stk := Eq.trans rfl rfl
@[simp] theorem e_saNil : saNil σ h = .ok [] h := Eq.trans rfl rfl
@[simp] theorem e_saCons (a : SE) (r : SA) : saCons a r σ h = (a σ h).bind fun x h1 => (r σ h1).bind fun xs h2 => .ok (x :: xs) h2 := Eq.trans rfl rfl
@[simp] theorem e_sTup (a : SA) : sTup a σ h = (a σ h).bind fun xs h1 => if xs.length ≤ sizeLine then .ok (.tup xs) h1 else .stk := Eq.trans rfl rfl
@[simp] theorem e_sLst (a : SA) : sLst a σ h = (a σ h).bind fun xs h1 => if xs.length ≤ sizeLine then alloc (.lst xs) h1 else .stk := Eq.trans rfl rfl
@[simp] theorem e_sCl (f : List T → Hh → Res T) (a : SA) : sCl f a σ h = (a σ h).bind f := Eq.trans rfl rfl
@[simp] theorem e_sOver (f : List T → Hh → Res T) (a : SA) : sOver f a σ h = (a σ h).bind f := Eq.trans rfl rfl
@[simp] theorem e_sLc (a : SA) : sLc a σ h = (a σ h).bind fun xs h1 => alloc (.lst xs) h1 := Eq.trans rfl rfl
@[simp] theorem e_sMt (f : T → List T → Hh → Res T) (o : SE) (a : SA) : sMt f o a σ h = (o σ h).bind fun x h1 => (a σ h1).bind fun xs h2 => f x xs h2 := Eq.trans rfl rfl
@[simp] theorem e_sMtL (f : T → List T → Hh → Res T) (o : SE) (a : SA) : sMtL f o a σ h = (o σ h).bind fun x h1 => if isL x h1 = true then (a σ h1).bind fun xs h2 => f x xs h2 else .stk := Eq.trans rfl rfl
@[simp] theorem e_soNone : soNone σ h = .ok none h := Eq.trans rfl rfl
@[simp] theorem e_soSome (a : SE) : soSome a σ h = (a σ h).bind fun x h1 => match x with | .int i => .ok (some i) h1 | _ => .stk := Eq.trans rfl rfl
@[simp] theorem e_sSl (a : SE) (lo hi : SO) : sSl a lo hi σ h = (a σ h).bind fun x h1 => (lo σ h1).bind fun l h2 => (hi σ h2).bind fun u h3 => oSl x l u h3 := Eq.trans rfl rfl
@[simp] theorem e_sDic0 : sDic0 σ h = alloc (.dic []) h := Eq.trans rfl rfl
@[simp] theorem e_alloc (o : Ob) : alloc o h = .ok (.ref h.length) (h ++ [o]) := Eq.trans rfl rfl
@[simp] theorem e_arN (n : Nat) (f : List T → Hh → Res T) (xs : List T) : arN n f xs h = if xs.length = n then f xs h else .stk := Eq.trans rfl rfl
@[simp] theorem e_siE (a : SE) : siE a σ h = (a σ h).bind srcOf := Eq.trans rfl rfl
@[simp] theorem e_siRange1 (a : SA) : siRange1 a σ h = (a σ h).bind rngOf := Eq.trans rfl rfl
@[simp] theorem e_rng {j : Int} (h0 : -1000000 ≤ j) (h2 : j ≤ 1000000) : rngOf [.int j] h = .ok (.its (rangeT 0 j.toNat)) h := by
  have a1 : RngOk j := by
    have : (2 ^ 62 : Int) = 4611686018427387904 := by decide +kernel
    unfold RngOk
    rw [this]; omega
  unfold rngOf
  simp only [a1, if_true]
@[simp] theorem e_stYes : stYes σ h = .ok true h := Eq.trans rfl rfl
@[simp] theorem e_sgName (i : Nat) (t : T) : sgName i t σ = some (σ.set i (some t)) := Eq.trans rfl rfl
@[simp] theorem e_sgsNil : sgsNil [] σ = some σ := Eq.trans rfl rfl
@[simp] theorem e_sgsCons (g : SG) (r : SGs) (t : T) (ts : List T) : sgsCons g r (t :: ts) σ = match g t σ with | some σ1 => r ts σ1 | none => none := Eq.trans rfl rfl
@[simp] theorem e_sgTup (n : Nat) (g : SGs) (ts : List T) : sgTup n g (.tup ts) σ = if ts.length = n then g ts σ else none := Eq.trans rfl rfl
@[simp] theorem e_saLc (si : SI) (g : SG) (tt : ST) (te : SE) (vs : List Nat) : saLc si g tt te vs σ h = (si σ h).bind fun s h1 => lcRun s g tt te (wipeT σ vs) (s.len h1) 0 [] h1 := Eq.trans rfl rfl
@[simp] theorem e_wipe0 : wipeT σ [] = σ := Eq.trans rfl rfl
@[simp] theorem e_wipe1 (v : Nat) (vs : List Nat) : wipeT σ (v :: vs) = (wipeT σ vs).set v none := Eq.trans rfl rfl
@[simp] theorem e_ssNil : ssNil σ h = .nx σ h := Eq.trans rfl rfl
@[simp] theorem e_ssCons (a b : SS) : ssCons a b σ h = (a σ h).seq b := Eq.trans rfl rfl
@[simp] theorem e_ssIf (c : ST) (a b : SS) : ssIf c a b σ h = (c σ h).flo σ fun x h1 => if x = true then a σ h1 else b σ h1 := Eq.trans rfl rfl
@[simp] theorem e_ssRet (a : SE) : ssRet a σ h = (a σ h).flo σ fun x h1 => .rt x h1 := Eq.trans rfl rfl
@[simp] theorem e_ssRetN : ssRetN σ h = .rt .non h := Eq.trans rfl rfl
@[simp] theorem e_ssExpr (a : SE) : ssExpr a σ h = (a σ h).flo σ fun _ h1 => .nx σ h1 := Eq.trans rfl rfl
@[simp] theorem e_ssAsg (a : SE) (g : SG) : ssAsg a g σ h = (a σ h).flo σ fun x h1 => match g x σ with | some σ1 => .nx σ1 h1 | none => .stk := Eq.trans rfl rfl
@[simp] theorem e_ssStk : ssStk σ h = .stk := Eq.trans rfl rfl
@[simp] theorem e_ssBreak : ssBreak σ h = .bk σ h := Eq.trans rfl rfl
@[simp] theorem e_ssCont : ssCont σ h = .ct σ h := Eq.trans rfl rfl
@[simp] theorem e_ssSub (o i v : SE) : ssSub o i v σ h = (v σ h).flo σ fun y h1 => (o σ h1).flo σ fun x h2 => (i σ h2).flo σ fun k h3 => match x, k with
  | .ref l, .int n => match lstAt h3 l with
    | some ts => match L2.ixN ts.length n with | some j => .nx σ (h3.set l (.lst (ts.set j y))) | none => .stk
    | none => .stk
  | _, _ => .stk := Eq.trans rfl rfl
@[simp] theorem e_ssFldC (cs : List (Str × List Str)) (o v : SE) (f : Str) : ssFldC cs o v f σ h = (v σ h).flo σ fun y h1 => (o σ h1).flo σ fun x h2 => fSet cs x f y σ h2 := Eq.trans rfl rfl
@[simp] theorem e_ssFor (si : SI) (g : SG) (b : SS) : ssFor si g b σ h = (si σ h).flo σ fun s h1 => forRun s g b (s.len h1) 0 σ h1 := Eq.trans rfl rfl
theorem e_sMeth0 (c m : Str) (n : Nat) (f : List T → Hh → Res T) (o : SE) (a : SA) : sMeth c m n f o a σ h = (o σ h).bind fun x h1 => if mOk c m x h1 = true then (a σ h1).bind fun xs h2 => arN n f (x :: xs) h2 else .stk := by
  have key : ∀ x h1, (match x with
      | .ref l => match insAt h1 l with
        | some (d, fs) => if d = c ∧ fs.lookup m = none then (a σ h1).bind fun xs h2 => arN n f (x :: xs) h2 else .stk
        | none => .stk
      | _ => .stk) = if mOk c m x h1 = true then (a σ h1).bind fun xs h2 => arN n f (x :: xs) h2 else .stk := by
    intro x h1
    cases x with
    | ref l =>
      cases hi : insAt h1 l with
      | none => simp only [mOk, hi]; rfl
      | some p =>
        obtain ⟨d, fs⟩ := p
        by_cases q : d = c ∧ fs.lookup m = none
        · simp only [mOk, hi]; rw [if_pos q, if_pos (by simp [q])]
        · simp only [mOk, hi]; rw [if_neg q, if_neg (by simpa using q)]
    | _ => rfl
  unfold sMeth
  congr 1
  funext x h1
  exact key x h1
@[simp] theorem e_sMeth (c m : Str) (n : Nat) (f : List T → Hh → Res T) (o : SE) (a : SA) : sMeth c m n f o a σ h = (o σ h).bind fun x h1 => if mOk c m x h1 = true then (a σ h1).bind fun xs h2 => arN n f (x :: xs) h2 else .stk := e_sMeth0 c m n f o a
@[simp] theorem e_sClK (n q : Nat) (pat : List Bool) (ds : List T) (f : List T → Hh → Res T) (a kw : SA) : sClK n q pat ds f a kw σ h = (a σ h).bind fun xs h1 => (kw σ h1).bind fun zs h2 => if xs.length = n ∧ zs.length = q then f (xs ++ weave pat ds zs) h2 else .stk := Eq.trans rfl rfl
@[simp] theorem e_bMakeK (c : Str) (q n : Nat) (pat : List Bool) (ds : List T) (f : List T → Hh → Res T) (a kw : SA) : bMakeK c q n pat ds f a kw σ h = (a σ h).bind fun xs h1 => (kw σ h1).bind fun zs h2 => if xs.length = n ∧ zs.length = q then bMake c (n + 1 + pat.length) f (xs ++ weave pat ds zs) h2 else .stk := Eq.trans rfl rfl
@[simp] theorem e_bMake (c : Str) (n : Nat) (f : List T → Hh → Res T) (xs : List T) : bMake c n f xs h = (arN n f (.ref h.length :: xs) (h ++ [.ins c []])).bind fun t h1 => match t with | .non => .ok (.ref h.length) h1 | _ => .stk := Eq.trans rfl rfl
/-! operations -/
@[simp] theorem e_add_ii (i j : Int) : oAdd (.int i) (.int j) h = .ok (.int (i + j)) h := Eq.trans rfl rfl
@[simp] theorem e_add_ss (i j : Str) : oAdd (.str i) (.str j) h = if i.length + j.length ≤ sizeLine then .ok (.str (i ++ j)) h else .stk := Eq.trans rfl rfl
@[simp] theorem e_add_tt (i j : List T) : oAdd (.tup i) (.tup j) h = if i.length + j.length ≤ sizeLine then .ok (.tup (i ++ j)) h else .stk := Eq.trans rfl rfl
@[simp] theorem e_sub_ii (i j : Int) : oSub (.int i) (.int j) h = .ok (.int (i - j)) h := Eq.trans rfl rfl
theorem mul_ok {i j : Int} (q : MulOk i j) : oMul (.int i) (.int j) h = .ok (.int (i * j)) h := by
  unfold oMul
  simp only [q, if_true]
theorem two64 : (2 ^ 64 : Int) = 18446744073709551616 := by decide +kernel
@[simp] theorem e_mul_l {i j : Int} (h0 : -18446744073709551616 < i) (h1 : i < 18446744073709551616) : oMul (.int i) (.int j) h = .ok (.int (i * j)) h := mul_ok (.inl (by rw [two64]; exact ⟨h0, h1⟩))
@[simp] theorem e_mul_r {i j : Int} (h0 : -18446744073709551616 < j) (h1 : j < 18446744073709551616) : oMul (.int i) (.int j) h = .ok (.int (i * j)) h := mul_ok (.inr (by rw [two64]; exact ⟨h0, h1⟩))
@[simp] theorem e_mod_ii (i j : Int) : oMod (.int i) (.int j) h = if 0 < j then .ok (.int (i % j)) h else .stk := Eq.trans rfl rfl
@[simp] theorem e_div_ii (i j : Int) : oDiv (.int i) (.int j) h = if 0 < j ∧ j < 1073741824 then .ok (.int (i / j)) h else .stk := Eq.trans rfl rfl
theorem pow_ok {i j : Int} (q : PowOk i j) : oPow (.int i) (.int j) h = .ok (.int (i ^ j.toNat)) h := by
  unfold oPow
  simp only [q, if_true]
@[simp] theorem e_pow_ii {i j : Int} (h0 : 0 ≤ j) (h1 : j ≤ 1000000) (h2 : i.natAbs < 18446744073709551616) : oPow (.int i) (.int j) h = .ok (.int (i ^ j.toNat)) h := pow_ok ⟨h0, h1, by
  have : (2 ^ 64 : Nat) = 18446744073709551616 := by decide +kernel
  rw [this]; exact h2⟩
@[simp] theorem e_lt_ii (i j : Int) : oLt (.int i) (.int j) h = .ok (.bl (decide (i < j))) h := Eq.trans rfl rfl
@[simp] theorem e_le_ii (i j : Int) : oLe (.int i) (.int j) h = .ok (.bl (decide (i ≤ j))) h := Eq.trans rfl rfl
@[simp] theorem e_gt_ii (i j : Int) : oGt (.int i) (.int j) h = .ok (.bl (decide (j < i))) h := Eq.trans rfl rfl
@[simp] theorem e_ge_ii (i j : Int) : oGe (.int i) (.int j) h = .ok (.bl (decide (j ≤ i))) h := Eq.trans rfl rfl
@[simp] theorem e_is_n (x : T) : oIs x .non h = .ok (.bl (isNonT x)) h := Eq.trans rfl rfl
@[simp] theorem e_is_b (a b : Bool) : oIs (.bl a) (.bl b) h = .ok (.bl (decide (a = b))) h := Eq.trans rfl rfl
@[simp] theorem e_isnot_n (x : T) : oIsNot x .non h = .ok (.bl (!isNonT x)) h := Eq.trans rfl rfl
@[simp] theorem e_isnot_b (a b : Bool) : oIsNot (.bl a) (.bl b) h = .ok (.bl (!decide (a = b))) h := Eq.trans rfl rfl
@[simp] theorem e_nonT0 : isNonT .non = true := Eq.trans rfl rfl
@[simp] theorem e_nonT1 (s : Str) : isNonT (.str s) = false := Eq.trans rfl rfl
@[simp] theorem e_nonT2 (s : List T) : isNonT (.tup s) = false := Eq.trans rfl rfl
@[simp] theorem e_nonT3 (s : Int) : isNonT (.int s) = false := Eq.trans rfl rfl
@[simp] theorem e_nonT4 (s : Bool) : isNonT (.bl s) = false := Eq.trans rfl rfl
@[simp] theorem e_eq_ii (i j : Int) : oEq (.int i) (.int j) h = .ok (.bl (decide (i = j))) h := by
  show Res.ok (T.bl (i == j)) h = _
  rw [show (i == j) = decide (i = j) from rfl]
@[simp] theorem e_eq_ss (i j : Str) : oEq (.str i) (.str j) h = .ok (.bl (decide (i = j))) h := by
  show Res.ok (T.bl (i == j)) h = _
  rw [show (i == j) = decide (i = j) from rfl]
@[simp] theorem e_ne_ii (i j : Int) : oNe (.int i) (.int j) h = .ok (.bl (!decide (i = j))) h := by
  show Res.ok (T.bl (!(i == j))) h = _
  rw [show (i == j) = decide (i = j) from rfl]
@[simp] theorem e_ne_ss (i j : Str) : oNe (.str i) (.str j) h = .ok (.bl (!decide (i = j))) h := by
  show Res.ok (T.bl (!(i == j))) h = _
  rw [show (i == j) = decide (i = j) from rfl]
@[simp] theorem e_ne_bb (i j : Bool) : oNe (.bl i) (.bl j) h = .ok (.bl (!decide (i = j))) h := by
  show Res.ok (T.bl (!(i == j))) h = _
  rw [show (i == j) = decide (i = j) by cases i <;> cases j <;> rfl]
@[simp] theorem e_eq_bb (i j : Bool) : oEq (.bl i) (.bl j) h = .ok (.bl (decide (i = j))) h := by
  show Res.ok (T.bl (i == j)) h = _
  rw [show (i == j) = decide (i = j) by cases i <;> cases j <;> rfl]
/-! indexes -/
@[simp] theorem e_ix_tup (ts : List T) (i : Int) : oIx (.tup ts) (.int i) h = match L2.atI ts i with | some t => .ok t h | none => .stk := Eq.trans rfl rfl
@[simp] theorem e_ix_fl (ts : List T) (i : Int) : oIx (.fl ts) (.int i) h = match L2.atI ts i with | some t => .ok t h | none => .stk := Eq.trans rfl rfl
@[simp] theorem e_ix_ref (l : Nat) (i : Int) : oIx (.ref l) (.int i) h = match lstAt h l with
      | some ts => match L2.atI ts i with | some t => .ok t h | none => .stk
      | none => .stk := Eq.trans rfl rfl
@[simp] theorem e_ix_str (z : Str) (i : Int) : oIx (.str z) (.int i) h = if z.length ≤ sizeLine then (match L2.atI z.cps.toList i with | some c => .ok (.str ⟨#[c]⟩) h | none => .stk) else .stk := Eq.trans rfl rfl
@[simp] theorem e_sl_tup (ts : List T) (lo hi : Option Int) : oSl (.tup ts) lo hi h = .ok (.tup (cutT ts lo hi)) h := Eq.trans rfl rfl
@[simp] theorem e_sl_fl (ts : List T) (lo hi : Option Int) : oSl (.fl ts) lo hi h = alloc (.lst (cutT ts lo hi)) h := Eq.trans rfl rfl
@[simp] theorem e_sl_ref (l : Nat) (lo hi : Option Int) : oSl (.ref l) lo hi h = match lstAt h l with | some ts => alloc (.lst (cutT ts lo hi)) h | none => .stk := Eq.trans rfl rfl
@[simp] theorem e_sl_str (z : Str) (lo hi : Option Int) : oSl (.str z) lo hi h = if z.length ≤ sizeLine then .ok (.str (L2.cutS z lo hi)) h else .stk := Eq.trans rfl rfl
@[simp] theorem e_len_tup (ts : List T) : bLen [.tup ts] h = .ok (.int ts.length) h := Eq.trans rfl rfl
@[simp] theorem e_len_fl (ts : List T) : bLen [.fl ts] h = .ok (.int ts.length) h := Eq.trans rfl rfl
@[simp] theorem e_len_str (z : Str) : bLen [.str z] h = if z.length ≤ sizeLine then .ok (.int z.length) h else .stk := Eq.trans rfl rfl
@[simp] theorem e_len_ref (l : Nat) : bLen [.ref l] h = match lstAt h l with | some ts => .ok (.int ts.length) h | none => .stk := Eq.trans rfl rfl
@[simp] theorem e_int (i : Int) : bInt [.int i] h = .ok (.int i) h := Eq.trans rfl rfl
@[simp] theorem e_bTup (ts : List T) : bTup ts h = .ok (.tup ts) h := Eq.trans rfl rfl
@[simp] theorem e_tuple_tup (ts : List T) : bTuple [.tup ts] h = .ok (.tup ts) h := Eq.trans rfl rfl
@[simp] theorem e_tuple_ref (l : Nat) : bTuple [.ref l] h = match lstAt h l with | some ts => .ok (.tup ts) h | none => .stk := Eq.trans rfl rfl
@[simp] theorem e_list_tup (ts : List T) : bList [.tup ts] h = alloc (.lst ts) h := Eq.trans rfl rfl
@[simp] theorem e_list_ref (l : Nat) : bList [.ref l] h = match lstAt h l with | some ts => alloc (.lst ts) h | none => .stk := Eq.trans rfl rfl
@[simp] theorem e_srcOf_tup (ts : List T) : srcOf (.tup ts) h = .ok (.its ts) h := Eq.trans rfl rfl
@[simp] theorem e_srcOf_fl (ts : List T) : srcOf (.fl ts) h = .ok (.its ts) h := Eq.trans rfl rfl
@[simp] theorem e_srcOf_str (z : Str) : srcOf (.str z) h = .ok (.its (z.cps.toList.map fun c => .str ⟨#[c]⟩)) h := Eq.trans rfl rfl
@[simp] theorem e_srcOf_ref (l : Nat) : srcOf (.ref l) h = match lstAt h l with | some _ => .ok (.live l) h | none => .stk := Eq.trans rfl rfl
theorem e_src_its (ts : List T) : Src.len (.its ts) h = ts.length := rfl
@[simp] theorem e_isL_ref (l : Nat) : isL (.ref l) h = (lstAt h l).isSome := Eq.trans rfl rfl
@[simp] theorem e_append (l : Nat) (y : T) : mAppend (.ref l) [y] h = match lstAt h l with
    | some ts => if ts.length < sizeLine then .ok .non (h.set l (.lst (ts ++ [y]))) else .stk
    | none => .stk := Eq.trans rfl rfl
@[simp] theorem e_isK_non (k : Kd) : oIsK k .non h = .ok (.bl false) h := Eq.trans rfl rfl
@[simp] theorem e_isK_str (k : Kd) (s : Str) : oIsK k (.str s) h = .ok (.bl (k == .str)) h := Eq.trans rfl rfl
@[simp] theorem e_isK_int (k : Kd) (s : Int) : oIsK k (.int s) h = .ok (.bl (k == .int)) h := Eq.trans rfl rfl
@[simp] theorem e_isK_bl (k : Kd) (s : Bool) : oIsK k (.bl s) h = .ok (.bl (k == .bool || k == .int)) h := Eq.trans rfl rfl
@[simp] theorem e_isK_tup (k : Kd) (s : List T) : oIsK k (.tup s) h = .ok (.bl (k == .tuple)) h := Eq.trans rfl rfl
theorem e_isK_lst {k : Kd} {l : Nat} {ts : List T} (e : lstAt h l = some ts) : oIsK k (.ref l) h = .ok (.bl (k == .list)) h := by
  unfold lstAt at e
  unfold oIsK isK
  split at e
  · rename_i q; simp only [q]
  · cases e
theorem e_defRun (n : Nat) (b : SS) (ts : List T) : defRun n b ts h = match b (startT n ts) h with
  | .nx _ h1 => .ok .non h1
  | .rt t h1 => .ok t h1
  | .exc c fs _ h1 => .exc c fs h1
  | _ => .stk := Eq.trans rfl rfl
end
@[simp] theorem lstAt_set_self {h : Hh} {l : Nat} {ts : List T} (hl : l < h.length) : lstAt (h.set l (.lst ts)) l = some ts := by
  unfold lstAt; rw [List.getElem?_set_self hl]
theorem lstAt_set_ne {h : Hh} {l k : Nat} {o : Ob} (hl : l ≠ k) : lstAt (h.set l o) k = lstAt h k := by
  unfold lstAt; rw [List.getElem?_set_ne hl]
theorem lstAt_of {h : Hh} {l : Nat} {ts : List T} (e : h[l]? = some (.lst ts)) : lstAt h l = some ts := by
  unfold lstAt; rw [e]
theorem of_lstAt {h : Hh} {l : Nat} {ts : List T} (e : lstAt h l = some ts) : h[l]? = some (.lst ts) := by
  unfold lstAt at e; split at e
  · rename_i q; cases e; exact q
  · cases e
theorem lstAt_lt {h : Hh} {l : Nat} {ts : List T} (e : lstAt h l = some ts) : l < h.length := by
  have := of_lstAt e
  exact (List.getElem?_eq_some_iff.mp this).1
theorem lstAt_app {h : Hh} {l : Nat} {ts : List T} (o : List Ob) (e : lstAt h l = some ts) : lstAt (h ++ o) l = some ts := by
  have := lstAt_lt e
  unfold lstAt at e ⊢
  rw [List.getElem?_append_left this]; exact e
@[simp] theorem lstAt_new {h : Hh} {ts : List T} : lstAt (h ++ [.lst ts]) h.length = some ts := by
  unfold lstAt; simp
@[simp] theorem ixN_of {n : Nat} {i : Int} (h0 : 0 ≤ i) (h1 : i < n) : L2.ixN n i = some i.toNat := by
  unfold L2.ixN; rw [if_pos h0, if_pos h1]
@[simp] theorem atI_z {α : Type} (a : α) (r : List α) : L2.atI (a :: r) 0 = some a := by
  unfold L2.atI L2.ixN; simp [show (0 : Int) < (r.length : Int) + 1 by omega]
@[simp] theorem atI_1 {α : Type} (a b : α) (r : List α) : L2.atI (a :: b :: r) 1 = some b := by
  unfold L2.atI L2.ixN; simp [show (1 : Int) < (r.length : Int) + 1 + 1 by omega]
@[simp] theorem atI_2 {α : Type} (a b c : α) (r : List α) : L2.atI (a :: b :: c :: r) 2 = some c := by
  unfold L2.atI L2.ixN; simp [show (2 : Int) < (r.length : Int) + 1 + 1 + 1 by omega]
@[simp] theorem atI_3 {α : Type} (a b c d : α) (r : List α) : L2.atI (a :: b :: c :: d :: r) 3 = some d := by
  unfold L2.atI L2.ixN; simp [show (3 : Int) < (r.length : Int) + 1 + 1 + 1 + 1 by omega]
@[simp] theorem atI_4 {α : Type} (a b c d e : α) (r : List α) : L2.atI (a :: b :: c :: d :: e :: r) 4 = some e := by
  unfold L2.atI L2.ixN; simp [show (4 : Int) < (r.length : Int) + 1 + 1 + 1 + 1 + 1 by omega]
theorem atI_nat {α : Type} {xs : List α} {i : Nat} {x : α} (e : xs[i]? = some x) : L2.atI xs (i : Int) = some x := by
  have hl := (List.getElem?_eq_some_iff.mp e).1
  unfold L2.atI L2.ixN
  rw [if_pos (by omega), if_pos (by omega)]
  simpa using e
theorem atI_int {α : Type} {xs : List α} {i : Int} (h0 : 0 ≤ i) (h1 : i < xs.length) : ∃ x, L2.atI xs i = some x ∧ xs[i.toNat]? = some x := by
  have hl : i.toNat < xs.length := by omega
  refine ⟨xs[i.toNat], ?_, by simp [hl]⟩
  unfold L2.atI L2.ixN
  rw [if_pos h0, if_pos h1]
  simp [hl]
theorem atI_mem {α : Type} {xs : List α} {i : Int} (h0 : 0 ≤ i) (h1 : i < xs.length) : ∃ x, L2.atI xs i = some x ∧ x ∈ xs := by
  obtain ⟨x, e, q⟩ := atI_int h0 h1
  exact ⟨x, e, List.mem_of_getElem? q⟩
/-! ### loops -/
def Src.Is (s : Src) (ts : List T) (h : Hh) : Prop := match s with | .its us => us = ts | .live l => lstAt h l = some ts
theorem Src.Is.at {s : Src} {ts : List T} {h : Hh} (q : s.Is ts h) (i : Nat) : s.at h i = some ts[i]? := by
  cases s with
  | its us => obtain rfl : us = ts := q; rfl
  | live l => have e : lstAt h l = some ts := q; unfold Src.at; simp only [e]
theorem Src.Is.len {s : Src} {ts : List T} {h : Hh} (q : s.Is ts h) : s.len h = ts.length := by
  cases s with
  | its us => obtain rfl : us = ts := q; rfl
  | live l => have e : lstAt h l = some ts := q; unfold Src.len; simp only [e]
theorem for_ind {s : Src} {ts : List T} {g : SG} {b : SS} (I : Nat → St3 → Hh → Prop) (hI : ∀ i σ h, I i σ h → s.Is ts h)
    (hs : ∀ i x σ h, ts[i]? = some x → I i σ h → ∃ σ1, g x σ = some σ1 ∧ ∃ σ2 h2, (b σ1 h = .nx σ2 h2 ∨ b σ1 h = .ct σ2 h2) ∧ I (i + 1) σ2 h2) :
    ∀ k i σ h, i + k = ts.length → I i σ h → ∃ σ' h', forRun s g b k i σ h = .nx σ' h' ∧ I ts.length σ' h'
  | 0, i, σ, h, e, q => by
    have e1 : i = ts.length := by omega
    refine ⟨σ, h, ?_, e1 ▸ q⟩
    unfold forRun
    rw [(hI _ _ _ q).at, List.getElem?_eq_none (by omega)]
  | k + 1, i, σ, h, e, q => by
    have hl : i < ts.length := by omega
    have ex : ts[i]? = some ts[i] := by simp [hl]
    obtain ⟨σ1, e1, σ2, h2, e2, q2⟩ := hs i _ σ h ex q
    obtain ⟨σ', h', e3, q3⟩ := for_ind I hI hs k (i + 1) σ2 h2 (by omega) q2
    refine ⟨σ', h', ?_, q3⟩
    unfold forRun
    rw [(hI _ _ _ q).at, ex]
    simp only [e1]
    rcases e2 with e2 | e2 <;> rw [e2] <;> exact e3
/-- a for loop with what it keeps -/
theorem for_run {s : Src} {ts : List T} {g : SG} {b : SS} {σ : St3} {h : Hh} (I : Nat → St3 → Hh → Prop) (hI : ∀ i σ h, I i σ h → s.Is ts h) (h0 : I 0 σ h)
    (hs : ∀ i x σ h, ts[i]? = some x → I i σ h → ∃ σ1, g x σ = some σ1 ∧ ∃ σ2 h2, (b σ1 h = .nx σ2 h2 ∨ b σ1 h = .ct σ2 h2) ∧ I (i + 1) σ2 h2) :
    ∃ σ' h', forRun s g b (s.len h) 0 σ h = .nx σ' h' ∧ I ts.length σ' h' := by
  rw [(hI _ _ _ h0).len]
  exact for_ind I hI hs _ _ _ _ (by omega) h0
theorem lc_ind {s : Src} {ts : List T} {g : SG} {tt : ST} {te : SE} {σ : St3} (hz : ts.length ≤ sizeLine) (I : Nat → List T → Hh → Prop) (hI : ∀ i acc h, I i acc h → s.Is ts h)
    (hs : ∀ i x acc h, ts[i]? = some x → I i acc h → ∃ σ1, g x σ = some σ1 ∧ ((∃ h1, tt σ1 h = .ok false h1 ∧ I (i + 1) acc h1) ∨ ∃ h1 t h2, tt σ1 h = .ok true h1 ∧ te σ1 h1 = .ok t h2 ∧ I (i + 1) (acc ++ [t]) h2)) :
    ∀ k i acc h, i + k = ts.length → acc.length ≤ i → I i acc h → ∃ acc' h', lcRun s g tt te σ k i acc h = .ok acc' h' ∧ I ts.length acc' h' ∧ acc'.length ≤ ts.length
  | 0, i, acc, h, e, ha, q => by
    have e1 : i = ts.length := by omega
    refine ⟨acc, h, ?_, e1 ▸ q, by omega⟩
    unfold lcRun
    rw [(hI _ _ _ q).at, List.getElem?_eq_none (by omega)]
  | k + 1, i, acc, h, e, ha, q => by
    have hl : i < ts.length := by omega
    have ex : ts[i]? = some ts[i] := by simp [hl]
    obtain ⟨σ1, e1, q1⟩ := hs i _ acc h ex q
    unfold lcRun
    rw [(hI _ _ _ q).at, ex]
    simp only [e1]
    rcases q1 with ⟨h1, e2, q2⟩ | ⟨h1, t, h2, e2, e3, q2⟩
    · simp only [e2]
      exact lc_ind hz I hI hs k (i + 1) acc h1 (by omega) (by omega) q2
    · simp only [e2, e3, if_true]
      rw [if_pos (by omega)]
      exact lc_ind hz I hI hs k (i + 1) _ h2 (by omega) (by simp; omega) q2
theorem lc_run {s : Src} {ts : List T} {g : SG} {tt : ST} {te : SE} {σ : St3} {h : Hh} (hz : ts.length ≤ sizeLine) (I : Nat → List T → Hh → Prop) (hI : ∀ i acc h, I i acc h → s.Is ts h) (h0 : I 0 [] h)
    (hs : ∀ i x acc h, ts[i]? = some x → I i acc h → ∃ σ1, g x σ = some σ1 ∧ ((∃ h1, tt σ1 h = .ok false h1 ∧ I (i + 1) acc h1) ∨ ∃ h1 t h2, tt σ1 h = .ok true h1 ∧ te σ1 h1 = .ok t h2 ∧ I (i + 1) (acc ++ [t]) h2)) :
    ∃ acc' h', lcRun s g tt te σ (s.len h) 0 [] h = .ok acc' h' ∧ I ts.length acc' h' ∧ acc'.length ≤ ts.length := by
  rw [(hI _ _ _ h0).len]
  exact lc_ind hz I hI hs _ _ _ _ (by omega) (Nat.le_refl _) h0
/-- [f x for x in ts], nothing changed -/
theorem lc_map {s : Src} {ts : List T} {g : SG} {te : SE} {σ : St3} {h : Hh} (f : T → T) (hz : ts.length ≤ sizeLine) (hI : s.Is ts h) (hs : ∀ x ∈ ts, ∃ σ1, g x σ = some σ1 ∧ te σ1 h = .ok (f x) h) :
    lcRun s g stYes te σ (s.len h) 0 [] h = .ok (ts.map f) h := by
  obtain ⟨acc, h', e, ⟨rfl, rfl⟩, _⟩ := lc_run (s := s) (ts := ts) (g := g) (tt := stYes) (te := te) (σ := σ) (h := h) hz (fun i acc h1 => acc = (ts.take i).map f ∧ h1 = h) (fun i acc h1 q => q.2 ▸ hI) ⟨by simp, rfl⟩ fun i x acc h1 ex ⟨q1, q2⟩ => by
    obtain ⟨σ1, e1, e2⟩ := hs x (List.mem_of_getElem? ex)
    subst q2
    refine ⟨σ1, e1, .inr ⟨h1, f x, h1, rfl, e2, ?_, rfl⟩⟩
    rw [q1, List.take_add_one, ex]
    simp
  rw [e, List.take_length]
/-- [x for x in ts if p x], nothing changed -/
theorem lc_filter {s : Src} {ts : List T} {g : SG} {tt : ST} {te : SE} {σ : St3} {h : Hh} (p : T → Bool) (f : T → T) (hz : ts.length ≤ sizeLine) (hI : s.Is ts h) (hs : ∀ x ∈ ts, ∃ σ1, g x σ = some σ1 ∧ tt σ1 h = .ok (p x) h ∧ te σ1 h = .ok (f x) h) :
    lcRun s g tt te σ (s.len h) 0 [] h = .ok ((ts.filter p).map f) h := by
  obtain ⟨acc, h', e, ⟨rfl, rfl⟩, _⟩ := lc_run (s := s) (ts := ts) (g := g) (tt := tt) (te := te) (σ := σ) (h := h) hz (fun i acc h1 => acc = ((ts.take i).filter p).map f ∧ h1 = h) (fun i acc h1 q => q.2 ▸ hI) ⟨by simp, rfl⟩ fun i x acc h1 ex ⟨q1, q2⟩ => by
    obtain ⟨σ1, e1, e2, e3⟩ := hs x (List.mem_of_getElem? ex)
    subst q2
    refine ⟨σ1, e1, ?_⟩
    have et : ts.take (i + 1) = ts.take i ++ [x] := by rw [List.take_add_one, ex]; rfl
    cases hp : p x with
    | false => exact .inl ⟨h1, by rw [e2, hp], by rw [q1, et, List.filter_append]; simp [hp], rfl⟩
    | true => exact .inr ⟨h1, f x, h1, by rw [e2, hp], e3, by rw [q1, et, List.filter_append]; simp [hp], rfl⟩
  rw [e, List.take_length]
theorem range_get : ∀ (n : Nat) (lo : Int) (i : Nat), i < n → (rangeT lo n)[i]? = some (.int (lo + i))
  | n + 1, lo, 0, _ => by simp [rangeT]
  | n + 1, lo, i + 1, hi => by
    unfold rangeT
    rw [List.getElem?_cons_succ, range_get n (lo + 1) i (by omega)]
    congr 2; omega
@[simp] theorem range_length : ∀ (n : Nat) (lo : Int), (rangeT lo n).length = n
  | 0, _ => rfl
  | n + 1, lo => by unfold rangeT; rw [List.length_cons, range_length n]
theorem range_at {n : Nat} {i : Nat} {x : T} (e : (rangeT 0 n)[i]? = some x) : x = .int i ∧ i < n := by
  have hl := (List.getElem?_eq_some_iff.mp e).1
  rw [range_length] at hl
  rw [range_get n 0 i hl] at e
  cases e
  exact ⟨by simp, hl⟩
end W3
end

section
/-! PB: the law's box of draws, names of letters: what the helpers keep. -/
namespace W3
open PySem
def BoxL (c : Nat) (i d s n : Int) : List T := [.ref c, .int i, .int d, .int s, .int n]
/-- a box of draws at l -/
def IsBox (h : Hh) (l : Nat) : Prop := ∃ (c : Nat) (cells : List Int) (i d s n : Int), lstAt h l = some (BoxL c i d s n) ∧ lstAt h c = some (cells.map T.int) ∧ 0 ≤ i ∧ 0 ≤ d
/-- the place where the box at l keeps its cells -/
def BoxC (h : Hh) (l : Nat) : Option Nat := match lstAt h l with | some (.ref c :: _) => some c | _ => none
/-- of the first n places nothing but the box at l has changed -/
structure Kp (l n : Nat) (h h' : Hh) : Prop where
  le : n ≤ h'.length
  keep : ∀ k, k < n → k ≠ l → h'[k]? = h[k]?
  box : IsBox h' l
  bc : BoxC h' l = BoxC h l
abbrev Up (l : Nat) (h h' : Hh) : Prop := Kp l h.length h h'
theorem IsBox.ne {h : Hh} {l : Nat} {c : Nat} {cells : List Int} {i d s n : Int} (e : lstAt h l = some (BoxL c i d s n)) (e2 : lstAt h c = some (cells.map T.int)) : l ≠ c := by
  intro q
  subst q
  rw [e] at e2
  cases cells with
  | nil => cases e2
  | cons a r => injection e2 with e2; injection e2 with e2 _; cases e2
theorem IsBox.lt {h : Hh} {l : Nat} (b : IsBox h l) : l < h.length := by
  obtain ⟨c, cells, i, d, s, n, e, _⟩ := b
  exact lstAt_lt e
theorem IsBox.clt {h : Hh} {l c : Nat} (b : IsBox h l) (hc : BoxC h l = some c) : c < h.length := by
  obtain ⟨c, cells, i, d, s, n, e, e2, _⟩ := b
  unfold BoxC at hc
  rw [e] at hc
  cases hc
  exact lstAt_lt e2
theorem Up.refl {l : Nat} {h : Hh} (b : IsBox h l) : Up l h h := ⟨Nat.le_refl _, fun _ _ _ => rfl, b, rfl⟩
theorem Kp.refl {l n : Nat} {h : Hh} (b : IsBox h l) (hn : n ≤ h.length) : Kp l n h h := ⟨hn, fun _ _ _ => rfl, b, rfl⟩
theorem Kp.trans {l n m : Nat} {h h1 h2 : Hh} (a : Kp l n h h1) (b : Kp l m h1 h2) (hm : n ≤ m) : Kp l n h h2 :=
  ⟨Nat.le_trans hm b.le, fun k hk hne => (b.keep k (Nat.lt_of_lt_of_le hk hm) hne).trans (a.keep k hk hne), b.box, b.bc.trans a.bc⟩
theorem Kp.up {l n : Nat} {h h1 h2 : Hh} (a : Kp l n h h1) (b : Up l h1 h2) : Kp l n h h2 := a.trans b a.le
theorem IsBox.app {l : Nat} {h : Hh} (b : IsBox h l) (o : List Ob) : IsBox (h ++ o) l := by
  obtain ⟨c, cells, i, d, s, n, e, e2, h1, h2⟩ := b
  exact ⟨c, cells, i, d, s, n, lstAt_app o e, lstAt_app o e2, h1, h2⟩
theorem Up.app {l : Nat} {h : Hh} (b : IsBox h l) (o : List Ob) : Up l h (h ++ o) := by
  refine ⟨by simp, fun k hk _ => List.getElem?_append_left hk, b.app o, ?_⟩
  obtain ⟨c, cells, i, d, s, n, e, e2, h1, h2⟩ := b
  unfold BoxC
  rw [e, lstAt_app o e]
theorem Kp.app {l n : Nat} {h h1 : Hh} (a : Kp l n h h1) (o : List Ob) : Kp l n h (h1 ++ o) := a.up (Up.app a.box o)
theorem Kp.lst {l n : Nat} {h h' : Hh} (u : Kp l n h h') {k : Nat} {ts : List T} (e : lstAt h k = some ts) (hk : k < n) (hne : k ≠ l) : lstAt h' k = some ts := by
  have := of_lstAt e
  exact lstAt_of ((u.keep k hk hne).trans this)
theorem Up.lst {l : Nat} {h h' : Hh} (u : Up l h h') {k : Nat} {ts : List T} (e : lstAt h k = some ts) (hne : k ≠ l) : lstAt h' k = some ts := Kp.lst u e (lstAt_lt e) hne
/-- a place that is not the box and not its cells is set anew -/
theorem IsBox.set {l : Nat} {h : Hh} (b : IsBox h l) {k : Nat} (o : Ob) (hk : k ≠ l) (hc : BoxC h l ≠ some k) : IsBox (h.set k o) l ∧ BoxC (h.set k o) l = BoxC h l := by
  obtain ⟨c, cells, i, d, s, n, e, e2, h1, h2⟩ := b
  have hkc : k ≠ c := by
    intro q
    apply hc
    unfold BoxC
    rw [e]
    simp [BoxL, q]
  refine ⟨⟨c, cells, i, d, s, n, by rw [lstAt_set_ne hk]; exact e, by rw [lstAt_set_ne hkc]; exact e2, h1, h2⟩, ?_⟩
  unfold BoxC
  rw [lstAt_set_ne hk]
theorem Kp.set {l n : Nat} {h h1 : Hh} (a : Kp l n h h1) {k : Nat} (o : Ob) (hb : IsBox h l) (hl : h.length ≤ n) (hn : n ≤ k) : Kp l n h (h1.set k o) := by
  have h0 := hb.lt
  have q := a.box.set (k := k) o (by omega) (by rw [a.bc]; intro z; have := hb.clt z; omega)
  exact ⟨by rw [List.length_set]; exact a.le, fun j hj hne => by rw [List.getElem?_set_ne (by omega)]; exact a.keep j hj hne, q.1, q.2.trans a.bc⟩
theorem cut_ints (ns : List Int) (lo hi : Option Int) : ∃ ms : List Int, cutT (ns.map T.int) lo hi = ms.map T.int ∧ ms.length ≤ ns.length := by
  refine ⟨cutT ns lo hi, ?_, ?_⟩
  · unfold cutT
    rw [List.length_map, List.map_take, List.map_drop]
  · unfold cutT
    rw [List.length_take, List.length_drop]
    omega
theorem map_int_get {ns : List Int} {i : Nat} {x : T} (e : (ns.map T.int)[i]? = some x) : ∃ n, x = .int n := by
  rw [List.getElem?_map] at e
  cases q : ns[i]? with
  | none => rw [q] at e; cases e
  | some n => rw [q] at e; cases e; exact ⟨n, rfl⟩
/-! ### names -/
theorem Str.ext3 {a b : Str} (h : a.cps.toList = b.cps.toList) : a = b := by
  obtain ⟨⟨x⟩⟩ := a
  obtain ⟨⟨y⟩⟩ := b
  simp at h
  rw [h]
theorem str_app (a b : Str) : (a ++ b).cps.toList = a.cps.toList ++ b.cps.toList := by
  show (a.cps ++ b.cps).toList = _
  simp
theorem str_len (a : Str) : a.length = a.cps.toList.length := by simp [Str.length]
@[simp] theorem str_len_app (a b : Str) : (a ++ b).length = a.length + b.length := by
  rw [str_len, str_app, List.length_append, ← str_len, ← str_len]
@[simp] theorem str_len_one (c : Nat) : Str.length ⟨#[c]⟩ = 1 := Eq.trans rfl rfl
def LETS : Str := "abcdefghijklmnopqrstuvwxyz"
theorem lets_len : LETS.cps.toList.length = 26 := by decide +kernel
theorem lets_nd : LETS.cps.toList.Nodup := by decide +kernel
def Lt (s : Str) : Prop := ∀ c ∈ s.cps.toList, c ∈ LETS.cps.toList
theorem Lt.app {a b : Str} (ha : Lt a) (hb : Lt b) : Lt (a ++ b) := by
  intro c hc
  rw [str_app, List.mem_append] at hc
  exact hc.elim (ha c) (hb c)
theorem Lt.one {c : Nat} (h : c ∈ LETS.cps.toList) : Lt ⟨#[c]⟩ := by
  intro x hx
  simp at hx
  rw [hx]; exact h
theorem Lt.nil : Lt "" := by
  intro c hc
  have : (Str.ofString "").cps.toList = [] := by decide +kernel
  rw [this] at hc
  cases hc
def Nm (s : Str) : Prop := 1 ≤ s.length ∧ s.length ≤ 8 ∧ Lt s
structure NmL (ss : List Str) : Prop where
  nd : ss.Nodup
  nm : ∀ s ∈ ss, Nm s
theorem NmL.snoc {ss : List Str} (h : NmL ss) {s : Str} (hs : Nm s) (hn : s ∉ ss) : NmL (ss ++ [s]) := by
  refine ⟨List.nodup_append.mpr ⟨h.nd, by simp, fun a ha b hb => ?_⟩, fun x hx => ?_⟩
  · simp at hb
    intro e
    subst hb
    exact hn (e ▸ ha)
  · rw [List.mem_append] at hx
    rcases hx with hx | hx
    · exact h.nm x hx
    · simp at hx; rw [hx]; exact hs
/-- w[:7] -/
theorem cut7 (w : Str) : (L2.cutS w none (some 7)).cps.toList = w.cps.toList.take 7 := by
  unfold L2.cutS HT.sIx
  simp [str_len]
theorem cut7_len (w : Str) : (L2.cutS w none (some 7)).length = min 7 w.length := by
  rw [str_len, cut7, List.length_take, str_len]
theorem cut7_lt {w : Str} (h : Lt w) : Lt (L2.cutS w none (some 7)) := by
  intro c hc
  rw [cut7] at hc
  exact h c (List.mem_of_mem_take hc)
theorem free_name (w : Str) (ss : List Str) (hs : ss.length ≤ 25) : ∃ c ∈ LETS.cps.toList, w ++ ⟨#[c]⟩ ∉ ss := by
  by_cases h : ∃ c ∈ LETS.cps.toList, w ++ ⟨#[c]⟩ ∉ ss
  · exact h
  · exfalso
    have hall : (LETS.cps.toList.map fun c => w ++ (⟨#[c]⟩ : Str)) ⊆ ss := by
      intro x hx
      obtain ⟨c, hc, rfl⟩ := List.mem_map.mp hx
      by_cases q : w ++ (⟨#[c]⟩ : Str) ∈ ss
      · exact q
      · exact absurd ⟨c, hc, q⟩ h
    have hnd : (LETS.cps.toList.map fun c => w ++ (⟨#[c]⟩ : Str)).Nodup := by
      refine List.Pairwise.map _ (fun a b hab e => ?_) lets_nd
      have := congrArg (fun s : Str => s.cps.toList) e
      simp only [str_app] at this
      simp at this
      exact hab this
    have := List.Nodup.length_le_of_subset hnd hall
    rw [List.length_map, lets_len] at this
    omega
abbrev tSs (ss : List Str) : List T := ss.map T.str
theorem optL_strs (h : Hh) (n : Nat) : ∀ ss : List Str, optL (toD h (n + 1)) (tSs ss) = some (ss.map PyData.str)
  | [] => rfl
  | s :: ss => by
    have e1 : toD h (n + 1) (.str s) = some (.str s) := rfl
    show optL (toD h (n + 1)) (.str s :: tSs ss) = _
    unfold optL
    rw [optL_strs h n ss, e1]
    rfl
theorem any_strs (s : Str) : ∀ ss : List Str, ((ss.map PyData.str).any fun z => PyData.eqv z (.str s)) = decide (s ∈ ss)
  | [] => by simp
  | t :: ss => by
    rw [List.map_cons, List.any_cons, any_strs s ss]
    have : PyData.eqv (.str t) (.str s) = decide (t = s) := by rw [PyData.eqv]; rfl
    rw [this]
    by_cases q : t = s
    · simp [q]
    · have q' : ¬ s = t := fun e => q e.symm
      simp [q, q']
theorem e_in_tup {s : Str} {ss : List Str} {h : Hh} : inT (.str s) (.tup (tSs ss)) h = some (decide (s ∈ ss)) := by
  show (match toD h 24 (.str s), (optL (toD h 23) (tSs ss)).map PyData.tuple with
    | some d, some (.list ds) => some (ds.any fun z => PyData.eqv z d)
    | some d, some (.tuple ds) => some (ds.any fun z => PyData.eqv z d)
    | _, _ => none) = _
  rw [optL_strs h 22]
  show some ((ss.map PyData.str).any fun z => PyData.eqv z (.str s)) = _
  rw [any_strs]
theorem e_in_ref {s : Str} {ss : List Str} {h : Hh} {r : Nat} (e : lstAt h r = some (tSs ss)) : inT (.str s) (.ref r) h = some (decide (s ∈ ss)) := by
  have e1 : toD h 24 (.ref r) = some (.list (ss.map PyData.str)) := by
    show (match h[r]? with | some (.lst ts) => (optL (toD h 23) ts).map PyData.list | _ => none) = _
    rw [of_lstAt e]
    show (optL (toD h 23) (tSs ss)).map PyData.list = _
    rw [optL_strs h 22]
    rfl
  show (match toD h 24 (.str s), toD h 24 (.ref r) with
    | some d, some (.list ds) => some (ds.any fun z => PyData.eqv z d)
    | some d, some (.tuple ds) => some (ds.any fun z => PyData.eqv z d)
    | _, _ => none) = _
  rw [e1]
  show some ((ss.map PyData.str).any fun z => PyData.eqv z (.str s)) = _
  rw [any_strs]
theorem oIn_ref {s : Str} {ss : List Str} {h : Hh} {r : Nat} (e : lstAt h r = some (tSs ss)) : oIn (.str s) (.ref r) h = .ok (.bl (decide (s ∈ ss))) h := by
  unfold oIn; rw [e_in_ref e]
theorem oNotIn_ref {s : Str} {ss : List Str} {h : Hh} {r : Nat} (e : lstAt h r = some (tSs ss)) : oNotIn (.str s) (.ref r) h = .ok (.bl (!decide (s ∈ ss))) h := by
  unfold oNotIn; rw [e_in_ref e]
@[simp] theorem oIn_tup {s : Str} {ss : List Str} {h : Hh} : oIn (.str s) (.tup (tSs ss)) h = .ok (.bl (decide (s ∈ ss))) h := by
  unfold oIn; rw [e_in_tup]
@[simp] theorem oNotIn_tup {s : Str} {ss : List Str} {h : Hh} : oNotIn (.str s) (.tup (tSs ss)) h = .ok (.bl (!decide (s ∈ ss))) h := by
  unfold oNotIn; rw [e_in_tup]
/-! ### what the helpers do -/
abbrev Fn := List T → Hh → Res T
def MixOk (f : Fn) : Prop := ∀ v k h, ∃ z, f [.int v, .int k] h = .ok (.int z) h
def DrawOk (f : Fn) : Prop := ∀ h l m, IsBox h l → 0 < m → m < 1073741824 → ∃ d h', f [.ref l, .int m] h = .ok (.int d) h' ∧ 0 ≤ d ∧ d < m ∧ Up l h h'
def BoxOk (f : Fn) : Prop := ∀ (ns : List Int) (h : Hh), ns.length ≤ 63 → ∃ l h', f [.fl (ns.map T.int)] h = .ok (.ref l) h' ∧ IsBox h' l ∧ h.length ≤ l ∧ (∀ k, k < h.length → h'[k]? = h[k]?) ∧ ∀ c, BoxC h' l = some c → h.length ≤ c
/-- a new list of many different names -/
def NamesOk (f : Fn) : Prop := ∀ h l (m : Nat), IsBox h l → m ≤ 25 → ∃ r ss h', f [.ref l, .int m] h = .ok (.ref r) h' ∧ lstAt h' r = some (tSs ss) ∧ ss.length = m ∧ NmL ss ∧ Up l h h' ∧ h.length ≤ r
end W3
end

section
/-! PC: what a run must give: wp over the tree semantics. -/
namespace W3
open PySem
abbrev EQ := Str → List (Str × T) → Hh → Prop
def Res.wp {α : Type} (r : Res α) (Q : α → Hh → Prop) (E : EQ) : Prop :=
  match r with | .ok a h => Q a h | .exc c fs h => E c fs h | .stk => False
structure FQ where
  n : St3 → Hh → Prop
  r : T → Hh → Prop
  b : St3 → Hh → Prop
  c : St3 → Hh → Prop
  e : Str → List (Str × T) → St3 → Hh → Prop
def Flo.wp (r : Flo) (Q : FQ) : Prop :=
  match r with | .nx σ h => Q.n σ h | .rt t h => Q.r t h | .bk σ h => Q.b σ h | .ct σ h => Q.c σ h | .exc c fs σ h => Q.e c fs σ h | .stk => False
section
variable {α β : Type} {Q : α → Hh → Prop} {E : EQ}
@[simp] theorem wp_ok (a : α) (h : Hh) : (Res.ok a h).wp Q E = Q a h := Eq.trans rfl rfl
@[simp] theorem wp_exc (c : Str) (fs : List (Str × T)) (h : Hh) : (Res.exc c fs h : Res α).wp Q E = E c fs h := Eq.trans rfl rfl
@[simp] theorem wp_stk : (Res.stk : Res α).wp Q E = False := Eq.trans rfl rfl
def kQ (f : α → Hh → Res β) (Q : β → Hh → Prop) (E : EQ) : α → Hh → Prop := fun a h => (f a h).wp Q E
@[simp] theorem kQ_app {Q : β → Hh → Prop} (f : α → Hh → Res β) (a : α) (h : Hh) : kQ f Q E a h = (f a h).wp Q E := Eq.trans rfl rfl
@[simp] theorem wp_bind {Q : β → Hh → Prop} (r : Res α) (f : α → Hh → Res β) : (r.bind f).wp Q E = r.wp (kQ f Q E) E := by
  cases r <;> rfl
@[simp] theorem wp_if (c : Prop) [Decidable c] (a b : Res α) : (if c then a else b).wp Q E = ((c → a.wp Q E) ∧ (¬ c → b.wp Q E)) := by
  by_cases q : c <;> simp [q]
theorem Res.wp.mono {r : Res α} {Q Q' : α → Hh → Prop} {E E' : EQ} (w : r.wp Q E) (hq : ∀ a h, Q a h → Q' a h) (he : ∀ c fs h, E c fs h → E' c fs h) : r.wp Q' E' := by
  cases r with
  | ok a h => exact hq a h w
  | exc c fs h => exact he c fs h w
  | stk => exact w
theorem Res.wp.imp {r : Res α} {Q Q' : α → Hh → Prop} {E : EQ} (w : r.wp Q E) (hq : ∀ a h, Q a h → Q' a h) : r.wp Q' E := w.mono hq fun _ _ _ h => h
/-- nothing is raised -/
abbrev noE : EQ := fun _ _ _ => False
theorem Res.wp.ok {r : Res α} (w : r.wp Q noE) : ∃ a h, r = .ok a h ∧ Q a h := by
  cases r with
  | ok a h => exact ⟨a, h, rfl, w⟩
  | exc c fs h => exact w.elim
  | stk => exact w.elim
end
section
variable {Q : FQ}
@[simp] theorem fp_nx (σ : St3) (h : Hh) : (Flo.nx σ h).wp Q = Q.n σ h := Eq.trans rfl rfl
@[simp] theorem fp_rt (t : T) (h : Hh) : (Flo.rt t h).wp Q = Q.r t h := Eq.trans rfl rfl
@[simp] theorem fp_bk (σ : St3) (h : Hh) : (Flo.bk σ h).wp Q = Q.b σ h := Eq.trans rfl rfl
@[simp] theorem fp_ct (σ : St3) (h : Hh) : (Flo.ct σ h).wp Q = Q.c σ h := Eq.trans rfl rfl
@[simp] theorem fp_exc (c : Str) (fs : List (Str × T)) (σ : St3) (h : Hh) : (Flo.exc c fs σ h).wp Q = Q.e c fs σ h := Eq.trans rfl rfl
@[simp] theorem fp_stk : (Flo.stk).wp Q = False := Eq.trans rfl rfl
def FQ.seq (Q : FQ) (k : SS) : FQ := ⟨fun σ h => (k σ h).wp Q, Q.r, Q.b, Q.c, Q.e⟩
@[simp] theorem fs_n (k : SS) (σ : St3) (h : Hh) : (Q.seq k).n σ h = (k σ h).wp Q := Eq.trans rfl rfl
@[simp] theorem fs_r (k : SS) : (Q.seq k).r = Q.r := Eq.trans rfl rfl
@[simp] theorem fs_b (k : SS) : (Q.seq k).b = Q.b := Eq.trans rfl rfl
@[simp] theorem fs_c (k : SS) : (Q.seq k).c = Q.c := Eq.trans rfl rfl
@[simp] theorem fs_e (k : SS) : (Q.seq k).e = Q.e := Eq.trans rfl rfl
def FQ.loop (Q : FQ) (J : St3 → Hh → Prop) : FQ := ⟨J, Q.r, Q.n, J, Q.e⟩
@[simp] theorem fl_n (J : St3 → Hh → Prop) : (Q.loop J).n = J := Eq.trans rfl rfl
@[simp] theorem fl_r (J : St3 → Hh → Prop) : (Q.loop J).r = Q.r := Eq.trans rfl rfl
@[simp] theorem fl_b (J : St3 → Hh → Prop) : (Q.loop J).b = Q.n := Eq.trans rfl rfl
@[simp] theorem fl_c (J : St3 → Hh → Prop) : (Q.loop J).c = J := Eq.trans rfl rfl
@[simp] theorem fl_e (J : St3 → Hh → Prop) : (Q.loop J).e = Q.e := Eq.trans rfl rfl
def FQ.df (Q : T → Hh → Prop) (E : EQ) : FQ := ⟨fun _ h => Q .non h, Q, fun _ _ => False, fun _ _ => False, fun c fs _ h => E c fs h⟩
@[simp] theorem fd_n (Q : T → Hh → Prop) (E : EQ) (σ : St3) (h : Hh) : (FQ.df Q E).n σ h = Q .non h := Eq.trans rfl rfl
@[simp] theorem fd_r (Q : T → Hh → Prop) (E : EQ) : (FQ.df Q E).r = Q := Eq.trans rfl rfl
@[simp] theorem fd_e (Q : T → Hh → Prop) (E : EQ) (c : Str) (fs : List (Str × T)) (σ : St3) (h : Hh) : (FQ.df Q E).e c fs σ h = E c fs h := Eq.trans rfl rfl
def fQ {α : Type} (k : α → Hh → Flo) (Q : FQ) : α → Hh → Prop := fun a h => (k a h).wp Q
@[simp] theorem fQ_app {α : Type} (k : α → Hh → Flo) (a : α) (h : Hh) : fQ k Q a h = (k a h).wp Q := Eq.trans rfl rfl
def eQ (Q : FQ) (σ : St3) : EQ := fun c fs h => Q.e c fs σ h
@[simp] theorem eQ_app (σ : St3) (c : Str) (fs : List (Str × T)) (h : Hh) : eQ Q σ c fs h = Q.e c fs σ h := Eq.trans rfl rfl
@[simp] theorem eQ_seq (σ : St3) (k : SS) : eQ (Q.seq k) σ = eQ Q σ := Eq.trans rfl rfl
@[simp] theorem eQ_loop (σ : St3) (J : St3 → Hh → Prop) : eQ (Q.loop J) σ = eQ Q σ := Eq.trans rfl rfl
@[simp] theorem eQ_df (σ : St3) (Q : T → Hh → Prop) (E : EQ) : eQ (FQ.df Q E) σ = E := Eq.trans rfl rfl
@[simp] theorem fp_flo {α : Type} (r : Res α) (σ : St3) (k : α → Hh → Flo) : (r.flo σ k).wp Q = r.wp (fQ k Q) (eQ Q σ) := by
  cases r <;> rfl
@[simp] theorem fp_seq (r : Flo) (k : SS) : (r.seq k).wp Q = r.wp (Q.seq k) := by
  cases r <;> rfl
@[simp] theorem fp_if (c : Prop) [Decidable c] (a b : Flo) : (if c then a else b).wp Q = ((c → a.wp Q) ∧ (¬ c → b.wp Q)) := by
  by_cases q : c <;> simp [q]
theorem Flo.wp.mono {r : Flo} {Q Q' : FQ} (w : r.wp Q) (hn : ∀ σ h, Q.n σ h → Q'.n σ h) (hr : ∀ t h, Q.r t h → Q'.r t h) (hb : ∀ σ h, Q.b σ h → Q'.b σ h) (hc : ∀ σ h, Q.c σ h → Q'.c σ h) (he : ∀ c fs σ h, Q.e c fs σ h → Q'.e c fs σ h) : r.wp Q' := by
  cases r with
  | nx σ h => exact hn σ h w
  | rt t h => exact hr t h w
  | bk σ h => exact hb σ h w
  | ct σ h => exact hc σ h w
  | exc c fs σ h => exact he c fs σ h w
  | stk => exact w
end
@[simp] theorem wp_defRun (n : Nat) (b : SS) (ts : List T) (h : Hh) (Q : T → Hh → Prop) (E : EQ) : (defRun n b ts h).wp Q E = (b (startT n ts) h).wp (FQ.df Q E) := by
  unfold defRun
  cases b (startT n ts) h <;> rfl
/-- a for loop: what it keeps -/
theorem wp_for {s : Src} {ts : List T} {g : SG} {b : SS} {σ : St3} {h : Hh} {Q : FQ} (I : Nat → St3 → Hh → Prop) (hI : ∀ i σ h, I i σ h → s.Is ts h) (h0 : I 0 σ h)
    (hs : ∀ i x σ h, ts[i]? = some x → I i σ h → ∃ σ1, g x σ = some σ1 ∧ (b σ1 h).wp (Q.loop (I (i + 1))))
    (he : ∀ σ h, I ts.length σ h → Q.n σ h) : (forRun s g b (s.len h) 0 σ h).wp Q := by
  rw [(hI _ _ _ h0).len]
  suffices H : ∀ k i σ h, i + k = ts.length → I i σ h → (forRun s g b k i σ h).wp Q from H _ _ _ _ (by omega) h0
  intro k
  induction k with
  | zero =>
    intro i σ h e q
    have e1 : i = ts.length := by omega
    unfold forRun
    rw [(hI _ _ _ q).at, List.getElem?_eq_none (by omega)]
    exact he σ h (e1 ▸ q)
  | succ k ih =>
    intro i σ h e q
    have ex : ts[i]? = some ts[i] := by simp [show i < ts.length by omega]
    obtain ⟨σ1, e1, w⟩ := hs i _ σ h ex q
    unfold forRun
    rw [(hI _ _ _ q).at, ex]
    simp only [e1]
    revert w
    cases b σ1 h with
    | nx σ2 h2 => exact fun w => ih (i + 1) σ2 h2 (by omega) w
    | ct σ2 h2 => exact fun w => ih (i + 1) σ2 h2 (by omega) w
    | bk σ2 h2 => exact fun w => w
    | rt t h2 => exact fun w => w
    | exc c fs σ2 h2 => exact fun w => w
    | stk => exact fun w => w
/-- a list comprehension that changes things -/
theorem wp_lc {s : Src} {ts : List T} {g : SG} {tt : ST} {te : SE} {σ : St3} {h : Hh} {Q : List T → Hh → Prop} {E : EQ} (hz : ts.length ≤ sizeLine) (I : Nat → List T → Hh → Prop) (hI : ∀ i acc h, I i acc h → s.Is ts h) (h0 : I 0 [] h)
    (hs : ∀ i x acc h, ts[i]? = some x → I i acc h → ∃ σ1, g x σ = some σ1 ∧ (tt σ1 h).wp (fun b h1 => if b = true then (te σ1 h1).wp (fun t h2 => I (i + 1) (acc ++ [t]) h2) noE else I (i + 1) acc h1) noE)
    (he : ∀ acc h, I ts.length acc h → Q acc h) : (lcRun s g tt te σ (s.len h) 0 [] h).wp Q E := by
  obtain ⟨acc', h', e, q, _⟩ := lc_run (s := s) (ts := ts) (g := g) (tt := tt) (te := te) (σ := σ) (h := h) hz I hI h0 fun i x acc h ex q => by
    obtain ⟨σ1, e1, w⟩ := hs i x acc h ex q
    refine ⟨σ1, e1, ?_⟩
    obtain ⟨b, h1, e2, w2⟩ := w.ok
    cases b with
    | false => exact .inl ⟨h1, e2, by simpa using w2⟩
    | true =>
      have w2 : (te σ1 h1).wp (fun t h2 => I (i + 1) (acc ++ [t]) h2) noE := by simpa using w2
      obtain ⟨t, h2, e3, w3⟩ := w2.ok
      exact .inr ⟨h1, t, h2, e2, e3, w3⟩
  rw [e]
  exact he _ _ q
/-- [f x for x in ts], nothing changed -/
theorem wp_lcm {s : Src} {ts : List T} {g : SG} {te : SE} {σ : St3} {h : Hh} {Q : List T → Hh → Prop} {E : EQ} (f : T → T) (hz : ts.length ≤ sizeLine) (hI : s.Is ts h) (hs : ∀ x ∈ ts, ∃ σ1, g x σ = some σ1 ∧ te σ1 h = .ok (f x) h) (k : Q (ts.map f) h) :
    (lcRun s g stYes te σ (s.len h) 0 [] h).wp Q E := by
  rw [lc_map f hz hI hs]; exact k
theorem wp_lcf {s : Src} {ts : List T} {g : SG} {tt : ST} {te : SE} {σ : St3} {h : Hh} {Q : List T → Hh → Prop} {E : EQ} (p : T → Bool) (f : T → T) (hz : ts.length ≤ sizeLine) (hI : s.Is ts h) (hs : ∀ x ∈ ts, ∃ σ1, g x σ = some σ1 ∧ tt σ1 h = .ok (p x) h ∧ te σ1 h = .ok (f x) h) (k : Q ((ts.filter p).map f) h) :
    (lcRun s g tt te σ (s.len h) 0 [] h).wp Q E := by
  rw [lc_filter p f hz hI hs]; exact k
/-! ### the heap: nothing but some places changes -/
/-- h' has all of h but at the places of S -/
structure Fr (S : Nat → Prop) (h h' : Hh) : Prop where
  le : h.length ≤ h'.length
  keep : ∀ k, k < h.length → ¬ S k → h'[k]? = h[k]?
theorem Fr.refl {S : Nat → Prop} {h : Hh} : Fr S h h := ⟨Nat.le_refl _, fun _ _ _ => rfl⟩
theorem Fr.trans {S : Nat → Prop} {h h1 h2 : Hh} (a : Fr S h h1) (b : Fr S h1 h2) : Fr S h h2 :=
  ⟨Nat.le_trans a.le b.le, fun k hk hs => (b.keep k (Nat.lt_of_lt_of_le hk a.le) hs).trans (a.keep k hk hs)⟩
end W3
end

section
/-! PD: the helpers' promises as wp. -/
namespace W3
open PySem
def MixW (f : Fn) : Prop := ∀ {v k : Int} {h : Hh} {Q : T → Hh → Prop} {E : EQ}, (∀ z, Q (.int z) h) → (f [.int v, .int k] h).wp Q E
def DrawW (f : Fn) : Prop := ∀ {h : Hh} {l : Nat} {m : Int} {Q : T → Hh → Prop} {E : EQ}, IsBox h l → 0 < m → m < 1073741824 → (∀ d h', 0 ≤ d → d < m → Up l h h' → Q (.int d) h') → (f [.ref l, .int m] h).wp Q E
def BoxW (f : Fn) : Prop := ∀ {ns : List Int} {h : Hh} {Q : T → Hh → Prop} {E : EQ}, ns.length ≤ 63 → (∀ l h', IsBox h' l → h.length ≤ l → (∀ k, k < h.length → h'[k]? = h[k]?) → (∀ c, BoxC h' l = some c → h.length ≤ c) → Q (.ref l) h') → (f [.fl (ns.map T.int)] h).wp Q E
def NamesW (f : Fn) : Prop := ∀ {h : Hh} {l : Nat} {m : Int} {Q : T → Hh → Prop} {E : EQ}, IsBox h l → 0 ≤ m → m ≤ 25 → (∀ r ss h', lstAt h' r = some (tSs ss) → (ss.length : Int) = m → NmL ss → Up l h h' → h.length ≤ r → Q (.ref r) h') → (f [.ref l, .int m] h).wp Q E
@[simp] theorem e_startT (n : Nat) (ts : List T) : startT n ts = ts.map some ++ List.replicate (n - ts.length) none := Eq.trans rfl rfl
theorem lstAt_app_ge {h o : Hh} {k : Nat} : lstAt (h ++ o) (h.length + k) = lstAt o k := by
  unfold lstAt; rw [List.getElem?_append_right (by omega)]; simp
@[simp] theorem lstAt_app_k {h o : Hh} {k : Nat} : lstAt (h ++ o) (h.length + k) = lstAt o k := lstAt_app_ge
@[simp] theorem lstAt_app_z {h o : Hh} : lstAt (h ++ o) h.length = lstAt o 0 := by
  have := @lstAt_app_ge h o 0; simpa using this
@[simp] theorem lstAt_0 (o : Ob) (r : Hh) : lstAt (o :: r) 0 = match o with | .lst ts => some ts | _ => none := by
  unfold lstAt; cases o <;> rfl
@[simp] theorem lstAt_s (o : Ob) (r : Hh) (k : Nat) : lstAt (o :: r) (k + 1) = lstAt r k := by
  unfold lstAt; simp
@[simp] theorem e_neg (i : Int) (h : Hh) : oNeg (.int i) h = .ok (.int (-i)) h := Eq.trans rfl rfl
@[simp] theorem e_set_ap {h o : Hh} {k : Nat} {x : Ob} : (h ++ o).set (h.length + k) x = h ++ o.set k x := by
  rw [List.set_append_right _ _ (by omega)]; simp
@[simp] theorem e_set_ap0 {h o : Hh} {x : Ob} : (h ++ o).set h.length x = h ++ o.set 0 x := by
  rw [List.set_append_right _ _ (by omega)]; simp
theorem isK_ok {k : Kd} {x : T} {h : Hh} {b : Bool} (e : isK k x h = some b) : oIsK k x h = .ok (.bl b) h := by
  unfold oIsK; rw [e]
theorem lets_at {d : Int} (d0 : 0 ≤ d) (d1 : d < 26) : ∃ c, c ∈ LETS.cps.toList ∧ L2.atI (Str.ofString "abcdefghijklmnopqrstuvwxyz").cps.toList d = some c := by
  have hl : (Str.ofString "abcdefghijklmnopqrstuvwxyz").cps.toList.length = 26 := by decide +kernel
  obtain ⟨c, e, q⟩ := atI_mem (xs := (Str.ofString "abcdefghijklmnopqrstuvwxyz").cps.toList) d0 (by rw [hl]; omega)
  exact ⟨c, q, e⟩
@[simp] theorem lets_len2 : (Str.ofString "abcdefghijklmnopqrstuvwxyz").length = 26 := by decide +kernel
theorem atI_nil0 {α : Type} : L2.atI ([] : List α) 0 = none := by
  unfold L2.atI L2.ixN; simp
theorem Lt.ofs (s : Str) (h : s.cps.toList.all (fun c => LETS.cps.toList.contains c) = true) : Lt s := by
  intro c hc
  have := List.all_eq_true.mp h c hc
  simpa using this
end W3
end

section
/-! PE: forms as plain data; what the drawn parts are. -/
namespace W3
open PySem
abbrev Ent := Option Str
def tE : Ent → T | none => .non | some s => .str s
@[simp] theorem tE_n : tE none = .non := Eq.trans rfl rfl
@[simp] theorem tE_s (s : Str) : tE (some s) = .str s := Eq.trans rfl rfl
def tRow (r : List Ent) : T := .tup (r.map tE)
inductive Nr where | alone (r : List Ent) | looks (g : Str) (rs : List (List Ent))
def Nr.tLooks : Nr → T | .alone _ => .non | .looks g _ => .str g
def Nr.tNear : Nr → T | .alone r => tRow r | .looks _ rs => .tup (rs.map tRow)
structure Fd where
  first : Str
  nr : Nr
  far : Option (List Ent)
def tFar : Option (List Ent) → T | none => .non | some r => tRow r
def Fd.ts (f : Fd) : List T := [.str f.first, f.nr.tLooks, f.nr.tNear, tFar f.far]
def Fd.t (f : Fd) : T := .tup f.ts
def tPair (p : Str × Fd) : T := .tup [.str p.1, p.2.t]
structure Fm where
  words : List Str
  fields : List (Str × Fd)
  room : Int
def Fm.names (f : Fm) : List Str := f.fields.map Prod.fst
def Fm.tW (f : Fm) : T := .tup (tSs f.words)
def Fm.tF (f : Fm) : T := .tup (f.fields.map tPair)
structure RowOk (n : Nat) (r : List Ent) : Prop where
  len : r.length = n
  nm : ∀ s, some s ∈ r → Nm s
def NrOk (n : Nat) (ns : List Str) (nm : Str) : Nr → Prop
  | .alone r => RowOk n r
  | .looks g rs => g ∈ ns ∧ g ≠ nm ∧ rs.length = n ∧ ∀ r ∈ rs, RowOk n r
structure FdOk (ws ns : List Str) (nm : Str) (f : Fd) : Prop where
  first : f.first ∈ ws
  nr : NrOk ws.length ns nm f.nr
  far : ∀ r, f.far = some r → RowOk ws.length r
structure FmOk (f : Fm) : Prop where
  w2 : 2 ≤ f.words.length
  w3 : f.words.length ≤ 3
  wn : NmL f.words
  f1 : 1 ≤ f.fields.length
  f3 : f.fields.length ≤ 3
  fn : NmL f.names
  fs : ∀ p ∈ f.fields, FdOk f.words f.names p.1 p.2
  r1 : 1 ≤ f.room
  r3 : f.room ≤ 3
theorem box_ne {h : Hh} {l r : Nat} {ss : List Str} (b : IsBox h l) (e : lstAt h r = some (tSs ss)) : r ≠ l := by
  obtain ⟨c, cells, i, d, s, n, e1, _⟩ := b
  intro q
  subst q
  rw [e1] at e
  cases ss with
  | nil => cases e
  | cons a t => injection e with e; injection e with e _; cases e
theorem box_ne_c {h : Hh} {l r : Nat} {ss : List Str} (b : IsBox h l) (e : lstAt h r = some (tSs ss)) (hn : ss ≠ []) : BoxC h l ≠ some r := by
  obtain ⟨c, cells, i, d, s, n, e1, e2, _⟩ := b
  intro q
  unfold BoxC at q
  rw [e1] at q
  simp [BoxL] at q
  subst q
  rw [e2] at e
  cases ss with
  | nil => exact hn rfl
  | cons a t =>
    cases cells with
    | nil => cases e
    | cons a t => injection e with e; injection e with e _; cases e
def EntriesW (f : Fn) : Prop := ∀ {h : Hh} {l r : Nat} {a b : Str} {n : Nat} {Q : T → Hh → Prop} {E : EQ}, IsBox h l → lstAt h r = some [.str a, .str b] → Nm a → Nm b → n ≤ 25 → (∀ row h', RowOk n row → Up l h h' → Q (tRow row) h') → (f [.ref l, .ref r, .int n] h).wp Q E
def FieldW (f : Fn) : Prop := ∀ {h : Hh} {l rn rt : Nat} {ws ns : List Str} {nm a b : Str} {Q : T → Hh → Prop} {E : EQ}, IsBox h l → lstAt h rn = some (tSs ns) → lstAt h rt = some [.str a, .str b] → Nm a → Nm b → 2 ≤ ws.length → ws.length ≤ 25 → ns.length ≤ 25 →
  (∀ fd h', FdOk ws ns nm fd → Up l h h' → Q fd.t h') → (f [.ref l, .tup (tSs ws), .ref rn, .str nm, .ref rt] h).wp Q E
def PartsW (f : Fn) : Prop := ∀ {h : Hh} {l : Nat} {Q : T → Hh → Prop} {E : EQ}, IsBox h l → (∀ fm h', FmOk fm → Up l h h' → Q (.tup [fm.tW, fm.tF, .int fm.room]) h') → (f [.ref l] h).wp Q E
theorem lstAt_two {h : Hh} {r : Nat} {a b : Str} (e : lstAt h r = some [.str a, .str b]) : lstAt h r = some (tSs [a, b]) := e
theorem atI_map {α β : Type} (f : α → β) {xs : List α} {i : Int} (h0 : 0 ≤ i) (h1 : i < xs.length) : ∃ x, L2.atI (xs.map f) i = some (f x) ∧ x ∈ xs := by
  obtain ⟨y, e, q⟩ := atI_int (xs := xs.map f) h0 (by simpa using h1)
  rw [List.getElem?_map] at q
  cases z : xs[i.toNat]? with
  | none => rw [z] at q; cases q
  | some x => rw [z] at q; cases q; exact ⟨x, e, List.mem_of_getElem? z⟩
end W3
end

section
/-! PF: any values that are judged; names, rows, tables as Bools. -/
namespace W3
open PySem
theorem eq_of_wp {r : Res T} {v : T} {h : Hh} (w : r.wp (fun a h' => a = v ∧ h' = h) noE) : r = .ok v h := by
  obtain ⟨a, h', e, rfl, rfl⟩ := w.ok
  exact e
/-- a value whose kind can be asked for: no instance, no class -/
def Jd (v : T) (h : Hh) : Prop := match v with
  | .ref l => (∃ ts, h[l]? = some (.lst ts)) ∨ ∃ d, h[l]? = some (.dic d)
  | .cls _ => False
  | .str s => s.length ≤ 1000
  | .tup ts => ts.length ≤ 1000
  | _ => True
@[simp] theorem Jd_non (h : Hh) : Jd .non h := trivial
@[simp] theorem Jd_bl (b : Bool) (h : Hh) : Jd (.bl b) h := trivial
@[simp] theorem Jd_int (b : Int) (h : Hh) : Jd (.int b) h := trivial
@[simp] theorem Jd_str (b : Str) (h : Hh) : Jd (.str b) h = (b.length ≤ 1000) := Eq.trans rfl rfl
@[simp] theorem Jd_tup (b : List T) (h : Hh) : Jd (.tup b) h = (b.length ≤ 1000) := Eq.trans rfl rfl
@[simp] theorem Jd_fl (b : List T) (h : Hh) : Jd (.fl b) h := trivial
theorem Jd_lst {l : Nat} {ts : List T} {h : Hh} (e : lstAt h l = some ts) : Jd (.ref l) h := .inl ⟨ts, of_lstAt e⟩
def isStr : T → Bool | .str _ => true | _ => false
def isTup : T → Bool | .tup _ => true | _ => false
def isInt : T → Bool | .int _ => true | .bl _ => true | _ => false
def isBl : T → Bool | .bl _ => true | _ => false
theorem j_str {v : T} {h : Hh} (j : Jd v h) : oIsK .str v h = .ok (.bl (isStr v)) h := by
  apply isK_ok
  cases v with
  | ref l => rcases j with ⟨ts, e⟩ | ⟨d, e⟩ <;> simp only [isK, e] <;> rfl
  | cls c => exact j.elim
  | _ => rfl
theorem j_tup {v : T} {h : Hh} (j : Jd v h) : oIsK .tuple v h = .ok (.bl (isTup v)) h := by
  apply isK_ok
  cases v with
  | ref l => rcases j with ⟨ts, e⟩ | ⟨d, e⟩ <;> simp only [isK, e] <;> rfl
  | cls c => exact j.elim
  | _ => rfl
theorem j_int {v : T} {h : Hh} (j : Jd v h) : oIsK .int v h = .ok (.bl (isInt v)) h := by
  apply isK_ok
  cases v with
  | ref l => rcases j with ⟨ts, e⟩ | ⟨d, e⟩ <;> simp only [isK, e] <;> rfl
  | cls c => exact j.elim
  | _ => rfl
theorem j_bl {v : T} {h : Hh} (j : Jd v h) : oIsK .bool v h = .ok (.bl (isBl v)) h := by
  apply isK_ok
  cases v with
  | ref l => rcases j with ⟨ts, e⟩ | ⟨d, e⟩ <;> simp only [isK, e] <;> rfl
  | cls c => exact j.elim
  | _ => rfl
def ltB (s : Str) : Bool := s.cps.toList.all fun c => decide (c ∈ LETS.cps.toList)
def nmB (s : Str) : Bool := decide (1 ≤ s.length ∧ s.length ≤ 8) && ltB s
def nameB : T → Bool | .str s => nmB s | _ => false
theorem nmB_iff {s : Str} : nmB s = true ↔ Nm s := by
  unfold nmB ltB Nm Lt
  rw [Bool.and_eq_true, decide_eq_true_eq, List.all_eq_true, and_assoc]
  simp only [decide_eq_true_eq]
def integerB : T → Bool | .int _ => true | _ => false
def oneB (v : T) (ss : List Str) : Bool := match v with | .str s => decide (s ∈ ss) | _ => false
@[simp] theorem blsOf_map {α : Type} (p : α → Bool) : ∀ xs : List α, blsOf (xs.map fun x => T.bl (p x)) = some (xs.map p)
  | [] => rfl
  | x :: xs => by
    show (blsOf (xs.map fun x => T.bl (p x))).map (p x :: ·) = _
    rw [blsOf_map p xs]; rfl
@[simp] theorem bAll_map {α : Type} (p : α → Bool) (xs : List α) (h : Hh) : bAll (xs.map fun x => T.bl (p x)) h = .ok (.bl (xs.all p)) h := by
  unfold bAll; rw [blsOf_map]; simp
@[simp] theorem bAny_map {α : Type} (p : α → Bool) (xs : List α) (h : Hh) : bAny (xs.map fun x => T.bl (p x)) h = .ok (.bl (xs.any p)) h := by
  unfold bAny; rw [blsOf_map]; simp
theorem oIn_ch (c : Nat) (s : Str) (h : Hh) : oIn (.str ⟨#[c]⟩) (.str s) h = .ok (.bl (decide (c ∈ s.cps.toList))) h := by
  unfold oIn inT
  simp only [StrLaws.found_one]
abbrev keyS (s : Str) : L2.Key := .inr s
theorem keysT_strs : ∀ ss : List Str, keysT (tSs ss) = some (ss.map keyS)
  | [] => rfl
  | s :: ss => by
    show (match keyT (.str s), keysT (tSs ss) with | some k, some ks => some (k :: ks) | _, _ => none) = _
    rw [keysT_strs ss]; rfl
theorem list_snoc {α : Type} {P : List α → Prop} (h0 : P []) (h1 : ∀ l x, P l → P (l ++ [x])) (l : List α) : P l := by
  have : ∀ r : List α, P r.reverse := fun r => by
    induction r with
    | nil => exact h0
    | cons x r ih => rw [List.reverse_cons]; exact h1 _ _ ih
  have q := this l.reverse
  rwa [List.reverse_reverse] at q
theorem uq_nodup (ks : List L2.Key) : (uq ks).length = ks.length ↔ ks.Nodup := by
  refine list_snoc (P := fun ks => (uq ks).length = ks.length ↔ ks.Nodup) (by simp [uq]) (fun l x ih => ?_) ks
  rw [uq_snoc, List.nodup_append]
  have hm := uq_mem l x
  have hl := uq_len l
  by_cases hx : x ∈ uq l
  · rw [if_pos hx]
    constructor
    · intro e; rw [List.length_append] at e; simp at e; omega
    · intro ⟨_, _, q⟩; exact absurd rfl (q x (hm.mp hx) x (by simp))
  · rw [if_neg hx]
    rw [List.length_append, List.length_append]
    constructor
    · intro e
      refine ⟨ih.mp (by omega), by simp, fun a ha b hb => ?_⟩
      simp at hb
      intro q
      exact hx (hm.mpr (hb ▸ q ▸ ha))
    · intro ⟨q, _⟩; have := ih.mpr q; omega
theorem lenSet_strs {ss : List Str} {h : Hh} (hz : ss.length ≤ 4000) : ∃ n : Int, bLenSet (tSs ss) h = .ok (.int n) h ∧ (n = ss.length ↔ ss.Nodup) := by
  refine ⟨(uq (ss.map keyS)).length, ?_, ?_⟩
  · unfold bLenSet
    rw [keysT_strs]
    have : scanBound = 4096 := rfl
    simp only [List.length_map]
    rw [if_pos (by omega)]
  · have q := uq_nodup (ss.map keyS)
    rw [List.length_map] at q
    have q2 : (ss.map keyS).Nodup ↔ ss.Nodup := by
      unfold List.Nodup
      rw [List.pairwise_map]
      simp [keyS]
    rw [← q2, ← q]
    omega
/-- judged, n tuples deep -/
def JdN : Nat → T → Hh → Prop
  | 0, v, h => Jd v h
  | n + 1, v, h => Jd v h ∧ ∀ ts, v = .tup ts → ∀ t ∈ ts, JdN n t h
theorem JdN.jd {n : Nat} {v : T} {h : Hh} (j : JdN n v h) : Jd v h := by
  cases n with
  | zero => exact j
  | succ n => exact j.1
theorem JdN.tup {n : Nat} {ts : List T} {h : Hh} (j : JdN (n + 1) (.tup ts) h) {t : T} (ht : t ∈ ts) : JdN n t h := j.2 ts rfl t ht
def entB (t : T) : Bool := isNonT t || nameB t
def rowB (v : T) (n : Int) : Bool := match v with | .tup ts => decide ((ts.length : Int) = n) && ts.all entB | _ => false
def nearB (v looks : T) (n : Int) : Bool := if isNonT looks then rowB v n else match v with | .tup ts => decide ((ts.length : Int) = n) && ts.all (fun t => rowB t n) | _ => false
def strOf : T → Str | .str s => s | _ => ⟨#[]⟩
def namesB (v : T) (lo hi : Int) : Bool := match v with | .tup ts => decide (lo ≤ ts.length ∧ (ts.length : Int) ≤ hi) && (ts.all nameB && decide ((ts.map strOf).Nodup)) | _ => false
def pairB (v : T) : Bool := match v with | .tup [a, .tup b] => nameB a && decide (b.length = 4) | _ => false
def fstOf : T → T | .tup (a :: _) => a | t => t
def fieldsB (v : T) : Bool := match v with | .tup ts => decide (1 ≤ ts.length ∧ ts.length ≤ 3) && (ts.all pairB && decide ((ts.map fun t => strOf (fstOf t)).Nodup)) | _ => false
theorem names_strs : ∀ {ts : List T}, ts.all nameB = true → ts = tSs (ts.map strOf)
  | [], _ => rfl
  | t :: ts, q => by
    rw [List.all_cons, Bool.and_eq_true] at q
    rw [List.map_cons, show tSs (strOf t :: ts.map strOf) = .str (strOf t) :: tSs (ts.map strOf) from rfl, ← names_strs q.2]
    cases t with
    | str s => rfl
    | _ => exact absurd q.1 (by simp [nameB])
abbrev IsB (f : Fn) (n : Nat) (p : T → Bool) : Prop := ∀ {v : T} {h : Hh}, JdN n v h → f [v] h = .ok (.bl (p v)) h
def RowE (f : Fn) : Prop := ∀ {v : T} {n : Int} {h : Hh}, JdN 1 v h → f [v, .int n] h = .ok (.bl (rowB v n)) h
def NearE (f : Fn) : Prop := ∀ {v looks : T} {n : Int} {h : Hh}, JdN 2 v h → f [v, looks, .int n] h = .ok (.bl (nearB v looks n)) h
def NamesE (f : Fn) : Prop := ∀ {v : T} {a b : Int} {h : Hh}, JdN 1 v h → b ≤ 4000 → f [v, .int a, .int b] h = .ok (.bl (namesB v a b)) h
def OneE (f : Fn) : Prop := (∀ {v : T} {ss : List Str} {h : Hh}, Jd v h → f [v, .tup (tSs ss)] h = .ok (.bl (oneB v ss)) h) ∧ ∀ {v : T} {r : Nat} {ss : List Str} {h : Hh}, Jd v h → lstAt h r = some (tSs ss) → f [v, .ref r] h = .ok (.bl (oneB v ss)) h
@[simp] theorem isStr_s (s : Str) : isStr (.str s) = true := Eq.trans rfl rfl
@[simp] theorem isTup_s (s : List T) : isTup (.tup s) = true := Eq.trans rfl rfl
theorem of_isStr {v : T} (h : isStr v = true) : ∃ s, v = .str s := by cases v <;> first | exact ⟨_, rfl⟩ | cases h
theorem of_isTup {v : T} (h : isTup v = true) : ∃ s, v = .tup s := by cases v <;> first | exact ⟨_, rfl⟩ | cases h
theorem nameB_not {v : T} (h : ¬ isStr v = true) : nameB v = false := by cases v <;> first | rfl | exact absurd rfl h
theorem lcm_all {p : T → Bool} {s : Src} {ts : List T} {g : SG} {te : SE} {σ : St3} {h : Hh} {Q : T → Hh → Prop} {E E' : EQ} (hz : ts.length ≤ sizeLine) (hI : s.Is ts h) (hs : ∀ x ∈ ts, ∃ σ1, g x σ = some σ1 ∧ te σ1 h = .ok (.bl (p x)) h) (k : Q (.bl (ts.all p)) h) :
    (lcRun s g stYes te σ (s.len h) 0 [] h).wp (kQ bAll Q E') E := by
  refine wp_lcm (fun x => T.bl (p x)) hz hI hs ?_
  simp
  exact k
theorem lcm_any {p : T → Bool} {s : Src} {ts : List T} {g : SG} {te : SE} {σ : St3} {h : Hh} {Q : T → Hh → Prop} {E E' : EQ} (hz : ts.length ≤ sizeLine) (hI : s.Is ts h) (hs : ∀ x ∈ ts, ∃ σ1, g x σ = some σ1 ∧ te σ1 h = .ok (.bl (p x)) h) (k : Q (.bl (ts.any p)) h) :
    (lcRun s g stYes te σ (s.len h) 0 [] h).wp (kQ bAny Q E') E := by
  refine wp_lcm (fun x => T.bl (p x)) hz hI hs ?_
  simp
  exact k
end W3
end

section
/-! PG: forms in the heap. -/
namespace W3
open PySem
def Fm.ins (fm : Fm) : List (Str × T) := [("words", fm.tW), ("fields", fm.tF), ("room", .int fm.room)]
def FormAt (h : Hh) (l : Nat) (fm : Fm) : Prop := h[l]? = some (.ins "Form" fm.ins)
theorem insAt_of {h : Hh} {l : Nat} {c : Str} {fs : List (Str × T)} (e : h[l]? = some (.ins c fs)) : insAt h l = some (c, fs) := by unfold insAt; rw [e]
theorem FormAt.ins {h : Hh} {l : Nat} {fm : Fm} (e : FormAt h l fm) : insAt h l = some (("Form" : Str), fm.ins) := insAt_of e
theorem mOk_of {h : Hh} {l : Nat} {c m : Str} {fs : List (Str × T)} (e : insAt h l = some (c, fs)) (hm : fs.lookup m = none) : mOk c m (.ref l) h = true := by
  unfold mOk; simp only [e]; simp [hm]
theorem FormAt.m {h : Hh} {l : Nat} {fm : Fm} {m : Str} (e : FormAt h l fm) (hm : fm.ins.lookup m = none) : mOk "Form" m (.ref l) h = true := mOk_of e.ins hm
theorem fld_of {cs : List (Str × List Str)} {h : Hh} {l : Nat} {c : Str} {fs : List (Str × T)} {as : List Str} {f : Str} {t : T} (e : insAt h l = some (c, fs)) (hc : cs.lookup c = some as) (ha : as.contains f = true) (hf : fs.lookup f = some t) : oFldC cs f (.ref l) h = .ok t h := by
  simp only [oFldC, e, hc, ha, hf, if_true]
/-- .. set -/
theorem sfld_of {cs : List (Str × List Str)} {h : Hh} {l : Nat} {c : Str} {fs : List (Str × T)} {as : List Str} {f : Str} {y : T} {σ : St3} (e : insAt h l = some (c, fs)) (hc : cs.lookup c = some as) (ha : as.contains f = true) (hl : fs.length < 1000) :
    fSet cs (.ref l) f y σ h = .nx σ (h.set l (.ins c (putT f y fs))) := by
  simp only [fSet, e, hc, ha, hl, decide_true, Bool.and_true, if_true]
theorem jdN_str {n : Nat} {s : Str} {h : Hh} (hs : s.length ≤ 1000) : JdN n (.str s) h := by
  cases n with
  | zero => exact hs
  | succ n => exact ⟨hs, fun ts e => by cases e⟩
theorem jdN_non {n : Nat} {h : Hh} : JdN n .non h := by
  cases n with
  | zero => trivial
  | succ n => exact ⟨trivial, fun ts e => by cases e⟩
theorem jdN_int {n : Nat} {i : Int} {h : Hh} : JdN n (.int i) h := by
  cases n with
  | zero => trivial
  | succ n => exact ⟨trivial, fun ts e => by cases e⟩
theorem jdN_bl {n : Nat} {i : Bool} {h : Hh} : JdN n (.bl i) h := by
  cases n with
  | zero => trivial
  | succ n => exact ⟨trivial, fun ts e => by cases e⟩
theorem jdN_tup {n : Nat} {ts : List T} {h : Hh} (hl : ts.length ≤ 1000) (ht : ∀ t ∈ ts, JdN n t h) : JdN (n + 1) (.tup ts) h := ⟨hl, fun us e t q => by cases e; exact ht t q⟩
theorem jdN_ref {n : Nat} {l : Nat} {h : Hh} (j : Jd (.ref l) h) : JdN n (.ref l) h := by
  cases n with
  | zero => exact j
  | succ n => exact ⟨j, fun ts e => by cases e⟩
theorem Nm.short {s : Str} (h : Nm s) : s.length ≤ 1000 := by have := h.2.1; omega
theorem jdN_ent {n k : Nat} {r : List Ent} {e : Ent} {h : Hh} (ro : RowOk k r) (he : e ∈ r) : JdN n (tE e) h := by
  cases e with
  | none => exact jdN_non
  | some s => exact jdN_str (ro.nm s he).short
theorem jdN_row {n k : Nat} {r : List Ent} {h : Hh} (ro : RowOk k r) (hk : k ≤ 1000) : JdN (n + 1) (tRow r) h :=
  jdN_tup (by rw [List.length_map, ro.len]; exact hk) fun t ht => by
    obtain ⟨e, he, rfl⟩ := List.mem_map.mp ht
    exact jdN_ent ro he
theorem rowB_row {k : Nat} {r : List Ent} (ro : RowOk k r) : rowB (tRow r) k = true := by
  simp only [rowB, tRow, List.length_map, ro.len, decide_true, Bool.true_and, List.all_map, List.all_eq_true]
  intro e he
  cases e with
  | none => rfl
  | some s => simp [entB, nameB, nmB_iff.mpr (ro.nm s he)]
theorem nearB_nr {k : Nat} {ns : List Str} {nm : Str} {nr : Nr} (o : NrOk k ns nm nr) : nearB nr.tNear nr.tLooks k = true := by
  cases nr with
  | alone r => simp [Nr.tNear, Nr.tLooks, nearB, rowB_row o]
  | looks g rs =>
    obtain ⟨_, _, hl, hr⟩ := o
    simp [Nr.tNear, Nr.tLooks, nearB, hl]
    intro r hr'
    exact rowB_row (hr r hr')
theorem jdN_near {k : Nat} {ns : List Str} {nm : Str} {nr : Nr} {h : Hh} (o : NrOk k ns nm nr) (hk : k ≤ 1000) : JdN 2 nr.tNear h := by
  cases nr with
  | alone r => exact jdN_row o hk
  | looks g rs =>
    obtain ⟨_, _, hl, hr⟩ := o
    refine jdN_tup (by rw [List.length_map, hl]; exact hk) fun t ht => ?_
    obtain ⟨r, hr', rfl⟩ := List.mem_map.mp ht
    exact jdN_row (hr r hr') hk
theorem jdN_names {n : Nat} {ss : List Str} {h : Hh} (o : NmL ss) (hk : ss.length ≤ 1000) : JdN (n + 1) (.tup (tSs ss)) h :=
  jdN_tup (by rw [List.length_map]; exact hk) fun t ht => by
    obtain ⟨s, hs, rfl⟩ := List.mem_map.mp ht
    exact jdN_str (o.nm s hs).short
theorem strOf_tSs (ss : List Str) : (tSs ss).map strOf = ss := by
  rw [List.map_map]
  exact List.map_id' ss
theorem namesB_names {ss : List Str} {a b : Int} (o : NmL ss) (h1 : a ≤ ss.length) (h2 : (ss.length : Int) ≤ b) : namesB (.tup (tSs ss)) a b = true := by
  show (decide (a ≤ (tSs ss).length ∧ ((tSs ss).length : Int) ≤ b) && ((tSs ss).all nameB && decide (((tSs ss).map strOf).Nodup))) = true
  rw [strOf_tSs]
  simp [h1, h2, o.nd]
  intro s hs
  simp [nameB, nmB_iff.mpr (o.nm s hs)]
theorem fieldsB_fm {fm : Fm} (o : FmOk fm) : fieldsB fm.tF = true := by
  have e : (fm.fields.map tPair).map (fun t => strOf (fstOf t)) = fm.names := by rw [List.map_map]; rfl
  simp only [fieldsB, Fm.tF, List.length_map, o.f1, o.f3, e, o.fn.nd, and_self, decide_true, Bool.true_and, Bool.and_true, List.all_eq_true]
  intro t ht
  obtain ⟨p, hp, rfl⟩ := List.mem_map.mp ht
  simp [tPair, pairB, Fd.t, nameB, Fd.ts, nmB_iff.mpr (o.fn.nm p.1 (List.mem_map.mpr ⟨p, hp, rfl⟩))]
theorem jdN_fields {fm : Fm} {h : Hh} (o : FmOk fm) : JdN 2 fm.tF h := by
  refine jdN_tup (by rw [List.length_map]; have := o.f3; omega) fun t ht => ?_
  obtain ⟨p, hp, rfl⟩ := List.mem_map.mp ht
  refine jdN_tup (by simp) fun t ht => ?_
  simp at ht
  rcases ht with rfl | rfl
  · exact jdN_str (o.fn.nm p.1 (List.mem_map.mpr ⟨p, hp, rfl⟩)).short
  · show Jd _ _
    simp [Fd.t, Fd.ts]
def FieldsE (f : Fn) : Prop := IsB f 2 fieldsB
/-- a field of the form is right -/
def CheckW (f : Fn) : Prop := ∀ {fm : Fm} {p : Str × Fd} {r : Nat} {h : Hh}, FmOk fm → p ∈ fm.fields → lstAt h r = some (tSs fm.names) → f [.str p.1, p.2.t, fm.tW, .ref r] h = .ok .non h
def InitW (f : Fn) : Prop := ∀ {fm : Fm} {l : Nat} {h : Hh} {Q : T → Hh → Prop} {E : EQ}, FmOk fm → h[l]? = some (.ins "Form" []) → (∀ h', FormAt h' l fm → h'.length = h.length + 1 → (∀ k, k < h.length → k ≠ l → h'[k]? = h[k]?) → Q .non h') → (f [.ref l, fm.tW, fm.tF, .int fm.room] h).wp Q E
def FNamesE (f : Fn) : Prop := ∀ {fm : Fm} {l : Nat} {h : Hh}, FormAt h l fm → fm.fields.length ≤ 1000 → f [.ref l] h = .ok (.tup (tSs fm.names)) h
def enterB (ws ns : List Str) : List T → Bool | [a, b] => oneB a ns && oneB b ws | _ => false
def leaveB (ns : List Str) : List T → Bool | [a] => oneB a ns | _ => false
def answerB : List T → Bool | [.int k] => decide (0 ≤ k ∧ k < 3) | _ => false
def deedB (ws ns : List Str) (v : T) : Bool := match v with
  | .tup (.str w :: r) =>
    if w = "send" ∨ w = "reset" then r.isEmpty
    else if w = "enter" then enterB ws ns r
    else if w = "leave" then leaveB ns r
    else decide (w = "answer") && answerB r
  | _ => false
/-- five different words -/
theorem five (w : Str) : (w = "send" ∧ ¬ w = "reset" ∧ ¬ w = "enter" ∧ ¬ w = "leave" ∧ ¬ w = "answer") ∨ (¬ w = "send" ∧ w = "reset" ∧ ¬ w = "enter" ∧ ¬ w = "leave" ∧ ¬ w = "answer") ∨ (¬ w = "send" ∧ ¬ w = "reset" ∧ w = "enter" ∧ ¬ w = "leave" ∧ ¬ w = "answer") ∨
    (¬ w = "send" ∧ ¬ w = "reset" ∧ ¬ w = "enter" ∧ w = "leave" ∧ ¬ w = "answer") ∨ (¬ w = "send" ∧ ¬ w = "reset" ∧ ¬ w = "enter" ∧ ¬ w = "leave" ∧ w = "answer") ∨ (¬ w = "send" ∧ ¬ w = "reset" ∧ ¬ w = "enter" ∧ ¬ w = "leave" ∧ ¬ w = "answer") := by
  have key : ∀ {a b : Str}, w = a → a ≠ b → ¬ w = b := fun e n q => n (e.symm.trans q)
  by_cases h1 : w = "send"
  · exact .inl ⟨h1, key h1 (by decide +kernel), key h1 (by decide +kernel), key h1 (by decide +kernel), key h1 (by decide +kernel)⟩
  by_cases h2 : w = "reset"
  · exact .inr (.inl ⟨h1, h2, key h2 (by decide +kernel), key h2 (by decide +kernel), key h2 (by decide +kernel)⟩)
  by_cases h3 : w = "enter"
  · exact .inr (.inr (.inl ⟨h1, h2, h3, key h3 (by decide +kernel), key h3 (by decide +kernel)⟩))
  by_cases h4 : w = "leave"
  · exact .inr (.inr (.inr (.inl ⟨h1, h2, h3, h4, key h4 (by decide +kernel)⟩)))
  by_cases h5 : w = "answer"
  · exact .inr (.inr (.inr (.inr (.inl ⟨h1, h2, h3, h4, h5⟩))))
  · exact .inr (.inr (.inr (.inr (.inr ⟨h1, h2, h3, h4, h5⟩))))
theorem deedB_leave (ws ns : List Str) (r : List T) : deedB ws ns (.tup (.str "leave" :: r)) = leaveB ns r := by
  show (if ("leave" : Str) = "send" ∨ ("leave" : Str) = "reset" then r.isEmpty else if ("leave" : Str) = "enter" then enterB ws ns r else if ("leave" : Str) = "leave" then leaveB ns r else decide (("leave" : Str) = "answer") && answerB r) = _
  rw [if_neg (by decide +kernel), if_neg (by decide +kernel), if_pos rfl]
def DeedE (f : Fn) : Prop := ∀ {fm : Fm} {l : Nat} {v : T} {h : Hh}, FormAt h l fm → FmOk fm → JdN 1 v h → f [.ref l, v] h = .ok (.bl (deedB fm.words fm.names v)) h
end W3
end

section
/-! PH: values that are the same, by the law's own comparison; more comprehensions. -/
namespace W3
open PySem
def flatT : T → Bool | .non => true | .bl _ => true | .int _ => true | .str _ => true | _ => false
def LstT (h : Hh) (t : T) (ts : List T) : Prop := (∃ l, t = .ref l ∧ lstAt h l = some ts) ∨ t = .fl ts
def SameV (h : Hh) : Nat → T → T → Prop
  | 0, t, u => t = u ∧ flatT t = true
  | n + 1, t, u => (t = u ∧ flatT t = true) ∨ ∃ ts us, ((t = .tup ts ∧ u = .tup us) ∨ (LstT h t ts ∧ LstT h u us)) ∧ ts.length = us.length ∧ ts.length ≤ 100000 ∧ ∀ (i : Nat) (x y : T), ts[i]? = some x → us[i]? = some y → SameV h n x y
def PureT : Nat → T → Prop
  | 0, t => flatT t = true
  | n + 1, t => flatT t = true ∨ ∃ ts, t = .tup ts ∧ ts.length ≤ 100000 ∧ ∀ x ∈ ts, PureT n x
theorem PureT.same {h : Hh} : ∀ {n : Nat} {t : T}, PureT n t → SameV h n t t
  | 0, t, p => ⟨rfl, p⟩
  | n + 1, t, p => by
    rcases p with p | ⟨ts, rfl, hl, p⟩
    · exact .inl ⟨rfl, p⟩
    · refine .inr ⟨ts, ts, .inl ⟨rfl, rfl⟩, rfl, hl, fun i x y ex ey => ?_⟩
      rw [ex] at ey; cases ey
      exact (p x (List.mem_of_getElem? ex)).same
theorem SameV.lists {h : Hh} {n a b : Nat} {ts : List T} (ea : lstAt h a = some ts) (eb : lstAt h b = some ts) (hl : ts.length ≤ 100000) (p : ∀ x ∈ ts, PureT n x) : SameV h (n + 1) (.ref a) (.ref b) := by
  refine .inr ⟨ts, ts, .inr ⟨.inl ⟨a, rfl, ea⟩, .inl ⟨b, rfl, eb⟩⟩, rfl, hl, fun i x y ex ey => ?_⟩
  rw [ex] at ey; cases ey
  exact (p x (List.mem_of_getElem? ex)).same
def SameW (n : Nat) (f : Fn) : Prop := ∀ {t u : T} {h : Hh}, SameV h n t u → f [t, u] h = .ok (.bl true) h
@[simp] theorem e_isK_fl (k : Kd) (s : List T) (h : Hh) : oIsK k (.fl s) h = .ok (.bl (k == .list)) h := Eq.trans rfl rfl
theorem LstT.isK {h : Hh} {t : T} {ts : List T} (e : LstT h t ts) (k : Kd) : oIsK k t h = .ok (.bl (k == .list)) h := by
  rcases e with ⟨l, rfl, e⟩ | rfl
  · exact e_isK_lst e
  · rfl
theorem LstT.len {h : Hh} {t : T} {ts : List T} (e : LstT h t ts) : bLen [t] h = .ok (.int ts.length) h := by
  rcases e with ⟨l, rfl, e⟩ | rfl
  · simp [e]
  · rfl
theorem LstT.ix {h : Hh} {t : T} {ts : List T} (e : LstT h t ts) (i : Int) : oIx t (.int i) h = match L2.atI ts i with | some t => .ok t h | none => .stk := by
  rcases e with ⟨l, rfl, e⟩ | rfl
  · rw [e_ix_ref]; simp only [e] <;> rfl
  · rfl
@[simp] theorem e_saLc2 (si : SI) (g : SG) (tt : ST) (si1 : SI) (g1 : SG) (tt1 : ST) (te : SE) (vs vs1 : List Nat) {σ : St3} {h : Hh} : saLc2 si g tt si1 g1 tt1 te vs vs1 σ h = (si σ h).bind fun s h1 => lc2Run s g tt si1 g1 tt1 te vs1 (wipeT σ vs) (s.len h1) 0 [] h1 := Eq.trans rfl rfl
/-- [te for x in ts for y in us x], nothing changed -/
theorem wp_lc2m {s : Src} {ts : List T} {g : SG} {si1 : SI} {g1 : SG} {te : SE} {vs1 : List Nat} {σ : St3} {h : Hh} {Q : List T → Hh → Prop} {E : EQ} (us : T → List T) (f : T → T → T) (hz : (ts.flatMap us).length ≤ sizeLine) (hI : s.Is ts h)
    (hs : ∀ x ∈ ts, ∃ σ1 s1, g x σ = some σ1 ∧ si1 σ1 h = .ok s1 h ∧ s1.Is (us x) h ∧ ∀ y ∈ us x, ∃ σ2, g1 y (wipeT σ1 vs1) = some σ2 ∧ te σ2 h = .ok (f x y) h) (k : Q (ts.flatMap fun x => (us x).map (f x)) h) :
    (lc2Run s g stYes si1 g1 stYes te vs1 σ (s.len h) 0 [] h).wp Q E := by
  have inner : ∀ (x : T) (s1 : Src) (σ1 : St3) (ys : List T), s1.Is ys h → (∀ y ∈ ys, ∃ σ2, g1 y (wipeT σ1 vs1) = some σ2 ∧ te σ2 h = .ok (f x y) h) → ∀ k i acc, i + k = ys.length → acc.length + k ≤ sizeLine →
      lcRun s1 g1 stYes te (wipeT σ1 vs1) k i acc h = .ok (acc ++ (ys.drop i).map (f x)) h := by
    intro x s1 σ1 ys hI hy k
    induction k with
    | zero =>
      intro i acc e _
      unfold lcRun
      rw [hI.at, List.getElem?_eq_none (by omega), List.drop_eq_nil_of_le (by omega)]
      simp
    | succ k ih =>
      intro i acc e hz
      have hl : i < ys.length := by omega
      have ex : ys[i]? = some ys[i] := by simp [hl]
      obtain ⟨σ2, e1, e2⟩ := hy _ (List.mem_of_getElem? ex)
      unfold lcRun
      rw [hI.at, ex]
      simp only [e1, e_stYes, if_true, e2]
      rw [if_pos (by omega), ih (i + 1) _ (by omega) (by simp; omega), List.drop_eq_getElem_cons hl, List.map_cons, List.append_assoc]
      rfl
  have outer : ∀ k i acc, i + k = ts.length → acc.length + ((ts.drop i).flatMap us).length ≤ sizeLine → lc2Run s g stYes si1 g1 stYes te vs1 σ k i acc h = .ok (acc ++ (ts.drop i).flatMap fun x => (us x).map (f x)) h := by
    intro k
    induction k with
    | zero =>
      intro i acc e _
      unfold lc2Run
      rw [hI.at, List.getElem?_eq_none (by omega), List.drop_eq_nil_of_le (by omega)]
      simp
    | succ k ih =>
      intro i acc e hz
      have hl : i < ts.length := by omega
      have ex : ts[i]? = some ts[i] := by simp [hl]
      obtain ⟨σ1, s1, e1, e2, e3, e4⟩ := hs _ (List.mem_of_getElem? ex)
      rw [List.drop_eq_getElem_cons hl, List.flatMap_cons, List.length_append] at hz
      unfold lc2Run
      rw [hI.at, ex]
      simp only [e1, e_stYes, if_true, e2]
      rw [e3.len, inner ts[i] s1 σ1 _ e3 e4 _ 0 acc (by omega) (by omega)]
      simp only []
      rw [ih (i + 1) _ (by omega) (by rw [List.length_append, List.length_map, List.drop_zero]; omega), List.drop_eq_getElem_cons hl, List.flatMap_cons, List.append_assoc, List.drop_zero]
  rw [hI.len, outer _ 0 [] (by omega) (by simpa using hz)]
  simpa using k
def enterL (fm : Fm) : List T := fm.names.flatMap fun n => fm.words.map fun w => .tup [.str "enter", .str n, .str w]
def leaveL (fm : Fm) : List T := fm.names.map fun n => .tup [.str "leave", .str n]
def plainL (fm : Fm) : List T := enterL fm ++ leaveL fm ++ [.tup [.str "send"], .tup [.str "answer", .int 0], .tup [.str "answer", .int 1], .tup [.str "answer", .int 2]]
def wholeL (fm : Fm) : List T := plainL fm ++ [.tup [.str "reset"]]
theorem enterL_len (fm : Fm) : (enterL fm).length = fm.names.length * fm.words.length := by
  unfold enterL
  rw [List.length_flatMap]
  simp only [List.length_map]
  rw [List.map_const', List.sum_replicate_nat]
@[simp] theorem e_extend (l b : Nat) (h : Hh) : mExtend (.ref l) [.ref b] h = match lstAt h l, lstAt h b with
    | some ts, some zs => if ts.length + zs.length ≤ sizeLine then .ok .non (h.set l (.lst (ts ++ zs))) else .stk
    | _, _ => .stk := Eq.trans rfl rfl
@[simp] theorem e_clear (l : Nat) (h : Hh) : mClear (.ref l) [] h = match lstAt h l with
    | some _ => .ok .non (h.set l (.lst []))
    | none => .stk := Eq.trans rfl rfl
def enterP (fm : Fm) (ns : List Str) : List T := ns.flatMap fun n => fm.words.map fun w => .tup [.str "enter", .str n, .str w]
theorem enterP_all (fm : Fm) : enterP fm fm.names = enterL fm := rfl
theorem enterP_len (fm : Fm) (ns : List Str) : (enterP fm ns).length = ns.length * fm.words.length := by
  unfold enterP
  rw [List.length_flatMap]
  simp only [List.length_map]
  rw [List.map_const', List.sum_replicate_nat]
@[simp] theorem e_add_rr (l b : Nat) (h : Hh) : oAdd (.ref l) (.ref b) h = match lstAt h l, lstAt h b with
    | some xs, some zs => if xs.length + zs.length ≤ sizeLine then alloc (.lst (xs ++ zs)) h else .stk
    | _, _ => .stk := Eq.trans rfl rfl
theorem five_pure : True := trivial
theorem pure_strs {n : Nat} {ss : List T} (h : ∀ t ∈ ss, flatT t = true) (hl : ss.length ≤ 100000) : PureT (n + 1) (.tup ss) := .inr ⟨ss, rfl, hl, fun x hx => by
  cases n with
  | zero => exact h x hx
  | succ n => exact .inl (h x hx)⟩
theorem wholeL_mem {fm : Fm} {d : T} (hd : d ∈ wholeL fm) : (∃ n ∈ fm.names, ∃ w ∈ fm.words, d = .tup [.str "enter", .str n, .str w]) ∨ (∃ n ∈ fm.names, d = .tup [.str "leave", .str n]) ∨ d = .tup [.str "send"] ∨ (∃ k : Int, 0 ≤ k ∧ k < 3 ∧ d = .tup [.str "answer", .int k]) ∨ d = .tup [.str "reset"] := by
  unfold wholeL plainL enterL leaveL at hd
  simp only [List.mem_append, List.mem_flatMap, List.mem_map, List.mem_cons, List.not_mem_nil, or_false] at hd
  rcases hd with ((⟨n, hn, w, hw, rfl⟩ | ⟨n, hn, rfl⟩) | rfl | rfl | rfl | rfl) | rfl
  · exact .inl ⟨n, hn, w, hw, rfl⟩
  · exact .inr (.inl ⟨n, hn, rfl⟩)
  · exact .inr (.inr (.inl rfl))
  · exact .inr (.inr (.inr (.inl ⟨0, by omega, by omega, rfl⟩)))
  · exact .inr (.inr (.inr (.inl ⟨1, by omega, by omega, rfl⟩)))
  · exact .inr (.inr (.inr (.inl ⟨2, by omega, by omega, rfl⟩)))
  · exact .inr (.inr (.inr (.inr rfl)))
theorem wholeL_pure {fm : Fm} {d : T} (hd : d ∈ wholeL fm) : PureT 1 d := by
  rcases wholeL_mem hd with ⟨n, _, w, _, rfl⟩ | ⟨n, _, rfl⟩ | rfl | ⟨k, _, _, rfl⟩ | rfl <;> exact pure_strs (by simp [flatT]) (by simp)
theorem deedB_lit {ws ns : List Str} {w : Str} {r : List T} : deedB ws ns (.tup (.str w :: r)) = if w = "send" ∨ w = "reset" then r.isEmpty else if w = "enter" then enterB ws ns r else if w = "leave" then leaveB ns r else decide (w = "answer") && answerB r := rfl
theorem wholeL_deed {fm : Fm} {d : T} (hd : d ∈ wholeL fm) : deedB fm.words fm.names d = true := by
  rcases wholeL_mem hd with ⟨n, hn, w, hw, rfl⟩ | ⟨n, hn, rfl⟩ | rfl | ⟨k, h0, h3, rfl⟩ | rfl
  · rw [deedB_lit, if_neg (by decide +kernel), if_pos rfl]; simp [enterB, oneB, hn, hw]
  · rw [deedB_leave]; simp [leaveB, oneB, hn]
  · rw [deedB_lit, if_pos (by decide +kernel)]; rfl
  · rw [deedB_lit, if_neg (by decide +kernel), if_neg (by decide +kernel), if_neg (by decide +kernel)]; simp [answerB, h0, h3]
  · rw [deedB_lit, if_pos (by decide +kernel)]; rfl
theorem wholeL_jd {fm : Fm} {d : T} {h : Hh} (o : FmOk fm) (hd : d ∈ wholeL fm) : JdN 1 d h := by
  have k1 : (Str.ofString "enter").length ≤ 1000 := by decide +kernel
  have k2 : (Str.ofString "leave").length ≤ 1000 := by decide +kernel
  have k3 : (Str.ofString "send").length ≤ 1000 := by decide +kernel
  have k4 : (Str.ofString "answer").length ≤ 1000 := by decide +kernel
  have k5 : (Str.ofString "reset").length ≤ 1000 := by decide +kernel
  rcases wholeL_mem hd with ⟨n, hn, w, hw, rfl⟩ | ⟨n, hn, rfl⟩ | rfl | ⟨k, h0, h3, rfl⟩ | rfl
  · have s1 := (o.fn.nm n hn).short
    have s2 := (o.wn.nm w hw).short
    exact jdN_tup (by simp) (by simp [JdN, *])
  · have s1 := (o.fn.nm n hn).short
    exact jdN_tup (by simp) (by simp [JdN, *])
  · exact jdN_tup (by simp) (by simp [JdN, *])
  · exact jdN_tup (by simp) (by simp [JdN, *])
  · exact jdN_tup (by simp) (by simp [JdN, *])
/-- one turn of a loop over given items -/
theorem fp_turn {ts : List T} {g : SG} {b : SS} {k i : Nat} {σ σ1 : St3} {h : Hh} {Q : FQ} {x : T} (hx : ts[i]? = some x) (hg : g x σ = some σ1) (w : (b σ1 h).wp (Q.loop fun σ h => (forRun (.its ts) g b k (i + 1) σ h).wp Q)) : (forRun (.its ts) g b (k + 1) i σ h).wp Q := by
  unfold forRun
  simp only [Src.at, hx, hg]
  revert w
  cases b σ1 h <;> exact fun w => w
theorem fp_end {ts : List T} {g : SG} {b : SS} {k i : Nat} {σ : St3} {h : Hh} {Q : FQ} (hx : ts.length ≤ i) (w : Q.n σ h) : (forRun (.its ts) g b k i σ h).wp Q := by
  unfold forRun
  simp only [Src.at, List.getElem?_eq_none hx]
  exact w
theorem FormAt.app {h : Hh} {l : Nat} {fm : Fm} (e : FormAt h l fm) (o : Hh) : FormAt (h ++ o) l fm := by
  unfold FormAt
  rw [List.getElem?_append_left (List.getElem?_eq_some_iff.mp e).1]; exact e
theorem FormAt.set {h : Hh} {l k : Nat} {fm : Fm} (e : FormAt h l fm) (o : Ob) (hk : k ≠ l) : FormAt (h.set k o) l fm := by
  unfold FormAt
  rw [List.getElem?_set_ne hk]; exact e
theorem FormAt.lt {h : Hh} {l : Nat} {fm : Fm} (e : FormAt h l fm) : l < h.length := (List.getElem?_eq_some_iff.mp e).1
theorem FormAt.ne {h : Hh} {l r : Nat} {fm : Fm} {ts : List T} (e : FormAt h l fm) (q : lstAt h r = some ts) : r ≠ l := by
  intro z
  subst z
  have := of_lstAt q
  unfold FormAt at e
  rw [e] at this
  cases this
def DeedsW (f : Fn) : Prop := ∀ {fm : Fm} {l : Nat} {r : Bool} {h : Hh} {Q : T → Hh → Prop} {E : EQ}, FormAt h l fm → FmOk fm → (∀ a o, lstAt (h ++ o) a = some (if r = true then wholeL fm else plainL fm) → h.length ≤ a → Q (.ref a) (h ++ o)) → (f [.ref l, .bl r] h).wp Q E
end W3
end

section
/-! PI: errors raised and caught; any Form that is asked for. -/
namespace W3
open PySem
@[simp] theorem e_raise (c : Str) (ns : List Str) (a : SA) (σ : St3) (h : Hh) : ssRaiseX c ns a σ h = (a σ h).flo σ fun xs h1 => if xs.length = ns.length then .exc c (ns.zip xs).reverse σ h1 else .stk := Eq.trans rfl rfl
def FQ.tr (Q : FQ) (XS : XSub) (hs : List Hdl) : FQ := ⟨Q.n, Q.r, Q.b, Q.c, fun c fs σ h => (tryGo XS hs c fs σ h).wp Q⟩
section
variable {Q : FQ} {XS : XSub} {hs : List Hdl}
@[simp] theorem ft_n : (Q.tr XS hs).n = Q.n := Eq.trans rfl rfl
@[simp] theorem ft_r : (Q.tr XS hs).r = Q.r := Eq.trans rfl rfl
@[simp] theorem ft_b : (Q.tr XS hs).b = Q.b := Eq.trans rfl rfl
@[simp] theorem ft_c : (Q.tr XS hs).c = Q.c := Eq.trans rfl rfl
@[simp] theorem ft_e (c : Str) (fs : List (Str × T)) (σ : St3) (h : Hh) : (Q.tr XS hs).e c fs σ h = (tryGo XS hs c fs σ h).wp Q := Eq.trans rfl rfl
@[simp] theorem fp_try (a : SS) (σ : St3) (h : Hh) : (ssTryX XS a hs σ h).wp Q = (a σ h).wp (Q.tr XS hs) := by
  unfold ssTryX
  cases a σ h <;> rfl
theorem try_hit {x c : Str} {sl : Option Nat} {k : Str → List (Str × T) → SS} {r : List Hdl} {fs : List (Str × T)} {σ : St3} {h : Hh} {ss : List Str} (e : XS.lookup c = some ss) (hc : ss.contains x = true) : tryGo XS (⟨x, sl, k⟩ :: r) c fs σ h = clrF sl (k c fs (slSet sl σ) h) := by
  show (match XS.lookup c with | none => Flo.stk | some ss => if ss.contains x then clrF sl (k c fs (slSet sl σ) h) else tryGo XS r c fs σ h) = _
  rw [e]
  exact if_pos hc
theorem try_miss {x c : Str} {sl : Option Nat} {k : Str → List (Str × T) → SS} {r : List Hdl} {fs : List (Str × T)} {σ : St3} {h : Hh} {ss : List Str} (e : XS.lookup c = some ss) (hc : ss.contains x = false) : tryGo XS (⟨x, sl, k⟩ :: r) c fs σ h = tryGo XS r c fs σ h := by
  show (match XS.lookup c with | none => Flo.stk | some ss => if ss.contains x then clrF sl (k c fs (slSet sl σ) h) else tryGo XS r c fs σ h) = _
  rw [e]
  exact if_neg (by rw [hc]; exact Bool.false_ne_true)
end
@[simp] theorem xf_part2 (n p : T) (σ : St3) (h : Hh) : sXf [("field", n), ("part", p)] "part" σ h = .ok p h := by
  have : List.lookup ("part" : Str) [(("field" : Str), n), ("part", p)] = some p := by
    simp only [List.lookup, show (("part" : Str) == "field") = false by decide +kernel, show (("part" : Str) == "part") = true by decide +kernel]
  unfold sXf; rw [this]
@[simp] theorem xf_field2 (n p : T) (σ : St3) (h : Hh) : sXf [("field", n), ("part", p)] "field" σ h = .ok n h := by
  have : List.lookup ("field" : Str) [(("field" : Str), n), ("part", p)] = some n := by
    simp only [List.lookup, show (("field" : Str) == "field") = true by decide +kernel]
  unfold sXf; rw [this]
theorem xf_one (f : Str) (n : T) (σ : St3) (h : Hh) : sXf [(f, n)] f σ h = .ok n h := by
  have : List.lookup f [(f, n)] = some n := by simp [List.lookup]
  unfold sXf; rw [this]
/-! ### any form that is asked for -/
def eqS (t : T) (s : Str) : Bool := match t with | .str g => decide (g = s) | _ => false
def fieldErr (ws ns : List Str) (nm : Str) (a b c d : T) : Option Str :=
  if oneB a ws = false then some "first"
  else if isNonT b = false ∧ (oneB b ns = false ∨ eqS b nm = true) then some "looks"
  else if nearB c b ws.length = false then some "near"
  else if isNonT d = false ∧ rowB d ws.length = false then some "far"
  else none
def fErr (ws ns : List Str) : List T → Option (Str × Str)
  | [] => none
  | .tup [.str nm, .tup [a, b, c, d]] :: r => match fieldErr ws ns nm a b c d with
    | some p => some (p, nm)
    | none => fErr ws ns r
  | _ :: r => none
theorem fErr_cons {ws ns : List Str} {nm : Str} {a b c d : T} {r : List T} : fErr ws ns (.tup [.str nm, .tup [a, b, c, d]] :: r) = match fieldErr ws ns nm a b c d with | some p => some (p, nm) | none => fErr ws ns r := rfl
def roomB : T → Bool | .int i => decide (1 ≤ i ∧ i ≤ 3) | _ => false
def itsOf : T → List T | .tup ts => ts | _ => []
def initErr (W V R : T) : Option (Str × Str) :=
  if namesB W 2 3 = false then some ("words", "")
  else if fieldsB V = false then some ("fields", "")
  else match fErr ((itsOf W).map strOf) ((itsOf V).map fun t => strOf (fstOf t)) (itsOf V) with
    | some e => some e
    | none => if roomB R = false then some ("room", "") else none
theorem exc_of_wp {r : Res T} {c : Str} {fs : List (Str × T)} {h : Hh} (w : r.wp (fun _ _ => False) (fun c' fs' h' => c' = c ∧ fs' = fs ∧ h' = h)) : r = .exc c fs h := by
  cases r with
  | ok a h => exact w.elim
  | exc c fs h => obtain ⟨rfl, rfl, rfl⟩ := w; rfl
  | stk => exact w.elim
theorem JdN.down {n : Nat} : ∀ {v : T} {h : Hh}, JdN (n + 1) v h → JdN n v h := by
  induction n with
  | zero => exact fun j => j.1
  | succ n ih => exact fun j => ⟨j.1, fun ts e t ht => ih (j.2 ts e t ht)⟩
theorem JdN.to {n k : Nat} {v : T} {h : Hh} (j : JdN (n + k) v h) : JdN n v h := by
  induction k with
  | zero => exact j
  | succ k ih => exact ih j.down
theorem Jd.ext {v : T} {h h' : Hh} (e : ∀ (k : Nat) (o : Ob), h[k]? = some o → h'[k]? = some o) (j : Jd v h) : Jd v h' := by
  cases v with
  | ref l => rcases j with ⟨ts, q⟩ | ⟨d, q⟩; exact .inl ⟨ts, e _ _ q⟩; exact .inr ⟨d, e _ _ q⟩
  | _ => exact j
theorem JdN.ext {n : Nat} : ∀ {v : T} {h h' : Hh}, (∀ (k : Nat) (o : Ob), h[k]? = some o → h'[k]? = some o) → JdN n v h → JdN n v h' := by
  induction n with
  | zero => exact fun e j => Jd.ext e j
  | succ n ih => exact fun e j => ⟨Jd.ext e j.1, fun ts q t ht => ih e (j.2 ts q t ht)⟩
theorem ext_app (h o : Hh) : ∀ (k : Nat) (x : Ob), h[k]? = some x → (h ++ o)[k]? = some x := fun k x e => by
  rw [List.getElem?_append_left (List.getElem?_eq_some_iff.mp e).1]; exact e
theorem oneB_str {t : T} {ss : List Str} (h : oneB t ss = true) : ∃ s, t = .str s ∧ s ∈ ss := by
  cases t with
  | str s => exact ⟨s, rfl, by simpa [oneB] using h⟩
  | _ => simp [oneB] at h
def xForm (p : Str) (n : T) : List (Str × T) := [("field", n), ("part", .str p)]
/-- check_field, of any parts -/
def CheckE (f : Fn) : Prop := ∀ {nm : Str} {a b c d : T} {ws ns : List Str} {r : Nat} {h : Hh}, JdN 3 (.tup [a, b, c, d]) h → ws.length ≤ 1000 → lstAt h r = some (tSs ns) →
  f [.str nm, .tup [a, b, c, d], .tup (tSs ws), .ref r] h = match fieldErr ws ns nm a b c d with | none => .ok .non h | some p => .exc "InvalidForm" (xForm p (.str nm)) h
/-- Form(..), of any values -/
def InitE (f : Fn) : Prop := ∀ {W V R : T} {l : Nat} {h : Hh} {Q : T → Hh → Prop} {E : EQ}, JdN 1 W h → JdN 5 V h → JdN 0 R h → h[l]? = some (.ins "Form" []) →
  (initErr W V R = none → ∀ h', h'[l]? = some (.ins "Form" [("words", W), ("fields", V), ("room", R)]) → h'.length = h.length + 1 → (∀ k, k < h.length → k ≠ l → h'[k]? = h[k]?) → Q .non h') →
  (∀ p n, initErr W V R = some (p, n) → ∀ o, E "InvalidForm" (xForm p (.str n)) (h ++ o)) → (f [.ref l, W, V, R] h).wp Q E
theorem fieldsB_mem {V : T} (hv : fieldsB V = true) : ∃ ts, V = .tup ts ∧ ts.length ≤ 3 ∧ ∀ x ∈ ts, ∃ s a b c d, x = .tup [.str s, .tup [a, b, c, d]] ∧ Nm s := by
  unfold fieldsB at hv
  split at hv
  · rename_i ts
    simp only [Bool.and_eq_true, decide_eq_true_eq] at hv
    refine ⟨ts, rfl, hv.1.2, fun x hx => ?_⟩
    have := List.all_eq_true.mp hv.2.1 x hx
    unfold pairB at this
    split at this
    · rename_i a b
      simp only [Bool.and_eq_true, decide_eq_true_eq] at this
      obtain ⟨q1, q2⟩ := this
      cases a with
      | str s =>
        match b, q2 with
        | [a, b, c, d], _ => exact ⟨s, a, b, c, d, rfl, nmB_iff.mp q1⟩
      | _ => simp [nameB] at q1
    · cases this
  · cases hv
theorem namesB_mem {V : T} {lo hi : Int} (hv : namesB V lo hi = true) : ∃ ss : List Str, V = .tup (tSs ss) ∧ NmL ss ∧ lo ≤ ss.length ∧ (ss.length : Int) ≤ hi := by
  unfold namesB at hv
  split at hv
  · rename_i ts
    simp only [Bool.and_eq_true, decide_eq_true_eq] at hv
    refine ⟨ts.map strOf, by rw [← names_strs hv.2.1], ⟨hv.2.2, fun s hs => ?_⟩, by simpa using hv.1.1, by simpa using hv.1.2⟩
    obtain ⟨t, ht, rfl⟩ := List.mem_map.mp hs
    have := List.all_eq_true.mp hv.2.1 t ht
    cases t with
    | str s => exact nmB_iff.mp this
    | _ => simp [nameB] at this
  · cases hv
end W3
end

section
/-! PJ: what a Form that was made holds; tables put in its place. -/
namespace W3
open PySem
theorem grow {h h' : Hh} (hl : h.length ≤ h'.length) (hk : ∀ k, k < h.length → h'[k]? = h[k]?) : ∃ o, h' = h ++ o := by
  refine ⟨h'.drop h.length, ?_⟩
  apply List.ext_getElem?
  intro k
  by_cases q : k < h.length
  · rw [List.getElem?_append_left q]; exact hk k q
  · rw [List.getElem?_append_right (by omega), List.getElem?_drop]
    congr 1; omega
theorem eqS_false {b : T} {s : Str} (h : ∀ g, b = .str g → g ≠ s) : eqS b s = false := by
  cases b with
  | str g => simp [eqS, h g rfl]
  | _ => rfl
theorem fieldErr_ok {ws ns : List Str} {nm : Str} {fd : Fd} (o : FdOk ws ns nm fd) : fieldErr ws ns nm (.str fd.first) fd.nr.tLooks fd.nr.tNear (tFar fd.far) = none := by
  unfold fieldErr
  rw [if_neg (by simp [oneB, o.first])]
  rw [if_neg (by
    intro ⟨h1, h2⟩
    cases hn : fd.nr with
    | alone r => rw [hn] at h1; simp [Nr.tLooks, isNonT] at h1
    | looks g rs =>
      have nk := o.nr
      rw [hn] at h2 nk
      obtain ⟨q1, q2, _, _⟩ := nk
      rcases h2 with h2 | h2
      · simp [Nr.tLooks, oneB, q1] at h2
      · simp [Nr.tLooks, eqS] at h2; exact q2 h2)]
  rw [if_neg (by rw [nearB_nr o.nr]; simp)]
  rw [if_neg (by
    intro ⟨h1, h2⟩
    cases hf : fd.far with
    | none => rw [hf] at h1; simp [tFar, isNonT] at h1
    | some r => rw [hf, tFar, rowB_row (o.far r hf)] at h2; cases h2)]
theorem fErr_ok {ws ns : List Str} : ∀ {ps : List (Str × Fd)}, (∀ p ∈ ps, FdOk ws ns p.1 p.2) → fErr ws ns (ps.map tPair) = none
  | [], _ => rfl
  | p :: ps, h => by
    rw [List.map_cons, show tPair p = .tup [.str p.1, .tup [.str p.2.first, p.2.nr.tLooks, p.2.nr.tNear, tFar p.2.far]] from rfl, fErr_cons, fieldErr_ok (h p (by simp))]
    exact fErr_ok fun q hq => h q (by simp [hq])
theorem initErr_fm {fm : Fm} (o : FmOk fm) : initErr fm.tW fm.tF (.int fm.room) = none := by
  have w2 := o.w2; have w3 := o.w3
  have e : (fm.fields.map tPair).map (fun t => strOf (fstOf t)) = fm.names := by rw [List.map_map]; rfl
  unfold initErr
  rw [if_neg (by rw [Fm.tW, namesB_names o.wn (by omega) (by omega)]; simp), if_neg (by rw [fieldsB_fm o]; simp)]
  simp only [Fm.tW, Fm.tF, itsOf, strOf_tSs, e, fErr_ok o.fs]
  rw [if_neg (by simp [roomB, o.r1, o.r3])]
/-- what was made is a form -/
theorem rowB_inv {v : T} {n : Nat} (h : rowB v n = true) : ∃ r, v = tRow r ∧ RowOk n r := by
  cases v with
  | tup ts =>
    simp only [rowB, Bool.and_eq_true, decide_eq_true_eq] at h
    have he : ∀ t ∈ ts, ∃ e : Ent, t = tE e ∧ ∀ s, e = some s → Nm s := fun t ht => by
      have := List.all_eq_true.mp h.2 t ht
      cases t with
      | non => exact ⟨none, rfl, by simp⟩
      | str s => exact ⟨some s, rfl, fun s' e => by cases e; exact nmB_iff.mp (by simpa [entB, isNonT, nameB] using this)⟩
      | _ => simp [entB, isNonT, nameB] at this
    have : ∀ ts : List T, (∀ t ∈ ts, ∃ e : Ent, t = tE e ∧ ∀ s, e = some s → Nm s) → ∃ r : List Ent, ts = r.map tE ∧ ∀ s, some s ∈ r → Nm s := by
      intro ts
      induction ts with
      | nil => exact fun _ => ⟨[], rfl, by simp⟩
      | cons t ts ih =>
        intro q
        obtain ⟨e, rfl, he⟩ := q t (by simp)
        obtain ⟨r, rfl, hr⟩ := ih fun t ht => q t (by simp [ht])
        exact ⟨e :: r, rfl, fun s hs => by rcases List.mem_cons.mp hs with z | z; exact he s z.symm; exact hr s z⟩
    obtain ⟨r, rfl, hr⟩ := this ts he
    exact ⟨r, rfl, by have := h.1; simp at this; omega, hr⟩
  | _ => simp [rowB] at h
theorem fieldErr_inv {ws ns : List Str} {nm : Str} {a b c d : T} (h : fieldErr ws ns nm a b c d = none) : ∃ fd : Fd, FdOk ws ns nm fd ∧ [a, b, c, d] = fd.ts := by
  unfold fieldErr at h
  split at h; cases h
  rename_i h1
  split at h; cases h
  rename_i h2
  split at h; cases h
  rename_i h3
  split at h; cases h
  rename_i h4
  obtain ⟨s, rfl, hs⟩ := oneB_str (t := a) (ss := ws) (by simpa using h1)
  have hd : ∃ far : Option (List Ent), d = tFar far ∧ ∀ r, far = some r → RowOk ws.length r := by
    cases hd : isNonT d with
    | true => cases d <;> simp [isNonT] at hd; exact ⟨none, rfl, by simp⟩
    | false =>
      have : rowB d ws.length = true := by
        by_cases z : rowB d ws.length = true
        · exact z
        · exact absurd ⟨hd, by simpa using z⟩ h4
      obtain ⟨r, rfl, ro⟩ := rowB_inv this
      exact ⟨some r, rfl, fun r' e => by cases e; exact ro⟩
  obtain ⟨far, rfl, hfar⟩ := hd
  have h3' : nearB c b ws.length = true := by simpa using h3
  cases hb : isNonT b with
  | true =>
    cases b <;> simp [isNonT] at hb
    unfold nearB at h3'
    simp only [isNonT, if_true] at h3'
    obtain ⟨r, rfl, ro⟩ := rowB_inv h3'
    exact ⟨⟨s, .alone r, far⟩, ⟨hs, ro, hfar⟩, rfl⟩
  | false =>
    have h5 : oneB b ns = true := by
      by_cases z : oneB b ns = true
      · exact z
      · exact absurd ⟨hb, .inl (by simpa using z)⟩ h2
    obtain ⟨g, rfl, hg⟩ := oneB_str h5
    have h6 : g ≠ nm := fun z => h2 ⟨hb, .inr (by simp [eqS, z])⟩
    cases c with
    | tup ts =>
      simp only [nearB, isNonT, Bool.false_eq_true, if_false, Bool.and_eq_true, decide_eq_true_eq] at h3'
      have : ∀ ts : List T, ts.all (fun t => rowB t ws.length) = true → ∃ rs : List (List Ent), ts = rs.map tRow ∧ ∀ r ∈ rs, RowOk ws.length r := by
        intro ts
        induction ts with
        | nil => exact fun _ => ⟨[], rfl, by simp⟩
        | cons t ts ih =>
          intro q
          rw [List.all_cons, Bool.and_eq_true] at q
          obtain ⟨r, rfl, ro⟩ := rowB_inv q.1
          obtain ⟨rs, rfl, hrs⟩ := ih q.2
          exact ⟨r :: rs, rfl, fun x hx => by rcases List.mem_cons.mp hx with z | z; exact z ▸ ro; exact hrs x z⟩
      obtain ⟨rs, rfl, hrs⟩ := this ts h3'.2
      exact ⟨⟨s, .looks g rs, far⟩, ⟨hs, ⟨hg, h6, by have := h3'.1; simp at this; omega, hrs⟩, hfar⟩, rfl⟩
    | _ => simp [nearB, isNonT] at h3'
theorem fErr_inv {ws ns : List Str} : ∀ {ts : List T}, (∀ x ∈ ts, ∃ s a b c d, x = .tup [.str s, .tup [a, b, c, d]] ∧ Nm s) → fErr ws ns ts = none → ∃ ps : List (Str × Fd), ts = ps.map tPair ∧ ∀ p ∈ ps, FdOk ws ns p.1 p.2
  | [], _, _ => ⟨[], rfl, by simp⟩
  | t :: ts, h, e => by
    obtain ⟨s, a, b, c, d, rfl, _⟩ := h t (by simp)
    rw [fErr_cons] at e
    cases hz : fieldErr ws ns s a b c d with
    | some p => rw [hz] at e; cases e
    | none =>
      rw [hz] at e
      obtain ⟨fd, o, hf⟩ := fieldErr_inv hz
      obtain ⟨ps, rfl, hp⟩ := fErr_inv (fun x hx => h x (by simp [hx])) e
      refine ⟨(s, fd) :: ps, by rw [List.map_cons, tPair, Fd.t, ← hf], fun p hp' => ?_⟩
      rcases List.mem_cons.mp hp' with z | z
      · subst z; exact o
      · exact hp p z
theorem initErr_inv {W V R : T} (e : initErr W V R = none) : ∃ fm, FmOk fm ∧ W = fm.tW ∧ V = fm.tF ∧ R = .int fm.room := by
  unfold initErr at e
  split at e; cases e
  rename_i h1
  split at e; cases e
  rename_i h2
  obtain ⟨ws, rfl, wn, w2, w3⟩ := namesB_mem (by simpa using h1)
  have h2' : fieldsB V = true := by simpa using h2
  obtain ⟨ts, rfl, t3, hts⟩ := fieldsB_mem h2'
  simp only [itsOf, strOf_tSs] at e
  split at e; cases e
  rename_i hf
  split at e; cases e
  rename_i h3
  have hr : ∃ i, R = .int i ∧ 1 ≤ i ∧ i ≤ 3 := by
    cases R with
    | int i => simp [roomB] at h3; exact ⟨i, rfl, h3.1, h3.2⟩
    | _ => simp [roomB] at h3
  obtain ⟨i, rfl, r1, r3⟩ := hr
  obtain ⟨ps, rfl, hp⟩ := fErr_inv hts hf
  have en : (ps.map tPair).map (fun t => strOf (fstOf t)) = ps.map Prod.fst := by rw [List.map_map]; rfl
  rw [en] at hp
  simp only [fieldsB, List.length_map, Bool.and_eq_true, decide_eq_true_eq, en] at h2'
  refine ⟨⟨ws, ps, i⟩, ⟨by simp at w2 ⊢; omega, by simp at w3 ⊢; omega, wn, by simp; omega, by simp; omega, ⟨h2'.2.2, fun s hs => ?_⟩, hp, r1, r3⟩, rfl, rfl, rfl⟩
  obtain ⟨p, hp', rfl⟩ := List.mem_map.mp hs
  obtain ⟨s, a, b, c, d, q, n⟩ := hts (tPair p) (List.mem_map.mpr ⟨p, hp', rfl⟩)
  simp [tPair] at q
  exact q.1 ▸ n
/-- the answer to a Form that is asked for -/
def madeT (W V R : T) : T := match initErr W V R with | none => .tup [.str "made", W, V, R] | some (p, n) => .tup [.str "refused", .str p, .str n]
def MadeW (f : Fn) : Prop := ∀ {W V R : T} {h : Hh} {Q : T → Hh → Prop} {E : EQ}, JdN 1 W h → JdN 5 V h → JdN 0 R h → (∀ o, Q (madeT W V R) (h ++ o)) → (f [.tup [W, V, R]] h).wp Q E
def fdAt (fm : Fm) (v : T) : Option (Str × Fd) := match v with | .str s => fm.fields.find? (fun p => decide (p.1 = s)) | _ => none
def PartsOfE (f : Fn) : Prop := ∀ {fm : Fm} {l : Nat} {v : T} {h : Hh}, FormAt h l fm → FmOk fm → Jd v h → f [.ref l, v] h = match fdAt fm v with | some p => .ok p.2.t h | none => .exc "UnknownField" [("field", v)] h
def putF (k : Bool) (fd : Fd) (t : T) : List T := if k then [.str fd.first, fd.nr.tLooks, t, tFar fd.far] else [.str fd.first, fd.nr.tLooks, fd.nr.tNear, t]
/-- the fields with the one table put in -/
def putV (fm : Fm) (s : Str) (ps : List T) : List T := fm.fields.map fun p => if p.1 = s then .tup [.str p.1, .tup ps] else tPair p
/-- the error or the answer of with_table, with_room -/
def ansQ (W V R : T) (h : Hh) (Q : T → Hh → Prop) (E : EQ) : Prop := match initErr W V R with
  | none => ∀ o, (h ++ o)[h.length]? = some (Ob.ins "Form" [("words", W), ("fields", V), ("room", R)]) → Q (.ref h.length) (h ++ o)
  | some (p, n) => ∀ o, E "InvalidForm" (xForm p (.str n)) (h ++ o)
end W3
namespace W3
open PySem
def AnsQ (W V R : T) (h : Hh) (Q : T → Hh → Prop) (E : EQ) : Prop :=
  (initErr W V R = none → ∀ (o : Hh) (a : Nat), (h ++ o)[a]? = some (Ob.ins "Form" [("words", W), ("fields", V), ("room", R)]) → Q (.ref a) (h ++ o)) ∧ ∀ p n, initErr W V R = some (p, n) → ∀ o : Hh, E "InvalidForm" (xForm p (.str n)) (h ++ o)
theorem init_ans {f : Fn} (I : InitE f) {W V R : T} {h : Hh} {Q : T → Hh → Prop} {E : EQ} (jw : JdN 1 W h) (jv : JdN 5 V h) (jr : JdN 0 R h) (hq : initErr W V R = none → ∀ o : Hh, (h ++ o)[h.length]? = some (Ob.ins "Form" [("words", W), ("fields", V), ("room", R)]) → Q .non (h ++ o))
    (he : ∀ p n, initErr W V R = some (p, n) → ∀ o : Hh, E "InvalidForm" (xForm p (.str n)) (h ++ o)) : (f [.ref h.length, W, V, R] (h ++ [.ins "Form" []])).wp Q E := by
  refine I (JdN.ext (ext_app _ _) jw) (JdN.ext (ext_app _ _) jv) (JdN.ext (ext_app _ _) jr) (by simp) (fun e h' hl ln kp => ?_) (fun p n e o => by rw [List.append_assoc]; exact he p n e _)
  simp at ln
  obtain ⟨o, rfl⟩ := grow (h := h) (h' := h') (by omega) (fun k hk => by rw [kp k (by simp; omega) (by omega), List.getElem?_append_left hk])
  exact hq e o hl
def kT (b : Bool) : T := .str (if b then ("near" : Str) else "far")
def WithTableW (f : Fn) : Prop := ∀ {fm : Fm} {l : Nat} {v k t : T} {h : Hh} {Q : T → Hh → Prop} {E : EQ}, FormAt h l fm → FmOk fm → Jd v h → Jd k h → JdN 2 t h →
  (fdAt fm v = none → E "UnknownField" [("field", v)] h) → (∀ p, fdAt fm v = some p → oneB k ["near", "far"] = false → E "InvalidTable" [("kind", k)] h) →
  (∀ p b, fdAt fm v = some p → k = kT b → AnsQ fm.tW (.tup (putV fm p.1 (putF b p.2 t))) (.int fm.room) h Q E) → (f [.ref l, v, k, t] h).wp Q E
def WithRoomW (f : Fn) : Prop := ∀ {fm : Fm} {l : Nat} {r : T} {h : Hh} {Q : T → Hh → Prop} {E : EQ}, FormAt h l fm → FmOk fm → Jd r h → AnsQ fm.tW fm.tF r h Q E → (f [.ref l, r] h).wp Q E
theorem AnsQ.app {W V R : T} {h : Hh} {Q : T → Hh → Prop} {E : EQ} (q : AnsQ W V R h Q E) (o : Hh) : AnsQ W V R (h ++ o) Q E :=
  ⟨fun e o2 a ha => by rw [List.append_assoc] at ha ⊢; exact q.1 e _ a ha, fun p n e o2 => by rw [List.append_assoc]; exact q.2 p n e _⟩
theorem jdN_fm {fm : Fm} {h : Hh} (o : FmOk fm) : JdN 5 fm.tF h := by
  have w3 := o.w3
  refine jdN_tup (by rw [List.length_map]; have := o.f3; omega) fun t ht => ?_
  obtain ⟨p, hp, rfl⟩ := List.mem_map.mp ht
  refine jdN_tup (by simp) fun t ht => ?_
  simp at ht
  have fo := o.fs p hp
  rcases ht with rfl | rfl
  · exact jdN_str (o.fn.nm p.1 (List.mem_map.mpr ⟨p, hp, rfl⟩)).short
  · refine jdN_tup (by simp [Fd.ts]) fun t ht => ?_
    simp [Fd.ts] at ht
    rcases ht with rfl | rfl | rfl | rfl
    · exact jdN_str (o.wn.nm _ fo.first).short
    · cases hn : p.2.nr with
      | alone r => exact jdN_non
      | looks g rs =>
        have nk := fo.nr
        rw [hn] at nk
        exact jdN_str (o.fn.nm g nk.1).short
    · exact jdN_near fo.nr (by omega)
    · cases hf : p.2.far with
      | none => exact jdN_non
      | some r => exact jdN_row (fo.far r hf) (by omega)
theorem jdN_putV {fm : Fm} {h : Hh} (o : FmOk fm) {p : Str × Fd} (hp : p ∈ fm.fields) {t : T} (jt : JdN 2 t h) (b : Bool) : JdN 5 (.tup (putV fm p.1 (putF b p.2 t))) h := by
  have f3 := o.f3
  refine jdN_tup (by simp [putV]; omega) fun x hx => ?_
  obtain ⟨u, hu, rfl⟩ := List.mem_map.mp hx
  have j0 := (jdN_fm (h := h) o).tup (t := tPair u) (List.mem_map.mpr ⟨u, hu, rfl⟩)
  have j1 := ((jdN_fm (h := h) o).tup (t := tPair p) (List.mem_map.mpr ⟨p, hp, rfl⟩)).tup (t := p.2.t) (by simp)
  split
  · refine jdN_tup (by simp) fun x hx => ?_
    simp at hx
    rcases hx with rfl | rfl
    · exact j0.tup (by simp)
    · refine jdN_tup (by unfold putF; split <;> simp) fun x hx => ?_
      have j2 : ∀ y ∈ p.2.ts, JdN 2 y h := fun y hy => j1.tup hy
      unfold putF at hx
      split at hx
      · simp at hx
        rcases hx with rfl | rfl | rfl | rfl
        · exact j2 _ (by simp [Fd.ts])
        · exact j2 _ (by simp [Fd.ts])
        · exact jt
        · exact j2 _ (by simp [Fd.ts])
      · simp at hx
        rcases hx with rfl | rfl | rfl | rfl
        · exact j2 _ (by simp [Fd.ts])
        · exact j2 _ (by simp [Fd.ts])
        · exact j2 _ (by simp [Fd.ts])
        · exact jt
  · exact j0
def ToldW (f : Fn) : Prop := ∀ {fm : Fm} {l : Nat} {v k t : T} {h : Hh} {Q : T → Hh → Prop} {E : EQ}, FormAt h l fm → FmOk fm → Jd v h → Jd k h → JdN 2 t h →
  (fdAt fm v = none → Q (.tup [.str "field", v]) h) → (∀ p, fdAt fm v = some p → oneB k ["near", "far"] = false → Q (.tup [.str "table", k]) h) →
  (∀ p b, fdAt fm v = some p → k = kT b → ∀ o, Q (madeT fm.tW (.tup (putV fm p.1 (putF b p.2 t))) (.int fm.room)) (h ++ o)) → (f [.ref l, v, k, t, .non] h).wp Q E
def ToldR (f : Fn) : Prop := ∀ {fm : Fm} {l z : Nat} {v k t r : T} {h : Hh} {Q : T → Hh → Prop} {E : EQ}, FormAt h l fm → FmOk fm → lstAt h z = some [r] → Jd r h →
  (∀ o, Q (madeT fm.tW fm.tF r) (h ++ o)) → (f [.ref l, v, k, t, .ref z] h).wp Q E
theorem fm_at {h : Hh} {a : Nat} {W V R : T} (e : initErr W V R = none) (ha : h[a]? = some (Ob.ins "Form" [("words", W), ("fields", V), ("room", R)])) : ∃ fm, FmOk fm ∧ W = fm.tW ∧ V = fm.tF ∧ R = .int fm.room ∧ FormAt h a fm := by
  obtain ⟨fm, o, rfl, rfl, rfl⟩ := initErr_inv e
  exact ⟨fm, o, rfl, rfl, rfl, ha⟩
def TableW (f : Fn) : Prop := ∀ {h : Hh} {l : Nat} {ws : List Str} {V R x : T} {Q : T → Hh → Prop} {E : EQ}, IsBox h l → 2 ≤ ws.length → ws.length ≤ 3 → (∀ v h', Up l h h' → JdN 2 v h' → Q v h') → (f [.ref l, .tup [.tup (tSs ws), V, R], x] h).wp Q E
theorem nm_note : Nm "note" := nmB_iff.mp (by decide +kernel)
theorem nm_other : Nm "other" := nmB_iff.mp (by decide +kernel)
theorem sIx_nat (n d k : Nat) : HT.sIx n d (some (k : Int)) = min k n := by
  exact HT.sIx_nat n d k
theorem cut_to {α : Type} (xs : List α) (k : Nat) : cutT xs none (some (k : Int)) = xs.take k := by
  unfold cutT
  rw [sIx_nat, show HT.sIx xs.length 0 none = 0 from rfl, List.drop_zero, Nat.sub_zero]
  by_cases h : k ≤ xs.length
  · rw [Nat.min_eq_left h]
  · rw [Nat.min_eq_right (by omega), List.take_length, List.take_of_length_le (by omega)]
theorem cut_from {α : Type} (xs : List α) (k : Nat) : cutT xs (some (k : Int)) none = xs.drop k := by
  unfold cutT
  rw [sIx_nat, show HT.sIx xs.length xs.length none = xs.length from rfl]
  by_cases h : k ≤ xs.length
  · rw [Nat.min_eq_left h, List.take_of_length_le (by rw [List.length_drop]; omega)]
  · rw [Nat.min_eq_right (by omega), List.drop_length, List.drop_eq_nil_of_le (by omega)]; simp
@[simp] theorem e_neD_s (s : Str) (y : T) (h : Hh) : oNeD (.str s) y h = oNe (.str s) y h := by unfold oNeD; simp [dicB]
theorem e_neD_dic {l : Nat} {d : List (T × T)} {h : Hh} (e : h[l]? = some (.dic d)) : oNeD (.ref l) (.ref l) h = .ok (.bl false) h := by unfold oNeD; simp [dicB, e]
def ReadX (f : Fn) : Prop := ∀ {fm : Fm} {l : Nat} {v : T} {h : Hh}, FormAt h l fm → FmOk fm → Jd v h → fdAt fm v = none → f [.ref l, v] h = .exc "UnknownField" [("field", v)] h
def DoorsW (f : Fn) : Prop := ∀ {fm : Fm} {l : Nat} {p : Str × Fd} {h : Hh} {Q : T → Hh → Prop} {E : EQ}, FormAt h l fm → FmOk fm → p ∈ fm.fields → (∀ o, Q (.bl true) (h ++ o)) → (f [.ref l, .str p.1] h).wp Q E
theorem fdAt_none {fm : Fm} {v : T} (h : ∀ s, v = .str s → s ∉ fm.names) : fdAt fm v = none := by
  unfold fdAt
  cases v with
  | str s =>
    simp only [List.find?_eq_none]
    intro p hp
    simp
    intro e
    exact h s rfl (List.mem_map.mpr ⟨p, hp, e⟩)
  | _ => rfl
theorem fdAt_some {fm : Fm} (o : FmOk fm) {p : Str × Fd} (hp : p ∈ fm.fields) : fdAt fm (.str p.1) = some p := by
  unfold fdAt
  simp only []
  have nd : (fm.fields.map Prod.fst).Nodup := o.fn.nd
  generalize fm.fields = ps at hp nd
  induction ps with
  | nil => cases hp
  | cons q ps ih =>
    rw [List.map_cons, List.nodup_cons] at nd
    rcases List.mem_cons.mp hp with z | z
    · subst z; simp
    · have hne : ¬ q.1 = p.1 := fun e => nd.1 (e ▸ List.mem_map.mpr ⟨p, z, rfl⟩)
      rw [List.find?_cons, show decide (q.1 = p.1) = false by simpa using hne]
      exact ih z nd.2
theorem notName_empty {fm : Fm} (o : FmOk fm) : ("" : Str) ∉ fm.names := fun h => by
  have := (o.fn.nm _ h).1
  have e : (Str.ofString "").length = 0 := by decide +kernel
  omega
theorem notName_long {fm : Fm} (o : FmOk fm) {s : Str} (h1 : 1 ≤ s.length) : s ++ ("aaaaaaaa" : Str) ∉ fm.names := fun h => by
  have := (o.fn.nm _ h).2.1
  have e : (Str.ofString "aaaaaaaa").length = 8 := by decide +kernel
  rw [str_len_app] at this
  have e' : ("aaaaaaaa" : Str).length = 8 := e
  omega
/-- the bad names of the doors -/
def badL (nm : Str) (a : Nat) : List T := [.str (nm ++ "aaaaaaaa"), .str "", .non, .int 0, .ref a, .tup [.str nm], .bl true]
theorem same_flat {h : Hh} {n : Nat} {t : T} (f : flatT t = true) : SameV h n t t := by
  cases n with
  | zero => exact ⟨rfl, f⟩
  | succ n => exact .inl ⟨rfl, f⟩
theorem bad_ok {fm : Fm} (o : FmOk fm) {nm : Str} (hn : Nm nm) {a : Nat} {h : Hh} (ha : lstAt h a = some [.str nm]) {b : T} (hb : b ∈ badL nm a) : Jd b h ∧ fdAt fm b = none ∧ SameV h 1 b b := by
  have e : (Str.ofString "aaaaaaaa").length = 8 := by decide +kernel
  have e' : ("aaaaaaaa" : Str).length = 8 := e
  have e0 : (Str.ofString "").length = 0 := by decide +kernel
  have e0' : ("" : Str).length = 0 := e0
  have n1 := hn.1; have n2 := hn.2.1
  unfold badL at hb
  simp only [List.mem_cons, List.not_mem_nil, or_false] at hb
  rcases hb with rfl | rfl | rfl | rfl | rfl | rfl | rfl
  · exact ⟨by rw [Jd_str, str_len_app]; omega, fdAt_none fun s e => by cases e; exact notName_long o n1, same_flat rfl⟩
  · exact ⟨by rw [Jd_str]; omega, fdAt_none fun s e => by cases e; exact notName_empty o, same_flat rfl⟩
  · exact ⟨trivial, rfl, same_flat rfl⟩
  · exact ⟨trivial, rfl, same_flat rfl⟩
  · exact ⟨Jd_lst ha, rfl, SameV.lists ha ha (by simp) (fun x hx => by simp at hx; subst hx; rfl)⟩
  · exact ⟨by simp, rfl, (pure_strs (n := 0) (by simp [flatT]) (by simp)).same⟩
  · exact ⟨trivial, rfl, same_flat rfl⟩
theorem same_pair {h : Hh} {n : Nat} {s : Str} {b : T} (hb : SameV h n b b) : SameV h (n + 1) (.tup [.str s, b]) (.tup [.str s, b]) := by
  refine .inr ⟨_, _, .inl ⟨rfl, rfl⟩, rfl, by simp, fun i x y ex ey => ?_⟩
  rw [ex] at ey; cases ey
  match i, ex with
  | 0, ex => simp at ex; subst ex; exact same_flat rfl
  | 1, ex => simp at ex; subst ex; exact hb
  | i + 2, ex => simp at ex
theorem SameV.ext {h h' : Hh} (e : ∀ (k : Nat) (o : Ob), h[k]? = some o → h'[k]? = some o) : ∀ {n : Nat} {t u : T}, SameV h n t u → SameV h' n t u
  | 0, _, _, q => q
  | n + 1, _, _, q => by
    rcases q with q | ⟨ts, us, hk, hl, hz, hs⟩
    · exact .inl q
    · have ll : ∀ {t : T} {ts : List T}, LstT h t ts → LstT h' t ts := fun {t ts} z => by
        rcases z with ⟨l, rfl, z⟩ | rfl
        · exact .inl ⟨l, rfl, lstAt_of (e _ _ (of_lstAt z))⟩
        · exact .inr rfl
      refine .inr ⟨ts, us, ?_, hl, hz, fun i x y ex ey => (hs i x y ex ey).ext e⟩
      rcases hk with z | ⟨z1, z2⟩
      · exact .inl z
      · exact .inr ⟨ll z1, ll z2⟩
theorem SameV.up {h : Hh} : ∀ {n : Nat} {t u : T}, SameV h n t u → SameV h (n + 1) t u
  | 0, _, _, q => .inl q
  | n + 1, _, _, q => by
    rcases q with q | ⟨ts, us, hk, hl, hz, hs⟩
    · exact .inl q
    · exact .inr ⟨ts, us, hk, hl, hz, fun i x y ex ey => (hs i x y ex ey).up⟩
theorem isDic_ok {h : Hh} {l : Nat} {d : List (T × T)} (e : h[l]? = some (.dic d)) : oIsK .dict (.ref l) h = .ok (.bl true) h := by
  apply isK_ok
  simp only [isK, e]; rfl
/-- the kinds of the doors -/
def kindL (a : Nat) : List T := [.str "near", .str "far", .str "", .str "Near", .non, .int 0, .ref a, .ref (a + 1)]
theorem kind_ok {a : Nat} {h : Hh} (ha : lstAt h a = some [.str "far"]) (hd : h[a + 1]? = some (.dic [])) {x : T} (hx : x ∈ kindL a) :
    (∃ s : Str, x = .str s ∧ (s = "near" ∨ s = "far")) ∨ ((Jd x h ∧ oneB x ["near", "far"] = false) ∧ ((∃ l, x = .ref l ∧ h[l]? = some (.dic [])) ∨ (SameV h 1 x x ∧ ∀ o : Hh, oIsK .dict x (h ++ o) = .ok (.bl false) (h ++ o)))) := by
  unfold kindL at hx
  simp only [List.mem_cons, List.not_mem_nil, or_false] at hx
  rcases hx with rfl | rfl | rfl | rfl | rfl | rfl | rfl | rfl
  · exact .inl ⟨_, rfl, .inl rfl⟩
  · exact .inl ⟨_, rfl, .inr rfl⟩
  · exact .inr ⟨⟨by rw [Jd_str]; decide +kernel, by decide +kernel⟩, .inr ⟨same_flat rfl, fun _ => rfl⟩⟩
  · exact .inr ⟨⟨by rw [Jd_str]; decide +kernel, by decide +kernel⟩, .inr ⟨same_flat rfl, fun _ => rfl⟩⟩
  · exact .inr ⟨⟨trivial, rfl⟩, .inr ⟨same_flat rfl, fun _ => rfl⟩⟩
  · exact .inr ⟨⟨trivial, rfl⟩, .inr ⟨same_flat rfl, fun _ => rfl⟩⟩
  · exact .inr ⟨⟨Jd_lst ha, rfl⟩, .inr ⟨SameV.lists ha ha (by simp) (fun x hx => by simp at hx; subst hx; rfl), fun o => e_isK_lst (lstAt_app o ha)⟩⟩
  · exact .inr ⟨⟨.inr ⟨_, hd⟩, rfl⟩, .inl ⟨_, rfl, hd⟩⟩
end W3
end

section
/-! PK: forms are pure; a field put in its place. -/
namespace W3
open PySem
theorem PureT.up : ∀ {n : Nat} {t : T}, PureT n t → PureT (n + 1) t
  | 0, _, h => .inl h
  | n + 1, _, h => by
    rcases h with h | ⟨ts, rfl, hl, hs⟩
    · exact .inl h
    · exact .inr ⟨ts, rfl, hl, fun x hx => (hs x hx).up⟩
theorem PureT.add {n : Nat} {t : T} (h : PureT n t) : ∀ k, PureT (n + k) t
  | 0 => h
  | k + 1 => (h.add k).up
theorem PureT.tup {n : Nat} {ts : List T} (hl : ts.length ≤ 100000) (h : ∀ x ∈ ts, PureT n x) : PureT (n + 1) (.tup ts) := .inr ⟨ts, rfl, hl, h⟩
theorem pure_flat {n : Nat} {t : T} (h : flatT t = true) : PureT n t := by
  cases n with
  | zero => exact h
  | succ n => exact .inl h
theorem pure_row {n k : Nat} {r : List Ent} (ro : RowOk k r) (hk : k ≤ 1000) : PureT (n + 1) (tRow r) :=
  PureT.tup (by rw [List.length_map, ro.len]; omega) fun x hx => by
    obtain ⟨e, _, rfl⟩ := List.mem_map.mp hx
    cases e <;> exact pure_flat rfl
theorem pure_near {n k : Nat} {ns : List Str} {nm : Str} {nr : Nr} (o : NrOk k ns nm nr) (hk : k ≤ 1000) : PureT (n + 2) nr.tNear := by
  cases nr with
  | alone r => exact (pure_row (n := n) o hk).up
  | looks g rs =>
    obtain ⟨_, _, hl, hr⟩ := o
    refine PureT.tup (by rw [List.length_map, hl]; omega) fun t ht => ?_
    obtain ⟨r, hr', rfl⟩ := List.mem_map.mp ht
    exact pure_row (hr r hr') hk
theorem pure_fd {ws ns : List Str} {nm : Str} {fd : Fd} (o : FdOk ws ns nm fd) (hw : ws.length ≤ 1000) : PureT 3 fd.t := by
  refine PureT.tup (by simp [Fd.ts]) fun t ht => ?_
  simp [Fd.ts] at ht
  rcases ht with rfl | rfl | rfl | rfl
  · exact pure_flat rfl
  · cases hn : fd.nr <;> exact pure_flat rfl
  · exact pure_near (n := 0) o.nr hw
  · cases hf : fd.far with
    | none => exact pure_flat rfl
    | some r => exact pure_row (n := 1) (o.far r hf) hw
theorem pure_tF {fm : Fm} (o : FmOk fm) : PureT 5 fm.tF := by
  have w3 := o.w3; have f3 := o.f3
  refine PureT.tup (by rw [List.length_map]; omega) fun t ht => ?_
  obtain ⟨p, hp, rfl⟩ := List.mem_map.mp ht
  refine PureT.tup (by simp) fun t ht => ?_
  simp at ht
  rcases ht with rfl | rfl
  · exact pure_flat rfl
  · exact pure_fd (o.fs p hp) (by omega)
theorem pure_tW {fm : Fm} (o : FmOk fm) : PureT 5 fm.tW := by
  have w3 := o.w3
  exact (pure_strs (n := 4) (fun t ht => by obtain ⟨s, _, rfl⟩ := List.mem_map.mp ht; rfl) (by rw [List.length_map]; omega))
theorem pure_fm {fm : Fm} (o : FmOk fm) : PureT 6 (.tup [fm.tW, fm.tF, .int fm.room]) := by
  refine PureT.tup (by simp) fun t ht => ?_
  simp at ht
  rcases ht with rfl | rfl | rfl
  · exact pure_tW o
  · exact pure_tF o
  · exact pure_flat rfl
theorem pure_made (W V R : T) : PureT 6 (madeT W V R) := by
  unfold madeT
  split
  · rename_i e
    obtain ⟨fm, o, rfl, rfl, rfl⟩ := initErr_inv e
    refine PureT.tup (by simp) fun t ht => ?_
    simp at ht
    rcases ht with rfl | rfl | rfl | rfl
    · exact pure_flat rfl
    · exact pure_tW o
    · exact pure_tF o
    · exact pure_flat rfl
  · refine PureT.tup (by simp) fun t ht => ?_
    simp at ht
    rcases ht with rfl | rfl | rfl <;> exact pure_flat rfl
theorem putV_cut {fm : Fm} (o : FmOk fm) {i : Nat} {p : Str × Fd} (e : fm.fields[i]? = some p) (ps : List T) : (fm.fields.map tPair).take i ++ .tup [.str p.1, .tup ps] :: (fm.fields.map tPair).drop (i + 1) = putV fm p.1 ps := by
  have hi := (List.getElem?_eq_some_iff.mp e).1
  have sp : fm.fields = fm.fields.take i ++ p :: fm.fields.drop (i + 1) := by
    have := List.take_append_drop i fm.fields
    rw [List.drop_eq_getElem_cons hi, show fm.fields[i] = p from (List.getElem?_eq_some_iff.mp e).2] at this
    exact this.symm
  have nd : (fm.fields.map Prod.fst).Nodup := o.fn.nd
  unfold putV
  rw [← List.map_take, ← List.map_drop]
  conv => rhs; rw [sp]
  rw [sp] at nd
  simp only [List.map_append, List.map_cons, List.nodup_append, List.nodup_cons] at nd
  rw [List.map_append, List.map_cons, if_pos rfl]
  congr 1
  · apply List.map_congr_left
    intro u hu
    rw [if_neg]
    intro z
    exact nd.2.2 u.1 (List.mem_map.mpr ⟨u, hu, rfl⟩) p.1 (by simp) z
  · congr 1
    apply List.map_congr_left
    intro u hu
    rw [if_neg]
    intro z
    exact nd.2.1.1 (z ▸ List.mem_map.mpr ⟨u, hu, rfl⟩)
theorem FormAt.upK {h h' : Hh} {l a : Nat} {fm : Fm} (e : FormAt h a fm) (u : Up l h h') (hne : a ≠ l) : FormAt h' a fm := by
  unfold FormAt
  rw [u.keep a e.lt hne]
  exact e
end W3
end

section
/-! PL: places found by enumerate. -/
namespace W3
open PySem
@[simp] theorem e_siEnum (a : SA) (σ : St3) (h : Hh) : siEnum a σ h = (a σ h).bind enumOf := Eq.trans rfl rfl
@[simp] theorem enumL_len (k : Nat) (ts : List T) : (enumL k ts).length = ts.length := by
  induction ts generalizing k with
  | nil => rfl
  | cons t ts ih => simp [enumL, ih]
def eqP (w : Str) (t : T) : Bool := match t with | .tup [_, .str s] => decide (s = w) | _ => false
def fst2 (t : T) : T := match t with | .tup [a, _] => a | t => t
theorem enumL_mem {ss : List Str} {k : Nat} {x : T} (h : x ∈ enumL k (tSs ss)) : ∃ i s, x = .tup [.int ((k + i : Nat) : Int), .str s] ∧ ss[i]? = some s := by
  obtain ⟨i, hi⟩ := List.getElem?_of_mem h
  rw [enumL_get, List.getElem?_map] at hi
  cases e : ss[i]? with
  | none => rw [e] at hi; cases hi
  | some s => rw [e] at hi; cases hi; exact ⟨i, s, rfl, e⟩
theorem enum_found {ss : List Str} {w : Str} (hw : w ∈ ss) : ∃ i r, ((enumL 0 (tSs ss)).filter (eqP w)).map fst2 = .int (i : Nat) :: r ∧ ss[i]? = some w := by
  obtain ⟨j, hj⟩ := List.getElem?_of_mem hw
  have hm : T.tup [.int (((0 + j : Nat)) : Int), .str w] ∈ enumL 0 (tSs ss) := by
    apply List.mem_of_getElem? (i := j)
    rw [enumL_get, List.getElem?_map, hj]; rfl
  have hf : T.tup [.int (((0 + j : Nat)) : Int), .str w] ∈ (enumL 0 (tSs ss)).filter (eqP w) := List.mem_filter.mpr ⟨hm, by simp [eqP]⟩
  cases e : (enumL 0 (tSs ss)).filter (eqP w) with
  | nil => rw [e] at hf; cases hf
  | cons x r =>
    have hx : x ∈ (enumL 0 (tSs ss)).filter (eqP w) := by rw [e]; simp
    obtain ⟨h1, h2⟩ := List.mem_filter.mp hx
    obtain ⟨i, s, rfl, hs⟩ := enumL_mem h1
    have : s = w := by simpa [eqP] using h2
    subst this
    exact ⟨i, r.map fst2, by rw [List.map_cons]; simp [fst2], hs⟩
def PlaceW (f : Fn) (ss : Fm → List Str) : Prop := ∀ {fm : Fm} {l : Nat} {w : Str} {h : Hh} {Q : T → Hh → Prop} {E : EQ}, FormAt h l fm → FmOk fm → w ∈ ss fm → (∀ (i : Nat) o, (ss fm)[i]? = some w → Q (.int i) (h ++ o)) → (f [.ref l, .str w] h).wp Q E
end W3
end

section
/-! PM: the words of a form's fields, and what they show. -/
namespace W3
open PySem
def wordsB (fm : Fm) (v : T) : Bool := match v with | .tup ts => decide (ts.length = fm.fields.length) && ts.all (fun t => oneB t fm.words) | _ => false
def AreWordsE (f : Fn) : Prop := ∀ {fm : Fm} {l : Nat} {v : T} {h : Hh}, FormAt h l fm → FmOk fm → JdN 1 v h → f [.ref l, v] h = .ok (.bl (wordsB fm v)) h
def CheckWordsE (f : Fn) : Prop := ∀ {fm : Fm} {l : Nat} {v : T} {h : Hh}, FormAt h l fm → FmOk fm → JdN 1 v h → f [.ref l, v] h = if wordsB fm v = true then .ok .non h else .exc "InvalidWords" [("words", v)] h
theorem wordsB_inv {fm : Fm} {v : T} (h : wordsB fm v = true) : ∃ ss : List Str, v = .tup (tSs ss) ∧ ss.length = fm.fields.length ∧ ∀ s ∈ ss, s ∈ fm.words := by
  cases v with
  | tup ts =>
    simp only [wordsB, Bool.and_eq_true, decide_eq_true_eq] at h
    have : ∀ ts : List T, ts.all (fun t => oneB t fm.words) = true → ∃ ss : List Str, ts = tSs ss ∧ ∀ s ∈ ss, s ∈ fm.words := by
      intro ts
      induction ts with
      | nil => exact fun _ => ⟨[], rfl, by simp⟩
      | cons t ts ih =>
        intro q
        rw [List.all_cons, Bool.and_eq_true] at q
        obtain ⟨s, rfl, hs⟩ := oneB_str q.1
        obtain ⟨ss, rfl, hss⟩ := ih q.2
        exact ⟨s :: ss, rfl, fun x hx => by rcases List.mem_cons.mp hx with z | z; exact z ▸ hs; exact hss x z⟩
    obtain ⟨ss, rfl, hs⟩ := this ts h.2
    exact ⟨ss, rfl, by have := h.1; simpa using this, hs⟩
  | _ => simp [wordsB] at h
/-- near_entry, true_error -/
def EntryW (f : Fn) : Prop := ∀ {fm : Fm} {l : Nat} {v n : T} {h : Hh} {Q : T → Hh → Prop} {E : EQ}, FormAt h l fm → FmOk fm → JdN 1 v h → Jd n h → (wordsB fm v = false → E "InvalidWords" [("words", v)] h) → (wordsB fm v = true → fdAt fm n = none → E "UnknownField" [("field", n)] h) →
  (wordsB fm v = true → ∀ p, fdAt fm n = some p → ∀ (e : Ent) o, Q (tE e) (h ++ o)) → (f [.ref l, v, n] h).wp Q E
def FarW (f : Fn) : Prop := ∀ {fm : Fm} {l : Nat} {n w : T} {h : Hh} {Q : T → Hh → Prop} {E : EQ}, FormAt h l fm → FmOk fm → Jd n h → Jd w h → (fdAt fm n = none → E "UnknownField" [("field", n)] h) → (∀ p, fdAt fm n = some p → oneB w fm.words = false → E "UnknownWord" [("word", w)] h) →
  (∀ p, fdAt fm n = some p → oneB w fm.words = true → ∀ (e : Ent) o, Q (tE e) (h ++ o)) → (f [.ref l, n, w] h).wp Q E
def AllW (f : Fn) : Prop := ∀ {fm : Fm} {l : Nat} {v : T} {h : Hh} {Q : T → Hh → Prop} {E : EQ}, FormAt h l fm → FmOk fm → JdN 1 v h → (wordsB fm v = false → E "InvalidWords" [("words", v)] h) → (wordsB fm v = true → ∀ t o, Q t (h ++ o)) → (f [.ref l, v] h).wp Q E
theorem fdAt_inv {fm : Fm} {n : T} {p : Str × Fd} (e : fdAt fm n = some p) : n = .str p.1 ∧ p ∈ fm.fields ∧ p.1 ∈ fm.names := by
  cases n with
  | str s =>
    unfold fdAt at e
    have h1 : p.1 = s := by simpa using List.find?_some e
    have h2 := List.mem_of_find?_eq_some e
    exact ⟨by rw [h1], h2, List.mem_map.mpr ⟨p, h2, rfl⟩⟩
  | _ => cases e
end W3
end

section
/-! PN: what the law of k05 is told. -/
namespace W3
open PySem
def dueT (fm : Fm) (k : Int) (v n w : T) : T :=
  if k < 3 ∧ wordsB fm v = false then .tup [.str "words", v, .bl false]
  else if k ≠ 2 ∧ fdAt fm n = none then .tup [.str "field", n, .bl false]
  else if k = 3 ∧ oneB w fm.words = false then .tup [.str "word", w, .bl false]
  else .tup [.str "told", .non, .bl false]
def Told5 (f : Fn) : Prop := ∀ {fm : Fm} {l : Nat} {k : Int} {v n w : T} {h : Hh} {Q : T → Hh → Prop} {E : EQ}, FormAt h l fm → FmOk fm → JdN 1 v h → Jd n h → Jd w h → 0 ≤ k → k < 4 → (∀ o, Q (dueT fm k v n w) (h ++ o)) → (f [.ref l, .int k, v, n, w] h).wp Q E
def LWordsE (f : Fn) : Prop := ∀ {fm : Fm} {v : T} {h : Hh}, FmOk fm → JdN 1 v h → f [v, fm.tW, .int fm.fields.length] h = .ok (.bl (wordsB fm v)) h
end W3
end

section
/-! PO: loops whose targets are lists. -/
namespace W3
open PySem
@[simp] theorem e_ssForH (si : SI) (g : SGH) (b : SS) (σ : St3) (h : Hh) : ssForH si g b σ h = (si σ h).flo σ fun s h1 => forRunH s g b (s.len h1) 0 σ h1 := Eq.trans rfl rfl
theorem wp_forH {s : Src} {ts : List T} {g : SGH} {b : SS} {σ : St3} {h : Hh} {Q : FQ} (I : Nat → St3 → Hh → Prop) (hI : ∀ i σ h, I i σ h → s.Is ts h) (h0 : I 0 σ h)
    (hs : ∀ i x σ h, ts[i]? = some x → I i σ h → ∃ σ1, g x σ h = some σ1 ∧ (b σ1 h).wp (Q.loop (I (i + 1))))
    (he : ∀ σ h, I ts.length σ h → Q.n σ h) : (forRunH s g b (s.len h) 0 σ h).wp Q := by
  rw [(hI _ _ _ h0).len]
  suffices H : ∀ k i σ h, i + k = ts.length → I i σ h → (forRunH s g b k i σ h).wp Q from H _ _ _ _ (by omega) h0
  intro k
  induction k with
  | zero =>
    intro i σ h e q
    have e1 : i = ts.length := by omega
    unfold forRunH
    rw [(hI _ _ _ q).at, List.getElem?_eq_none (by omega)]
    exact he σ h (e1 ▸ q)
  | succ k ih =>
    intro i σ h e q
    have ex : ts[i]? = some ts[i] := by simp [show i < ts.length by omega]
    obtain ⟨σ1, e1, w⟩ := hs i _ σ h ex q
    unfold forRunH
    rw [(hI _ _ _ q).at, ex]
    simp only [e1]
    revert w
    cases b σ1 h with
    | nx σ2 h2 => exact fun w => ih (i + 1) σ2 h2 (by omega) w
    | ct σ2 h2 => exact fun w => ih (i + 1) σ2 h2 (by omega) w
    | bk σ2 h2 => exact fun w => w
    | rt t h2 => exact fun w => w
    | exc c fs σ2 h2 => exact fun w => w
    | stk => exact fun w => w
theorem sgLst_ok {n l : Nat} {g : SGs} {ts : List T} {σ : St3} {h : Hh} (e : lstAt h l = some ts) (hl : ts.length = n) : sgLst n g (.ref l) σ h = g ts σ := by
  unfold sgLst; simp [e, hl]
def PickAt (h : Hh) (l : Nat) (t : T) : Prop := ∃ (r : Nat) (a b c : Int), t = .ref r ∧ lstAt h r = some [.int a, .int b, .int c] ∧ r ≠ l
theorem PickAt.up {h h' : Hh} {l : Nat} {t : T} (p : PickAt h l t) (u : Up l h h') : PickAt h' l t := by
  obtain ⟨r, a, b, c, rfl, e, hne⟩ := p
  exact ⟨r, a, b, c, rfl, u.lst e hne, hne⟩
end W3
end

section
/-! PQ: good values: n deep, of flat items, tuples, and lists that are not the box. -/
namespace W3
open PySem
def flatJ : T → Prop | .non => True | .bl _ => True | .int _ => True | .str s => s.length ≤ 1000 | _ => False
def GV (l : Nat) (h : Hh) : Nat → T → Prop
  | 0, t => flatJ t
  | n + 1, t => flatJ t ∨ (∃ ts, t = .tup ts ∧ ts.length ≤ 1000 ∧ ∀ x ∈ ts, GV l h n x) ∨ ∃ r ts, t = .ref r ∧ r ≠ l ∧ lstAt h r = some ts ∧ ts.length ≤ 1000 ∧ ∀ x ∈ ts, GV l h n x
theorem flatJ.flat {t : T} (h : flatJ t) : flatT t = true := by cases t <;> first | rfl | exact h.elim
theorem flatJ.jdN {t : T} {n : Nat} {h : Hh} (f : flatJ t) : JdN n t h := by
  cases t with
  | non => exact jdN_non
  | bl b => exact jdN_bl
  | int i => exact jdN_int
  | str s => exact jdN_str f
  | _ => exact f.elim
theorem GV.flat {l : Nat} {h : Hh} {n : Nat} {t : T} (f : flatJ t) : GV l h n t := by
  cases n with
  | zero => exact f
  | succ n => exact .inl f
theorem GV.tup {l : Nat} {h : Hh} {n : Nat} {ts : List T} (hl : ts.length ≤ 1000) (g : ∀ x ∈ ts, GV l h n x) : GV l h (n + 1) (.tup ts) := .inr (.inl ⟨ts, rfl, hl, g⟩)
theorem GV.lst {l : Nat} {h : Hh} {n r : Nat} {ts : List T} (hr : r ≠ l) (e : lstAt h r = some ts) (hl : ts.length ≤ 1000) (g : ∀ x ∈ ts, GV l h n x) : GV l h (n + 1) (.ref r) := .inr (.inr ⟨r, ts, rfl, hr, e, hl, g⟩)
theorem GV.up {l : Nat} {h h' : Hh} (u : Up l h h') : ∀ {n : Nat} {t : T}, GV l h n t → GV l h' n t
  | 0, _, g => g
  | n + 1, _, g => by
    rcases g with g | ⟨ts, rfl, hl, g⟩ | ⟨r, ts, rfl, hr, e, hl, g⟩
    · exact .inl g
    · exact .inr (.inl ⟨ts, rfl, hl, fun x hx => (g x hx).up u⟩)
    · exact .inr (.inr ⟨r, ts, rfl, hr, u.lst e hr, hl, fun x hx => (g x hx).up u⟩)
theorem GV.same {l : Nat} {h : Hh} : ∀ {n : Nat} {t : T}, GV l h n t → SameV h n t t
  | 0, _, g => ⟨rfl, flatJ.flat g⟩
  | n + 1, _, g => by
    rcases g with g | ⟨ts, rfl, hl, g⟩ | ⟨r, ts, rfl, hr, e, hl, g⟩
    · exact .inl ⟨rfl, flatJ.flat g⟩
    · refine .inr ⟨ts, ts, .inl ⟨rfl, rfl⟩, rfl, by omega, fun i x y ex ey => ?_⟩
      rw [ex] at ey; cases ey
      exact (g x (List.mem_of_getElem? ex)).same
    · refine .inr ⟨ts, ts, .inr ⟨.inl ⟨r, rfl, e⟩, .inl ⟨r, rfl, e⟩⟩, rfl, by omega, fun i x y ex ey => ?_⟩
      rw [ex] at ey; cases ey
      exact (g x (List.mem_of_getElem? ex)).same
theorem GV.jdN {l : Nat} {h : Hh} : ∀ {n : Nat} {t : T} {m : Nat}, GV l h n t → JdN m t h
  | 0, _, _, g => flatJ.jdN g
  | n + 1, _, m, g => by
    rcases g with g | ⟨ts, rfl, hl, g⟩ | ⟨r, ts, rfl, hr, e, hl, g⟩
    · exact flatJ.jdN g
    · cases m with
      | zero => exact hl
      | succ m => exact ⟨hl, fun us e t ht => by cases e; exact (g t ht).jdN⟩
    · exact jdN_ref (Jd_lst e)
theorem GV.jd {l : Nat} {h : Hh} {n : Nat} {t : T} (g : GV l h n t) : Jd t h := (g.jdN (m := 0))
theorem GV.more {l : Nat} {h : Hh} : ∀ {n : Nat} {t : T}, GV l h n t → GV l h (n + 1) t
  | 0, _, g => .inl g
  | n + 1, _, g => by
    rcases g with g | ⟨ts, rfl, hl, g⟩ | ⟨r, ts, rfl, hr, e, hl, g⟩
    · exact .inl g
    · exact .inr (.inl ⟨ts, rfl, hl, fun x hx => (g x hx).more⟩)
    · exact .inr (.inr ⟨r, ts, rfl, hr, e, hl, fun x hx => (g x hx).more⟩)
theorem GV.strs {l : Nat} {h : Hh} {n : Nat} {ss : List Str} (hl : ss.length ≤ 1000) (hs : ∀ s ∈ ss, s.length ≤ 1000) : GV l h (n + 1) (.tup (tSs ss)) :=
  .tup (by simpa using hl) fun x hx => by
    obtain ⟨s, hs', rfl⟩ := List.mem_map.mp hx
    exact .flat (hs s hs')
theorem notWord_empty {fm : Fm} (o : FmOk fm) : ("" : Str) ∉ fm.words := fun h => by
  have := (o.wn.nm _ h).1
  have e : (Str.ofString "").length = 0 := by decide +kernel
  omega
theorem notWord_long {fm : Fm} (o : FmOk fm) {s : Str} (h1 : 1 ≤ s.length) : s ++ ("aaaaaaaa" : Str) ∉ fm.words := fun h => by
  have := (o.wn.nm _ h).2.1
  have e : (Str.ofString "aaaaaaaa").length = 8 := by decide +kernel
  rw [str_len_app] at this
  have e' : ("aaaaaaaa" : Str).length = 8 := e
  omega
end W3
end

section
/-! PR: any judged values, as deep as one likes: flat items, short tuples, lists and dicts that are not the box. -/
namespace W3
open PySem
def G0 (l b : Nat) (h : Hh) (t : T) : Prop := match t with
  | .ref r => r ≠ l ∧ ((∃ ts, h[r]? = some (.lst ts)) ∨ ∃ d, h[r]? = some (.dic d))
  | .cls _ => False
  | .fl _ => False
  | .str s => s.length ≤ 1000
  | .tup ts => ts.length ≤ b
  | _ => True
def GJ (l b : Nat) (h : Hh) : Nat → T → Prop
  | 0, t => G0 l b h t
  | n + 1, t => G0 l b h t ∧ ∀ ts, t = .tup ts → ∀ x ∈ ts, GJ l b h n x
/-- as deep as one likes -/
def GA (l b : Nat) (h : Hh) (t : T) : Prop := ∀ n, GJ l b h n t
section
variable {l b : Nat} {h h' : Hh} {t : T}
theorem GJ.g0 {n : Nat} (g : GJ l b h n t) : G0 l b h t := by
  cases n with
  | zero => exact g
  | succ n => exact g.1
theorem GA.g0 (g : GA l b h t) : G0 l b h t := g 0
theorem GA.of0 (g : G0 l b h t) (hn : ∀ ts, t ≠ .tup ts) : GA l b h t := fun n => by
  cases n with
  | zero => exact g
  | succ n => exact ⟨g, fun ts e => absurd e (hn ts)⟩
theorem GA.non : GA l b h .non := .of0 trivial fun _ e => by cases e
theorem GA.bl {x : Bool} : GA l b h (.bl x) := .of0 trivial fun _ e => by cases e
theorem GA.int {x : Int} : GA l b h (.int x) := .of0 trivial fun _ e => by cases e
theorem GA.str {x : Str} (hs : x.length ≤ 1000) : GA l b h (.str x) := .of0 hs fun _ e => by cases e
theorem GA.lst {r : Nat} {ts : List T} (hr : r ≠ l) (e : lstAt h r = some ts) : GA l b h (.ref r) := .of0 ⟨hr, .inl ⟨ts, of_lstAt e⟩⟩ fun _ e => by cases e
theorem GA.dic {r : Nat} {d : List (T × T)} (hr : r ≠ l) (e : h[r]? = some (.dic d)) : GA l b h (.ref r) := .of0 ⟨hr, .inr ⟨d, e⟩⟩ fun _ e => by cases e
theorem GA.tup {ts : List T} (hl : ts.length ≤ b) (g : ∀ x ∈ ts, GA l b h x) : GA l b h (.tup ts) := fun n => by
  cases n with
  | zero => exact hl
  | succ n => exact ⟨hl, fun us e x hx => by cases e; exact g x hx n⟩
theorem GA.mem {ts : List T} (g : GA l b h (.tup ts)) {x : T} (hx : x ∈ ts) : GA l b h x := fun n => (g (n + 1)).2 ts rfl x hx
theorem GA.len {ts : List T} (g : GA l b h (.tup ts)) : ts.length ≤ b := g.g0
theorem G0.more {b' : Nat} (hb : b ≤ b') (g : G0 l b h t) : G0 l b' h t := by
  cases t with
  | tup ts => exact Nat.le_trans g hb
  | _ => exact g
theorem GJ.more {b' : Nat} (hb : b ≤ b') : ∀ {n : Nat} {t : T}, GJ l b h n t → GJ l b' h n t
  | 0, _, g => G0.more hb g
  | n + 1, _, g => ⟨G0.more hb g.1, fun ts e x hx => (g.2 ts e x hx).more hb⟩
theorem GA.more {b' : Nat} (g : GA l b h t) (hb : b ≤ b') : GA l b' h t := fun n => (g n).more hb
theorem G0.up (u : Up l h h') (g : G0 l b h t) : G0 l b h' t := by
  cases t with
  | ref r =>
    obtain ⟨hr, g⟩ := g
    refine ⟨hr, ?_⟩
    have hl : r < h.length := by rcases g with ⟨_, e⟩ | ⟨_, e⟩ <;> exact (List.getElem?_eq_some_iff.mp e).1
    rw [u.keep r hl hr]
    exact g
  | _ => exact g
theorem GJ.up (u : Up l h h') : ∀ {n : Nat} {t : T}, GJ l b h n t → GJ l b h' n t
  | 0, _, g => G0.up u g
  | n + 1, _, g => ⟨G0.up u g.1, fun ts e x hx => (g.2 ts e x hx).up u⟩
theorem GA.up (g : GA l b h t) (u : Up l h h') : GA l b h' t := fun n => (g n).up u
theorem G0.jd (hb : b ≤ 1000) (g : G0 l b h t) : Jd t h := by
  cases t with
  | ref r => exact g.2
  | tup ts => exact Nat.le_trans g hb
  | cls c => exact g.elim
  | fl c => exact g.elim
  | str s => exact g
  | _ => trivial
theorem GJ.jdN (hb : b ≤ 1000) : ∀ {n : Nat} {t : T}, GJ l b h n t → JdN n t h
  | 0, _, g => G0.jd hb g
  | n + 1, _, g => ⟨G0.jd hb g.1, fun ts e x hx => (g.2 ts e x hx).jdN hb⟩
theorem GA.jdN {n : Nat} (g : GA l b h t) (hb : b ≤ 1000) : JdN n t h := (g n).jdN hb
theorem GA.jd (g : GA l b h t) (hb : b ≤ 1000) : Jd t h := g.g0.jd hb
theorem GA.app_tup {ts us : List T} (g : ∀ x ∈ ts, GA l b h x) (k : ∀ x ∈ us, GA l b h x) (hl : ts.length + us.length ≤ b) : GA l b h (.tup (ts ++ us)) :=
  .tup (by simpa using hl) fun x hx => (List.mem_append.mp hx).elim (g x) (k x)
theorem cutT_mem {α : Type} {xs : List α} {lo hi : Option Int} {x : α} (hx : x ∈ cutT xs lo hi) : x ∈ xs := by
  unfold cutT at hx
  exact List.mem_of_mem_drop (List.mem_of_mem_take hx)
theorem cutT_len {α : Type} (xs : List α) (lo hi : Option Int) : (cutT xs lo hi).length ≤ xs.length := by
  unfold cutT
  rw [List.length_take, List.length_drop]
  omega
theorem GA.cut {ts : List T} (g : ∀ x ∈ ts, GA l b h x) {lo hi : Option Int} : ∀ x ∈ cutT ts lo hi, GA l b h x := fun x hx => g x (cutT_mem hx)
end
theorem GA.ent {l b : Nat} {h : Hh} {k : Nat} {r : List Ent} {e : Ent} (ro : RowOk k r) (he : e ∈ r) : GA l b h (tE e) := by
  cases e with
  | none => exact .non
  | some s => exact .str (ro.nm s he).short
theorem GA.row {l b : Nat} {h : Hh} {k : Nat} {r : List Ent} (ro : RowOk k r) (hk : k ≤ b) : GA l b h (tRow r) :=
  .tup (by rw [List.length_map, ro.len]; exact hk) fun t ht => by
    obtain ⟨e, he, rfl⟩ := List.mem_map.mp ht
    exact .ent ro he
theorem GA.fd {l b : Nat} {h : Hh} {ws ns : List Str} {nm : Str} {fd : Fd} (o : FdOk ws ns nm fd) (hw : ws.length ≤ b) (wn : NmL ws) (nn : NmL ns) : ∀ t ∈ fd.ts, GA l b h t := by
  intro t ht
  simp [Fd.ts] at ht
  rcases ht with rfl | rfl | rfl | rfl
  · exact .str (wn.nm _ o.first).short
  · cases hn : fd.nr with
    | alone r => exact .non
    | looks g rs =>
      have nk := o.nr
      rw [hn] at nk
      exact .str (nn.nm g nk.1).short
  · have nk := o.nr
    cases hn : fd.nr with
    | alone r => rw [hn] at nk; exact .row nk hw
    | looks g rs =>
      rw [hn] at nk
      refine .tup (by rw [List.length_map, nk.2.2.1]; exact hw) fun t ht => ?_
      obtain ⟨r, hr, rfl⟩ := List.mem_map.mp ht
      exact .row (nk.2.2.2 r hr) hw
  · cases hf : fd.far with
    | none => exact .non
    | some r => exact .row (o.far r hf) hw
theorem GA.strs {l b : Nat} {h : Hh} {ss : List Str} (o : NmL ss) : ∀ t ∈ tSs ss, GA l b h t := fun t ht => by
  obtain ⟨s, hs, rfl⟩ := List.mem_map.mp ht
  exact .str (o.nm s hs).short
/-! ### what the functions of k02 promise -/
def BadRowW (f : Fn) : Prop := ∀ {h : Hh} {l b : Nat} {ts : List T} {Q : T → Hh → Prop} {E : EQ}, IsBox h l → GA l b h (.tup ts) → b ≤ 100 → (∀ v h', Up l h h' → GA l (b + 1) h' v → Q v h') → (f [.ref l, .tup ts] h).wp Q E
def SpoilFieldW (f : Fn) : Prop := ∀ {h : Hh} {l b : Nat} {w nm : Str} {ws : List T} {a1 a2 a3 a4 : T} {Q : T → Hh → Prop} {E : EQ}, IsBox h l → w.length ≤ 8 → nm.length ≤ 8 → GA l b h a1 → GA l b h a2 → GA l b h a3 → GA l b h a4 → 5 ≤ b → b ≤ 100 → (∀ v h', Up l h h' → GA l (b + 1) h' v → Q v h') → (f [.ref l, .tup (.str w :: ws), .tup [a1, a2, a3, a4], .str nm] h).wp Q E
/-- pairs of names and anything -/
def PairsG (l b : Nat) (h : Hh) (ts : List T) : Prop := ∀ x ∈ ts, ∃ nm fd, x = .tup [.str nm, fd] ∧ nm.length ≤ 8 ∧ GA l b h fd
def SpoilFieldsW (f : Fn) : Prop := ∀ {h : Hh} {l b : Nat} {ts : List T} {Q : T → Hh → Prop} {E : EQ}, IsBox h l → PairsG l b h ts → 1 ≤ ts.length → ts.length ≤ 3 → 5 ≤ b → b ≤ 100 → (∀ v h', Up l h h' → GA l (b + 12) h' v → Q v h') → (f [.ref l, .tup ts] h).wp Q E
def SpoilWordsW (f : Fn) : Prop := ∀ {h : Hh} {l : Nat} {ss : List Str} {Q : T → Hh → Prop} {E : EQ}, IsBox h l → NmL ss → 2 ≤ ss.length → ss.length ≤ 3 → (∀ v h', Up l h h' → GA l 20 h' v → Q v h') → (f [.ref l, .tup (tSs ss)] h).wp Q E
theorem PairsG.up {l b : Nat} {h h' : Hh} {ts : List T} (p : PairsG l b h ts) (u : Up l h h') : PairsG l b h' ts := fun x hx => by
  obtain ⟨nm, fd, e, hn, g⟩ := p x hx
  exact ⟨nm, fd, e, hn, g.up u⟩
theorem PairsG.more {l b b' : Nat} {h : Hh} {ts : List T} (p : PairsG l b h ts) (hb : b ≤ b') : PairsG l b' h ts := fun x hx => by
  obtain ⟨nm, fd, e, hn, g⟩ := p x hx
  exact ⟨nm, fd, e, hn, g.more hb⟩
theorem PairsG.ga {l b : Nat} {h : Hh} {ts : List T} (p : PairsG l b h ts) (hb : 2 ≤ b) : ∀ x ∈ ts, GA l b h x := fun x hx => by
  obtain ⟨nm, fd, rfl, hn, g⟩ := p x hx
  refine .tup (by simpa using hb) fun y hy => ?_
  simp at hy
  rcases hy with rfl | rfl
  · exact .str (by omega)
  · exact g
/-- the law's own judgement -/
def dueK (W V R : T) : T := match initErr W V R with | none => .non | some (p, n) => .tup [.str p, .str n]
def DueW (f : Fn) : Prop := ∀ {W V R : T} {h : Hh} {Q : T → Hh → Prop} {E : EQ}, JdN 1 W h → JdN 5 V h → JdN 0 R h → (∀ o, Q (dueK W V R) (h ++ o)) → (f [.tup [W, V, R]] h).wp Q E
def namesRow (ts : List T) : Bool := ts.all nameB && decide ((ts.map strOf).Nodup)
/-- _law_are_names, of a tuple or a list -/
def RowNamesW (f : Fn) : Prop := ∀ {x : T} {ts : List T} {h : Hh} {Q : T → Hh → Prop} {E : EQ}, (x = .tup ts ∨ ∃ r, x = .ref r ∧ lstAt h r = some ts) → ts.length ≤ 1000 → (∀ t ∈ ts, Jd t h) → (∀ o, Q (.bl (namesRow ts)) (h ++ o)) → (f [x] h).wp Q E
def OuterW (f : Fn) : Prop := ∀ {v : T} {h : Hh} {Q : T → Hh → Prop} {E : EQ}, JdN 2 v h → (∀ o, Q (.bl (fieldsB v)) (h ++ o)) → (f [v] h).wp Q E
end W3
end

section
/-! PS: the entries that words show; index. -/
namespace W3
open PySem
theorem idx_of_nodup {ss : List Str} (nd : ss.Nodup) {i : Nat} {w : Str} (e : ss[i]? = some w) : ss.idxOf w = i := by
  obtain ⟨hi, rfl⟩ := List.getElem?_eq_some_iff.mp e
  exact List.Nodup.idxOf_getElem nd i hi
theorem idx_get {ss : List Str} {w : Str} (h : w ∈ ss) : ss[ss.idxOf w]? = some w := by
  have hl := List.idxOf_lt_length_iff.mpr h
  rw [List.getElem?_eq_getElem hl, List.getElem_idxOf hl]
def wIx (fm : Fm) (w : Str) : Nat := fm.words.idxOf w
def fIx (fm : Fm) (n : Str) : Nat := fm.names.idxOf n
def wAt (fm : Fm) (ss : List Str) (n : Str) : Str := (ss[fIx fm n]?).getD ⟨#[]⟩
def rowAt (r : List Ent) (i : Nat) : Ent := (r[i]?).getD none
/-- the near entry of the field p at the words ss -/
def nearV (fm : Fm) (ss : List Str) (p : Str × Fd) : Ent := match p.2.nr with
  | .alone r => rowAt r (wIx fm (wAt fm ss p.1))
  | .looks g rs => rowAt ((rs[wIx fm (wAt fm ss p.1)]?).getD []) (wIx fm (wAt fm ss g))
def farV (fm : Fm) (p : Str × Fd) (w : Str) : Ent := match p.2.far with
  | none => none
  | some r => rowAt r (wIx fm w)
def trueV (fm : Fm) (ss : List Str) (p : Str × Fd) : Ent := match nearV fm ss p with
  | none => farV fm p (wAt fm ss p.1)
  | some m => some m
/-- words, one for each field -/
structure WsOk (fm : Fm) (ss : List Str) : Prop where
  len : ss.length = fm.fields.length
  mem : ∀ s ∈ ss, s ∈ fm.words
theorem WsOk.b {fm : Fm} {ss : List Str} (o : WsOk fm ss) : wordsB fm (.tup (tSs ss)) = true := by
  simp only [wordsB, List.length_map, o.len, decide_true, Bool.true_and, List.all_eq_true]
  intro t ht
  obtain ⟨s, hs, rfl⟩ := List.mem_map.mp ht
  simp [oneB, o.mem s hs]
theorem WsOk.at {fm : Fm} {ss : List Str} (o : WsOk fm ss) {n : Str} (hn : n ∈ fm.names) : ss[fIx fm n]? = some (wAt fm ss n) ∧ wAt fm ss n ∈ fm.words := by
  have hl : fIx fm n < ss.length := by
    have := List.idxOf_lt_length_iff.mpr hn
    rw [o.len]; simpa [fIx, Fm.names] using this
  have e : ss[fIx fm n]? = some ss[fIx fm n] := by simp [hl]
  unfold wAt
  rw [e]
  exact ⟨rfl, o.mem _ (List.getElem_mem hl)⟩
theorem row_at {n : Nat} {r : List Ent} (ro : RowOk n r) {i : Nat} (hi : i < n) : L2.atI (r.map tE) (i : Int) = some (tE (rowAt r i)) := by
  have hl : i < r.length := by rw [ro.len]; exact hi
  exact atI_nat (by rw [List.getElem?_map]; simp [hl, rowAt])
theorem wIx_lt {fm : Fm} {w : Str} (h : w ∈ fm.words) : wIx fm w < fm.words.length := List.idxOf_lt_length_iff.mpr h
theorem mem_names {fm : Fm} {p : Str × Fd} (hp : p ∈ fm.fields) : p.1 ∈ fm.names := List.mem_map.mpr ⟨p, hp, rfl⟩
/-- near_entry, true_error at right words -/
def EntryE (f : Fn) (val : Fm → List Str → Str × Fd → Ent) : Prop := ∀ {fm : Fm} {l : Nat} {ss : List Str} {p : Str × Fd} {h : Hh} {Q : T → Hh → Prop} {E : EQ}, FormAt h l fm → FmOk fm → p ∈ fm.fields → WsOk fm ss →
  (∀ o, Q (tE (val fm ss p)) (h ++ o)) → (f [.ref l, .tup (tSs ss), .str p.1] h).wp Q E
def FarE (f : Fn) : Prop := ∀ {fm : Fm} {l : Nat} {w : Str} {p : Str × Fd} {h : Hh} {Q : T → Hh → Prop} {E : EQ}, FormAt h l fm → FmOk fm → p ∈ fm.fields → w ∈ fm.words →
  (∀ o, Q (tE (farV fm p w)) (h ++ o)) → (f [.ref l, .str p.1, .str w] h).wp Q E
def AllE (f : Fn) : Prop := ∀ {fm : Fm} {l : Nat} {ss : List Str} {h : Hh} {Q : T → Hh → Prop} {E : EQ}, FormAt h l fm → FmOk fm → WsOk fm ss →
  (∀ o, Q (.tup (fm.fields.map fun p => tE (trueV fm ss p))) (h ++ o)) → (f [.ref l, .tup (tSs ss)] h).wp Q E
/-! ### index -/
theorem findE_strs (w : Str) : ∀ (ss : List Str) (k : Nat), w ∈ ss → findE (.str w) (ss.map PyData.str) k = some (k + ss.idxOf w)
  | [], _, h => by cases h
  | s :: ss, k, h => by
    rw [List.map_cons]
    unfold findE
    have : PyData.eqv (.str s) (.str w) = decide (s = w) := by rw [PyData.eqv]; rfl
    rw [this, List.idxOf_cons]
    by_cases q : s = w
    · simp [q]
    · have h2 : w ∈ ss := by
        rcases List.mem_cons.mp h with z | z
        · exact absurd z.symm q
        · exact z
      have e1 : (s == w) = false := by simpa using q
      simp [q, e1]
      rw [findE_strs w ss (k + 1) h2]
      congr 1; omega
@[simp] theorem isT_tup (ts : List T) : isT (.tup ts) = true := Eq.trans rfl rfl
@[simp] theorem e_sMtA (f : T → List T → Hh → Res T) (o : SE) (a : SA) (σ : St3) (h : Hh) : sMtA f o a σ h = (o σ h).bind fun x h1 => if (isL x h1 || isT x) = true then (a σ h1).bind fun xs h2 => f x xs h2 else .stk := Eq.trans rfl rfl
theorem index_tup {w : Str} {ss : List Str} {h : Hh} (hw : w ∈ ss) : mIndex (.tup (tSs ss)) [.str w] h = .ok (.int (ss.idxOf w : Nat)) h := by
  have e1 : toD h 24 (.tup (tSs ss)) = some (.tuple (ss.map PyData.str)) := by
    show (optL (toD h 23) (tSs ss)).map PyData.tuple = _
    rw [optL_strs h 22]; rfl
  have e2 : toD h 24 (.str w) = some (.str w) := rfl
  unfold mIndex
  simp only [e1, e2, findE_strs w ss 0 hw, Nat.zero_add]
theorem index_ref {w : Str} {ss : List Str} {h : Hh} {r : Nat} (e : lstAt h r = some (tSs ss)) (hw : w ∈ ss) : mIndex (.ref r) [.str w] h = .ok (.int (ss.idxOf w : Nat)) h := by
  have e1 : toD h 24 (.ref r) = some (.list (ss.map PyData.str)) := by
    show (match h[r]? with | some (.lst ts) => (optL (toD h 23) ts).map PyData.list | _ => none) = _
    rw [of_lstAt e]
    show (optL (toD h 23) (tSs ss)).map PyData.list = _
    rw [optL_strs h 22]; rfl
  have e2 : toD h 24 (.str w) = some (.str w) := rfl
  unfold mIndex
  simp only [e1, e2, findE_strs w ss 0 hw, Nat.zero_add]
/-- Form(..) of a right form -/
theorem init_fm {f : Fn} (I : InitE f) {fm : Fm} {W V : T} {h hh : Hh} {n : Nat} {Q : T → Hh → Prop} {E : EQ} (o : FmOk fm) (eh : hh = h ++ [.ins "Form" []]) (en : n = h.length) (eW : W = fm.tW) (eV : V = fm.tF) (hq : ∀ o : Hh, FormAt (h ++ o) h.length fm → Q .non (h ++ o)) : (f [.ref n, W, V, .int fm.room] hh).wp Q E := by
  subst eh en eW eV
  have w3 := o.w3
  exact init_ans I (jdN_names o.wn (by omega)) (jdN_fm o) jdN_int (fun _ o2 fa => hq o2 fa) (fun p n e => by rw [initErr_fm o] at e; cases e)
end W3
end

section
/-! PT: rules as plain data; what judges their parts. -/
namespace W3
open PySem
abbrev Prs := List (Str × Str)
def tPr (p : Str × Str) : T := .tup [.str p.1, .str p.2]
def dPr (p : Str × Str) : PyData := .tuple [.str p.1, .str p.2]
abbrev leP (p q : Str × Str) : Bool := PySem.W.dataLe false dPr p q
/-- pairs in ascending order -/
def sortP (ps : Prs) : Prs := ps.mergeSort leP
theorem sortP_perm (ps : Prs) : (sortP ps).Perm ps := List.mergeSort_perm _ _
theorem toD_pr (h : Hh) (p : Str × Str) : toD h 24 (tPr p) = some (dPr p) := rfl
theorem optL_prs (h : Hh) : ∀ ps : Prs, optL (toD h 24) (ps.map tPr) = some (ps.map dPr)
  | [] => rfl
  | p :: ps => by
    rw [List.map_cons]
    unfold optL
    rw [toD_pr, optL_prs h ps]
    rfl
theorem alike_pr (p q : Str × Str) : PySem.W.alike (dPr p) (dPr q) = true := by
  simp [dPr, PySem.W.alike, PySem.W.alikeAll]
theorem sort_prs {ps : Prs} {h : Hh} (hl : ps.length ≤ 1000) : bSortI (ps.map tPr) h = alloc (.lst ((sortP ps).map tPr)) h := by
  have a1 : alikeB (ps.map dPr) = true := by
    unfold alikeB
    simp only [List.all_map, List.all_eq_true]
    intro p _
    show List.all ps _ = true
    rw [List.all_eq_true]
    intro q _
    exact alike_pr p q
  have a2 : sortableB (ps.map dPr) = true := by
    unfold sortableB
    rw [Bool.or_eq_true]
    left
    simp only [List.all_map, List.all_eq_true]
    intro p _
    rfl
  have a3 : sortT (ps.map tPr) (ps.map dPr) = (sortP ps).map tPr := by
    unfold sortT sortP
    rw [List.zip_map']
    rw [← PySem.W.sort_maps (r := leP) (s := leT) (fun p : Str × Str => (tPr p, dPr p)) (fun a _ b _ => rfl), List.map_map]
    rfl
  unfold bSortI
  rw [optL_prs]
  simp only [a1, a2, a3, List.length_map, hl, and_self, if_true]
@[simp] theorem e_sorted_tup (ts : List T) (h : Hh) : bSorted [.tup ts] h = bSortI ts h := Eq.trans rfl rfl
@[simp] theorem e_sorted_ref (l : Nat) (h : Hh) : bSorted [.ref l] h = match lstAt h l with | some ts => bSortI ts h | none => .stk := Eq.trans rfl rfl
@[simp] theorem e_siZip (a : SA) (σ : St3) (h : Hh) : siZip a σ h = (a σ h).bind zipOf := Eq.trans rfl rfl
/-! ### what is judged -/
def namePairB (t : T) : Bool := match t with | .tup [.str a, .str b] => nmB a && nmB b && !decide (a = b) | _ => false
def prOf (t : T) : Str × Str := match t with | .tup [.str a, .str b] => (a, b) | _ => (⟨#[]⟩, ⟨#[]⟩)
def pairsB (v : T) : Bool := match v with | .tup ts => ts.all namePairB && decide ((ts.map prOf).Nodup) | _ => false
theorem namePair_inv {t : T} (h : namePairB t = true) : ∃ a b, t = tPr (a, b) ∧ Nm a ∧ Nm b ∧ a ≠ b := by
  unfold namePairB at h
  split at h
  · rename_i a b
    simp only [Bool.and_eq_true, Bool.not_eq_true', decide_eq_false_iff_not] at h
    exact ⟨a, b, rfl, nmB_iff.mp h.1.1, nmB_iff.mp h.1.2, h.2⟩
  · cases h
theorem pairs_prs : ∀ {ts : List T}, ts.all namePairB = true → ts = (ts.map prOf).map tPr
  | [], _ => rfl
  | t :: ts, h => by
    rw [List.all_cons, Bool.and_eq_true] at h
    obtain ⟨a, b, rfl, _⟩ := namePair_inv h.1
    rw [List.map_cons, List.map_cons, ← pairs_prs h.2]
    rfl
/-- pairs of a rule -/
structure PrsOk (ps : Prs) : Prop where
  nd : ps.Nodup
  nm : ∀ p ∈ ps, Nm p.1 ∧ Nm p.2 ∧ p.1 ≠ p.2
theorem pairsB_inv {v : T} (h : pairsB v = true) : ∃ ps, v = .tup (ps.map tPr) ∧ PrsOk ps := by
  cases v with
  | tup ts =>
    simp only [pairsB, Bool.and_eq_true, decide_eq_true_eq] at h
    refine ⟨ts.map prOf, by rw [← pairs_prs h.1], h.2, fun p hp => ?_⟩
    obtain ⟨t, ht, rfl⟩ := List.mem_map.mp hp
    obtain ⟨a, b, rfl, q⟩ := namePair_inv (List.all_eq_true.mp h.1 t ht)
    exact q
  | _ => simp [pairsB] at h
theorem prOf_tPr (ps : Prs) : (ps.map tPr).map prOf = ps := by
  rw [List.map_map]
  exact List.map_id' ps
theorem pairsB_prs {ps : Prs} (o : PrsOk ps) : pairsB (.tup (ps.map tPr)) = true := by
  simp only [pairsB, prOf_tPr, o.nd, decide_true, Bool.and_true, List.all_map, List.all_eq_true]
  intro p hp
  obtain ⟨h1, h2, h3⟩ := o.nm p hp
  simp [namePairB, tPr, nmB_iff.mpr h1, nmB_iff.mpr h2, h3]
def keyP (p : Str × Str) : TKs := [.inr p.1, .inr p.2]
theorem optL_tk : ∀ ps : Prs, optL tkT (ps.map tPr) = some (ps.map keyP)
  | [] => rfl
  | p :: ps => by
    rw [List.map_cons]
    unfold optL
    rw [optL_tk ps]
    rfl
theorem lenSet_prs {ps : Prs} {h : Hh} (hl : ps.length < 64) : ∃ n : Int, oLenSetP (.tup (ps.map tPr)) h = .ok (.int n) h ∧ (n = ps.length ↔ ps.Nodup) := by
  refine ⟨(uqT (ps.map keyP)).length, ?_, ?_⟩
  · unfold oLenSetP
    simp only [optL_tk, List.length_map, hl, if_true]
  · have q := uqT_len (ps.map keyP)
    rw [List.length_map] at q
    have q2 : (ps.map keyP).Nodup ↔ ps.Nodup := by
      unfold List.Nodup
      rw [List.pairwise_map]
      constructor
      · exact fun z => z.imp fun hne e => hne (by rw [e])
      · refine fun z => z.imp fun {a b} hne e => hne ?_
        simp only [keyP, List.cons.injEq, Sum.inr.injEq, and_true] at e
        exact Prod.ext e.1 e.2
    rw [← q2, ← q]
    omega
def MEN : List (Str × List Str) := [("opens", ["enter", "leave", "send"]), ("checks", ["enter", "leave"]), ("around", ["own", "looks"]), ("taken", ["any", "same", "last"]), ("sending", ["bar", "wait", "go"])]
abbrev MENT : List (Str × T) := [("opens", T.tup [T.str "enter", T.str "leave", T.str "send"]), ("checks", T.tup [T.str "enter", T.str "leave"]), ("around", T.tup [T.str "own", T.str "looks"]), ("taken", T.tup [T.str "any", T.str "same", T.str "last"]), ("sending", T.tup [T.str "bar", T.str "wait", T.str "go"])]
theorem lookup_map2 {α β : Type} (f : α → β) (k : Str) : ∀ l : List (Str × α), (l.map fun p => (p.1, f p.2)).lookup k = (l.lookup k).map f
  | [] => rfl
  | (a, b) :: l => by
    rw [List.map_cons]
    simp only [List.lookup]
    split
    · rfl
    · exact lookup_map2 f k l
theorem menu_at (s : Str) (h : Hh) : oMenu MENT (.str s) h = match MEN.lookup s with | some ss => .ok (.tup (tSs ss)) h | none => .stk := by
  have e : MENT = MEN.map fun p => (p.1, T.tup (tSs p.2)) := rfl
  unfold oMenu
  rw [e]
  simp only
  rw [lookup_map2 (fun ss => T.tup (tSs ss))]
  cases MEN.lookup s <;> rfl
def fitsB (part : Str) (v : T) : Bool := if part = "wipes" then isBl v else (decide (part = "around") && pairsB v) || (match MEN.lookup part with | some ss => oneB v ss | none => false)
def PARTSL : List Str := ["opens", "checks", "around", "wipes", "taken", "sending"]
/-- the first part that does not fit -/
def ruleErr : List Str → List T → Option Str
  | p :: ps, v :: vs => if fitsB p v = false then some p else ruleErr ps vs
  | _, _ => none
def sortAro (v : T) : T := match v with | .tup ts => .tup ((sortP (ts.map prOf)).map tPr) | v => v
def ruleIns (o c a w t s : T) : List (Str × T) := [("opens", o), ("checks", c), ("around", sortAro a), ("wipes", w), ("taken", t), ("sending", s)]
def shortT (v : T) : Prop := ∀ ts, v = .tup ts → ts.length < 64
def PairsE (f : Fn) : Prop := ∀ {v : T} {h : Hh}, JdN 2 v h → shortT v → f [v] h = .ok (.bl (pairsB v)) h
def FitsE (f : Fn) : Prop := ∀ {p : Str} {v : T} {h : Hh}, p ∈ PARTSL → JdN 2 v h → shortT v → f [.str p, v] h = .ok (.bl (fitsB p v)) h
/-- Rule(..), of any values -/
def RuleE (f : Fn) : Prop := ∀ {o c a w t s : T} {h : Hh} {Q : T → Hh → Prop} {E : EQ}, (∀ v ∈ [o, c, a, w, t, s], JdN 2 v h ∧ shortT v) →
  (ruleErr PARTSL [o, c, a, w, t, s] = none → ∀ z, (h ++ z)[h.length]? = some (.ins "Rule" (ruleIns o c a w t s)) → Q .non (h ++ z)) →
  (∀ p, ruleErr PARTSL [o, c, a, w, t, s] = some p → ∀ z, E "InvalidRule" [("part", .str p)] (h ++ z)) → (f [.ref h.length, o, c, a, w, t, s] (h ++ [.ins "Rule" []])).wp Q E
/-! ### rules -/
inductive Aro where | word (s : Str) | pairs (ps : Prs)
def Aro.t : Aro → T | .word s => .str s | .pairs ps => .tup (ps.map tPr)
structure Ru where
  opens : Str
  checks : Str
  around : Aro
  wipes : Bool
  taken : Str
  sending : Str
structure RuOk (r : Ru) : Prop where
  o : r.opens ∈ (["enter", "leave", "send"] : List Str)
  c : r.checks ∈ (["enter", "leave"] : List Str)
  aw : ∀ s, r.around = .word s → s ∈ (["own", "looks"] : List Str)
  ap : ∀ ps, r.around = .pairs ps → PrsOk ps ∧ ps.length < 64 ∧ sortP ps = ps
  t : r.taken ∈ (["any", "same", "last"] : List Str)
  s : r.sending ∈ (["bar", "wait", "go"] : List Str)
def Ru.ins (r : Ru) : List (Str × T) := [("opens", .str r.opens), ("checks", .str r.checks), ("around", r.around.t), ("wipes", .bl r.wipes), ("taken", .str r.taken), ("sending", .str r.sending)]
def RuleAt (h : Hh) (l : Nat) (r : Ru) : Prop := h[l]? = some (.ins "Rule" r.ins)
theorem RuleAt.lt {h : Hh} {l : Nat} {r : Ru} (e : RuleAt h l r) : l < h.length := (List.getElem?_eq_some_iff.mp e).1
theorem RuleAt.app {h : Hh} {l : Nat} {r : Ru} (e : RuleAt h l r) (o : Hh) : RuleAt (h ++ o) l r := by
  unfold RuleAt
  rw [List.getElem?_append_left e.lt]
  exact e
theorem RuleAt.upK {h h' : Hh} {l a : Nat} {r : Ru} (e : RuleAt h a r) (u : Up l h h') (hne : a ≠ l) : RuleAt h' a r := by
  unfold RuleAt
  rw [u.keep a e.lt hne]
  exact e
theorem RuleAt.ins {h : Hh} {l : Nat} {r : Ru} (e : RuleAt h l r) : insAt h l = some (("Rule" : Str), r.ins) := insAt_of e
theorem nodup_takeS {ss : List Str} (nd : ss.Nodup) {i : Nat} {s : Str} (e : ss[i]? = some s) : s ∉ ss.take i := by
  intro hm
  obtain ⟨j, hj⟩ := List.getElem?_of_mem hm
  have hl := (List.getElem?_eq_some_iff.mp hj).1
  rw [List.length_take] at hl
  rw [List.getElem?_take_of_lt (by omega)] at hj
  have a := idx_of_nodup nd hj
  have b := idx_of_nodup nd e
  omega
/-- the pairs that a law draws -/
def PairsW (f : Fn) : Prop := ∀ {h : Hh} {l rn : Nat} {ss : List Str} {Q : T → Hh → Prop} {E : EQ}, IsBox h l → lstAt h rn = some (tSs ss) → NmL ss → ss.length ≤ 3 → (∀ ps h', PrsOk ps → ps.length ≤ 9 → Up l h h' → Q (.tup (ps.map tPr)) h') → (f [.ref l, .ref rn] h).wp Q E
def RuleW (f : Fn) : Prop := ∀ {h : Hh} {l rn : Nat} {ss : List Str} {Q : T → Hh → Prop} {E : EQ}, IsBox h l → lstAt h rn = some (tSs ss) → NmL ss → ss.length ≤ 3 → (∀ r a h', RuOk r → RuleAt h' a r → h.length ≤ a → Up l h h' → Q (.ref a) h') → (f [.ref l, .ref rn] h).wp Q E
theorem sortP_sortP (ps : Prs) : sortP (sortP ps) = sortP ps := by
  unfold sortP
  apply List.mergeSort_of_pairwise
  exact PySem.W.sort_pairwise (PySem.W.sortLe_total (PyProof.Rows.listOrd PyProof.Rows.itemOrd) false (fun p : Str × Str => PySem.W.keyToks (dPr p))) ps
end W3
end

section
/-! PU: steps and standings as plain data. -/
namespace W3
open PySem
theorem putT_new {f : Str} {y : T} : ∀ {fs : List (Str × T)} {ks : List Str}, fs.map Prod.fst = ks → ks.contains f = false → putT f y fs = fs ++ [(f, y)]
  | [], _, _, _ => rfl
  | (g, x) :: fs, _, rfl, h => by
    rw [List.map_cons, List.contains_cons, Bool.or_eq_false_iff] at h
    have : ¬ g = f := fun e => by rw [e] at h; simp at h
    unfold putT
    rw [if_neg this, putT_new rfl h.2]
    rfl
/-- a field set for the first time, of an object at the heap's end -/
theorem sfld_new {cs : List (Str × List Str)} {h : Hh} {c : Str} {fs : List (Str × T)} {ks as : List Str} {f : Str} {y : T} {σ : St3} {l : Nat} (hl : l = h.length) (hc : cs.lookup c = some as) (ha : as.contains f = true) (hk : fs.map Prod.fst = ks) (hn : ks.contains f = false) (hz : fs.length < 1000) :
    fSet cs (.ref l) f y σ (h ++ [.ins c fs]) = .nx σ (h ++ [.ins c (fs ++ [(f, y)])]) := by
  subst hl
  have e : (h ++ [Ob.ins c fs])[h.length]? = some (.ins c fs) := by simp
  rw [sfld_of (insAt_of e) hc ha hz, putT_new hk hn]
  congr 1
  simp
def firstOf : T → T | .tup [_, .tup (a :: _)] => a | t => t
def Fm.firsts (fm : Fm) : List Str := fm.fields.map fun p => p.2.first
def stepIns (d b a e : T) : List (Str × T) := [("deed", d), ("before", b), ("after", a), ("events", e)]
def StepAt (h : Hh) (l : Nat) (d b a e : T) : Prop := h[l]? = some (.ins "Step" (stepIns d b a e))
theorem StepAt.lt {h : Hh} {l : Nat} {d b a e : T} (q : StepAt h l d b a e) : l < h.length := (List.getElem?_eq_some_iff.mp q).1
theorem StepAt.app {h : Hh} {l : Nat} {d b a e : T} (q : StepAt h l d b a e) (o : Hh) : StepAt (h ++ o) l d b a e := by
  unfold StepAt
  rw [List.getElem?_append_left q.lt]
  exact q
theorem StepAt.ins {h : Hh} {l : Nat} {d b a e : T} (q : StepAt h l d b a e) : insAt h l = some (("Step" : Str), stepIns d b a e) := insAt_of q
def StepE (f : Fn) : Prop := ∀ {d b a e : T} {h : Hh}, f [.ref h.length, d, b, a, e] (h ++ [.ins "Step" []]) = .ok .non (h ++ [.ins "Step" (stepIns d b a e)])
/-- the standing that a form begins with -/
def beginT (fm : Fm) : T := .tup [.tup (tSs fm.firsts), .tup (List.replicate fm.fields.length (.bl false)), .tup (List.replicate fm.fields.length .non), .tup (List.replicate fm.fields.length .non), .tup [], .bl false]
def BeginE (f : Fn) : Prop := ∀ {fm : Fm} {l : Nat} {r : T} {h : Hh} {Q : T → Hh → Prop} {E : EQ}, FormAt h l fm → FmOk fm → (∀ a z, h.length ≤ a → StepAt (h ++ z) a .non .non (beginT fm) (.tup []) → Q (.ref a) (h ++ z)) → (f [.ref l, r] h).wp Q E
theorem firsts_t (fm : Fm) : (fm.fields.map tPair).map firstOf = tSs fm.firsts := by
  rw [List.map_map]
  show _ = List.map T.str (List.map _ fm.fields)
  rw [List.map_map]
  rfl
theorem firsts_len (fm : Fm) : fm.firsts.length = fm.fields.length := List.length_map _
theorem map_all {α β : Type} (b : β) : ∀ l : List α, (l.map fun _ => b) = List.replicate l.length b
  | [] => rfl
  | _ :: l => by rw [List.map_cons, map_all b l]; rfl
end W3
end

section
/-! the semantic of the defs -/
namespace LW
open PySem W3
noncomputable section
def CS : List (Str × List Str) := [("Form", ["words", "fields", "room"]), ("Step", ["deed", "before", "after", "events"]), ("Rule", ["opens", "checks", "around", "wipes", "taken", "sending"])]
def XS : XSub := [("InvalidForm", ["InvalidForm", "ShownError"]), ("InvalidRule", ["InvalidRule", "ShownError"])]
def FL : List Str := []
structure FF where
  is_integer : List T → Hh → Res T
  is_name : List T → Hh → Res T
  is_one_of : List T → Hh → Res T
  are_names : List T → Hh → Res T
  is_pair : List T → Hh → Res T
  are_fields : List T → Hh → Res T
  is_row : List T → Hh → Res T
  is_near : List T → Hh → Res T
  check_field : List T → Hh → Res T
  Form_init : List T → Hh → Res T
  Step_init : List T → Hh → Res T
  begin : List T → Hh → Res T
  is_name_pair : List T → Hh → Res T
  are_pairs : List T → Hh → Res T
  fits_part : List T → Hh → Res T
  Rule_init : List T → Hh → Res T
  _law_mix : List T → Hh → Res T
  _law_box : List T → Hh → Res T
  _law_draw : List T → Hh → Res T
  _law_same : List T → Hh → Res T
  _law_names : List T → Hh → Res T
  _law_entries : List T → Hh → Res T
  _law_field : List T → Hh → Res T
  _law_parts : List T → Hh → Res T
  _law_pairs : List T → Hh → Res T
  _law_rule : List T → Hh → Res T
  law : List T → Hh → Res T
def b_is_integer (F : FF) : SS :=
  ssCons (ssRet (sIf (sT (s1 (oIsK .int) (sVar 0))) (sB (stNot (sT (s1 (oIsK .bool) (sVar 0))))) (sC (.bl false))))
  (ssNil)
def b_is_name_1 (F : FF) : SS :=
  ssCons (ssRet (sC (.bl false)))
  (ssNil)
def b_is_name_2 (F : FF) : SS :=
  ssCons (ssRet (sOver bAll (saLc (siE (sVar 0)) (sgName 1) (stYes) (s2 oIn (sVar 1) (sC (.str "abcdefghijklmnopqrstuvwxyz"))) [1])))
  (ssNil)
def b_is_name (F : FF) : SS :=
  ssCons (ssIf (stOr (stNot (sT (s1 (oIsK .str) (sVar 0)))) (stNot (sT (sChain oLe oLe (sC (.int 1)) (sCl bLen (saCons (sVar 0) (saNil))) (sC (.int 8))))))
  (b_is_name_1 F)
  (ssNil))
  (b_is_name_2 F)
def b_is_one_of (F : FF) : SS :=
  ssCons (ssRet (sIf (sT (s1 (oIsK .str) (sVar 0))) (s2 oIn (sVar 0) (sVar 1)) (sC (.bl false))))
  (ssNil)
def b_are_names_1 (F : FF) : SS :=
  ssCons (ssRet (sC (.bl false)))
  (ssNil)
def b_are_names_2 (F : FF) : SS :=
  ssCons (ssRet (sIf (sT (sOver bAll (saLc (siE (sVar 0)) (sgName 3) (stYes) (sCl (arN 1 F.is_name) (saCons (sVar 3) (saNil))) [3]))) (s2 oEq (s1 oLenSet (sVar 0)) (sCl bLen (saCons (sVar 0) (saNil)))) (sC (.bl false))))
  (ssNil)
def b_are_names (F : FF) : SS :=
  ssCons (ssIf (stOr (stNot (sT (s1 (oIsK .tuple) (sVar 0)))) (stNot (sT (sChain oLe oLe (sVar 1) (sCl bLen (saCons (sVar 0) (saNil))) (sVar 2)))))
  (b_are_names_1 F)
  (ssNil))
  (b_are_names_2 F)
def b_is_pair_1 (F : FF) : SS :=
  ssCons (ssRet (sC (.bl false)))
  (ssNil)
def b_is_pair_2 (F : FF) : SS :=
  ssCons (ssRet (sIf (sT (s1 (oIsK .tuple) (s2 oIx (sVar 0) (sC (.int 1))))) (s2 oEq (sCl bLen (saCons (s2 oIx (sVar 0) (sC (.int 1))) (saNil))) (sC (.int 4))) (sC (.bl false))))
  (ssNil)
def b_is_pair (F : FF) : SS :=
  ssCons (ssIf (stOr (stNot (sT (s1 (oIsK .tuple) (sVar 0)))) (stOr (sT (s2 oNe (sCl bLen (saCons (sVar 0) (saNil))) (sC (.int 2)))) (stNot (sT (sCl (arN 1 F.is_name) (saCons (s2 oIx (sVar 0) (sC (.int 0))) (saNil)))))))
  (b_is_pair_1 F)
  (ssNil))
  (b_is_pair_2 F)
def b_are_fields_1 (F : FF) : SS :=
  ssCons (ssRet (sC (.bl false)))
  (ssNil)
def b_are_fields_3 (F : FF) : SS :=
  ssCons (ssRet (sC (.bl false)))
  (ssNil)
def b_are_fields_4 (F : FF) : SS :=
  ssCons (ssRet (s2 oEq (sOver bLenSet (saLc (siE (sVar 0)) (sgName 1) (stYes) (s2 oIx (sVar 1) (sC (.int 0))) [1])) (sCl bLen (saCons (sVar 0) (saNil)))))
  (ssNil)
def b_are_fields_2 (F : FF) : SS :=
  ssCons (ssIf (stNot (sT (sOver bAll (saLc (siE (sVar 0)) (sgName 1) (stYes) (sCl (arN 1 F.is_pair) (saCons (sVar 1) (saNil))) [1]))))
  (b_are_fields_3 F)
  (ssNil))
  (b_are_fields_4 F)
def b_are_fields (F : FF) : SS :=
  ssCons (ssIf (stOr (stNot (sT (s1 (oIsK .tuple) (sVar 0)))) (stNot (sT (sChain oLe oLe (sC (.int 1)) (sCl bLen (saCons (sVar 0) (saNil))) (sC (.int 3))))))
  (b_are_fields_1 F)
  (ssNil))
  (b_are_fields_2 F)
def b_is_row_1 (F : FF) : SS :=
  ssCons (ssRet (sC (.bl false)))
  (ssNil)
def b_is_row_2 (F : FF) : SS :=
  ssCons (ssRet (sOver bAll (saLc (siE (sVar 0)) (sgName 2) (stYes) (sIf (sT (s2 oIs (sVar 2) (sC .non))) (sC (.bl true)) (sCl (arN 1 F.is_name) (saCons (sVar 2) (saNil)))) [2])))
  (ssNil)
def b_is_row (F : FF) : SS :=
  ssCons (ssIf (stOr (stNot (sT (s1 (oIsK .tuple) (sVar 0)))) (sT (s2 oNe (sCl bLen (saCons (sVar 0) (saNil))) (sVar 1))))
  (b_is_row_1 F)
  (ssNil))
  (b_is_row_2 F)
def b_is_near_1 (F : FF) : SS :=
  ssCons (ssRet (sCl (arN 2 F.is_row) (saCons (sVar 0) (saCons (sVar 2) (saNil)))))
  (ssNil)
def b_is_near_3 (F : FF) : SS :=
  ssCons (ssRet (sC (.bl false)))
  (ssNil)
def b_is_near_4 (F : FF) : SS :=
  ssCons (ssRet (sOver bAll (saLc (siE (sVar 0)) (sgName 3) (stYes) (sCl (arN 2 F.is_row) (saCons (sVar 3) (saCons (sVar 2) (saNil)))) [3])))
  (ssNil)
def b_is_near_2 (F : FF) : SS :=
  ssCons (ssIf (stOr (stNot (sT (s1 (oIsK .tuple) (sVar 0)))) (sT (s2 oNe (sCl bLen (saCons (sVar 0) (saNil))) (sVar 2))))
  (b_is_near_3 F)
  (ssNil))
  (b_is_near_4 F)
def b_is_near (F : FF) : SS :=
  ssCons (ssIf (sT (s2 oIs (sVar 1) (sC .non)))
  (b_is_near_1 F)
  (ssNil))
  (b_is_near_2 F)
def b_check_field_2 (F : FF) : SS :=
  ssCons (ssRaiseX "InvalidForm" ["part", "field"] (saCons (sC (.str "first")) (saCons (sVar 0) (saNil))))
  (ssNil)
def b_check_field_4 (F : FF) : SS :=
  ssCons (ssRaiseX "InvalidForm" ["part", "field"] (saCons (sC (.str "looks")) (saCons (sVar 0) (saNil))))
  (ssNil)
def b_check_field_6 (F : FF) : SS :=
  ssCons (ssRaiseX "InvalidForm" ["part", "field"] (saCons (sC (.str "near")) (saCons (sVar 0) (saNil))))
  (ssNil)
def b_check_field_8 (F : FF) : SS :=
  ssCons (ssRaiseX "InvalidForm" ["part", "field"] (saCons (sC (.str "far")) (saCons (sVar 0) (saNil))))
  (ssNil)
def b_check_field_7 (F : FF) : SS :=
  ssCons (ssIf (stAnd (sT (s2 oIsNot (sVar 7) (sC .non))) (stNot (sT (sCl (arN 2 F.is_row) (saCons (sVar 7) (saCons (sCl bLen (saCons (sVar 2) (saNil))) (saNil)))))))
  (b_check_field_8 F)
  (ssNil))
  (ssNil)
def b_check_field_5 (F : FF) : SS :=
  ssCons (ssIf (stNot (sT (sCl (arN 3 F.is_near) (saCons (sVar 6) (saCons (sVar 5) (saCons (sCl bLen (saCons (sVar 2) (saNil))) (saNil)))))))
  (b_check_field_6 F)
  (ssNil))
  (b_check_field_7 F)
def b_check_field_3 (F : FF) : SS :=
  ssCons (ssIf (stAnd (sT (s2 oIsNot (sVar 5) (sC .non))) (stOr (stNot (sT (sCl (arN 2 F.is_one_of) (saCons (sVar 5) (saCons (sVar 3) (saNil)))))) (sT (s2 oEq (sVar 5) (sVar 0)))))
  (b_check_field_4 F)
  (ssNil))
  (b_check_field_5 F)
def b_check_field_1 (F : FF) : SS :=
  ssCons (ssIf (stNot (sT (sCl (arN 2 F.is_one_of) (saCons (sVar 4) (saCons (sVar 2) (saNil))))))
  (b_check_field_2 F)
  (ssNil))
  (b_check_field_3 F)
def b_check_field (F : FF) : SS :=
  ssCons (ssAsg (sVar 1) (sgTup 4 (sgsCons (sgName 4) (sgsCons (sgName 5) (sgsCons (sgName 6) (sgsCons (sgName 7) (sgsNil)))))))
  (b_check_field_1 F)
def b_Form_init_1 (F : FF) : SS :=
  ssCons (ssRaiseX "InvalidForm" ["part", "field"] (saCons (sC (.str "words")) (saCons (sC (.str "")) (saNil))))
  (ssNil)
def b_Form_init_3 (F : FF) : SS :=
  ssCons (ssRaiseX "InvalidForm" ["part", "field"] (saCons (sC (.str "fields")) (saCons (sC (.str "")) (saNil))))
  (ssNil)
def b_Form_init_6 (F : FF) : SS :=
  ssCons (ssExpr (sCl (arN 4 F.check_field) (saCons (sVar 6) (saCons (sVar 7) (saCons (sVar 1) (saCons (sVar 4) (saNil)))))))
  (ssNil)
def b_Form_init_8 (F : FF) : SS :=
  ssCons (ssRaiseX "InvalidForm" ["part", "field"] (saCons (sC (.str "room")) (saCons (sC (.str "")) (saNil))))
  (ssNil)
def b_Form_init_11 (F : FF) : SS :=
  ssCons (ssFldC CS (sVar 0) (sVar 3) "room")
  (ssNil)
def b_Form_init_10 (F : FF) : SS :=
  ssCons (ssFldC CS (sVar 0) (sVar 2) "fields")
  (b_Form_init_11 F)
def b_Form_init_9 (F : FF) : SS :=
  ssCons (ssFldC CS (sVar 0) (sVar 1) "words")
  (b_Form_init_10 F)
def b_Form_init_7 (F : FF) : SS :=
  ssCons (ssIf (stOr (stNot (sT (sCl (arN 1 F.is_integer) (saCons (sVar 3) (saNil))))) (stNot (sT (sChain oLe oLe (sC (.int 1)) (sVar 3) (sC (.int 3))))))
  (b_Form_init_8 F)
  (ssNil))
  (b_Form_init_9 F)
def b_Form_init_5 (F : FF) : SS :=
  ssCons (ssFor (siE (sVar 2)) (sgTup 2 (sgsCons (sgName 6) (sgsCons (sgName 7) (sgsNil))))
  (b_Form_init_6 F))
  (b_Form_init_7 F)
def b_Form_init_4 (F : FF) : SS :=
  ssCons (ssAsg (sLc (saLc (siE (sVar 2)) (sgName 5) (stYes) (s2 oIx (sVar 5) (sC (.int 0))) [5])) (sgName 4))
  (b_Form_init_5 F)
def b_Form_init_2 (F : FF) : SS :=
  ssCons (ssIf (stNot (sT (sCl (arN 1 F.are_fields) (saCons (sVar 2) (saNil)))))
  (b_Form_init_3 F)
  (ssNil))
  (b_Form_init_4 F)
def b_Form_init (F : FF) : SS :=
  ssCons (ssIf (stNot (sT (sCl (arN 3 F.are_names) (saCons (sVar 1) (saCons (sC (.int 2)) (saCons (sC (.int 3)) (saNil)))))))
  (b_Form_init_1 F)
  (ssNil))
  (b_Form_init_2 F)
def b_Step_init_3 (F : FF) : SS :=
  ssCons (ssFldC CS (sVar 0) (sVar 4) "events")
  (ssNil)
def b_Step_init_2 (F : FF) : SS :=
  ssCons (ssFldC CS (sVar 0) (sVar 3) "after")
  (b_Step_init_3 F)
def b_Step_init_1 (F : FF) : SS :=
  ssCons (ssFldC CS (sVar 0) (sVar 2) "before")
  (b_Step_init_2 F)
def b_Step_init (F : FF) : SS :=
  ssCons (ssFldC CS (sVar 0) (sVar 1) "deed")
  (b_Step_init_1 F)
def b_begin_2 (F : FF) : SS :=
  ssCons (ssRet (sCl (bMake "Step" 5 F.Step_init) (saCons (sC .non) (saCons (sC .non) (saCons (sTup (saCons (sVar 2) (saCons (sOver bTup (saLc (siE (sVar 2)) (sgName 6) (stYes) (sC (.bl false)) [6])) (saCons (sVar 5) (saCons (sVar 5) (saCons (sTup (saNil)) (saCons (sC (.bl false)) (saNil)))))))) (saCons (sTup (saNil)) (saNil)))))))
  (ssNil)
def b_begin_1 (F : FF) : SS :=
  ssCons (ssAsg (sOver bTup (saLc (siE (sVar 2)) (sgName 6) (stYes) (sC .non) [6])) (sgName 5))
  (b_begin_2 F)
def b_begin (F : FF) : SS :=
  ssCons (ssAsg (sOver bTup (saLc (siE (s1 (oFldC CS "fields") (sVar 0))) (sgTup 2 (sgsCons (sgName 3) (sgsCons (sgName 4) (sgsNil)))) (stYes) (s2 oIx (sVar 4) (sC (.int 0))) [3, 4])) (sgName 2))
  (b_begin_1 F)
def b_is_name_pair_1 (F : FF) : SS :=
  ssCons (ssRet (sC (.bl false)))
  (ssNil)
def b_is_name_pair_2 (F : FF) : SS :=
  ssCons (ssRet (sIf (sT (sCl (arN 1 F.is_name) (saCons (s2 oIx (sVar 0) (sC (.int 0))) (saNil)))) (sIf (sT (sCl (arN 1 F.is_name) (saCons (s2 oIx (sVar 0) (sC (.int 1))) (saNil)))) (s2 oNe (s2 oIx (sVar 0) (sC (.int 0))) (s2 oIx (sVar 0) (sC (.int 1)))) (sC (.bl false))) (sC (.bl false))))
  (ssNil)
def b_is_name_pair (F : FF) : SS :=
  ssCons (ssIf (stOr (stNot (sT (s1 (oIsK .tuple) (sVar 0)))) (sT (s2 oNe (sCl bLen (saCons (sVar 0) (saNil))) (sC (.int 2)))))
  (b_is_name_pair_1 F)
  (ssNil))
  (b_is_name_pair_2 F)
def b_are_pairs_1 (F : FF) : SS :=
  ssCons (ssRet (sC (.bl false)))
  (ssNil)
def b_are_pairs_2 (F : FF) : SS :=
  ssCons (ssRet (s2 oEq (s1 oLenSetP (sVar 0)) (sCl bLen (saCons (sVar 0) (saNil)))))
  (ssNil)
def b_are_pairs (F : FF) : SS :=
  ssCons (ssIf (stOr (stNot (sT (s1 (oIsK .tuple) (sVar 0)))) (stNot (sT (sOver bAll (saLc (siE (sVar 0)) (sgName 1) (stYes) (sCl (arN 1 F.is_name_pair) (saCons (sVar 1) (saNil))) [1])))))
  (b_are_pairs_1 F)
  (ssNil))
  (b_are_pairs_2 F)
def b_fits_part_1 (F : FF) : SS :=
  ssCons (ssRet (s1 (oIsK .bool) (sVar 1)))
  (ssNil)
def b_fits_part_3 (F : FF) : SS :=
  ssCons (ssRet (sC (.bl true)))
  (ssNil)
def b_fits_part_4 (F : FF) : SS :=
  ssCons (ssRet (sIf (sT (s1 (oIsK .str) (sVar 1))) (s2 oIn (sVar 1) (s1 (oMenu [("opens", T.tup ((["enter", "leave", "send"] : List Str).map T.str)), ("checks", T.tup ((["enter", "leave"] : List Str).map T.str)), ("around", T.tup ((["own", "looks"] : List Str).map T.str)), ("taken", T.tup ((["any", "same", "last"] : List Str).map T.str)), ("sending", T.tup ((["bar", "wait", "go"] : List Str).map T.str))]) (sVar 0))) (sC (.bl false))))
  (ssNil)
def b_fits_part_2 (F : FF) : SS :=
  ssCons (ssIf (stAnd (sT (s2 oEq (sVar 0) (sC (.str "around")))) (sT (sCl (arN 1 F.are_pairs) (saCons (sVar 1) (saNil)))))
  (b_fits_part_3 F)
  (ssNil))
  (b_fits_part_4 F)
def b_fits_part (F : FF) : SS :=
  ssCons (ssIf (sT (s2 oEq (sVar 0) (sC (.str "wipes"))))
  (b_fits_part_1 F)
  (ssNil))
  (b_fits_part_2 F)
def b_Rule_init_3 (F : FF) : SS :=
  ssCons (ssRaiseX "InvalidRule" ["part"] (saCons (sVar 8) (saNil)))
  (ssNil)
def b_Rule_init_2 (F : FF) : SS :=
  ssCons (ssIf (stNot (sT (sCl (arN 2 F.fits_part) (saCons (sVar 8) (saCons (sVar 9) (saNil))))))
   (b_Rule_init_3 F)
   (ssNil))
  (ssNil)
def b_Rule_init_5 (F : FF) : SS :=
  ssCons (ssAsg (sCl bTuple (saCons (sCl bSorted (saCons (sVar 3) (saNil))) (saNil))) (sgName 3))
  (ssNil)
def b_Rule_init_11 (F : FF) : SS :=
  ssCons (ssFldC CS (sVar 0) (sVar 6) "sending")
  (ssNil)
def b_Rule_init_10 (F : FF) : SS :=
  ssCons (ssFldC CS (sVar 0) (sVar 5) "taken")
  (b_Rule_init_11 F)
def b_Rule_init_9 (F : FF) : SS :=
  ssCons (ssFldC CS (sVar 0) (sVar 4) "wipes")
  (b_Rule_init_10 F)
def b_Rule_init_8 (F : FF) : SS :=
  ssCons (ssFldC CS (sVar 0) (sVar 3) "around")
  (b_Rule_init_9 F)
def b_Rule_init_7 (F : FF) : SS :=
  ssCons (ssFldC CS (sVar 0) (sVar 2) "checks")
  (b_Rule_init_8 F)
def b_Rule_init_6 (F : FF) : SS :=
  ssCons (ssFldC CS (sVar 0) (sVar 1) "opens")
  (b_Rule_init_7 F)
def b_Rule_init_4 (F : FF) : SS :=
  ssCons (ssIf (sT (s1 (oIsK .tuple) (sVar 3)))
  (b_Rule_init_5 F)
  (ssNil))
  (b_Rule_init_6 F)
def b_Rule_init_1 (F : FF) : SS :=
  ssCons (ssFor (siZip (saCons (sC (.tup ((["opens", "checks", "around", "wipes", "taken", "sending"] : List Str).map T.str))) (saCons (sVar 7) (saNil)))) (sgTup 2 (sgsCons (sgName 8) (sgsCons (sgName 9) (sgsNil))))
  (b_Rule_init_2 F))
  (b_Rule_init_4 F)
def b_Rule_init (F : FF) : SS :=
  ssCons (ssAsg (sTup (saCons (sVar 1) (saCons (sVar 2) (saCons (sVar 3) (saCons (sVar 4) (saCons (sVar 5) (saCons (sVar 6) (saNil)))))))) (sgName 7))
  (b_Rule_init_1 F)
def b__law_mix_2 (F : FF) : SS :=
  ssCons (ssRet (s2 oMod (s2 oMul (sVar 2) (s2 oAdd (s2 oDiv (sVar 2) (sC (.int 2003))) (sC (.int 40692)))) (sC (.int 2147483399))))
  (ssNil)
def b__law_mix_1 (F : FF) : SS :=
  ssCons (ssAsg (s2 oMod (s2 oMul (sVar 2) (s2 oAdd (s2 oDiv (sVar 2) (sC (.int 1009))) (sC (.int 69621)))) (sC (.int 2147483647))) (sgName 2))
  (b__law_mix_2 F)
def b__law_mix (F : FF) : SS :=
  ssCons (ssAsg (s2 oMod (s2 oMul (s2 oAdd (s2 oAdd (sCl bInt (saCons (sVar 0) (saNil))) (s2 oMul (sC (.int 7919)) (sVar 1))) (sC (.int 1))) (sC (.int 48271))) (sC (.int 2147483647))) (sgName 2))
  (b__law_mix_1 F)
def b__law_box_3 (F : FF) : SS :=
  ssCons (ssAsg (sCl (arN 2 F._law_mix) (saCons (s2 oAdd (sVar 3) (sVar 2)) (saCons (sC (.int 3)) (saNil)))) (sgName 3))
  (ssNil)
def b__law_box_4 (F : FF) : SS :=
  ssCons (ssRet (sLst (saCons (sVar 1) (saCons (sC (.int 0)) (saCons (sC (.int 0)) (saCons (sVar 3) (saCons (sC (.int 0)) (saNil))))))))
  (ssNil)
def b__law_box_2 (F : FF) : SS :=
  ssCons (ssFor (siE (sVar 1)) (sgName 2)
  (b__law_box_3 F))
  (b__law_box_4 F)
def b__law_box_1 (F : FF) : SS :=
  ssCons (ssAsg (sC (.int 11)) (sgName 3))
  (b__law_box_2 F)
def b__law_box (F : FF) : SS :=
  ssCons (ssAsg (sLc (saLc (siE (sSl (sVar 0) (soNone) (soSome (sC (.int 63))))) (sgName 2) (stYes) (sCl bInt (saCons (sVar 2) (saNil))) [2])) (sgName 1))
  (b__law_box_1 F)
def b__law_draw_5 (F : FF) : SS :=
  ssCons (ssRet (s2 oMod (sCl bInt (saCons (sCl (arN 2 F._law_mix) (saCons (sVar 2) (saCons (s2 oIx (sVar 0) (sC (.int 4))) (saNil)))) (saNil))) (sVar 1)))
  (ssNil)
def b__law_draw_6 (F : FF) : SS :=
  ssCons (ssSub (sVar 0) (sC (.int 2)) (sVar 2))
  (ssNil)
def b__law_draw_4 (F : FF) : SS :=
  ssCons (ssIf (sT (s2 oLt (sVar 2) (s2 oPow (sC (.int 10)) (sC (.int 18)))))
   (b__law_draw_5 F)
   (ssNil))
  (b__law_draw_6 F)
def b__law_draw_3 (F : FF) : SS :=
  ssCons (ssSub (sVar 0) (sC (.int 1)) (s2 oAdd (s2 oIx (sVar 0) (sC (.int 1))) (sC (.int 1))))
  (b__law_draw_4 F)
def b__law_draw_2 (F : FF) : SS :=
  ssCons (ssAsg (s2 oIx (s2 oIx (sVar 0) (sC (.int 0))) (s2 oIx (sVar 0) (sC (.int 1)))) (sgName 2))
  (b__law_draw_3 F)
def b__law_draw_8 (F : FF) : SS :=
  ssCons (ssRet (s2 oMod (sCl bInt (saCons (sCl (arN 2 F._law_mix) (saCons (s2 oIx (sVar 0) (sC (.int 3))) (saCons (s2 oIx (sVar 0) (sC (.int 4))) (saNil)))) (saNil))) (sVar 1)))
  (ssNil)
def b__law_draw_11 (F : FF) : SS :=
  ssCons (ssRet (sVar 3))
  (ssNil)
def b__law_draw_10 (F : FF) : SS :=
  ssCons (ssSub (sVar 0) (sC (.int 2)) (s2 oDiv (sCl bInt (saCons (s2 oIx (sVar 0) (sC (.int 2))) (saNil))) (sVar 1)))
  (b__law_draw_11 F)
def b__law_draw_9 (F : FF) : SS :=
  ssCons (ssAsg (s2 oMod (sCl bInt (saCons (s2 oIx (sVar 0) (sC (.int 2))) (saNil))) (sVar 1)) (sgName 3))
  (b__law_draw_10 F)
def b__law_draw_7 (F : FF) : SS :=
  ssCons (ssIf (sT (s2 oEq (s2 oIx (sVar 0) (sC (.int 2))) (sC (.int 0))))
  (b__law_draw_8 F)
  (ssNil))
  (b__law_draw_9 F)
def b__law_draw_1 (F : FF) : SS :=
  ssCons (ssIf (stAnd (sT (s2 oEq (s2 oIx (sVar 0) (sC (.int 2))) (sC (.int 0)))) (sT (s2 oLt (s2 oIx (sVar 0) (sC (.int 1))) (sCl bLen (saCons (s2 oIx (sVar 0) (sC (.int 0))) (saNil))))))
  (b__law_draw_2 F)
  (ssNil))
  (b__law_draw_7 F)
def b__law_draw (F : FF) : SS :=
  ssCons (ssSub (sVar 0) (sC (.int 4)) (s2 oAdd (s2 oIx (sVar 0) (sC (.int 4))) (sC (.int 1))))
  (b__law_draw_1 F)
def b__law_same_2 (F : FF) : SS :=
  ssCons (ssRet (sC (.bl false)))
  (ssNil)
def b__law_same_4 (F : FF) : SS :=
  ssCons (ssRet (sC (.bl false)))
  (ssNil)
def b__law_same_5 (F : FF) : SS :=
  ssCons (ssRet (sOver bAll (saLc (siRange1 (saCons (sCl bLen (saCons (sVar 1) (saNil))) (saNil))) (sgName 2) (stYes) (sCl (arN 2 F._law_same) (saCons (s2 oIx (sVar 0) (sVar 2)) (saCons (s2 oIx (sVar 1) (sVar 2)) (saNil)))) [2])))
  (ssNil)
def b__law_same_3 (F : FF) : SS :=
  ssCons (ssIf (sT (s2 oNe (sCl bLen (saCons (sVar 0) (saNil))) (sCl bLen (saCons (sVar 1) (saNil)))))
   (b__law_same_4 F)
   (ssNil))
  (b__law_same_5 F)
def b__law_same_1 (F : FF) : SS :=
  ssCons (ssIf (stOr (sT (s2 oNe (s1 (oIsK .tuple) (sVar 1)) (s1 (oIsK .tuple) (sVar 0)))) (sT (s2 oNe (s1 (oIsK .list) (sVar 1)) (s1 (oIsK .list) (sVar 0)))))
   (b__law_same_2 F)
   (ssNil))
  (b__law_same_3 F)
def b__law_same_7 (F : FF) : SS :=
  ssCons (ssRet (s2 oIs (sVar 0) (sC .non)))
  (ssNil)
def b__law_same_9 (F : FF) : SS :=
  ssCons (ssRet (sIf (sT (s1 (oIsK .bool) (sVar 1))) (sIf (sT (s1 (oIsK .bool) (sVar 0))) (s2 oEq (sVar 1) (sVar 0)) (sC (.bl false))) (sC (.bl false))))
  (ssNil)
def b__law_same_11 (F : FF) : SS :=
  ssCons (ssRet (sIf (sT (s1 (oIsK .int) (sVar 0))) (s2 oEq (sVar 0) (sVar 1)) (sC (.bl false))))
  (ssNil)
def b__law_same_12 (F : FF) : SS :=
  ssCons (ssRet (sIf (sT (s1 (oIsK .str) (sVar 0))) (s2 oEq (sVar 0) (sVar 1)) (sC (.bl false))))
  (ssNil)
def b__law_same_10 (F : FF) : SS :=
  ssCons (ssIf (sT (s1 (oIsK .int) (sVar 1)))
  (b__law_same_11 F)
  (ssNil))
  (b__law_same_12 F)
def b__law_same_8 (F : FF) : SS :=
  ssCons (ssIf (stOr (sT (s1 (oIsK .bool) (sVar 1))) (sT (s1 (oIsK .bool) (sVar 0))))
  (b__law_same_9 F)
  (ssNil))
  (b__law_same_10 F)
def b__law_same_6 (F : FF) : SS :=
  ssCons (ssIf (sT (s2 oIs (sVar 1) (sC .non)))
  (b__law_same_7 F)
  (ssNil))
  (b__law_same_8 F)
def b__law_same (F : FF) : SS :=
  ssCons (ssIf (stOr (sT (s1 (oIsK .tuple) (sVar 1))) (sT (s1 (oIsK .list) (sVar 1))))
  (b__law_same_1 F)
  (ssNil))
  (b__law_same_6 F)
def b__law_names_4 (F : FF) : SS :=
  ssCons (ssAsg (s2 oAdd (sVar 4) (s2 oIx (sC (.str "abcdefghijklmnopqrstuvwxyz")) (sCl (arN 2 F._law_draw) (saCons (sVar 0) (saCons (sC (.int 26)) (saNil)))))) (sgName 4))
  (ssNil)
def b__law_names_7 (F : FF) : SS :=
  ssCons (ssAsg (s2 oIx (sVar 6) (sC (.int 0))) (sgName 4))
  (ssNil)
def b__law_names_6 (F : FF) : SS :=
  ssCons (ssAsg (sLc (saLc (siE (sC (.str "abcdefghijklmnopqrstuvwxyz"))) (sgName 7) (sT (s2 oNotIn (s2 oAdd (sSl (sVar 4) (soNone) (soSome (sC (.int 7)))) (sVar 7)) (sVar 2))) (s2 oAdd (sSl (sVar 4) (soNone) (soSome (sC (.int 7)))) (sVar 7)) [7])) (sgName 6))
  (b__law_names_7 F)
def b__law_names_8 (F : FF) : SS :=
  ssCons (ssExpr (sMtL mAppend (sVar 2) (saCons (sVar 4) (saNil))))
  (ssNil)
def b__law_names_5 (F : FF) : SS :=
  ssCons (ssIf (sT (s2 oIn (sVar 4) (sVar 2)))
   (b__law_names_6 F)
   (ssNil))
  (b__law_names_8 F)
def b__law_names_3 (F : FF) : SS :=
  ssCons (ssFor (siRange1 (saCons (s2 oAdd (sC (.int 1)) (sCl (arN 2 F._law_draw) (saCons (sVar 0) (saCons (sC (.int 8)) (saNil))))) (saNil))) (sgName 5)
   (b__law_names_4 F))
  (b__law_names_5 F)
def b__law_names_2 (F : FF) : SS :=
  ssCons (ssAsg (sC (.str "")) (sgName 4))
  (b__law_names_3 F)
def b__law_names_9 (F : FF) : SS :=
  ssCons (ssRet (sVar 2))
  (ssNil)
def b__law_names_1 (F : FF) : SS :=
  ssCons (ssFor (siRange1 (saCons (sVar 1) (saNil))) (sgName 3)
  (b__law_names_2 F))
  (b__law_names_9 F)
def b__law_names (F : FF) : SS :=
  ssCons (ssAsg (sLst (saNil)) (sgName 2))
  (b__law_names_1 F)
def b__law_entries_1 (F : FF) : SS :=
  ssCons (ssRet (sOver bTup (saLc (siRange1 (saCons (sVar 2) (saNil))) (sgName 4) (stYes) (s2 oIx (sVar 3) (sCl (arN 2 F._law_draw) (saCons (sVar 0) (saCons (sC (.int 4)) (saNil))))) [4])))
  (ssNil)
def b__law_entries (F : FF) : SS :=
  ssCons (ssAsg (sLst (saCons (sC .non) (saCons (sC .non) (saCons (s2 oIx (sVar 1) (sC (.int 0))) (saCons (s2 oIx (sVar 1) (sC (.int 1))) (saNil)))))) (sgName 3))
  (b__law_entries_1 F)
def b__law_field_6 (F : FF) : SS :=
  ssCons (ssAsg (sOver bTup (saLc (siE (sVar 1)) (sgName 10) (stYes) (sCl (arN 3 F._law_entries) (saCons (sVar 0) (saCons (sVar 4) (saCons (sCl bLen (saCons (sVar 1) (saNil))) (saNil))))) [10])) (sgName 9))
  (ssNil)
def b__law_field_5 (F : FF) : SS :=
  ssCons (ssAsg (s2 oIx (sVar 6) (sCl (arN 2 F._law_draw) (saCons (sVar 0) (saCons (sCl bLen (saCons (sVar 6) (saNil))) (saNil))))) (sgName 8))
  (b__law_field_6 F)
def b__law_field_9 (F : FF) : SS :=
  ssCons (ssAsg (sCl (arN 3 F._law_entries) (saCons (sVar 0) (saCons (sVar 4) (saCons (sCl bLen (saCons (sVar 1) (saNil))) (saNil))))) (sgName 11))
  (ssNil)
def b__law_field_10 (F : FF) : SS :=
  ssCons (ssRet (sTup (saCons (sVar 5) (saCons (sVar 8) (saCons (sVar 9) (saCons (sVar 11) (saNil)))))))
  (ssNil)
def b__law_field_8 (F : FF) : SS :=
  ssCons (ssIf (sT (s2 oEq (sCl (arN 2 F._law_draw) (saCons (sVar 0) (saCons (sC (.int 2)) (saNil)))) (sC (.int 1))))
  (b__law_field_9 F)
  (ssNil))
  (b__law_field_10 F)
def b__law_field_7 (F : FF) : SS :=
  ssCons (ssAsg (sC .non) (sgName 11))
  (b__law_field_8 F)
def b__law_field_4 (F : FF) : SS :=
  ssCons (ssIf (stAnd (sT (s2 oGt (sCl bLen (saCons (sVar 6) (saNil))) (sC (.int 0)))) (sT (s2 oEq (sCl (arN 2 F._law_draw) (saCons (sVar 0) (saCons (sC (.int 2)) (saNil)))) (sC (.int 1)))))
  (b__law_field_5 F)
  (ssNil))
  (b__law_field_7 F)
def b__law_field_3 (F : FF) : SS :=
  ssCons (ssAsg (sCl (arN 3 F._law_entries) (saCons (sVar 0) (saCons (sVar 4) (saCons (sCl bLen (saCons (sVar 1) (saNil))) (saNil))))) (sgName 9))
  (b__law_field_4 F)
def b__law_field_2 (F : FF) : SS :=
  ssCons (ssAsg (sC .non) (sgName 8))
  (b__law_field_3 F)
def b__law_field_1 (F : FF) : SS :=
  ssCons (ssAsg (sLc (saLc (siE (sVar 2)) (sgName 7) (sT (s2 oNe (sVar 7) (sVar 3))) (sVar 7) [7])) (sgName 6))
  (b__law_field_2 F)
def b__law_field (F : FF) : SS :=
  ssCons (ssAsg (s2 oIx (sVar 1) (sCl (arN 2 F._law_draw) (saCons (sVar 0) (saCons (sCl bLen (saCons (sVar 1) (saNil))) (saNil))))) (sgName 5))
  (b__law_field_1 F)
def b__law_parts_5 (F : FF) : SS :=
  ssCons (ssSub (sVar 3) (sC (.int 0)) (s2 oIx (sVar 2) (sC (.int 0))))
  (ssNil)
def b__law_parts_7 (F : FF) : SS :=
  ssCons (ssRet (sTup (saCons (sVar 2) (saCons (sVar 5) (saCons (sVar 1) (saNil))))))
  (ssNil)
def b__law_parts_6 (F : FF) : SS :=
  ssCons (ssAsg (sOver bTup (saLc (siE (sVar 3)) (sgName 6) (stYes) (sTup (saCons (sVar 6) (saCons (sCl (arN 5 F._law_field) (saCons (sVar 0) (saCons (sVar 2) (saCons (sVar 3) (saCons (sVar 6) (saCons (sVar 4) (saNil))))))) (saNil)))) [6])) (sgName 5))
  (b__law_parts_7 F)
def b__law_parts_4 (F : FF) : SS :=
  ssCons (ssIf (stAnd (sT (s2 oEq (sCl (arN 2 F._law_draw) (saCons (sVar 0) (saCons (sC (.int 4)) (saNil)))) (sC (.int 0)))) (sT (s2 oNotIn (s2 oIx (sVar 2) (sC (.int 0))) (sVar 3))))
  (b__law_parts_5 F)
  (ssNil))
  (b__law_parts_6 F)
def b__law_parts_3 (F : FF) : SS :=
  ssCons (ssAsg (sCl (arN 2 F._law_names) (saCons (sVar 0) (saCons (sC (.int 2)) (saNil)))) (sgName 4))
  (b__law_parts_4 F)
def b__law_parts_2 (F : FF) : SS :=
  ssCons (ssAsg (sCl (arN 2 F._law_names) (saCons (sVar 0) (saCons (s2 oAdd (sC (.int 1)) (sCl (arN 2 F._law_draw) (saCons (sVar 0) (saCons (sC (.int 3)) (saNil))))) (saNil)))) (sgName 3))
  (b__law_parts_3 F)
def b__law_parts_1 (F : FF) : SS :=
  ssCons (ssAsg (sCl bTuple (saCons (sCl (arN 2 F._law_names) (saCons (sVar 0) (saCons (s2 oAdd (sC (.int 2)) (sCl (arN 2 F._law_draw) (saCons (sVar 0) (saCons (sC (.int 2)) (saNil))))) (saNil)))) (saNil))) (sgName 2))
  (b__law_parts_2 F)
def b__law_parts (F : FF) : SS :=
  ssCons (ssAsg (s2 oAdd (sC (.int 1)) (sCl (arN 2 F._law_draw) (saCons (sVar 0) (saCons (sC (.int 3)) (saNil))))) (sgName 1))
  (b__law_parts_1 F)
def b__law_pairs_4 (F : FF) : SS :=
  ssCons (ssExpr (sMtL mAppend (sVar 2) (saCons (sTup (saCons (sVar 3) (saCons (sVar 4) (saNil)))) (saNil))))
  (ssNil)
def b__law_pairs_3 (F : FF) : SS :=
  ssCons (ssIf (stAnd (sT (s2 oNe (sVar 3) (sVar 4))) (sT (s2 oEq (sCl (arN 2 F._law_draw) (saCons (sVar 0) (saCons (sC (.int 2)) (saNil)))) (sC (.int 1)))))
    (b__law_pairs_4 F)
    (ssNil))
  (ssNil)
def b__law_pairs_2 (F : FF) : SS :=
  ssCons (ssFor (siE (sVar 1)) (sgName 4)
   (b__law_pairs_3 F))
  (ssNil)
def b__law_pairs_5 (F : FF) : SS :=
  ssCons (ssRet (sCl bTuple (saCons (sVar 2) (saNil))))
  (ssNil)
def b__law_pairs_1 (F : FF) : SS :=
  ssCons (ssFor (siE (sVar 1)) (sgName 3)
  (b__law_pairs_2 F))
  (b__law_pairs_5 F)
def b__law_pairs (F : FF) : SS :=
  ssCons (ssAsg (sLst (saNil)) (sgName 2))
  (b__law_pairs_1 F)
def b__law_rule_5 (F : FF) : SS :=
  ssCons (ssAsg (sCl (arN 2 F._law_pairs) (saCons (sVar 0) (saCons (sVar 1) (saNil)))) (sgName 5))
  (ssNil)
def b__law_rule_9 (F : FF) : SS :=
  ssCons (ssRet (bMakeK "Rule" 3 3 [true, true, true] [] F.Rule_init (saCons (sVar 2) (saCons (sVar 3) (saCons (sVar 5) (saNil)))) (saCons (sVar 6) (saCons (sVar 7) (saCons (sVar 8) (saNil))))))
  (ssNil)
def b__law_rule_8 (F : FF) : SS :=
  ssCons (ssAsg (s2 oIx (sLst (saCons (sC (.str "bar")) (saCons (sC (.str "wait")) (saCons (sC (.str "go")) (saNil))))) (sCl (arN 2 F._law_draw) (saCons (sVar 0) (saCons (sC (.int 3)) (saNil))))) (sgName 8))
  (b__law_rule_9 F)
def b__law_rule_7 (F : FF) : SS :=
  ssCons (ssAsg (s2 oIx (sLst (saCons (sC (.str "any")) (saCons (sC (.str "same")) (saCons (sC (.str "last")) (saNil))))) (sCl (arN 2 F._law_draw) (saCons (sVar 0) (saCons (sC (.int 3)) (saNil))))) (sgName 7))
  (b__law_rule_8 F)
def b__law_rule_6 (F : FF) : SS :=
  ssCons (ssAsg (s2 oEq (sCl (arN 2 F._law_draw) (saCons (sVar 0) (saCons (sC (.int 2)) (saNil)))) (sC (.int 1))) (sgName 6))
  (b__law_rule_7 F)
def b__law_rule_4 (F : FF) : SS :=
  ssCons (ssIf (sT (s2 oEq (sVar 4) (sC (.int 2))))
  (b__law_rule_5 F)
  (ssNil))
  (b__law_rule_6 F)
def b__law_rule_3 (F : FF) : SS :=
  ssCons (ssAsg (s2 oIx (sLst (saCons (sC (.str "own")) (saCons (sC (.str "looks")) (saCons (sC (.str "own")) (saNil))))) (sVar 4)) (sgName 5))
  (b__law_rule_4 F)
def b__law_rule_2 (F : FF) : SS :=
  ssCons (ssAsg (sCl (arN 2 F._law_draw) (saCons (sVar 0) (saCons (sC (.int 3)) (saNil)))) (sgName 4))
  (b__law_rule_3 F)
def b__law_rule_1 (F : FF) : SS :=
  ssCons (ssAsg (s2 oIx (sLst (saCons (sC (.str "enter")) (saCons (sC (.str "leave")) (saNil)))) (sCl (arN 2 F._law_draw) (saCons (sVar 0) (saCons (sC (.int 2)) (saNil))))) (sgName 3))
  (b__law_rule_2 F)
def b__law_rule (F : FF) : SS :=
  ssCons (ssAsg (s2 oIx (sLst (saCons (sC (.str "enter")) (saCons (sC (.str "leave")) (saCons (sC (.str "send")) (saNil))))) (sCl (arN 2 F._law_draw) (saCons (sVar 0) (saCons (sC (.int 3)) (saNil))))) (sgName 2))
  (b__law_rule_1 F)
def b_law_10 (F : FF) : SS :=
  ssCons (ssRet (sC (.bl false)))
  (ssNil)
def b_law_9 (F : FF) : SS :=
  ssCons (ssIf (stNot (sT (sCl (arN 2 F._law_same) (saCons (sTup (saCons (s1 (oFldC CS "deed") (sVar 10)) (saCons (s1 (oFldC CS "before") (sVar 10)) (saCons (s1 (oFldC CS "after") (sVar 10)) (saCons (s1 (oFldC CS "events") (sVar 10)) (saNil)))))) (saCons (sTup (saCons (sC .non) (saCons (sC .non) (saCons (sVar 8) (saCons (sTup (saNil)) (saNil)))))) (saNil))))))
   (b_law_10 F)
   (ssNil))
  (ssNil)
def b_law_8 (F : FF) : SS :=
  ssCons (ssAsg (sCl (arN 2 F.begin) (saCons (sVar 5) (saCons (sCl (arN 2 F._law_rule) (saCons (sVar 1) (saCons (sVar 3) (saNil)))) (saNil)))) (sgName 10))
  (b_law_9 F)
def b_law_11 (F : FF) : SS :=
  ssCons (ssRet (sC (.bl true)))
  (ssNil)
def b_law_7 (F : FF) : SS :=
  ssCons (ssFor (siRange1 (saCons (sC (.int 4)) (saNil))) (sgName 9)
  (b_law_8 F))
  (b_law_11 F)
def b_law_6 (F : FF) : SS :=
  ssCons (ssAsg (sTup (saCons (sVar 6) (saCons (s2 oMulT (sTup (saCons (sC (.bl false)) (saNil))) (sCl bLen (saCons (sVar 3) (saNil)))) (saCons (sVar 7) (saCons (sVar 7) (saCons (sTup (saNil)) (saCons (sC (.bl false)) (saNil)))))))) (sgName 8))
  (b_law_7 F)
def b_law_5 (F : FF) : SS :=
  ssCons (ssAsg (s2 oMulT (sTup (saCons (sC .non) (saNil))) (sCl bLen (saCons (sVar 3) (saNil)))) (sgName 7))
  (b_law_6 F)
def b_law_4 (F : FF) : SS :=
  ssCons (ssAsg (sOver bTup (saLc (siE (s2 oIx (sVar 2) (sC (.int 1)))) (sgName 4) (stYes) (s2 oIx (s2 oIx (sVar 4) (sC (.int 1))) (sC (.int 0))) [4])) (sgName 6))
  (b_law_5 F)
def b_law_3 (F : FF) : SS :=
  ssCons (ssAsg (bMakeK "Form" 1 2 [true] [] F.Form_init (saCons (s2 oIx (sVar 2) (sC (.int 0))) (saCons (s2 oIx (sVar 2) (sC (.int 1))) (saNil))) (saCons (s2 oIx (sVar 2) (sC (.int 2))) (saNil))) (sgName 5))
  (b_law_4 F)
def b_law_2 (F : FF) : SS :=
  ssCons (ssAsg (sLc (saLc (siE (s2 oIx (sVar 2) (sC (.int 1)))) (sgName 4) (stYes) (s2 oIx (sVar 4) (sC (.int 0))) [4])) (sgName 3))
  (b_law_3 F)
def b_law_1 (F : FF) : SS :=
  ssCons (ssAsg (sCl (arN 1 F._law_parts) (saCons (sVar 1) (saNil))) (sgName 2))
  (b_law_2 F)
def b_law (F : FF) : SS :=
  ssCons (ssAsg (sCl (arN 1 F._law_box) (saCons (sVar 0) (saNil))) (sgName 1))
  (b_law_1 F)
def FF.stk : FF := ⟨fun _ _ => .stk, fun _ _ => .stk, fun _ _ => .stk, fun _ _ => .stk, fun _ _ => .stk, fun _ _ => .stk, fun _ _ => .stk, fun _ _ => .stk, fun _ _ => .stk, fun _ _ => .stk, fun _ _ => .stk, fun _ _ => .stk, fun _ _ => .stk, fun _ _ => .stk, fun _ _ => .stk, fun _ _ => .stk, fun _ _ => .stk, fun _ _ => .stk, fun _ _ => .stk, fun _ _ => .stk, fun _ _ => .stk, fun _ _ => .stk, fun _ _ => .stk, fun _ _ => .stk, fun _ _ => .stk, fun _ _ => .stk, fun _ _ => .stk⟩
def stepF (F : FF) : FF where
  is_integer := defRun 1 (b_is_integer F)
  is_name := defRun 2 (b_is_name F)
  is_one_of := defRun 2 (b_is_one_of F)
  are_names := defRun 4 (b_are_names F)
  is_pair := defRun 1 (b_is_pair F)
  are_fields := defRun 2 (b_are_fields F)
  is_row := defRun 3 (b_is_row F)
  is_near := defRun 4 (b_is_near F)
  check_field := defRun 8 (b_check_field F)
  Form_init := defRun 8 (b_Form_init F)
  Step_init := defRun 5 (b_Step_init F)
  begin := defRun 7 (b_begin F)
  is_name_pair := defRun 1 (b_is_name_pair F)
  are_pairs := defRun 2 (b_are_pairs F)
  fits_part := defRun 2 (b_fits_part F)
  Rule_init := defRun 10 (b_Rule_init F)
  _law_mix := defRun 3 (b__law_mix F)
  _law_box := defRun 4 (b__law_box F)
  _law_draw := defRun 4 (b__law_draw F)
  _law_same := defRun 3 (b__law_same F)
  _law_names := defRun 8 (b__law_names F)
  _law_entries := defRun 5 (b__law_entries F)
  _law_field := defRun 12 (b__law_field F)
  _law_parts := defRun 7 (b__law_parts F)
  _law_pairs := defRun 5 (b__law_pairs F)
  _law_rule := defRun 9 (b__law_rule F)
  law := defRun 11 (b_law F)
def runF : Nat → FF
  | 0 => FF.stk
  | k + 1 => stepF (runF k)
end
end LW
end

section
namespace LW
open PySem W3
theorem ok_mix (F : FF) : MixW (defRun 3 (b__law_mix F)) := by
  intro v k h Q E hq
  have e1 : ∀ x : Int, 0 ≤ x % 2147483647 ∧ x % 2147483647 < 2147483647 := fun x => by omega
  have q := e1 ((v + 7919 * k + 1) * 48271)
  simp [b__law_mix, b__law_mix_1, b__law_mix_2]
  rw [e_mul_l (by omega) (by omega)]
  simp
  have q := e1 (((v + 7919 * k + 1) * 48271 % 2147483647 * ((v + 7919 * k + 1) * 48271 % 2147483647 / 1009 + 69621)))
  rw [e_mul_l (by omega) (by omega)]
  simp [hq]
theorem ok_box {F : FF} (m : MixW F._law_mix) : BoxW (defRun 4 (b__law_box F)) := by
  intro ns h Q E hns hq
  obtain ⟨ms, em, hm⟩ := cut_ints ns none (some 63)
  simp [b__law_box, b__law_box_1, em]
  refine wp_lcm (ts := ms.map T.int) id (szle (by simp; omega)) lstAt_new (fun x hx => ?_) ?_
  · obtain ⟨n, _, rfl⟩ := List.mem_map.mp hx
    simp
  simp [b__law_box_1, b__law_box_2]
  refine wp_for (ts := ms.map T.int) (fun i σ h1 => (∃ a z, σ = [some (T.fl (List.map T.int ns)), some (T.ref (List.length h + 1)), a, some (T.int z)]) ∧ h1 = h ++ [Ob.lst (List.map T.int ms), Ob.lst (List.map T.int ms)])
    (fun i σ h1 q => by rw [q.2]; simp [Src.Is]) ⟨⟨_, _, rfl⟩, rfl⟩ (fun i x σ h1 ex q => ?_) (fun σ h1 q => ?_)
  · obtain ⟨⟨a, z, rfl⟩, rfl⟩ := q
    obtain ⟨n, rfl⟩ := map_int_get ex
    refine ⟨_, rfl, ?_⟩
    simp [b__law_box_3]
    refine m fun y => ?_
    simp
  · obtain ⟨⟨a, z, rfl⟩, rfl⟩ := q
    simp [sizeLine, b__law_box_4]
    refine hq _ _ ⟨h.length + 1, ms, 0, 0, z, 0, ?_, ?_, by omega, by omega⟩ (by simp) (fun k hk => ?_) (fun c hc => ?_)
    · simp [BoxL]
    · simp
    · rw [List.getElem?_append_left hk]
    · unfold BoxC at hc
      simp at hc
      omega
theorem ok_draw {F : FF} (M : MixW F._law_mix) : DrawW (defRun 4 (b__law_draw F)) := by
  intro h l m Q E hb h0 h1 hq
  obtain ⟨c, cells, i, d, s, n, e, e2, hi, hd⟩ := hb
  have hne := IsBox.ne e e2
  have hlt := lstAt_lt e
  unfold BoxL at e
  have ec : ∀ o, lstAt (List.set h l o) c = some (cells.map T.int) := fun o => by rw [lstAt_set_ne hne]; exact e2
  have key : ∀ i' d' s' n', 0 ≤ i' → 0 ≤ d' → Up l h (List.set h l (.lst [T.ref c, T.int i', T.int d', T.int s', T.int n'])) := fun i' d' s' n' q1 q2 =>
    ⟨by simp, fun k _ hk => List.getElem?_set_ne (Ne.symm hk), ⟨c, cells, i', d', s', n', lstAt_set_self hlt, ec _, q1, q2⟩, by unfold BoxC; rw [lstAt_set_self hlt, e]⟩
  have hmod : ∀ x : Int, 0 ≤ x % m ∧ x % m < m := fun x => ⟨Int.emod_nonneg _ (by omega), Int.emod_lt_of_pos _ h0⟩
  simp [b__law_draw, b__law_draw_1, b__law_draw_2, b__law_draw_3, b__law_draw_4, b__law_draw_5, b__law_draw_6, b__law_draw_7, b__law_draw_8, b__law_draw_9, b__law_draw_10, b__law_draw_11, e, hlt]
  by_cases hd0 : d = 0
  · subst hd0
    by_cases hi2 : i < cells.length
    · obtain ⟨x, ex, qx⟩ := atI_int (xs := cells.map T.int) hi (by simpa using hi2)
      obtain ⟨z, rfl⟩ := map_int_get qx
      simp [ec, hlt, hi2, ex, h0, h1]
      refine ⟨fun hz => M fun y => ?_, fun hz => ⟨fun hz0 => by omega, fun hz0 => ?_⟩⟩
      · simp [h0]
        exact hq _ _ (hmod _).1 (hmod _).2 (key _ _ _ _ (by omega) (by omega))
      · exact hq _ _ (hmod _).1 (hmod _).2 (key _ _ _ _ (by omega) (Int.ediv_nonneg (by omega) (by omega)))
    · simp [ec, hlt, hi2, h0]
      refine M fun y => ?_
      simp [h0]
      exact hq _ _ (hmod _).1 (hmod _).2 (key _ _ _ _ (by omega) (by omega))
  · simp [hd0, hlt, h0, h1]
    exact hq _ _ (hmod _).1 (hmod _).2 (key _ _ _ _ (by omega) (Int.ediv_nonneg (by omega) (by omega)))
theorem ok_names {F : FF} (D : DrawW F._law_draw) : NamesW (defRun 8 (b__law_names F)) := by
  intro h l m Q E hb h0 h1 hq
  have hsz := sz
  simp [b__law_names, b__law_names_1]
  rw [e_rng (by omega) (by omega)]
  simp
  refine wp_for (ts := rangeT 0 m.toNat) (fun i σ h1 => ∃ ss a3 a4 a5 a6 a7, σ = [some (T.ref l), some (T.int m), some (T.ref h.length), a3, a4, a5, a6, a7] ∧ lstAt h1 h.length = some (tSs ss) ∧ ss.length = i ∧ NmL ss ∧ Kp l h.length h h1)
    (fun i σ h1 q => rfl) ⟨[], _, _, _, _, _, rfl, by simp, rfl, ⟨List.nodup_nil, by simp⟩, Up.app hb _⟩ (fun i x σ h1 ex q => ?_) (fun σ h1 q => ?_)
  · obtain ⟨ss, a3, a4, a5, a6, a7, rfl, hl, hn, hs, kp⟩ := q
    obtain ⟨rfl, hi⟩ := range_at ex
    refine ⟨_, rfl, ?_⟩
    simp [b__law_names_2, b__law_names_3]
    refine D kp.box (by omega) (by omega) fun d h2 d0 d1 u => ?_
    simp
    rw [e_rng (by omega) (by omega)]
    simp
    refine wp_for (ts := rangeT 0 (1 + d).toNat) (fun j σ h1 => ∃ w a5 a6 a7, σ = [some (T.ref l), some (T.int m), some (T.ref h.length), some (T.int i), some (T.str w), a5, a6, a7] ∧ lstAt h1 h.length = some (tSs ss) ∧ w.length = j ∧ Lt w ∧ Kp l h.length h h1)
      (fun i σ h1 q => rfl) ⟨_, _, _, _, rfl, u.lst hl (by have := hb.lt; omega), rfl, Lt.nil, kp.up u⟩ (fun j x σ h1 ex q => ?_) (fun σ h1 q => ?_)
    · obtain ⟨w, a5, a6, a7, rfl, hl, hw, lw, kp⟩ := q
      obtain ⟨rfl, hj⟩ := range_at ex
      refine ⟨_, rfl, ?_⟩
      simp [b__law_names_4]
      refine D kp.box (by omega) (by omega) fun d2 h3 d20 d21 u2 => ?_
      obtain ⟨c, hc, ec⟩ := lets_at d20 (by omega)
      simp [ec, show 26 ≤ sizeLine by omega, show w.length + 1 ≤ sizeLine by omega]
      exact ⟨u2.lst hl (by have := hb.lt; omega), by omega, lw.app (Lt.one hc), kp.up u2⟩
    · obtain ⟨w, a5, a6, a7, rfl, hl, hw, lw, kp⟩ := q
      rw [range_length] at hw
      have hbl := hb.lt
      simp [oIn_ref hl, b__law_names_5, b__law_names_6]
      have fin : ∀ (w' : Str) (h3 : Hh), Nm w' → w' ∉ ss → Kp l h.length h h3 → lstAt h3 h.length = some (tSs ss) → ∃ ss', lstAt (h3.set h.length (.lst (tSs ss ++ [.str w']))) h.length = some (tSs ss') ∧ ss'.length = i + 1 ∧ NmL ss' ∧ Kp l h.length h (h3.set h.length (.lst (tSs ss ++ [.str w']))) := by
        intro w' h3 nw nn kp hl
        refine ⟨ss ++ [w'], ?_, by simp; omega, hs.snoc nw nn, kp.set _ hb (Nat.le_refl _) (Nat.le_refl _)⟩
        rw [lstAt_set_self (lstAt_lt hl)]
        simp
      refine ⟨fun hin => ?_, fun hin => ?_⟩
      · refine wp_lcf (ts := (Str.ofString "abcdefghijklmnopqrstuvwxyz").cps.toList.map fun c => .str ⟨#[c]⟩)
          (fun x => match x with | .str s => !decide (L2.cutS w none (some 7) ++ s ∈ ss) | _ => false) (fun x => match x with | .str s => .str (L2.cutS w none (some 7) ++ s) | _ => x)
          (szle (by decide +kernel)) rfl (fun x hx => ?_) ?_
        · obtain ⟨c, hc, rfl⟩ := List.mem_map.mp hx
          have := cut7_len w
          simp [oNotIn_ref hl, show w.length ≤ sizeLine by omega, show (L2.cutS w none (some 7)).length + 1 ≤ sizeLine by omega]
        · obtain ⟨c, hc, hf⟩ := free_name (L2.cutS w none (some 7)) ss (by omega)
          have hne : ∃ c r, c ∈ LETS.cps.toList ∧ L2.cutS w none (some 7) ++ (⟨#[c]⟩ : Str) ∉ ss ∧ ((List.filter (fun x => match x with | .str s => !decide (L2.cutS w none (some 7) ++ s ∈ ss) | _ => false) ((Str.ofString "abcdefghijklmnopqrstuvwxyz").cps.toList.map fun c => T.str ⟨#[c]⟩)).map (fun x => match x with | .str s => .str (L2.cutS w none (some 7) ++ s) | _ => x)) = T.str (L2.cutS w none (some 7) ++ (⟨#[c]⟩ : Str)) :: r := by
            cases hq : (List.filter (fun x => match x with | T.str s => !decide (L2.cutS w none (some 7) ++ s ∈ ss) | _ => false) ((Str.ofString "abcdefghijklmnopqrstuvwxyz").cps.toList.map fun c => T.str ⟨#[c]⟩)) with
            | nil =>
              rw [List.filter_eq_nil_iff] at hq
              have := hq (T.str ⟨#[c]⟩) (List.mem_map.mpr ⟨c, hc, rfl⟩)
              simp [hf] at this
            | cons y r =>
              have hy : y ∈ List.filter (fun x => match x with | T.str s => !decide (L2.cutS w none (some 7) ++ s ∈ ss) | _ => false) ((Str.ofString "abcdefghijklmnopqrstuvwxyz").cps.toList.map fun c => T.str ⟨#[c]⟩) := by rw [hq]; simp
              rw [List.mem_filter] at hy
              obtain ⟨hy1, hy2⟩ := hy
              obtain ⟨c', hc', rfl⟩ := List.mem_map.mp hy1
              exact ⟨c', _, hc', by simpa using hy2, rfl⟩
          obtain ⟨c, r, hc, hf, er⟩ := hne
          rw [er]
          simp [b__law_names_7]
          have hl2 : ∀ o, lstAt (h1 ++ o) h.length = some (tSs ss) := fun o => lstAt_app o hl
          simp [b__law_names_8, hl2, show ss.length < sizeLine by omega]
          have l7 := cut7_len w
          have nw : Nm (L2.cutS w none (some 7) ++ (⟨#[c]⟩ : Str)) := ⟨by simp, by simp; omega, (cut7_lt lw).app (Lt.one hc)⟩
          simpa using fin _ _ nw hf (kp.app _) (hl2 _)
      · simp [b__law_names_8, hl, show ss.length < sizeLine by omega]
        simpa using fin w h1 ⟨by omega, by omega, lw⟩ hin kp hl
  · obtain ⟨ss, a3, a4, a5, a6, a7, rfl, hl, hn, hs, kp⟩ := q
    rw [range_length] at hn
    simp [b__law_names_9]
    exact hq _ ss _ hl (by omega) hs kp (Nat.le_refl _)
theorem ok_entries {F : FF} (D : DrawW F._law_draw) : EntriesW (defRun 5 (b__law_entries F)) := by
  intro h l r a b n Q E hb hr ha hb' hn hq
  have hsz := sz
  have hne := box_ne hb (lstAt_two hr)
  simp [b__law_entries, b__law_entries_1, hr, show 4 ≤ sizeLine by omega]
  rw [e_rng (by omega) (by omega)]
  simp
  refine wp_lc (ts := rangeT 0 n) (szle (by simp; omega)) (fun i acc h1 => ∃ row : List Ent, acc = row.map tE ∧ row.length = i ∧ (∀ s, some s ∈ row → Nm s) ∧ Kp l h.length h h1 ∧ lstAt h1 h.length = some [.non, .non, .str a, .str b])
    (fun i acc h1 q => rfl) ⟨[], rfl, rfl, by simp, Up.app hb _, by simp⟩ (fun i x acc h1 ex q => ?_) (fun acc h1 q => ?_)
  · obtain ⟨row, rfl, hl, hs, kp, hm⟩ := q
    obtain ⟨rfl, hi⟩ := range_at ex
    refine ⟨_, rfl, ?_⟩
    simp
    refine D kp.box (by omega) (by omega) fun d h2 d0 d1 u => ?_
    have hm2 := u.lst hm (by have := hb.lt; omega)
    have hz : ∃ e : Ent, L2.atI [T.non, T.non, T.str a, T.str b] d = some (tE e) ∧ ∀ s, e = some s → Nm s := by
      have : d = 0 ∨ d = 1 ∨ d = 2 ∨ d = 3 := by omega
      rcases this with rfl | rfl | rfl | rfl
      · exact ⟨none, rfl, by simp⟩
      · exact ⟨none, rfl, by simp⟩
      · exact ⟨some a, rfl, by simp [ha]⟩
      · exact ⟨some b, rfl, by simp [hb']⟩
    obtain ⟨e, ee, he⟩ := hz
    simp [hm2, ee]
    refine ⟨row ++ [e], by simp, by simp; omega, fun s hs' => ?_, kp.up u⟩
    rcases List.mem_append.mp hs' with q | q
    · exact hs s q
    · simp at q; exact he s q.symm
  · obtain ⟨row, rfl, hl, hs, kp, hm⟩ := q
    rw [range_length] at hl
    simp
    exact hq row h1 ⟨hl, hs⟩ kp
theorem ok_field {F : FF} (D : DrawW F._law_draw) (En : EntriesW F._law_entries) : FieldW (defRun 12 (b__law_field F)) := by
  intro h l rn rt ws ns nm a b Q E hb hrn hrt ha hb' hw hw2 hn hq
  have hsz := sz
  have hne := box_ne hb (lstAt_two hrt)
  have hne2 := box_ne hb hrn
  -- from the tables on
  have rest2 : ∀ (fi : Str) (nr : Nr) (far : Option (List Ent)) (h1 : Hh) (a2 a3 a6 a7 a10 : Option T), fi ∈ ws → NrOk ws.length ns nm nr → (∀ r, far = some r → RowOk ws.length r) → Up l h h1 →
      (b__law_field_10 F [some (.ref l), some (.tup (tSs ws)), a2, a3, some (.ref rt), some (.str fi), a6, a7, some nr.tLooks, some nr.tNear, a10, some (tFar far)] h1).wp (FQ.df Q E) := by
    intro fi nr far h1 a2 a3 a6 a7 a10 hfi hnr hfar u
    simp [b__law_field_10, show 4 ≤ sizeLine by omega]
    exact hq ⟨fi, nr, far⟩ h1 ⟨hfi, hnr, hfar⟩ u
  have rest : ∀ (fi : Str) (nr : Nr) (h1 : Hh) (a2 a3 a6 a7 a10 a11 : Option T), fi ∈ ws → NrOk ws.length ns nm nr → Up l h h1 → lstAt h1 rt = some [.str a, .str b] →
      (b__law_field_7 F [some (.ref l), some (.tup (tSs ws)), a2, a3, some (.ref rt), some (.str fi), a6, a7, some nr.tLooks, some nr.tNear, a10, a11] h1).wp (FQ.df Q E) := by
    intro fi nr h1 a2 a3 a6 a7 a10 a11 hfi hnr u hrt
    simp [b__law_field_7, b__law_field_8]
    refine D u.box (by omega) (by omega) fun d h2 d0 d1 u2 => ?_
    simp [b__law_field_9]
    have hrt2 := u2.lst hrt hne
    refine ⟨fun hd => En u2.box hrt2 ha hb' hw2 fun row h3 rok u3 => ?_, fun hd => ?_⟩
    · simp
      exact rest2 fi nr (some row) h3 _ _ _ _ _ hfi hnr (by simp [rok]) ((u.up u2).up u3)
    · exact rest2 fi nr none h2 _ _ _ _ _ hfi hnr (by simp) (u.up u2)
  simp [b__law_field]
  refine D hb (by omega) (by omega) fun d h1 d0 d1 u1 => ?_
  obtain ⟨fi, efi, hfi⟩ := atI_map T.str (xs := ws) d0 (by omega)
  have hrn1 := u1.lst hrn hne2
  simp [b__law_field_1, efi, hrn1]
  refine wp_lcf (ts := tSs ns) (fun x => match x with | .str s => !decide (s = nm) | _ => false) id (szle (by simp; omega)) hrn1 (fun x hx => ?_) ?_
  · obtain ⟨s, _, rfl⟩ := List.mem_map.mp hx
    simp
  have ef : ((tSs ns).filter (fun x => match x with | .str s => !decide (s = nm) | _ => false)).map id = tSs (ns.filter fun s => !decide (s = nm)) := by
    rw [List.map_id, List.filter_map]
    rfl
  rw [ef]
  generalize ho : (ns.filter fun s => !decide (s = nm)) = os
  have hos : ∀ s ∈ os, s ∈ ns ∧ s ≠ nm := by
    intro s hs
    rw [← ho, List.mem_filter] at hs
    simpa using hs
  have hol : os.length ≤ ns.length := by rw [← ho]; exact List.length_filter_le _ _
  simp [b__law_field_2, b__law_field_3]
  refine En (u1.box.app _) (lstAt_app _ (u1.lst hrt hne)) ha hb' hw2 fun row h2 rok u2 => ?_
  have hos2 : lstAt h2 h1.length = some (tSs os) := u2.lst (by simp) (by have := u1.box.lt; omega)
  have hrt2 := u2.lst (lstAt_app _ (u1.lst hrt hne)) hne
  have up2 : Up l h h2 := (Kp.app u1 [Ob.lst (tSs os)]).up u2
  simp [b__law_field_4, hos2]
  refine ⟨fun hz => ?_, fun hz => ?_⟩
  · refine D up2.box (by omega) (by omega) fun d h3 d0 d1 u3 => ?_
    have hos3 := u3.lst hos2 (by have := u1.box.lt; omega)
    have hrt3 := u3.lst hrt2 hne
    simp [b__law_field_5, hos3]
    refine ⟨fun hd => D u3.box (by omega) (by omega) fun d h4 d0 d1 u4 => ?_, fun hd => rest fi (.alone row) h3 _ _ _ _ _ _ hfi rok (up2.up u3) hrt3⟩
    have hos4 := u4.lst hos3 (by have := u1.box.lt; omega)
    have hrt4 := u4.lst hrt3 hne
    obtain ⟨g, eg, hg⟩ := atI_map T.str (xs := os) d0 (by omega)
    simp [b__law_field_6, hos4, eg]
    refine wp_lc (ts := tSs ws) (szle (by simp; omega)) (fun i acc h1 => ∃ rows : List (List Ent), acc = rows.map tRow ∧ rows.length = i ∧ (∀ r ∈ rows, RowOk ws.length r) ∧ Up l h h1 ∧ lstAt h1 rt = some [.str a, .str b])
      (fun i acc h1 q => rfl) ⟨[], rfl, rfl, by simp, ((up2.up u3).up u4), hrt4⟩ (fun i x acc h1 ex q => ?_) (fun acc h1 q => ?_)
    · obtain ⟨rows, rfl, hl, hr, u, hrt⟩ := q
      refine ⟨_, rfl, ?_⟩
      simp
      refine En u.box hrt ha hb' hw2 fun row h2 rok u2 => ?_
      refine ⟨rows ++ [row], by simp, by simp; omega, fun r hr' => ?_, u.up u2, u2.lst hrt hne⟩
      rcases List.mem_append.mp hr' with q | q
      · exact hr r q
      · simp at q; rw [q]; exact rok
    · obtain ⟨rows, rfl, hl, hr, u, hrt⟩ := q
      simp at hl
      simp
      exact rest fi (.looks g rows) h1 _ _ _ _ _ _ hfi ⟨(hos g hg).1, (hos g hg).2, hl, hr⟩ u hrt
  · exact rest fi (.alone row) h2 _ _ _ _ _ _ hfi rok up2 hrt2
theorem ok_parts {F : FF} (D : DrawW F._law_draw) (N : NamesW F._law_names) (Fi : FieldW F._law_field) : PartsW (defRun 7 (b__law_parts F)) := by
  intro h l Q E hb hq
  have hsz := sz
  have rest : ∀ (ws ns : List Str) (a b : Str) (sz : Int) (rn rt : Nat) (h1 : Hh) (a5 a6 : Option T), NmL ws → 2 ≤ ws.length → ws.length ≤ 3 → NmL ns → 1 ≤ ns.length → ns.length ≤ 3 → Nm a → Nm b → 1 ≤ sz → sz ≤ 3 → lstAt h1 rn = some (tSs ns) → lstAt h1 rt = some [.str a, .str b] → Up l h h1 →
      (b__law_parts_6 F [some (.ref l), some (.int sz), some (.tup (tSs ws)), some (.ref rn), some (.ref rt), a5, a6] h1).wp (FQ.df Q E) := by
    intro ws ns a b sz rn rt h1 a5 a6 hws hw2 hw3 hns hn1 hn3 ha hb' hz1 hz3 hrn hrt u
    simp [b__law_parts_6, hrn]
    refine wp_lc (ts := tSs ns) (szle (by simp; omega)) (fun i acc h1 => ∃ fs : List (Str × Fd), acc = fs.map tPair ∧ fs.map Prod.fst = ns.take i ∧ (∀ p ∈ fs, FdOk ws ns p.1 p.2) ∧ Up l h h1 ∧ lstAt h1 rn = some (tSs ns) ∧ lstAt h1 rt = some [.str a, .str b])
      (fun i acc h1 q => by obtain ⟨_, _, _, _, _, q, _⟩ := q; exact q) ⟨[], rfl, by simp, by simp, u, hrn, hrt⟩ (fun i x acc h1 ex q => ?_) (fun acc h1 q => ?_)
    · obtain ⟨fs, rfl, hl, hf, u, hrn, hrt⟩ := q
      rw [List.getElem?_map] at ex
      cases hx : ns[i]? with
      | none => rw [hx] at ex; cases ex
      | some s =>
        rw [hx] at ex; cases ex
        refine ⟨_, rfl, ?_⟩
        simp
        refine Fi (nm := s) u.box hrn hrt ha hb' hw2 (by omega) (by omega) fun fd h2 fok u2 => ?_
        simp [show 2 ≤ sizeLine by omega]
        refine ⟨fs ++ [(s, fd)], by simp [tPair], by simp [hl, List.take_add_one, hx], fun a b hp => ?_, u.up u2, u2.lst hrn (box_ne u.box hrn), u2.lst hrt (box_ne u.box (lstAt_two hrt))⟩
        rcases List.mem_append.mp hp with q | q
        · exact hf _ q
        · simp at q; rw [q.1, q.2]; exact fok
    · obtain ⟨fs, rfl, hl, hf, u, hrn, hrt⟩ := q
      simp at hl
      have hfl : fs.length = ns.length := by rw [← hl]; simp
      simp [b__law_parts_7, show 3 ≤ sizeLine by omega]
      exact hq ⟨ws, fs, sz⟩ h1 ⟨hw2, hw3, hws, by show 1 ≤ fs.length; omega, by show fs.length ≤ 3; omega, by show NmL (fs.map Prod.fst); rw [hl]; exact hns, fun p hp => by show FdOk ws (fs.map Prod.fst) p.1 p.2; rw [hl]; exact hf p hp, hz1, hz3⟩ u
  simp [b__law_parts]
  refine D hb (by omega) (by omega) fun d h1 d0 d1 u1 => ?_
  simp [b__law_parts_1]
  refine D u1.box (by omega) (by omega) fun d2 h2 d20 d21 u2 => ?_
  simp
  refine N u2.box (by omega) (by omega) fun rw_ ws h3 hrw hwl hws u3 hge => ?_
  simp [hrw, b__law_parts_2]
  refine D u3.box (by omega) (by omega) fun d3 h4 d30 d31 u4 => ?_
  simp
  refine N u4.box (by omega) (by omega) fun rn ns h5 hrn hnl hns u5 hge2 => ?_
  simp [b__law_parts_3]
  refine N (m := 2) u5.box (by omega) (by omega) fun rt nt h6 hrt htl hnt u6 hge3 => ?_
  have hrn6 := u6.lst hrn (box_ne u5.box hrn)
  have up6 := ((((u1.up u2).up u3).up u4).up u5).up u6
  have hnt2 : ∃ a b, nt = [a, b] := by
    match nt, htl with
    | [a, b], _ => exact ⟨a, b, rfl⟩
  obtain ⟨a, b, rfl⟩ := hnt2
  have hw0 : ∃ w0 wr, ws = w0 :: wr := by
    match ws, hwl with
    | [], hwl => simp at hwl; omega
    | w0 :: wr, _ => exact ⟨w0, wr, rfl⟩
  have hn0 : ∃ n0 nr, ns = n0 :: nr := by
    match ns, hnl with
    | [], hnl => simp at hnl; omega
    | w0 :: wr, _ => exact ⟨w0, wr, rfl⟩
  obtain ⟨w0, wr, rfl⟩ := hw0
  obtain ⟨n0, nr, rfl⟩ := hn0
  simp [b__law_parts_4]
  refine D u6.box (by omega) (by omega) fun d4 h7 d40 d41 u7 => ?_
  have hrn7 := u7.lst hrn6 (box_ne u6.box hrn6)
  have hrt7 := u7.lst hrt (box_ne u6.box hrt)
  have up7 := up6.up u7
  simp at hwl hnl
  have ha : Nm a := hnt.nm a (by simp)
  have hb' : Nm b := hnt.nm b (by simp)
  have l1 := u1.le; have l2 := u2.le; have l3 := u3.le; have l4 := u4.le; have l5 := u5.le; have l6 := u6.le
  have hne : rn ≠ rt := by have := lstAt_lt hrn; omega
  simp [b__law_parts_5, oNotIn_ref hrn7, hrn7]
  refine ⟨fun hd => ⟨fun h1' h2' => ?_, ?_⟩, fun hd => ?_⟩
  · have hlt := lstAt_lt hrn7
    exact rest (w0 :: wr) (w0 :: nr) a b _ rn rt _ _ _ hws (by simp; omega) (by simp; omega) ⟨List.nodup_cons.mpr ⟨h2', (List.nodup_cons.mp hns.nd).2⟩, fun s hs => by
      rcases List.mem_cons.mp hs with q | q
      · rw [q]; exact hws.nm _ (by simp)
      · exact hns.nm s (by simp [q])⟩ (by simp) (by simp; omega) ha hb' (by omega) (by omega) (by rw [lstAt_set_self hlt]; simp) (by rw [lstAt_set_ne hne]; exact hrt7) (up7.set _ hb (Nat.le_refl _) (by omega))
  · intro _
    exact rest (w0 :: wr) (n0 :: nr) a b _ rn rt _ _ _ hws (by simp; omega) (by simp; omega) hns (by simp) (by simp; omega) ha hb' (by omega) (by omega) hrn7 hrt7 up7
  · exact rest (w0 :: wr) (n0 :: nr) a b _ rn rt _ _ _ hws (by simp; omega) (by simp; omega) hns (by simp) (by simp; omega) ha hb' (by omega) (by omega) hrn7 hrt7 up7
theorem ok_is_integer (F : FF) : IsB (defRun 1 (b_is_integer F)) 0 integerB := by
  intro v h j
  apply eq_of_wp
  simp [b_is_integer, j_int j.jd, j_bl j.jd]
  cases v <;> simp [isInt, isBl, integerB]
theorem ok_is_name (F : FF) : IsB (defRun 2 (b_is_name F)) 0 nameB := by
  intro v h j
  have hsz := sz
  apply eq_of_wp
  cases hv : isStr v with
  | false => simp [b_is_name, b_is_name_1, b_is_name_2, j_str j.jd, hv, nameB_not]
  | true =>
    obtain ⟨s, rfl⟩ := of_isStr hv
    have hl : s.length ≤ 1000 := j.jd
    simp [b_is_name, b_is_name_1, b_is_name_2, show s.length ≤ sizeLine by omega]
    refine ⟨fun h1 => ⟨fun h8 => ?_, fun h8 => ?_⟩, fun h1 => ?_⟩
    · simp [nameB, nmB, show ¬ s.length ≤ 8 by omega]
    · refine lcm_all (p := fun t => match t with | .str s => ltB s | _ => false) (szle (by rw [List.length_map, ← str_len]; omega)) rfl (fun x hx => ?_) ?_
      · obtain ⟨c, hc, rfl⟩ := List.mem_map.mp hx
        refine ⟨_, rfl, ?_⟩
        simp only [e_s2, e_sVar, e_sC, Res.bind_ok, List.set_cons_succ, List.set_cons_zero, List.getElem?_cons_succ, List.getElem?_cons_zero, oIn_ch]
        simp [ltB, LETS]
      · simp [nameB, nmB, show 1 ≤ s.length by omega, show s.length ≤ 8 by omega]
        rw [show s.cps.all _ = s.cps.toList.all _ from (Array.all_toList).symm]
        simp only [ltB, List.all_cons, List.all_nil, Bool.and_true]
    · simp [nameB, nmB, show ¬ 1 ≤ s.length by omega]
theorem ok_is_one_of (F : FF) : OneE (defRun 2 (b_is_one_of F)) := by
  refine ⟨fun {v ss h} j => ?_, fun {v r ss h} j e => ?_⟩
  · apply eq_of_wp
    cases hv : isStr v with
    | false =>
      simp [b_is_one_of, j_str j, hv]
      cases v <;> first | rfl | cases hv
    | true =>
      obtain ⟨s, rfl⟩ := of_isStr hv
      simp [b_is_one_of, oneB]
  · apply eq_of_wp
    cases hv : isStr v with
    | false =>
      simp [b_is_one_of, j_str j, hv]
      cases v <;> first | rfl | cases hv
    | true =>
      obtain ⟨s, rfl⟩ := of_isStr hv
      simp [b_is_one_of, oneB, oIn_ref e]
theorem ok_is_row {F : FF} (N : IsB F.is_name 0 nameB) : RowE (defRun 3 (b_is_row F)) := by
  intro v n h j
  have hsz := sz
  apply eq_of_wp
  cases hv : isTup v with
  | false =>
    simp [b_is_row, b_is_row_1, j_tup j.jd, hv]
    cases v <;> first | rfl | cases hv
  | true =>
    obtain ⟨ts, rfl⟩ := of_isTup hv
    have hl : ts.length ≤ 1000 := j.jd
    simp [b_is_row, b_is_row_1, b_is_row_2]
    refine ⟨fun e => ?_, fun e => by simp [rowB, e]⟩
    refine lcm_all (p := entB) (szle (by omega)) rfl (fun x hx => ?_) ?_
    · refine ⟨_, rfl, ?_⟩
      have jx := j.tup hx
      cases hx : isNonT x <;> simp [hx, N jx, entB]
    · simp [rowB, e]
theorem ok_is_near {F : FF} (R : RowE F.is_row) : NearE (defRun 4 (b_is_near F)) := by
  intro v lo n h j
  have hsz := sz
  have j1 : JdN 1 v h := ⟨j.1, fun ts e t ht => (j.2 ts e t ht).jd⟩
  apply eq_of_wp
  cases hlo : isNonT lo with
  | true => simp [b_is_near, b_is_near_1, hlo, R j1, nearB]
  | false =>
    cases hv : isTup v with
    | false =>
      simp [b_is_near, b_is_near_2, b_is_near_3, j_tup j.jd, hv, hlo]
      cases v <;> first | (simp [nearB, hlo]; done) | exact absurd hv (by simp [isTup])
    | true =>
      obtain ⟨ts, rfl⟩ := of_isTup hv
      have hl : ts.length ≤ 1000 := j.jd
      simp [b_is_near, b_is_near_2, b_is_near_3, b_is_near_4, hlo]
      refine ⟨fun e => ?_, fun e => by simp [nearB, e, hlo]⟩
      refine lcm_all (p := fun t => rowB t n) (szle (by omega)) rfl (fun x hx => ?_) ?_
      · refine ⟨_, rfl, ?_⟩
        simp [R (j.tup hx)]
      · simp [nearB, e, hlo]
theorem ok_are_names {F : FF} (N : IsB F.is_name 0 nameB) : NamesE (defRun 4 (b_are_names F)) := by
  intro v a b h j hb
  have hsz := sz
  apply eq_of_wp
  cases hv : isTup v with
  | false =>
    simp [b_are_names, b_are_names_1, j_tup j.jd, hv]
    cases v <;> first | rfl | cases hv
  | true =>
    obtain ⟨ts, rfl⟩ := of_isTup hv
    have hl : ts.length ≤ 1000 := j.jd
    simp [b_are_names, b_are_names_1, b_are_names_2]
    refine ⟨fun h1 => ⟨fun h2 => ?_, fun h2 => ?_⟩, fun h1 => ?_⟩
    · simp [namesB, show ¬ ((ts.length : Int) ≤ b) by omega]
    · refine lcm_all (p := nameB) (szle (by omega)) rfl (fun x hx => ⟨_, rfl, by simp [N (j.tup hx)]⟩) ?_
      cases ha : ts.all nameB with
      | false => simp [namesB, ha]
      | true =>
        have e := names_strs ha
        obtain ⟨n, e1, e2⟩ := lenSet_strs (ss := ts.map strOf) (h := h) (by simp; omega)
        rw [← e] at e1
        simp [oLenSet, e1]
        simp [namesB, ha, h1, h2]
        rw [List.length_map] at e2
        simpa using e2
    · simp [namesB, show ¬ (a ≤ (ts.length : Int)) by omega]
theorem ok_is_pair {F : FF} (N : IsB F.is_name 0 nameB) : IsB (defRun 1 (b_is_pair F)) 1 pairB := by
  intro v h j
  apply eq_of_wp
  cases hv : isTup v with
  | false =>
    simp [b_is_pair, b_is_pair_1, j_tup j.jd, hv]
    cases v <;> first | rfl | cases hv
  | true =>
    obtain ⟨ts, rfl⟩ := of_isTup hv
    simp [b_is_pair, b_is_pair_1, b_is_pair_2]
    match ts, j with
    | [], _ => simp [pairB]
    | [a], _ => simp [pairB]
    | [a, b], j =>
      have ja := j.tup (t := a) (by simp)
      have jb := j.tup (t := b) (by simp)
      simp [N ja, j_tup jb.jd]
      cases hb : isTup b with
      | false => cases b <;> first | (simp [pairB]; done) | exact absurd hb (by simp [isTup])
      | true =>
        obtain ⟨us, rfl⟩ := of_isTup hb
        simp [pairB]
        cases nameB a <;> simp
        omega
    | a :: b :: c :: r, _ => simp [pairB, show ¬ ((r.length : Int) + 1 + 1 + 1 = 2) by omega]
theorem ok_are_fields {F : FF} (P : IsB F.is_pair 1 pairB) : FieldsE (defRun 2 (b_are_fields F)) := by
  intro v h j
  have hsz := sz
  apply eq_of_wp
  cases hv : isTup v with
  | false =>
    simp [b_are_fields, b_are_fields_1, j_tup j.jd, hv]
    cases v <;> first | rfl | cases hv
  | true =>
    obtain ⟨ts, rfl⟩ := of_isTup hv
    have hl : ts.length ≤ 1000 := j.jd
    simp [b_are_fields, b_are_fields_1, b_are_fields_2]
    refine ⟨fun h1 => ⟨fun h2 => ?_, fun h2 => ?_⟩, fun h1 => ?_⟩
    · simp [fieldsB, show ¬ (ts.length ≤ 3) by omega]
    · refine lcm_all (p := pairB) (szle (by omega)) rfl (fun x hx => ⟨_, rfl, by simp [P (j.tup hx)]⟩) ?_
      cases ha : ts.all pairB with
      | false => simp [fieldsB, ha, b_are_fields_3]
      | true =>
        simp [b_are_fields_4]
        have ep : ∀ x ∈ ts, ∃ s b, x = .tup [.str s, b] := fun x hx => by
          have := List.all_eq_true.mp ha x hx
          unfold pairB at this
          split at this
          · rename_i a b
            cases a with
            | str s => exact ⟨s, _, rfl⟩
            | _ => simp [nameB] at this
          · cases this
        refine wp_lcm fstOf (szle (by omega)) rfl (fun x hx => ?_) ?_
        · obtain ⟨s, b, rfl⟩ := ep x hx
          exact ⟨_, rfl, by simp [fstOf]⟩
        · have e : ts.map fstOf = tSs (ts.map fun t => strOf (fstOf t)) := by
            show _ = List.map T.str _
            rw [List.map_map]
            apply List.map_congr_left
            intro x hx
            obtain ⟨s, b, rfl⟩ := ep x hx
            rfl
          obtain ⟨n, e1, e2⟩ := lenSet_strs (ss := ts.map fun t => strOf (fstOf t)) (h := h) (by simp; omega)
          rw [e]
          show (bLenSet _ h).wp _ _
          rw [e1]
          simp [fieldsB, ha, show 1 ≤ ts.length by omega, show ts.length ≤ 3 by omega]
          rw [List.length_map] at e2
          simpa using e2
    · simp [fieldsB, show ¬ (1 ≤ ts.length) by omega]
theorem ok_check_fieldE {F : FF} (O : OneE F.is_one_of) (Ne : NearE F.is_near) (R : RowE F.is_row) : CheckE (defRun 8 (b_check_field F)) := by
  intro nm a b c d ws ns r h j hw hr
  have hsz := sz
  have ja := (j.tup (t := a) (by simp)).jd
  have jb := (j.tup (t := b) (by simp)).jd
  have jc := j.tup (t := c) (by simp)
  have jd := (j.tup (t := d) (by simp)).down
  have e1 := O.1 (ss := ws) ja
  have e2 := O.2 jb hr
  have e3 := Ne (looks := b) (n := ws.length) jc
  have e4 := R (n := ws.length) jd
  unfold fieldErr
  by_cases h1 : oneB a ws = false
  · rw [if_pos h1]
    refine exc_of_wp ?_
    simp [b_check_field, b_check_field_1, b_check_field_2, e1, h1, xForm]
  rw [if_neg h1]
  have h1' : oneB a ws = true := by simpa using h1
  by_cases h2 : isNonT b = false ∧ (oneB b ns = false ∨ eqS b nm = true)
  · rw [if_pos h2]
    refine exc_of_wp ?_
    obtain ⟨hb, h2⟩ := h2
    by_cases h3 : oneB b ns = true
    · obtain ⟨g, rfl, hg⟩ := oneB_str h3
      have h4 : g = nm := by rcases h2 with z | z; rw [h3] at z; cases z; simpa [eqS] using z
      subst h4
      simp [b_check_field, b_check_field_1, b_check_field_3, b_check_field_4, e1, h1', e2, h3, xForm, hb]
    · have h3' : oneB b ns = false := by simpa using h3
      simp [b_check_field, b_check_field_1, b_check_field_3, b_check_field_4, e1, h1', e2, h3', xForm, hb]
  rw [if_neg h2]
  have go : ∀ {Q : FQ} {σ : St3}, σ = [some (.str nm), some (.tup [a, b, c, d]), some (.tup (tSs ws)), some (.ref r), some a, some b, some c, some d] → (b_check_field_5 F σ h).wp Q → (b_check_field_3 F σ h).wp Q := by
    intro Q σ e w
    subst e
    cases hb : isNonT b with
    | true => simp [b_check_field_3, hb]; exact w
    | false =>
      have h3 : oneB b ns = true := by
        by_cases z : oneB b ns = true
        · exact z
        · exact absurd ⟨hb, .inl (by simpa using z)⟩ h2
      obtain ⟨g, rfl, hg⟩ := oneB_str h3
      have h4 : ¬ g = nm := fun z => h2 ⟨hb, .inr (by simp [eqS, z])⟩
      simp [b_check_field_3, hb, e2, h3, h4]
      exact w
  by_cases h5 : nearB c b ws.length = false
  · rw [if_pos h5]
    refine exc_of_wp ?_
    simp [b_check_field, b_check_field_1, e1, h1']
    refine go rfl ?_
    simp [b_check_field_5, b_check_field_6, e3, h5, xForm]
  rw [if_neg h5]
  have h5' : nearB c b ws.length = true := by simpa using h5
  by_cases h6 : isNonT d = false ∧ rowB d ws.length = false
  · rw [if_pos h6]
    refine exc_of_wp ?_
    simp [b_check_field, b_check_field_1, e1, h1']
    refine go rfl ?_
    simp [b_check_field_5, b_check_field_7, b_check_field_8, e3, h5', e4, h6.1, h6.2, xForm]
  rw [if_neg h6]
  refine eq_of_wp ?_
  simp [b_check_field, b_check_field_1, e1, h1']
  refine go rfl ?_
  cases hd : isNonT d with
  | true => simp [b_check_field_5, b_check_field_7, e3, h5', hd]
  | false =>
    have : rowB d ws.length = true := by
      by_cases z : rowB d ws.length = true
      · exact z
      · exact absurd ⟨hd, by simpa using z⟩ h6
    simp [b_check_field_5, b_check_field_7, e3, h5', hd, e4, this]
theorem cs_form : CS.lookup ("Form" : Str) = some (["words", "fields", "room"] : List Str) := by decide +kernel
theorem f_words {h : Hh} {l : Nat} {fm : Fm} (e : FormAt h l fm) : oFldC CS "words" (.ref l) h = .ok fm.tW h := fld_of e.ins cs_form (by decide +kernel) rfl
theorem f_fields {h : Hh} {l : Nat} {fm : Fm} (e : FormAt h l fm) : oFldC CS "fields" (.ref l) h = .ok fm.tF h := fld_of e.ins cs_form (by decide +kernel) rfl
theorem f_room {h : Hh} {l : Nat} {fm : Fm} (e : FormAt h l fm) : oFldC CS "room" (.ref l) h = .ok (.int fm.room) h := fld_of e.ins cs_form (by decide +kernel) rfl
theorem ok_Form_initE {F : FF} (Na : NamesE F.are_names) (Fi : FieldsE F.are_fields) (C : CheckE F.check_field) (I : IsB F.is_integer 0 integerB) : InitE (defRun 8 (b_Form_init F)) := by
  intro W V R l h Q E jw jv jr hl hq he
  have hsz := sz
  have hlt : l < h.length := (List.getElem?_eq_some_iff.mp hl).1
  have ew := Na (a := 2) (b := 3) jw (by omega)
  have ef := Fi (h := h) (v := V) (jv.to (n := 2) (k := 3))
  unfold initErr at hq he
  by_cases h1 : namesB W 2 3 = false
  · simp only [h1, if_true] at hq he
    have := he _ _ rfl []
    rw [List.append_nil] at this
    simp [b_Form_init, b_Form_init_1, ew, h1]
    exact this
  have h1' : namesB W 2 3 = true := by simpa using h1
  rw [if_neg h1] at hq he
  by_cases h2 : fieldsB V = false
  · simp only [h2, if_true] at hq he
    have := he _ _ rfl []
    rw [List.append_nil] at this
    simp [b_Form_init, b_Form_init_2, b_Form_init_3, ew, h1', ef, h2]
    exact this
  have h2' : fieldsB V = true := by simpa using h2
  rw [if_neg h2] at hq he
  obtain ⟨ws, rfl, wn, w2, w3⟩ := namesB_mem h1'
  obtain ⟨ts, rfl, t3, hts⟩ := fieldsB_mem h2'
  simp only [itsOf, strOf_tSs] at hq he
  simp [b_Form_init, b_Form_init_2, b_Form_init_4, ew, h1', ef, h2']
  have en : ts.map fstOf = tSs (ts.map fun t => strOf (fstOf t)) := by
    show _ = List.map T.str _
    rw [List.map_map]
    apply List.map_congr_left
    intro x hx
    obtain ⟨s, a, b, c, d, rfl, _⟩ := hts x hx
    rfl
  refine wp_lcm (ts := ts) fstOf (szle (by omega)) rfl (fun x hx => ?_) ?_
  · obtain ⟨s, a, b, c, d, rfl, _⟩ := hts x hx
    exact ⟨_, rfl, by simp [fstOf]⟩
  rw [en]
  generalize hns : (ts.map fun t => strOf (fstOf t)) = ns at hq he
  simp [b_Form_init_5]
  have rest : ∀ σ : St3, σ[0]? = some (some (.ref l)) → σ[1]? = some (some (.tup (tSs ws))) → σ[2]? = some (some (.tup ts)) → σ[3]? = some (some R) → fErr ws ns ts = none → (b_Form_init_7 F σ (h ++ [.lst (tSs ns)])).wp (FQ.df Q E) := by
    intro σ h0 h1 h2 h3 hf
    rw [hf] at hq he
    have jr' : JdN 0 R (h ++ [.lst (tSs ns)]) := JdN.ext (ext_app _ _) jr
    have bad : roomB R = false → E "InvalidForm" (xForm "room" (.str "")) (h ++ [.lst (tSs ns)]) := fun z => he "room" "" (by simp [z]) _
    have good : roomB R = true → ∀ i, R = .int i → (b_Form_init_9 F σ (h ++ [.lst (tSs ns)])).wp (FQ.df Q E) := fun z i hi => by
      subst hi
      have e0 : insAt (h ++ [.lst (tSs ns)]) l = some (("Form" : Str), []) := insAt_of (by rw [List.getElem?_append_left hlt]; exact hl)
      simp [b_Form_init_9, h0, h1]
      rw [sfld_of (f := "words") e0 cs_form (by decide +kernel) (by simp)]
      simp [b_Form_init_10, h0, h2]
      have hlt1 : l < (h ++ [Ob.lst (tSs ns)]).length := by simp; omega
      rw [sfld_of (f := "fields") (insAt_of (List.getElem?_set_self hlt1)) cs_form (by decide +kernel) (by simp [putT])]
      simp [b_Form_init_11, h0, h3]
      rw [sfld_of (f := "room") (insAt_of (List.getElem?_set_self hlt1)) cs_form (by decide +kernel) (by simp [putT]; split <;> simp)]
      simp
      refine hq (by simp [z]) _ (List.getElem?_set_self hlt1) (by simp) fun k hk hne => ?_
      rw [List.getElem?_set_ne (Ne.symm hne), List.getElem?_append_left hk]
    cases hi : integerB R with
    | false =>
      have : roomB R = false := by cases R <;> first | rfl | (simp [integerB] at hi)
      simp [b_Form_init_7, h3, I jr', hi, b_Form_init_8]
      exact bad this
    | true =>
      cases R with
      | int i =>
        simp [b_Form_init_7, h3, I jr', hi]
        refine ⟨fun q1 => ⟨fun q2 => ?_, fun q2 => ?_⟩, fun q1 => ?_⟩
        all_goals first
          | (simp [b_Form_init_8]; exact bad (by simp [roomB]; omega))
          | exact good (by simp [roomB]; omega) i rfl
      | _ => simp [integerB] at hi
  have jv' : JdN 5 (.tup ts) (h ++ [.lst (tSs ns)]) := JdN.ext (ext_app _ _) jv
  refine wp_for (ts := ts) (fun i σ h1 => (∃ a5 a6 a7, σ = [some (.ref l), some (.tup (tSs ws)), some (.tup ts), some R, some (.ref h.length), a5, a6, a7]) ∧ h1 = h ++ [.lst (tSs ns)] ∧ fErr ws ns ts = fErr ws ns (ts.drop i))
    (fun i σ h1 q => rfl) ⟨⟨_, _, _, rfl⟩, rfl, rfl⟩ (fun i x σ h1 ex q => ?_) (fun σ h1 q => ?_)
  · obtain ⟨⟨a5, a6, a7, rfl⟩, rfl, hf⟩ := q
    have hx := List.mem_of_getElem? ex
    obtain ⟨s, a, b, c, d, rfl, ns'⟩ := hts x hx
    refine ⟨_, by simp; rfl, ?_⟩
    have hi : i < ts.length := (List.getElem?_eq_some_iff.mp ex).1
    have jx : JdN 3 (.tup [a, b, c, d]) (h ++ [.lst (tSs ns)]) := (jv'.tup hx).tup (by simp)
    have hc := C (nm := s) (ws := ws) (ns := ns) (r := h.length) jx (by omega) (by simp)
    have ed : ts.drop i = .tup [.str s, .tup [a, b, c, d]] :: ts.drop (i + 1) := by
      rw [List.drop_eq_getElem_cons hi]
      rw [show ts[i] = _ from (List.getElem?_eq_some_iff.mp ex).2]
    rw [ed] at hf
    rw [fErr_cons] at hf
    cases hz : fieldErr ws ns s a b c d with
    | none =>
      rw [hz] at hf hc
      simp [b_Form_init_6, hc]
      exact hf
    | some p =>
      rw [hz] at hf hc
      simp [b_Form_init_6, hc]
      exact he p s (by rw [hf]) _
  · obtain ⟨⟨a5, a6, a7, rfl⟩, rfl, hf⟩ := q
    rw [List.drop_length] at hf
    exact rest _ rfl rfl rfl rfl hf
end LW
end

section
namespace LW
open PySem W3
theorem ok_is_name_pair {F : FF} (N : IsB F.is_name 0 nameB) : IsB (defRun 1 (b_is_name_pair F)) 1 namePairB := by
  intro v h j
  apply eq_of_wp
  cases hv : isTup v with
  | false =>
    simp [b_is_name_pair, b_is_name_pair_1, j_tup j.jd, hv]
    cases v <;> first | rfl | cases hv
  | true =>
    obtain ⟨ts, rfl⟩ := of_isTup hv
    match ts, j with
    | [], _ => simp [b_is_name_pair, b_is_name_pair_1, namePairB]
    | [a], _ => simp [b_is_name_pair, b_is_name_pair_1, namePairB]
    | a :: b :: c :: r, _ => simp [b_is_name_pair, b_is_name_pair_1, namePairB, show ¬ ((r.length : Int) + 1 + 1 + 1 = 2) by omega]
    | [a, b], j =>
      have ja := j.tup (t := a) (by simp)
      have jb := j.tup (t := b) (by simp)
      have bad : (nameB a = false ∨ nameB b = false) → namePairB (.tup [a, b]) = false := fun z => by
        cases a with
        | str x =>
          cases b with
          | str y => rcases z with z | z <;> simp [nameB] at z <;> simp [namePairB, z]
          | _ => rfl
        | _ => rfl
      cases ha : nameB a with
      | false => simp [b_is_name_pair, b_is_name_pair_2, N ja, ha, bad]
      | true =>
        cases hb : nameB b with
        | false => simp [b_is_name_pair, b_is_name_pair_2, N ja, N jb, ha, hb, bad]
        | true =>
          cases a with
          | str x =>
            cases b with
            | str y =>
              simp [nameB] at ha hb
              simp [b_is_name_pair, b_is_name_pair_2, N ja, N jb, nameB, ha, hb, namePairB]
            | _ => simp [nameB] at hb
          | _ => simp [nameB] at ha
theorem ok_are_pairs {F : FF} (N : IsB F.is_name_pair 1 namePairB) : PairsE (defRun 2 (b_are_pairs F)) := by
  intro v h j sh
  have hsz := sz
  apply eq_of_wp
  cases hv : isTup v with
  | false =>
    simp [b_are_pairs, b_are_pairs_1, j_tup j.jd, hv]
    cases v <;> first | rfl | cases hv
  | true =>
    obtain ⟨ts, rfl⟩ := of_isTup hv
    have hl := sh ts rfl
    simp [b_are_pairs, b_are_pairs_1]
    refine lcm_all (p := namePairB) (szle (by omega)) rfl (fun x hx => ⟨_, rfl, by simp [N (j.tup hx)]⟩) ?_
    cases ha : ts.all namePairB with
    | false => simp [pairsB, ha]
    | true =>
      have e := pairs_prs ha
      obtain ⟨n, e1, e2⟩ := lenSet_prs (ps := ts.map prOf) (h := h) (by simpa using hl)
      rw [← e] at e1
      simp [b_are_pairs_2, e1]
      simp [pairsB, ha]
      rw [List.length_map] at e2
      simpa using e2
theorem six_menu {p : Str} (hp : p ∈ PARTSL) : (p = "wipes" ∧ ¬ p = "around") ∨ (¬ p = "wipes" ∧ ∃ ss, MEN.lookup p = some ss) := by
  simp only [PARTSL, List.mem_cons, List.not_mem_nil, or_false] at hp
  have key : ∀ {a b : Str}, p = a → a ≠ b → ¬ p = b := fun e n q => n (e.symm.trans q)
  rcases hp with h | h | h | h | h | h
  · exact .inr ⟨key h (by decide +kernel), ["enter", "leave", "send"], by rw [h]; decide +kernel⟩
  · exact .inr ⟨key h (by decide +kernel), ["enter", "leave"], by rw [h]; decide +kernel⟩
  · exact .inr ⟨key h (by decide +kernel), ["own", "looks"], by rw [h]; decide +kernel⟩
  · exact .inl ⟨h, key h (by decide +kernel)⟩
  · exact .inr ⟨key h (by decide +kernel), ["any", "same", "last"], by rw [h]; decide +kernel⟩
  · exact .inr ⟨key h (by decide +kernel), ["bar", "wait", "go"], by rw [h]; decide +kernel⟩
theorem ok_fits_part {F : FF} (A : PairsE F.are_pairs) : FitsE (defRun 2 (b_fits_part F)) := by
  intro p v h hp j sh
  apply eq_of_wp
  have ap := A j sh
  rcases six_menu hp with ⟨h1, h2⟩ | ⟨h1, ss, hm⟩
  · simp [b_fits_part, b_fits_part_1, fitsB, eq_true h1, j_bl j.jd]
  · have me := menu_at p h
    rw [hm] at me
    have rest : (b_fits_part_4 F [some (.str p), some v] h).wp (FQ.df (fun a h' => a = .bl (oneB v ss) ∧ h' = h) noE) := by
      cases hs : isStr v with
      | false =>
        simp [b_fits_part_4, j_str j.jd, hs]
        cases v <;> first | rfl | cases hs
      | true =>
        obtain ⟨s, rfl⟩ := of_isStr hs
        simp [b_fits_part_4]
        rw [me]
        simp [oneB]
    by_cases h2 : p = "around"
    · cases hb : pairsB v with
      | true => simp [b_fits_part, b_fits_part_2, b_fits_part_3, eq_false h1, eq_true h2, ap, hb, fitsB]
      | false =>
        simp [b_fits_part, b_fits_part_2, b_fits_part_3, eq_false h1, eq_true h2, ap, hb, fitsB, hm]
        exact rest
    · simp [b_fits_part, b_fits_part_2, eq_false h1, eq_false h2, fitsB, hm]
      exact rest
theorem cs_rule : CS.lookup ("Rule" : Str) = some (["opens", "checks", "around", "wipes", "taken", "sending"] : List Str) := by decide +kernel
theorem ok_Rule_init {F : FF} (Fi : FitsE F.fits_part) : RuleE (defRun 10 (b_Rule_init F)) := by
  intro o c a w t s h Q E hv hq he
  have hsz := sz
  have jd2 : ∀ v ∈ [o, c, a, w, t, s], JdN 2 v (h ++ [.ins "Rule" []]) ∧ shortT v := fun v z => ⟨JdN.ext (ext_app _ _) (hv v z).1, (hv v z).2⟩
  have zp : ∀ h', zipOf [T.tup [T.str "opens", T.str "checks", T.str "around", T.str "wipes", T.str "taken", T.str "sending"], T.tup [o, c, a, w, t, s]] h' = .ok (.its (zipL (tSs PARTSL) [o, c, a, w, t, s])) h' := fun _ => rfl
  simp [b_Rule_init, b_Rule_init_1, zp]
  have zg : ∀ (i : Nat) x, (zipL (tSs PARTSL) [o, c, a, w, t, s])[i]? = some x → ∃ p v, x = .tup [.str p, v] ∧ PARTSL[i]? = some p ∧ [o, c, a, w, t, s][i]? = some v := by
    intro i x e
    rw [zipL_get, List.getElem?_map] at e
    cases h1 : PARTSL[i]? with
    | none => rw [h1] at e; cases e
    | some p =>
      cases h2 : [o, c, a, w, t, s][i]? with
      | none => rw [h1, h2] at e; cases e
      | some v => rw [h1, h2] at e; cases e; exact ⟨p, v, rfl, rfl, rfl⟩
  have zl : (zipL (tSs PARTSL) [o, c, a, w, t, s]).length = 6 := rfl
  generalize zipL (tSs PARTSL) [o, c, a, w, t, s] = zs at zg zl
  have pl : PARTSL.length = 6 := rfl
  have vl : [o, c, a, w, t, s].length = 6 := rfl
  generalize hvs : [o, c, a, w, t, s] = vs at zg jd2 hq he vl
  refine wp_for (ts := zs) (fun i σ h1 => (∃ a8 a9, σ = [some (.ref h.length), some o, some c, some a, some w, some t, some s, some (.tup vs), a8, a9]) ∧ h1 = h ++ [.ins "Rule" []] ∧ ruleErr PARTSL vs = ruleErr (PARTSL.drop i) (vs.drop i))
    (fun i σ h1 q => rfl) ⟨⟨_, _, by rw [← hvs]⟩, rfl, rfl⟩ (fun i x σ h1 ex q => ?_) (fun σ h1 q => ?_)
  · obtain ⟨⟨a8, a9, rfl⟩, rfl, hr⟩ := q
    obtain ⟨p, v, rfl, ep, ev⟩ := zg i x ex
    refine ⟨_, rfl, ?_⟩
    obtain ⟨jv, sv⟩ := jd2 v (List.mem_of_getElem? ev)
    have fi := Fi (List.mem_of_getElem? ep) jv sv
    have d1 : PARTSL.drop i = p :: PARTSL.drop (i + 1) := by
      have hi := (List.getElem?_eq_some_iff.mp ep).1
      rw [List.drop_eq_getElem_cons hi, (List.getElem?_eq_some_iff.mp ep).2]
    have d2 : vs.drop i = v :: vs.drop (i + 1) := by
      have hi := (List.getElem?_eq_some_iff.mp ev).1
      rw [List.drop_eq_getElem_cons hi, (List.getElem?_eq_some_iff.mp ev).2]
    rw [d1, d2, show ∀ ps us, ruleErr (p :: ps) (v :: us) = if fitsB p v = false then some p else ruleErr ps us from fun _ _ => rfl] at hr
    cases hf : fitsB p v with
    | true =>
      rw [hf] at hr
      simp at hr
      simp [b_Rule_init_2, fi, hf]
      exact hr
    | false =>
      rw [hf] at hr
      simp at hr
      simp [b_Rule_init_2, b_Rule_init_3, fi, hf]
      exact he p hr [.ins "Rule" []]
  · obtain ⟨⟨a8, a9, rfl⟩, rfl, hr⟩ := q
    rw [zl, show PARTSL.drop 6 = [] from rfl] at hr
    have hn : ruleErr PARTSL vs = none := by rw [hr]; rfl
    have fin := hq hn
    -- the fields are stored
    have st6 : ∀ (b : T) (z : Hh), b = sortAro a → (b_Rule_init_6 F [some (.ref h.length), some o, some c, some b, some w, some t, some s, some (.tup vs), a8, a9] (h ++ .ins "Rule" [] :: z)).wp (FQ.df Q E) := by
      intro b z eb
      subst eb
      have e0 : ∀ fs, insAt (h ++ .ins "Rule" fs :: z) h.length = some (("Rule" : Str), fs) := fun fs => insAt_of (by simp)
      have s0 : ∀ fs fs', (h ++ .ins "Rule" fs :: z).set h.length (.ins "Rule" fs') = h ++ .ins "Rule" fs' :: z := fun fs fs' => by simp
      have st : ∀ (σ : St3) (f : Str) (y : T) fs, (["opens", "checks", "around", "wipes", "taken", "sending"] : List Str).contains f = true → fs.length < 1000 → fSet CS (.ref h.length) f y σ (h ++ .ins "Rule" fs :: z) = .nx σ (h ++ .ins "Rule" (putT f y fs) :: z) := fun σ f y fs q1 q2 => by
        rw [sfld_of (e0 fs) cs_rule q1 q2, s0]
      have key : putT "sending" s (putT "taken" t (putT "wipes" w (putT "around" (sortAro a) (putT "checks" c (putT "opens" o []))))) = ruleIns o c a w t s := by
        unfold ruleIns
        simp only [putT, if_neg (show ¬ (Str.ofString "opens" = Str.ofString "checks") by decide +kernel), if_neg (show ¬ (Str.ofString "opens" = Str.ofString "around") by decide +kernel), if_neg (show ¬ (Str.ofString "checks" = Str.ofString "around") by decide +kernel),
          if_neg (show ¬ (Str.ofString "opens" = Str.ofString "wipes") by decide +kernel), if_neg (show ¬ (Str.ofString "checks" = Str.ofString "wipes") by decide +kernel), if_neg (show ¬ (Str.ofString "around" = Str.ofString "wipes") by decide +kernel),
          if_neg (show ¬ (Str.ofString "opens" = Str.ofString "taken") by decide +kernel), if_neg (show ¬ (Str.ofString "checks" = Str.ofString "taken") by decide +kernel), if_neg (show ¬ (Str.ofString "around" = Str.ofString "taken") by decide +kernel), if_neg (show ¬ (Str.ofString "wipes" = Str.ofString "taken") by decide +kernel),
          if_neg (show ¬ (Str.ofString "opens" = Str.ofString "sending") by decide +kernel), if_neg (show ¬ (Str.ofString "checks" = Str.ofString "sending") by decide +kernel), if_neg (show ¬ (Str.ofString "around" = Str.ofString "sending") by decide +kernel), if_neg (show ¬ (Str.ofString "wipes" = Str.ofString "sending") by decide +kernel), if_neg (show ¬ (Str.ofString "taken" = Str.ofString "sending") by decide +kernel)]
      have pl : ∀ (f : Str) (y : T) fs n, fs.length ≤ n → (putT f y fs).length ≤ n + 1 := fun f y fs => by
        induction fs with
        | nil => intro n _; simp [putT]
        | cons a r ih =>
          intro n hn
          simp at hn
          unfold putT
          split
          · simp; omega
          · have := ih (n - 1) (by omega)
            simp; omega
      have l1 := pl "opens" o [] 0 (by simp)
      have l2 := pl "checks" c _ _ l1
      have l3 := pl "around" (sortAro a) _ _ l2
      have l4 := pl "wipes" w _ _ l3
      have l5 := pl "taken" t _ _ l4
      simp [b_Rule_init_6]
      rw [st _ "opens" o _ (by decide +kernel) (by simp)]
      simp [b_Rule_init_7]
      rw [st _ "checks" c _ (by decide +kernel) (by omega)]
      simp [b_Rule_init_8]
      rw [st _ "around" (sortAro a) _ (by decide +kernel) (by omega)]
      simp [b_Rule_init_9]
      rw [st _ "wipes" w _ (by decide +kernel) (by omega)]
      simp [b_Rule_init_10]
      rw [st _ "taken" t _ (by decide +kernel) (by omega)]
      simp [b_Rule_init_11]
      rw [st _ "sending" s _ (by decide +kernel) (by omega)]
      simp only [fp_nx, fd_n, key, fs_n, e_ssNil]
      exact fin _ (by simp)
    have ja := (jd2 a (by rw [← hvs]; simp)).1
    cases ht : isTup a with
    | false =>
      simp [b_Rule_init_4, j_tup ja.jd, ht]
      exact st6 a [] (by cases a <;> first | rfl | cases ht)
    | true =>
      obtain ⟨ts, rfl⟩ := of_isTup ht
      -- it fits
      have fa : pairsB (.tup ts) = true := by
        have : ∀ (ps : List Str) (us : List T), ruleErr ps us = none → ∀ (i : Nat) p v, ps[i]? = some p → us[i]? = some v → fitsB p v = true := by
          intro ps
          induction ps with
          | nil => intro us _ i p v e; simp at e
          | cons p0 ps ih =>
            intro us e i p v e1 e2
            cases us with
            | nil => simp at e2
            | cons u us =>
              unfold ruleErr at e
              split at e
              · cases e
              · rename_i hf
                cases i with
                | zero => simp at e1 e2; subst e1 e2; simpa using hf
                | succ i => exact ih us e i p v (by simpa using e1) (by simpa using e2)
        have f2 := this PARTSL vs hn 2 "around" (.tup ts) rfl (by rw [← hvs]; rfl)
        unfold fitsB at f2
        rw [if_neg (by decide +kernel)] at f2
        have ml : MEN.lookup ("around" : Str) = some (["own", "looks"] : List Str) := by decide +kernel
        rw [ml] at f2
        simpa [oneB] using f2
      obtain ⟨ps, eps, po⟩ := pairsB_inv fa
      cases eps
      have pl2 : ps.length < 64 := by
        have := (hv (.tup (ps.map tPr)) (by simp)).2 _ rfl
        simpa using this
      have so := sort_prs (ps := ps) (h := h ++ [.ins "Rule" []]) (by omega)
      simp [b_Rule_init_4, b_Rule_init_5, so]
      exact st6 _ [.lst ((sortP ps).map tPr)] (by unfold sortAro; simp only [prOf_tPr])
end LW
end

section
namespace LW
open PySem W3
theorem ok_pairs {F : FF} (D : DrawW F._law_draw) : PairsW (defRun 5 (b__law_pairs F)) := by
  intro h l rn ss Q E hb er nl l3 hq
  have hsz := sz
  have h0 := hb.lt
  have hne := box_ne hb er
  simp [b__law_pairs, b__law_pairs_1, lstAt_app _ er]
  have inv : ∀ {h1 : Hh}, Kp l h.length h h1 → lstAt h1 rn = some (tSs ss) := fun kp => kp.lst er (lstAt_lt er) hne
  refine wp_for (ts := tSs ss) (fun i σ h1 => ∃ ps a3 a4, PrsOk ps ∧ (∀ p ∈ ps, p.1 ∈ ss.take i) ∧ ps.length ≤ 3 * i ∧ lstAt h1 h.length = some (ps.map tPr) ∧ Kp l h.length h h1 ∧ σ = [some (.ref l), some (.ref rn), some (.ref h.length), a3, a4])
    (fun i σ h1 q => by obtain ⟨_, _, _, _, _, _, _, kp, _⟩ := q; exact (show Src.Is (.live rn) (tSs ss) h1 from inv kp)) ⟨[], _, _, ⟨List.nodup_nil, by simp⟩, by simp, by simp, by simp, Up.app hb _, rfl⟩ (fun i x σ h1 ex q => ?_) (fun σ h1 q => ?_)
  · obtain ⟨ps, a3, a4, po, pm, pl, el, kp, rfl⟩ := q
    rw [List.getElem?_map] at ex
    cases hx : ss[i]? with
    | none => rw [hx] at ex; cases ex
    | some u =>
      rw [hx] at ex; cases ex
      have hi := (List.getElem?_eq_some_iff.mp hx).1
      have hu := List.mem_of_getElem? hx
      refine ⟨_, rfl, ?_⟩
      simp [b__law_pairs_2, inv kp]
      refine wp_for (ts := tSs ss) (fun j σ h1 => ∃ qs a4, PrsOk qs ∧ (∀ p ∈ qs, p.1 ∈ ss.take i ∨ (p.1 = u ∧ p.2 ∈ ss.take j)) ∧ qs.length ≤ 3 * i + j ∧ lstAt h1 h.length = some (qs.map tPr) ∧ Kp l h.length h h1 ∧ σ = [some (.ref l), some (.ref rn), some (.ref h.length), some (.str u), a4])
        (fun j σ h1 q => by obtain ⟨_, _, _, _, _, _, kp, _⟩ := q; exact (show Src.Is (.live rn) (tSs ss) h1 from inv kp)) ⟨ps, _, po, fun p hp => .inl (pm p hp), by omega, el, kp, rfl⟩ (fun j y σ h1 ey q => ?_) (fun σ h1 q => ?_)
      · obtain ⟨qs, a4, qo, qm, ql, el, kp, rfl⟩ := q
        rw [List.getElem?_map] at ey
        cases hy : ss[j]? with
        | none => rw [hy] at ey; cases ey
        | some v =>
          rw [hy] at ey; cases ey
          have hj := (List.getElem?_eq_some_iff.mp hy).1
          have hv := List.mem_of_getElem? hy
          refine ⟨_, rfl, ?_⟩
          have stay : ∀ {h2 : Hh}, Kp l h.length h h2 → lstAt h2 h.length = some (qs.map tPr) → ∃ qs' a4', PrsOk qs' ∧ (∀ p ∈ qs', p.1 ∈ ss.take i ∨ (p.1 = u ∧ p.2 ∈ ss.take (j + 1))) ∧ qs'.length ≤ 3 * i + (j + 1) ∧ lstAt h2 h.length = some (qs'.map tPr) ∧ Kp l h.length h h2 ∧ ([some (.ref l), some (.ref rn), some (.ref h.length), some (.str u), some (.str v)] : St3) = [some (.ref l), some (.ref rn), some (.ref h.length), some (.str u), a4'] := fun kp el =>
            ⟨qs, _, qo, fun p hp => (qm p hp).imp id (fun ⟨a, b⟩ => ⟨a, List.mem_of_mem_take (i := j) (by rw [List.take_take]; simpa using b)⟩), by omega, el, kp, rfl⟩
          by_cases huv : u = v
          · simp [b__law_pairs_3, huv]
            have := stay kp el
            rw [huv] at this
            simpa using this
          · simp [b__law_pairs_3, huv]
            refine D kp.box (by omega) (by omega) fun d h2 d0 d1 u2 => ?_
            have kp2 := kp.up u2
            have el2 : lstAt h2 h.length = some (qs.map tPr) := u2.lst el (by omega)
            simp
            refine ⟨fun hd => ?_, fun hd => by simpa using stay kp2 el2⟩
            simp [b__law_pairs_4, el2, show qs.length < sizeLine by omega]
            have new : (u, v) ∉ qs := fun z => by
              rcases qm _ z with z | z
              · exact (nodup_takeS nl.nd hx) z
              · exact (nodup_takeS nl.nd hy) z.2
            refine ⟨qs ++ [(u, v)], ⟨List.nodup_append.mpr ⟨qo.nd, by simp, fun a ha b hb' e => ?_⟩, fun p hp => ?_⟩, fun p1 p2 hp => ?_, by simp; omega, ?_, kp2.set _ hb (Nat.le_refl _) (Nat.le_refl _)⟩
            · simp at hb'
              exact new (hb' ▸ e ▸ ha)
            · rcases List.mem_append.mp hp with z | z
              · exact qo.nm p z
              · simp at z; subst z; exact ⟨nl.nm u hu, nl.nm v hv, huv⟩
            · rcases List.mem_append.mp hp with z | z
              · exact (qm _ z).imp id (fun ⟨a, b⟩ => ⟨a, List.mem_of_mem_take (i := j) (by rw [List.take_take]; simpa using b)⟩)
              · simp at z
                obtain ⟨rfl, rfl⟩ := z
                refine .inr ⟨rfl, ?_⟩
                rw [List.take_add_one, hy]
                simp
            · rw [lstAt_set_self (lstAt_lt el2)]
              simp [tPr]
      · obtain ⟨qs, a4, qo, qm, ql, el, kp, rfl⟩ := q
        simp at ql
        simp
        refine ⟨qs, qo, fun p1 p2 hp => ?_, by omega, el, kp⟩
        rcases qm _ hp with z | z
        · exact List.mem_of_mem_take (i := i) (by rw [List.take_take]; simpa using z)
        · rw [List.take_add_one, hx]
          simp
          exact .inr z.1
  · obtain ⟨ps, a3, a4, po, pm, pl, el, kp, rfl⟩ := q
    simp at pl
    simp [b__law_pairs_5, el]
    exact hq ps _ po (by omega) kp
theorem ok_rule {F : FF} (D : DrawW F._law_draw) (Pp : PairsW F._law_pairs) (R : RuleE F.Rule_init) : RuleW (defRun 9 (b__law_rule F)) := by
  intro h l rn ss Q E hb er nl l3 hq
  have hsz := sz
  have h0 := hb.lt
  have hne := box_ne hb er
  have pick : ∀ (ws : List Str) (d : Int) (h1 : Hh), 0 ≤ d → d < ws.length → ∃ s, L2.atI (tSs ws) d = some (.str s) ∧ s ∈ ws := fun ws d h1 d0 d1 => by
    obtain ⟨s, e, hs⟩ := atI_map T.str (xs := ws) d0 d1
    exact ⟨s, e, hs⟩
  have jw : ∀ {s : Str} {ws : List Str} {h1 : Hh}, s ∈ ws → (∀ x ∈ ws, x.length ≤ 1000) → JdN 2 (.str s) h1 ∧ shortT (.str s) := fun hs q => ⟨jdN_str (q _ hs), fun ts e => by cases e⟩
  simp [b__law_rule]
  have u0 := Up.app hb [.lst [.str "enter", .str "leave", .str "send"]]
  refine D u0.box (by omega) (by omega) fun d1 h1 d10 d11 v1 => ?_
  have u1 := u0.up v1
  have e1 : lstAt h1 h.length = some (tSs ["enter", "leave", "send"]) := v1.lst (by simp) (by omega)
  obtain ⟨o, eo, ho⟩ := pick ["enter", "leave", "send"] d1 h1 d10 d11
  simp [e1, b__law_rule_1]
  simp at eo
  simp [eo]
  have l1 := u1.box.lt
  have u2' := Up.app u1.box [.lst [.str "enter", .str "leave"]]
  refine D u2'.box (by omega) (by omega) fun d2 h2 d20 d21 v2 => ?_
  have u2 := (u1.up u2').up v2
  have e2 : lstAt h2 h1.length = some (tSs ["enter", "leave"]) := v2.lst (by simp) (by omega)
  obtain ⟨c, ec, hc⟩ := pick ["enter", "leave"] d2 h2 d20 d21
  simp [e2, b__law_rule_2]
  simp at ec
  simp [ec]
  have l2 := u2.box.lt
  refine D u2.box (by omega) (by omega) fun d3 h3 d30 d31 v3 => ?_
  have u3 := u2.up v3
  have l3' := u3.box.lt
  -- from wipes on
  have tail : ∀ (a : T) (ar : Aro) (h4 : Hh) (x4 : Option T), Up l h h4 → (∀ h' : Hh, JdN 2 a h') → shortT a → fitsB "around" a = true → sortAro a = ar.t → (∀ s, ar = .word s → s ∈ (["own", "looks"] : List Str)) → (∀ ps, ar = .pairs ps → PrsOk ps ∧ ps.length < 64 ∧ sortP ps = ps) → (b__law_rule_6 F [some (.ref l), some (.ref rn), some (.str o), some (.str c), x4, some a, none, none, none] h4).wp (FQ.df Q E) := by
    intro a ar h4 x4 u4 ja sa fa ea aw ap
    simp [b__law_rule_6]
    refine D u4.box (by omega) (by omega) fun d4 h5 d40 d41 v5 => ?_
    have u5 := u4.up v5
    have l5 := u5.box.lt
    simp [b__law_rule_7]
    have u6' := Up.app u5.box [.lst [.str "any", .str "same", .str "last"]]
    refine D u6'.box (by omega) (by omega) fun d6 h6 d60 d61 v6 => ?_
    have u6 := (u5.up u6').up v6
    have e6 : lstAt h6 h5.length = some (tSs ["any", "same", "last"]) := v6.lst (by simp) (by omega)
    obtain ⟨t, et, ht⟩ := pick ["any", "same", "last"] d6 h6 d60 d61
    simp [e6, b__law_rule_8]
    simp at et
    simp [et]
    have l6 := u6.box.lt
    have u7' := Up.app u6.box [.lst [.str "bar", .str "wait", .str "go"]]
    refine D u7'.box (by omega) (by omega) fun d7 h7 d70 d71 v7 => ?_
    have u7 := (u6.up u7').up v7
    have e7 : lstAt h7 h6.length = some (tSs ["bar", "wait", "go"]) := v7.lst (by simp) (by omega)
    obtain ⟨s, es, hs⟩ := pick ["bar", "wait", "go"] d7 h7 d70 d71
    simp [e7]
    simp at es
    simp [es, b__law_rule_9, weave]
    have f1 : fitsB "opens" (.str o) = true := by
      have ml : MEN.lookup ("opens" : Str) = some (["enter", "leave", "send"] : List Str) := by decide +kernel
      unfold fitsB
      rw [if_neg (by decide +kernel), ml]
      simp only [oneB, decide_eq_true ho, Bool.or_true]
    have f2 : fitsB "checks" (.str c) = true := by
      have ml : MEN.lookup ("checks" : Str) = some (["enter", "leave"] : List Str) := by decide +kernel
      unfold fitsB
      rw [if_neg (by decide +kernel), ml]
      simp only [oneB, decide_eq_true hc, Bool.or_true]
    have f4 : ∀ b, fitsB "wipes" (.bl b) = true := fun b => by
      unfold fitsB
      rw [if_pos rfl]
      rfl
    have f5 : fitsB "taken" (.str t) = true := by
      have ml : MEN.lookup ("taken" : Str) = some (["any", "same", "last"] : List Str) := by decide +kernel
      unfold fitsB
      rw [if_neg (by decide +kernel), ml]
      simp only [oneB, decide_eq_true ht, Bool.or_true]
    have f6 : fitsB "sending" (.str s) = true := by
      have ml : MEN.lookup ("sending" : Str) = some (["bar", "wait", "go"] : List Str) := by decide +kernel
      unfold fitsB
      rw [if_neg (by decide +kernel), ml]
      simp only [oneB, decide_eq_true hs, Bool.or_true]
    have ne : ruleErr PARTSL [.str o, .str c, a, .bl (decide (d4 = 1)), .str t, .str s] = none := by
      simp only [PARTSL, ruleErr, f1, f2, fa, f4, f5, f6, Bool.true_eq_false, if_false]
    refine R (fun v hv => ?_) (fun _ z hz => ?_) (fun p e => by rw [ne] at e; cases e)
    · simp only [List.mem_cons, List.not_mem_nil, or_false] at hv
      rcases hv with rfl | rfl | rfl | rfl | rfl | rfl
      · exact jw ho (by decide +kernel)
      · exact jw hc (by decide +kernel)
      · exact ⟨ja _, sa⟩
      · exact ⟨jdN_bl, fun ts e => by cases e⟩
      · exact jw ht (by decide +kernel)
      · exact jw hs (by decide +kernel)
    · simp
      refine hq ⟨o, c, ar, decide (d4 = 1), t, s⟩ h7.length _ ⟨ho, hc, aw, ap, ht, hs⟩ ?_ u7.le (u7.up (Up.app u7.box _))
      unfold RuleAt Ru.ins
      rw [hz]
      unfold ruleIns
      rw [ea]
  have wd : ∀ {s : Str} {h4 : Hh} {x4 : Option T}, s ∈ (["own", "looks"] : List Str) → Up l h h4 → (b__law_rule_6 F [some (.ref l), some (.ref rn), some (.str o), some (.str c), x4, some (.str s), none, none, none] h4).wp (FQ.df Q E) := fun {s h4 x4} hs u4 => by
    refine tail (.str s) (.word s) h4 x4 u4 (fun _ => (jw hs (by decide +kernel)).1) (fun ts e => by cases e) ?_ rfl (fun s' e => by cases e; exact hs) (fun ps e => by cases e)
    have ml : MEN.lookup ("around" : Str) = some (["own", "looks"] : List Str) := by decide +kernel
    unfold fitsB
    rw [if_neg (by decide +kernel), ml]
    simp only [oneB, decide_eq_true hs, Bool.or_true]
  simp [b__law_rule_3]
  rcases (show d3 = 0 ∨ d3 = 1 ∨ d3 = 2 by omega) with rfl | rfl | rfl
  · simp [b__law_rule_4]
    exact wd (by decide +kernel) (u3.up (Up.app u3.box _))
  · simp [b__law_rule_4]
    exact wd (by decide +kernel) (u3.up (Up.app u3.box _))
  · simp [b__law_rule_4, b__law_rule_5]
    have u4 := u3.up (Up.app u3.box [.lst [.str "own", .str "looks", .str "own"]])
    refine Pp u4.box (u4.lst er (lstAt_lt er) hne) nl l3 fun ps h5 po pl v5 => ?_
    have sp := sortP_perm ps
    have nm : ∀ p ∈ ps, p.1.length ≤ 1000 ∧ p.2.length ≤ 1000 := fun p hp => ⟨Nat.le_trans (po.nm p hp).1.2.1 (by omega), Nat.le_trans (po.nm p hp).2.1.2.1 (by omega)⟩
    simp
    refine tail (.tup (ps.map tPr)) (.pairs (sortP ps)) h5 _ (u4.up v5) (fun h' => jdN_tup (by simp; omega) fun t ht => ?_) (fun ts e => by cases e; simp; omega) ?_ ?_ (fun s' e => by cases e) (fun ps' e => ?_)
    · obtain ⟨p, hp, rfl⟩ := List.mem_map.mp ht
      refine jdN_tup (by simp) fun t ht => ?_
      simp at ht
      rcases ht with rfl | rfl
      · exact jdN_str (nm p hp).1
      · exact jdN_str (nm p hp).2
    · unfold fitsB
      rw [if_neg (by decide +kernel), pairsB_prs po]
      simp
    · show T.tup ((sortP ((ps.map tPr).map prOf)).map tPr) = _
      rw [prOf_tPr]
      rfl
    · cases e
      exact ⟨⟨sp.nodup_iff.mpr po.nd, fun p hp => po.nm p (sp.mem_iff.mp hp)⟩, by rw [sp.length_eq]; omega, sortP_sortP ps⟩
end LW
end

section
namespace LW
open PySem W3
theorem cs_step : CS.lookup ("Step" : Str) = some (["deed", "before", "after", "events"] : List Str) := by decide +kernel
theorem f_deed {h : Hh} {l : Nat} {d b a e : T} (q : StepAt h l d b a e) : oFldC CS "deed" (.ref l) h = .ok d h := fld_of q.ins cs_step (by decide +kernel) rfl
theorem f_before {h : Hh} {l : Nat} {d b a e : T} (q : StepAt h l d b a e) : oFldC CS "before" (.ref l) h = .ok b h := fld_of q.ins cs_step (by decide +kernel) rfl
theorem f_after {h : Hh} {l : Nat} {d b a e : T} (q : StepAt h l d b a e) : oFldC CS "after" (.ref l) h = .ok a h := fld_of q.ins cs_step (by decide +kernel) rfl
theorem f_events {h : Hh} {l : Nat} {d b a e : T} (q : StepAt h l d b a e) : oFldC CS "events" (.ref l) h = .ok e h := fld_of q.ins cs_step (by decide +kernel) rfl
theorem ok_Step_init {F : FF} : StepE (defRun 5 (b_Step_init F)) := by
  intro d b a e h
  apply eq_of_wp
  simp [b_Step_init, b_Step_init_1, b_Step_init_2, b_Step_init_3]
  rw [sfld_new (ks := []) rfl cs_step (by decide +kernel) rfl (by decide +kernel) (by simp)]
  simp
  rw [sfld_new (ks := ["deed"]) rfl cs_step (by decide +kernel) rfl (by decide +kernel) (by simp)]
  simp
  rw [sfld_new (ks := ["deed", "before"]) rfl cs_step (by decide +kernel) rfl (by decide +kernel) (by simp)]
  simp
  rw [sfld_new (ks := ["deed", "before", "after"]) rfl cs_step (by decide +kernel) rfl (by decide +kernel) (by simp)]
  simp [stepIns]
theorem ok_begin {F : FF} (S : StepE F.Step_init) : BeginE (defRun 7 (b_begin F)) := by
  intro fm l r h Q E fa o hq
  have hsz := sz
  have f3 := o.f3
  have fl := firsts_len fm
  simp [b_begin, f_fields fa, Fm.tF]
  refine wp_lcm (ts := fm.fields.map tPair) firstOf (szle (by rw [List.length_map]; omega)) rfl (fun x hx => ?_) ?_
  · obtain ⟨p, hp, rfl⟩ := List.mem_map.mp hx
    exact ⟨_, rfl, by simp [tPair, firstOf, Fd.t, Fd.ts]⟩
  rw [firsts_t]
  simp [b_begin_1]
  refine wp_lcm (ts := tSs fm.firsts) (fun _ => .non) (szle (by simp; omega)) rfl (fun x hx => ⟨_, rfl, by simp⟩) ?_
  rw [map_all, List.length_map, fl]
  simp [b_begin_2]
  refine wp_lcm (ts := tSs fm.firsts) (fun _ => .bl false) (szle (by simp; omega)) rfl (fun x hx => ⟨_, rfl, by simp⟩) ?_
  rw [map_all, List.length_map, fl]
  simp
  rw [S]
  simp
  exact hq _ _ (Nat.le_refl _) (show (h ++ [.ins "Step" (stepIns .non .non (beginT fm) (.tup []))])[h.length]? = _ by simp)
end LW
end

section
namespace LW
open PySem W3
theorem ok_same0 (F : FF) : SameW 0 (defRun 3 (b__law_same F)) := by
  intro t u h ⟨e, hf⟩
  subst e
  apply eq_of_wp
  cases t <;> simp [flatT] at hf <;> simp [b__law_same, b__law_same_6, b__law_same_7, b__law_same_8, b__law_same_9, b__law_same_10, b__law_same_11, b__law_same_12]
theorem ok_same {F : FF} {n : Nat} (ih : SameW n F._law_same) : SameW (n + 1) (defRun 3 (b__law_same F)) := by
  intro t u h q
  rcases q with ⟨e, hf⟩ | ⟨ts, us, hk, hl, hz, hs⟩
  · exact ok_same0 F (h := h) ⟨e, hf⟩
  · have hsz := sz
    have key : (lcRun (.its (rangeT 0 (us.length : Int).toNat)) (sgName 2) stYes (sCl (arN 2 F._law_same) (saCons (s2 oIx (sVar 0) (sVar 2)) (saCons (s2 oIx (sVar 1) (sVar 2)) saNil))) [some t, some u, none] ((Src.its (rangeT 0 (us.length : Int).toNat)).len h) 0 [] h) = .ok ((rangeT 0 us.length).map fun _ => .bl true) h := by
      rw [show ((us.length : Int)).toNat = us.length by omega]
      refine lc_map (fun _ => .bl true) (szle (by simp; omega)) rfl fun x hx => ?_
      obtain ⟨i, ex⟩ := List.getElem?_of_mem hx
      obtain ⟨rfl, hi⟩ := range_at ex
      have e1 : us[i]? = some us[i] := by simp [hi]
      have e2 : ts[i]? = some ts[i] := by simp [show i < ts.length by omega]
      have a1 := atI_nat e1
      have a2 := atI_nat e2
      have st := ih (hs i _ _ e2 e1)
      refine ⟨_, rfl, ?_⟩
      rcases hk with ⟨rfl, rfl⟩ | ⟨k1, k2⟩
      · simp [a1, a2, st]
      · simp [k1.ix, k2.ix, a1, a2, st]
    apply eq_of_wp
    rcases hk with ⟨rfl, rfl⟩ | ⟨k1, k2⟩
    · simp [b__law_same, b__law_same_1, b__law_same_3, b__law_same_5, hl]
      rw [e_rng (by omega) (by omega)]
      simp
      simp at key
      rw [key]
      simp
    · simp [b__law_same, b__law_same_1, b__law_same_3, b__law_same_5, k1.isK, k2.isK, k1.len, k2.len, hl]
      rw [e_rng (by omega) (by omega)]
      simp
      simp at key
      rw [key]
      simp
def lookOf : T → T | .tup [_, .tup (a :: _)] => a | t => t
theorem ok_law {F : FF} (B : BoxW F._law_box) (Pa : PartsW F._law_parts) (I : InitE F.Form_init) (Rl : RuleW F._law_rule) (Bg : BeginE F.begin) (Sa : SameW 3 F._law_same)
    {ns : List Int} (hns : ns.length ≤ 63) : (defRun 11 (b_law F) [.fl (ns.map T.int)] []).wp (fun a _ => a = .bl true) noE := by
  have hsz := sz
  simp [b_law]
  refine B hns fun l h1 bx _ _ _ => ?_
  simp [b_law_1]
  refine Pa bx fun fm h3 o u3 => ?_
  have bx3 := u3.box
  have hl3 := bx3.lt
  have w2 := o.w2; have w3 := o.w3; have f1 := o.f1; have f3 := o.f3
  have nl : fm.names.length = fm.fields.length := by simp [Fm.names]
  have fl := firsts_len fm
  simp [b_law_2, Fm.tF]
  refine wp_lcm (ts := fm.fields.map tPair) fstOf (szle (by rw [List.length_map]; omega)) rfl (fun x hx => ?_) ?_
  · obtain ⟨p, hp, rfl⟩ := List.mem_map.mp hx
    exact ⟨_, rfl, by simp [tPair, fstOf]⟩
  have en : (fm.fields.map tPair).map fstOf = tSs fm.names := by
    rw [List.map_map]
    show _ = List.map T.str (List.map Prod.fst fm.fields)
    rw [List.map_map]
    rfl
  rw [en]
  simp [b_law_3, weave]
  refine init_fm (h := h3 ++ [.lst (tSs fm.names)]) I o (by simp) (by simp) rfl rfl fun o2 fa => ?_
  have fa : FormAt (h3 ++ [.lst (tSs fm.names)] ++ o2) (h3.length + 1) fm := by simpa using fa
  have hnm : lstAt (h3 ++ [.lst (tSs fm.names)] ++ o2) h3.length = some (tSs fm.names) := by simp
  have bxb : IsBox (h3 ++ [.lst (tSs fm.names)] ++ o2) l := (bx3.app _).app _
  generalize h3 ++ [.lst (tSs fm.names)] ++ o2 = hb at fa hnm bxb
  simp [b_law_4]
  refine wp_lcm (ts := fm.fields.map tPair) firstOf (szle (by rw [List.length_map]; omega)) rfl (fun x hx => ?_) ?_
  · obtain ⟨p, hp, rfl⟩ := List.mem_map.mp hx
    exact ⟨_, rfl, by simp [tPair, firstOf, Fd.t, Fd.ts]⟩
  rw [firsts_t]
  have mu : ∀ (t : T) (h' : Hh), oMulT (.tup [t]) (.int fm.fields.length) h' = .ok (.tup (List.replicate fm.fields.length t)) h' := fun t h' => by
    have e : (List.replicate fm.fields.length [t]).flatten = List.replicate fm.fields.length t := by simp
    simp [oMulT, e, show fm.fields.length ≤ sizeLine by omega]
    omega
  simp [b_law_5, b_law_6, b_law_7, hnm, nl, mu]
  have pu : ∀ h', SameV h' 3 (.tup [.non, .non, beginT fm, .tup []]) (.tup [.non, .non, beginT fm, .tup []]) := fun h' => by
    refine PureT.same (PureT.tup (by simp) fun t ht => ?_)
    simp at ht
    rcases ht with rfl | rfl | rfl
    · exact .inl rfl
    · refine PureT.tup (by simp) fun t ht => ?_
      simp at ht
      rcases ht with rfl | rfl | rfl | rfl | rfl
      · exact pure_strs (fun t ht => by obtain ⟨s, _, rfl⟩ := List.mem_map.mp ht; rfl) (by rw [List.length_map]; omega)
      · exact pure_strs (fun t ht => by rw [(List.mem_replicate.mp ht).2]; rfl) (by rw [List.length_replicate]; omega)
      · exact pure_strs (fun t ht => by rw [(List.mem_replicate.mp ht).2]; rfl) (by rw [List.length_replicate]; omega)
      · exact pure_strs (by simp) (by simp)
      · exact .inl rfl
    · exact pure_strs (by simp) (by simp)
  refine wp_for (ts := rangeT 0 4) (fun i σ h' => ∃ a9 a10, Up l hb h' ∧ σ = [some (.fl (ns.map T.int)), some (.ref l), some (.tup [fm.tW, .tup (fm.fields.map tPair), .int fm.room]), some (.ref h3.length), none, some (.ref (h3.length + 1)), some (.tup (tSs fm.firsts)), some (.tup (List.replicate fm.fields.length .non)), some (beginT fm), a9, a10])
    (fun i σ h' q => rfl) ⟨_, _, Up.refl bxb, rfl⟩ (fun i x σ h' ex q => ?_) (fun σ h' q => ?_)
  · obtain ⟨a9, a10, u, rfl⟩ := q
    refine ⟨_, rfl, ?_⟩
    simp [b_law_8]
    refine Rl u.box (u.lst hnm (box_ne bxb hnm)) o.fn (by omega) fun r a h4 ro ra al u4 => ?_
    have u' := u.up u4
    have fa4 : FormAt h4 (h3.length + 1) fm := fa.upK u' (by omega)
    simp
    refine Bg fa4 o fun b z bl sb => ?_
    simp [b_law_9, f_deed sb, f_before sb, f_after sb, f_events sb, Sa (pu _)]
    exact u'.up (Up.app u'.box _)
  · obtain ⟨a9, a10, u, rfl⟩ := q
    simp [b_law_11]
end LW
end

section
namespace LW
open PySem W3
theorem s__law_mix : ∀ k, MixW (runF (k + 1))._law_mix := fun k => ok_mix (F := runF (k + 0)) 
theorem s__law_box : ∀ k, BoxW (runF (k + 2))._law_box := fun k => ok_box (F := runF (k + 1)) (s__law_mix (k + 0))
theorem s__law_draw : ∀ k, DrawW (runF (k + 2))._law_draw := fun k => ok_draw (F := runF (k + 1)) (s__law_mix (k + 0))
theorem s__law_names : ∀ k, NamesW (runF (k + 3))._law_names := fun k => ok_names (F := runF (k + 2)) (s__law_draw (k + 0))
theorem s__law_entries : ∀ k, EntriesW (runF (k + 3))._law_entries := fun k => ok_entries (F := runF (k + 2)) (s__law_draw (k + 0))
theorem s__law_field : ∀ k, FieldW (runF (k + 4))._law_field := fun k => ok_field (F := runF (k + 3)) (s__law_draw (k + 1)) (s__law_entries (k + 0))
theorem s__law_parts : ∀ k, PartsW (runF (k + 5))._law_parts := fun k => ok_parts (F := runF (k + 4)) (s__law_draw (k + 2)) (s__law_names (k + 1)) (s__law_field (k + 0))
theorem s_is_integer : ∀ k, IsB (runF (k + 1)).is_integer 0 integerB := fun k => ok_is_integer (F := runF (k + 0)) 
theorem s_is_name : ∀ k, IsB (runF (k + 1)).is_name 0 nameB := fun k => ok_is_name (F := runF (k + 0)) 
theorem s_is_one_of : ∀ k, OneE (runF (k + 1)).is_one_of := fun k => ok_is_one_of (F := runF (k + 0)) 
theorem s_is_row : ∀ k, RowE (runF (k + 2)).is_row := fun k => ok_is_row (F := runF (k + 1)) (s_is_name (k + 0))
theorem s_is_near : ∀ k, NearE (runF (k + 3)).is_near := fun k => ok_is_near (F := runF (k + 2)) (s_is_row (k + 0))
theorem s_are_names : ∀ k, NamesE (runF (k + 2)).are_names := fun k => ok_are_names (F := runF (k + 1)) (s_is_name (k + 0))
theorem s_is_pair : ∀ k, IsB (runF (k + 2)).is_pair 1 pairB := fun k => ok_is_pair (F := runF (k + 1)) (s_is_name (k + 0))
theorem s_are_fields : ∀ k, FieldsE (runF (k + 3)).are_fields := fun k => ok_are_fields (F := runF (k + 2)) (s_is_pair (k + 0))
theorem s_check_field : ∀ k, CheckE (runF (k + 4)).check_field := fun k => ok_check_fieldE (F := runF (k + 3)) (s_is_one_of (k + 2)) (s_is_near (k + 0)) (s_is_row (k + 1))
theorem s_Form_init : ∀ k, InitE (runF (k + 5)).Form_init := fun k => ok_Form_initE (F := runF (k + 4)) (s_are_names (k + 2)) (s_are_fields (k + 1)) (s_check_field (k + 0)) (s_is_integer (k + 3))
theorem s__law_same_0 : ∀ k, SameW 0 (runF (k + 1))._law_same := fun k => ok_same0 (F := runF (k + 0)) 
theorem s__law_same_1 : ∀ k, SameW 1 (runF (k + 2))._law_same := fun k => ok_same (F := runF (k + 1)) (s__law_same_0 (k + 0))
theorem s__law_same_2 : ∀ k, SameW 2 (runF (k + 3))._law_same := fun k => ok_same (F := runF (k + 2)) (s__law_same_1 (k + 0))
theorem s__law_same_3 : ∀ k, SameW 3 (runF (k + 4))._law_same := fun k => ok_same (F := runF (k + 3)) (s__law_same_2 (k + 0))
theorem s_is_name_pair : ∀ k, IsB (runF (k + 2)).is_name_pair 1 namePairB := fun k => ok_is_name_pair (F := runF (k + 1)) (s_is_name (k + 0))
theorem s_are_pairs : ∀ k, PairsE (runF (k + 3)).are_pairs := fun k => ok_are_pairs (F := runF (k + 2)) (s_is_name_pair (k + 0))
theorem s_fits_part : ∀ k, FitsE (runF (k + 4)).fits_part := fun k => ok_fits_part (F := runF (k + 3)) (s_are_pairs (k + 0))
theorem s_Rule_init : ∀ k, RuleE (runF (k + 5)).Rule_init := fun k => ok_Rule_init (F := runF (k + 4)) (s_fits_part (k + 0))
theorem s__law_pairs : ∀ k, PairsW (runF (k + 3))._law_pairs := fun k => ok_pairs (F := runF (k + 2)) (s__law_draw (k + 0))
theorem s__law_rule : ∀ k, RuleW (runF (k + 6))._law_rule := fun k => ok_rule (F := runF (k + 5)) (s__law_draw (k + 3)) (s__law_pairs (k + 2)) (s_Rule_init (k + 0))
theorem s_Step_init : ∀ k, StepE (runF (k + 1)).Step_init := fun k => ok_Step_init (F := runF (k + 0)) 
theorem s_begin : ∀ k, BeginE (runF (k + 2)).begin := fun k => ok_begin (F := runF (k + 1)) (s_Step_init (k + 0))
def fuel : Nat := 7
theorem law_true : ∀ ns : List Int, ns.length ≤ 63 → ∃ h', (runF fuel).law [.fl (ns.map T.int)] [] = .ok (.bl true) h' := by
  intro ns hns
  obtain ⟨a, h', e, rfl⟩ := (ok_law (F := runF 6) (s__law_box (0 + 4)) (s__law_parts (0 + 1)) (s_Form_init (0 + 1)) (s__law_rule (0 + 0)) (s_begin (0 + 4)) (s__law_same_3 (0 + 2)) hns).ok
  exact ⟨h', e⟩
end LW
end

section
/-! the derivations -/
namespace LW
open PySem PySem.Spec PyProof.Rows
open L2 W3
def topS (i : Nat) : Stmt := PySem.Challenge.pw_wrongshown_k12_begin.main.body.getD i (.Pass ⟨0, 0, 0, 0⟩)
abbrev st_is_integer : Stmt := (topS 7)
abbrev st_is_name : Stmt := (topS 8)
abbrev st_is_one_of : Stmt := (topS 9)
abbrev st_are_names : Stmt := (topS 10)
abbrev st_is_pair : Stmt := (topS 11)
abbrev st_are_fields : Stmt := (topS 12)
abbrev st_is_row : Stmt := (topS 13)
abbrev st_is_near : Stmt := (topS 14)
abbrev st_check_field : Stmt := (topS 15)
abbrev st_Form_init : Stmt := (inClass (topS 16) 0)
abbrev st_Step_init : Stmt := (inClass (topS 18) 0)
abbrev st_begin : Stmt := (topS 19)
abbrev st_is_name_pair : Stmt := (topS 28)
abbrev st_are_pairs : Stmt := (topS 29)
abbrev st_fits_part : Stmt := (topS 30)
abbrev st_Rule_init : Stmt := (inClass (topS 32) 0)
abbrev st__law_mix : Stmt := (topS 34)
abbrev st__law_box : Stmt := (topS 35)
abbrev st__law_draw : Stmt := (topS 36)
abbrev st__law_same : Stmt := (topS 37)
abbrev st__law_names : Stmt := (topS 38)
abbrev st__law_entries : Stmt := (topS 39)
abbrev st__law_field : Stmt := (topS 40)
abbrev st__law_parts : Stmt := (topS 41)
abbrev st__law_pairs : Stmt := (topS 42)
abbrev st__law_rule : Stmt := (topS 43)
abbrev st_law : Stmt := (topS 45)
abbrev st_x_InvalidForm : Stmt := (inClass (topS 3) 0)
abbrev st_x_InvalidRule : Stmt := (inClass (topS 4) 0)
structure Ad where
  f_is_integer : Addr
  d_is_integer : FuncData
  f_is_name : Addr
  d_is_name : FuncData
  f_is_one_of : Addr
  d_is_one_of : FuncData
  f_are_names : Addr
  d_are_names : FuncData
  f_is_pair : Addr
  d_is_pair : FuncData
  f_are_fields : Addr
  d_are_fields : FuncData
  f_is_row : Addr
  d_is_row : FuncData
  f_is_near : Addr
  d_is_near : FuncData
  f_check_field : Addr
  d_check_field : FuncData
  f_Form_init : Addr
  d_Form_init : FuncData
  f_Step_init : Addr
  d_Step_init : FuncData
  f_begin : Addr
  d_begin : FuncData
  f_is_name_pair : Addr
  d_is_name_pair : FuncData
  f_are_pairs : Addr
  d_are_pairs : FuncData
  f_fits_part : Addr
  d_fits_part : FuncData
  f_Rule_init : Addr
  d_Rule_init : FuncData
  f__law_mix : Addr
  d__law_mix : FuncData
  f__law_box : Addr
  d__law_box : FuncData
  f__law_draw : Addr
  d__law_draw : FuncData
  f__law_same : Addr
  d__law_same : FuncData
  f__law_names : Addr
  d__law_names : FuncData
  f__law_entries : Addr
  d__law_entries : FuncData
  f__law_field : Addr
  d__law_field : FuncData
  f__law_parts : Addr
  d__law_parts : FuncData
  f__law_pairs : Addr
  d__law_pairs : FuncData
  f__law_rule : Addr
  d__law_rule : FuncData
  f_law : Addr
  d_law : FuncData
  c_Form : Addr
  c_Step : Addr
  c_Rule : Addr
  c_InvalidForm : Addr
  c_InvalidRule : Addr
  xf_InvalidForm : Addr
  xd_InvalidForm : FuncData
  xf_InvalidRule : Addr
  xd_InvalidRule : FuncData
structure Txt (w : World) (K : PySem.W.Frag) (mg : Str → Option Value) (A : Ad) : Prop where
  u_is_integer : Fun K "is_integer" "is_integer" st_is_integer A.f_is_integer A.d_is_integer
  b_is_integer : Binds K A.d_is_integer ["value"] []
  g_is_integer : mg "is_integer" = some (.ref A.f_is_integer)
  u_is_name : Fun K "is_name" "is_name" st_is_name A.f_is_name A.d_is_name
  b_is_name : Binds K A.d_is_name ["value"] []
  g_is_name : mg "is_name" = some (.ref A.f_is_name)
  u_is_one_of : Fun K "is_one_of" "is_one_of" st_is_one_of A.f_is_one_of A.d_is_one_of
  b_is_one_of : Binds K A.d_is_one_of ["value", "names"] []
  g_is_one_of : mg "is_one_of" = some (.ref A.f_is_one_of)
  u_are_names : Fun K "are_names" "are_names" st_are_names A.f_are_names A.d_are_names
  b_are_names : Binds K A.d_are_names ["value", "least", "most"] []
  g_are_names : mg "are_names" = some (.ref A.f_are_names)
  u_is_pair : Fun K "is_pair" "is_pair" st_is_pair A.f_is_pair A.d_is_pair
  b_is_pair : Binds K A.d_is_pair ["value"] []
  g_is_pair : mg "is_pair" = some (.ref A.f_is_pair)
  u_are_fields : Fun K "are_fields" "are_fields" st_are_fields A.f_are_fields A.d_are_fields
  b_are_fields : Binds K A.d_are_fields ["value"] []
  g_are_fields : mg "are_fields" = some (.ref A.f_are_fields)
  u_is_row : Fun K "is_row" "is_row" st_is_row A.f_is_row A.d_is_row
  b_is_row : Binds K A.d_is_row ["value", "size"] []
  g_is_row : mg "is_row" = some (.ref A.f_is_row)
  u_is_near : Fun K "is_near" "is_near" st_is_near A.f_is_near A.d_is_near
  b_is_near : Binds K A.d_is_near ["value", "looks", "size"] []
  g_is_near : mg "is_near" = some (.ref A.f_is_near)
  u_check_field : Fun K "check_field" "check_field" st_check_field A.f_check_field A.d_check_field
  b_check_field : Binds K A.d_check_field ["name", "parts", "words", "names"] []
  g_check_field : mg "check_field" = some (.ref A.f_check_field)
  u_Form_init : FunD K "__init__" "Form.__init__" (defArgs st_Form_init) (defBody st_Form_init) (defScope st_Form_init) [] [("room", .int 3)] A.f_Form_init A.d_Form_init
  u_Step_init : Fun K "__init__" "Step.__init__" st_Step_init A.f_Step_init A.d_Step_init
  b_Step_init : Binds K A.d_Step_init ["self", "deed", "before", "after", "events"] []
  u_begin : Fun K "begin" "begin" st_begin A.f_begin A.d_begin
  b_begin : Binds K A.d_begin ["form", "rule"] []
  g_begin : mg "begin" = some (.ref A.f_begin)
  u_is_name_pair : Fun K "is_name_pair" "is_name_pair" st_is_name_pair A.f_is_name_pair A.d_is_name_pair
  b_is_name_pair : Binds K A.d_is_name_pair ["value"] []
  g_is_name_pair : mg "is_name_pair" = some (.ref A.f_is_name_pair)
  u_are_pairs : Fun K "are_pairs" "are_pairs" st_are_pairs A.f_are_pairs A.d_are_pairs
  b_are_pairs : Binds K A.d_are_pairs ["value"] []
  g_are_pairs : mg "are_pairs" = some (.ref A.f_are_pairs)
  u_fits_part : Fun K "fits_part" "fits_part" st_fits_part A.f_fits_part A.d_fits_part
  b_fits_part : Binds K A.d_fits_part ["part", "value"] []
  g_fits_part : mg "fits_part" = some (.ref A.f_fits_part)
  u_Rule_init : FunD K "__init__" "Rule.__init__" (defArgs st_Rule_init) (defBody st_Rule_init) (defScope st_Rule_init) [] [("wipes", .bl false), ("taken", .str "same"), ("sending", .str "wait")] A.f_Rule_init A.d_Rule_init
  u__law_mix : Fun K "_law_mix" "_law_mix" st__law_mix A.f__law_mix A.d__law_mix
  b__law_mix : Binds K A.d__law_mix ["_law_value", "_law_k"] []
  g__law_mix : mg "_law_mix" = some (.ref A.f__law_mix)
  u__law_box : Fun K "_law_box" "_law_box" st__law_box A.f__law_box A.d__law_box
  b__law_box : Binds K A.d__law_box ["_law_script"] []
  g__law_box : mg "_law_box" = some (.ref A.f__law_box)
  u__law_draw : Fun K "_law_draw" "_law_draw" st__law_draw A.f__law_draw A.d__law_draw
  b__law_draw : Binds K A.d__law_draw ["_law_box_here", "_law_many"] []
  g__law_draw : mg "_law_draw" = some (.ref A.f__law_draw)
  u__law_same : Fun K "_law_same" "_law_same" st__law_same A.f__law_same A.d__law_same
  b__law_same : Binds K A.d__law_same ["_law_told", "_law_due"] []
  g__law_same : mg "_law_same" = some (.ref A.f__law_same)
  u__law_names : Fun K "_law_names" "_law_names" st__law_names A.f__law_names A.d__law_names
  b__law_names : Binds K A.d__law_names ["_law_box_here", "_law_many"] []
  g__law_names : mg "_law_names" = some (.ref A.f__law_names)
  u__law_entries : Fun K "_law_entries" "_law_entries" st__law_entries A.f__law_entries A.d__law_entries
  b__law_entries : Binds K A.d__law_entries ["_law_box_here", "_law_notes", "_law_size"] []
  g__law_entries : mg "_law_entries" = some (.ref A.f__law_entries)
  u__law_field : Fun K "_law_field" "_law_field" st__law_field A.f__law_field A.d__law_field
  b__law_field : Binds K A.d__law_field ["_law_box_here", "_law_words", "_law_names_here", "_law_name", "_law_notes"] []
  g__law_field : mg "_law_field" = some (.ref A.f__law_field)
  u__law_parts : Fun K "_law_parts" "_law_parts" st__law_parts A.f__law_parts A.d__law_parts
  b__law_parts : Binds K A.d__law_parts ["_law_box_here"] []
  g__law_parts : mg "_law_parts" = some (.ref A.f__law_parts)
  u__law_pairs : Fun K "_law_pairs" "_law_pairs" st__law_pairs A.f__law_pairs A.d__law_pairs
  b__law_pairs : Binds K A.d__law_pairs ["_law_box_here", "_law_names_here"] []
  g__law_pairs : mg "_law_pairs" = some (.ref A.f__law_pairs)
  u__law_rule : Fun K "_law_rule" "_law_rule" st__law_rule A.f__law_rule A.d__law_rule
  b__law_rule : Binds K A.d__law_rule ["_law_box_here", "_law_names_here"] []
  g__law_rule : mg "_law_rule" = some (.ref A.f__law_rule)
  u_law : Fun K "law" "law" st_law A.f_law A.d_law
  b_law : Binds K A.d_law ["_law_script"] []
  g_law : mg "law" = some (.ref A.f_law)
  kb_Form_init_2_room : KBw K A.d_Form_init ["self", "words", "fields", "room"] 3 ["room"] [true] []
  kb_Rule_init_3_wipes_taken_sending : KBw K A.d_Rule_init ["self", "opens", "checks", "around", "wipes", "taken", "sending"] 4 ["wipes", "taken", "sending"] [true, true, true] []
  g_Form : mg "Form" = some (.ref A.c_Form)
  cc_Form : Cls K A.c_Form
  m_Form : Mk K A.c_Form A.f_Form_init
  g_Step : mg "Step" = some (.ref A.c_Step)
  cc_Step : Cls K A.c_Step
  m_Step : Mk K A.c_Step A.f_Step_init
  g_Rule : mg "Rule" = some (.ref A.c_Rule)
  cc_Rule : Cls K A.c_Rule
  m_Rule : Mk K A.c_Rule A.f_Rule_init
  cs : ClsF K mg CS
  c_LETTERS : ∃ t, mg "LETTERS" = some (.str "abcdefghijklmnopqrstuvwxyz" t)
  c_MENUS : ∃ a, mg "MENUS" = some (.ref a) ∧ KDic K w mg a [("opens", T.tup ((["enter", "leave", "send"] : List Str).map T.str)), ("checks", T.tup ((["enter", "leave"] : List Str).map T.str)), ("around", T.tup ((["own", "looks"] : List Str).map T.str)), ("taken", T.tup ((["any", "same", "last"] : List Str).map T.str)), ("sending", T.tup ((["bar", "wait", "go"] : List Str).map T.str))]
  c_PARTS : ∃ a, mg "PARTS" = some (.ref a) ∧ KIs K mg a (.tup ((["opens", "checks", "around", "wipes", "taken", "sending"] : List Str).map T.str))
  n_all : mg "all" = none
  n_bool : mg "bool" = none
  n_int : mg "int" = none
  n_isinstance : mg "isinstance" = none
  n_len : mg "len" = none
  n_list : mg "list" = none
  n_range : mg "range" = none
  n_set : mg "set" = none
  n_sorted : mg "sorted" = none
  n_str : mg "str" = none
  n_super : mg "super" = none
  n_tuple : mg "tuple" = none
  n_zip : mg "zip" = none
  g_InvalidForm : mg "InvalidForm" = some (.ref A.c_InvalidForm)
  g_InvalidRule : mg "InvalidRule" = some (.ref A.c_InvalidRule)
  ox_InvalidForm : OexC K A.c_InvalidForm
  xi_InvalidForm : PySem.W.findIn K (.ref A.c_InvalidForm) "__init__" = some (some (.ref A.xf_InvalidForm))
  xt_InvalidForm : PySem.W.typeIn K (.ref A.xf_InvalidForm) = some (.type "function")
  b_InvalidForm : Binds K A.xd_InvalidForm ["self", "part", "field"] []
  ox_InvalidRule : OexC K A.c_InvalidRule
  xi_InvalidRule : PySem.W.findIn K (.ref A.c_InvalidRule) "__init__" = some (some (.ref A.xf_InvalidRule))
  xt_InvalidRule : PySem.W.typeIn K (.ref A.xf_InvalidRule) = some (.type "function")
  b_InvalidRule : Binds K A.xd_InvalidRule ["self", "part"] []
  xf : XfAll K mg XS FL
structure Exs (P : Program) (w : World) (K : PySem.W.Frag) (mg : Str → Option Value) (base : Heap) (A : Ad) : Prop where
  F_InvalidForm : FnOk P w K mg base (L2.CX P w) 1 A.xf_InvalidForm A.xd_InvalidForm ["self", "part", "field"] (spE2 A.c_InvalidForm "part" "field")
  F_InvalidRule : FnOk P w K mg base (L2.CX P w) 1 A.xf_InvalidRule A.xd_InvalidRule ["self", "part"] (spE1 A.c_InvalidRule "part")
section
variable {P : Program} {w : World} {K : PySem.W.Frag} {mg : Str → Option Value} {base : Heap} {A : Ad} {F : FF} {j : Nat}
structure Oks (P : Program) (w : World) (K : PySem.W.Frag) (mg : Str → Option Value) (base : Heap) (A : Ad) (j : Nat) (F : FF) : Prop where
  is_integer : FnOk P w K mg base (L2.CX P w) j A.f_is_integer A.d_is_integer ["value"] (spT K mg 1 F.is_integer)
  is_name : FnOk P w K mg base (L2.CX P w) j A.f_is_name A.d_is_name ["value"] (spT K mg 1 F.is_name)
  is_one_of : FnOk P w K mg base (L2.CX P w) j A.f_is_one_of A.d_is_one_of ["value", "names"] (spT K mg 2 F.is_one_of)
  are_names : FnOk P w K mg base (L2.CX P w) j A.f_are_names A.d_are_names ["value", "least", "most"] (spT K mg 3 F.are_names)
  is_pair : FnOk P w K mg base (L2.CX P w) j A.f_is_pair A.d_is_pair ["value"] (spT K mg 1 F.is_pair)
  are_fields : FnOk P w K mg base (L2.CX P w) j A.f_are_fields A.d_are_fields ["value"] (spT K mg 1 F.are_fields)
  is_row : FnOk P w K mg base (L2.CX P w) j A.f_is_row A.d_is_row ["value", "size"] (spT K mg 2 F.is_row)
  is_near : FnOk P w K mg base (L2.CX P w) j A.f_is_near A.d_is_near ["value", "looks", "size"] (spT K mg 3 F.is_near)
  check_field : FnOk P w K mg base (L2.CX P w) j A.f_check_field A.d_check_field ["name", "parts", "words", "names"] (spT K mg 4 F.check_field)
  Form_init : FnOk P w K mg base (L2.CX P w) j A.f_Form_init A.d_Form_init ["self", "words", "fields", "room"] (spT K mg 4 F.Form_init)
  Step_init : FnOk P w K mg base (L2.CX P w) j A.f_Step_init A.d_Step_init ["self", "deed", "before", "after", "events"] (spT K mg 5 F.Step_init)
  begin : FnOk P w K mg base (L2.CX P w) j A.f_begin A.d_begin ["form", "rule"] (spT K mg 2 F.begin)
  is_name_pair : FnOk P w K mg base (L2.CX P w) j A.f_is_name_pair A.d_is_name_pair ["value"] (spT K mg 1 F.is_name_pair)
  are_pairs : FnOk P w K mg base (L2.CX P w) j A.f_are_pairs A.d_are_pairs ["value"] (spT K mg 1 F.are_pairs)
  fits_part : FnOk P w K mg base (L2.CX P w) j A.f_fits_part A.d_fits_part ["part", "value"] (spT K mg 2 F.fits_part)
  Rule_init : FnOk P w K mg base (L2.CX P w) j A.f_Rule_init A.d_Rule_init ["self", "opens", "checks", "around", "wipes", "taken", "sending"] (spT K mg 7 F.Rule_init)
  _law_mix : FnOk P w K mg base (L2.CX P w) j A.f__law_mix A.d__law_mix ["_law_value", "_law_k"] (spT K mg 2 F._law_mix)
  _law_box : FnOk P w K mg base (L2.CX P w) j A.f__law_box A.d__law_box ["_law_script"] (spT K mg 1 F._law_box)
  _law_draw : FnOk P w K mg base (L2.CX P w) j A.f__law_draw A.d__law_draw ["_law_box_here", "_law_many"] (spT K mg 2 F._law_draw)
  _law_same : FnOk P w K mg base (L2.CX P w) j A.f__law_same A.d__law_same ["_law_told", "_law_due"] (spT K mg 2 F._law_same)
  _law_names : FnOk P w K mg base (L2.CX P w) j A.f__law_names A.d__law_names ["_law_box_here", "_law_many"] (spT K mg 2 F._law_names)
  _law_entries : FnOk P w K mg base (L2.CX P w) j A.f__law_entries A.d__law_entries ["_law_box_here", "_law_notes", "_law_size"] (spT K mg 3 F._law_entries)
  _law_field : FnOk P w K mg base (L2.CX P w) j A.f__law_field A.d__law_field ["_law_box_here", "_law_words", "_law_names_here", "_law_name", "_law_notes"] (spT K mg 5 F._law_field)
  _law_parts : FnOk P w K mg base (L2.CX P w) j A.f__law_parts A.d__law_parts ["_law_box_here"] (spT K mg 1 F._law_parts)
  _law_pairs : FnOk P w K mg base (L2.CX P w) j A.f__law_pairs A.d__law_pairs ["_law_box_here", "_law_names_here"] (spT K mg 2 F._law_pairs)
  _law_rule : FnOk P w K mg base (L2.CX P w) j A.f__law_rule A.d__law_rule ["_law_box_here", "_law_names_here"] (spT K mg 2 F._law_rule)
  law : FnOk P w K mg base (L2.CX P w) j A.f_law A.d_law ["_law_script"] (spT K mg 1 F.law)
theorem sc_is_integer : FnScope ["value"] ["value"] (defScope st_is_integer) := ⟨rfl, rfl, rfl, by decide +kernel, rfl, by decide +kernel, by decide +kernel⟩
theorem der_is_integer (tx : Txt w K mg A) (ex : Exs P w K mg base A) (O : Oks P w K mg base A j F) : FnOk P w K mg base (L2.CX P w) (j + 3) A.f_is_integer A.d_is_integer ["value"] (spT K mg 1 (defRun 1 (b_is_integer F))) := by
  have S := sc_is_integer
  refine fn_T tx.u_is_integer S fun cdv Ar outer s H E hr tk hp => ?_
  have hr0 := hr.mono (Nat.le_add_right _ _)
  have hr1 := hr.mono (Nat.le_succ _)
  have hr2 := hr.mono (Nat.le_add_left 2 _)
  have hu := hu65 hr
  exact (ds_cons (ds_ret (de_and (de_isk .int boot_int rfl tx.n_isinstance rfl tx.n_int (dv 0)) (de_and1 (de_not (de_isk .bool boot_bool rfl tx.n_isinstance rfl tx.n_bool (dv 0))))))
  ds_nil)
theorem sc_is_name : FnScope ["value", "sign"] ["value"] (defScope st_is_name) := ⟨rfl, rfl, rfl, by decide +kernel, rfl, by decide +kernel, by decide +kernel⟩
theorem der_is_name (tx : Txt w K mg A) (ex : Exs P w K mg base A) (O : Oks P w K mg base A j F) : FnOk P w K mg base (L2.CX P w) (j + 3) A.f_is_name A.d_is_name ["value"] (spT K mg 1 (defRun 2 (b_is_name F))) := by
  have S := sc_is_name
  refine fn_T tx.u_is_name S fun cdv Ar outer s H E hr tk hp => ?_
  have hr0 := hr.mono (Nat.le_add_right _ _)
  have hr1 := hr.mono (Nat.le_succ _)
  have hr2 := hr.mono (Nat.le_add_left 2 _)
  have hu := hu65 hr
  exact (ds_cons (ds_if (dt_w (dw_or (dt_not (dt_val (de_isk .str boot_str rfl tx.n_isinstance rfl tx.n_str (dv 0)))) (dw_or1 (dt_not (dt_chain os_le os_le nx_le nx_le de_int (de_callB cs_len nx_len rfl tx.n_len boot_len (da_cons (dv 0) da_nil)) de_int)))))
  (ds_cons (ds_ret de_bl)
   ds_nil)
  ds_nil)
  (ds_cons (ds_ret (de_overB (cl_all rfl) nx_all rfl tx.n_all boot_all (dl_lc (own := [("sign", 1)]) rfl S.nd (di_e (dv 0)) (blkOk_by rfl) (fun _ _ _ _ _ => (dg_name (i := 1) S.nd rfl (by first | exact Or.inl rfl | exact Or.inr rfl))) (fun _ _ _ _ _ => dts_nil) (fun _ _ _ _ _ => (de_cmp (os_in hu) nx_in (dv 1) (dgs tx.c_LETTERS (by decide +kernel)) rfl)))))
  ds_nil))
theorem sc_is_one_of : FnScope ["value", "names"] ["value", "names"] (defScope st_is_one_of) := ⟨rfl, rfl, rfl, by decide +kernel, rfl, by decide +kernel, by decide +kernel⟩
theorem der_is_one_of (tx : Txt w K mg A) (ex : Exs P w K mg base A) (O : Oks P w K mg base A j F) : FnOk P w K mg base (L2.CX P w) (j + 3) A.f_is_one_of A.d_is_one_of ["value", "names"] (spT K mg 2 (defRun 2 (b_is_one_of F))) := by
  have S := sc_is_one_of
  refine fn_T tx.u_is_one_of S fun cdv Ar outer s H E hr tk hp => ?_
  have hr0 := hr.mono (Nat.le_add_right _ _)
  have hr1 := hr.mono (Nat.le_succ _)
  have hr2 := hr.mono (Nat.le_add_left 2 _)
  have hu := hu65 hr
  exact (ds_cons (ds_ret (de_and (de_isk .str boot_str rfl tx.n_isinstance rfl tx.n_str (dv 0)) (de_and1 (de_cmp (os_in hu) nx_in (dv 0) (dv 1) rfl))))
  ds_nil)
theorem sc_are_names : FnScope ["value", "least", "most", "item"] ["value", "least", "most"] (defScope st_are_names) := ⟨rfl, rfl, rfl, by decide +kernel, rfl, by decide +kernel, by decide +kernel⟩
theorem der_are_names (tx : Txt w K mg A) (ex : Exs P w K mg base A) (O : Oks P w K mg base A j F) : FnOk P w K mg base (L2.CX P w) (j + 3) A.f_are_names A.d_are_names ["value", "least", "most"] (spT K mg 3 (defRun 4 (b_are_names F))) := by
  have S := sc_are_names
  refine fn_T tx.u_are_names S fun cdv Ar outer s H E hr tk hp => ?_
  have hr0 := hr.mono (Nat.le_add_right _ _)
  have hr1 := hr.mono (Nat.le_succ _)
  have hr2 := hr.mono (Nat.le_add_left 2 _)
  have hu := hu65 hr
  exact (ds_cons (ds_if (dt_w (dw_or (dt_not (dt_val (de_isk .tuple boot_tuple rfl tx.n_isinstance rfl tx.n_tuple (dv 0)))) (dw_or1 (dt_not (dt_chain os_le os_le nx_le nx_le (dv 1) (de_callB cs_len nx_len rfl tx.n_len boot_len (da_cons (dv 0) da_nil)) (dv 2))))))
  (ds_cons (ds_ret de_bl)
   ds_nil)
  ds_nil)
  (ds_cons (ds_ret (de_and (de_overB (cl_all rfl) nx_all rfl tx.n_all boot_all (dl_lc (own := [("item", 3)]) rfl S.nd (di_e (dv 0)) (blkOk_by rfl) (fun _ _ _ _ _ => (dg_name (i := 3) S.nd rfl (by first | exact Or.inl rfl | exact Or.inr rfl))) (fun _ _ _ _ _ => dts_nil) (fun _ _ _ _ _ => (de_call (ps := ["value"]) O.is_name hr0 rfl tx.g_is_name tx.u_is_name.kp tx.b_is_name takes0 (da_cons (dv 3) da_nil))))) (de_and1 (de_cmp (os_eq hu) nx_eq (de_lenSet rfl rfl tx.n_len rfl tx.n_set (dv 0)) (de_callB cs_len nx_len rfl tx.n_len boot_len (da_cons (dv 0) da_nil)) rfl))))
  ds_nil))
theorem sc_is_pair : FnScope ["value"] ["value"] (defScope st_is_pair) := ⟨rfl, rfl, rfl, by decide +kernel, rfl, by decide +kernel, by decide +kernel⟩
theorem der_is_pair (tx : Txt w K mg A) (ex : Exs P w K mg base A) (O : Oks P w K mg base A j F) : FnOk P w K mg base (L2.CX P w) (j + 3) A.f_is_pair A.d_is_pair ["value"] (spT K mg 1 (defRun 1 (b_is_pair F))) := by
  have S := sc_is_pair
  refine fn_T tx.u_is_pair S fun cdv Ar outer s H E hr tk hp => ?_
  have hr0 := hr.mono (Nat.le_add_right _ _)
  have hr1 := hr.mono (Nat.le_succ _)
  have hr2 := hr.mono (Nat.le_add_left 2 _)
  have hu := hu65 hr
  exact (ds_cons (ds_if (dt_w (dw_or (dt_not (dt_val (de_isk .tuple boot_tuple rfl tx.n_isinstance rfl tx.n_tuple (dv 0)))) (dw_or (dt_cmp (os_ne hu) nx_ne (de_callB cs_len nx_len rfl tx.n_len boot_len (da_cons (dv 0) da_nil)) de_int rfl) (dw_or1 (dt_not (dt_val (de_call (ps := ["value"]) O.is_name hr0 rfl tx.g_is_name tx.u_is_name.kp tx.b_is_name tk (da_cons (de_ix (dv 0) de_int) da_nil))))))))
  (ds_cons (ds_ret de_bl)
   ds_nil)
  ds_nil)
  (ds_cons (ds_ret (de_and (de_isk .tuple boot_tuple rfl tx.n_isinstance rfl tx.n_tuple (de_ix (dv 0) de_int)) (de_and1 (de_cmp (os_eq hu) nx_eq (de_callB cs_len nx_len rfl tx.n_len boot_len (da_cons (de_ix (dv 0) de_int) da_nil)) de_int rfl))))
  ds_nil))
theorem sc_are_fields : FnScope ["value", "item"] ["value"] (defScope st_are_fields) := ⟨rfl, rfl, rfl, by decide +kernel, rfl, by decide +kernel, by decide +kernel⟩
theorem der_are_fields (tx : Txt w K mg A) (ex : Exs P w K mg base A) (O : Oks P w K mg base A j F) : FnOk P w K mg base (L2.CX P w) (j + 3) A.f_are_fields A.d_are_fields ["value"] (spT K mg 1 (defRun 2 (b_are_fields F))) := by
  have S := sc_are_fields
  refine fn_T tx.u_are_fields S fun cdv Ar outer s H E hr tk hp => ?_
  have hr0 := hr.mono (Nat.le_add_right _ _)
  have hr1 := hr.mono (Nat.le_succ _)
  have hr2 := hr.mono (Nat.le_add_left 2 _)
  have hu := hu65 hr
  exact (ds_cons (ds_if (dt_w (dw_or (dt_not (dt_val (de_isk .tuple boot_tuple rfl tx.n_isinstance rfl tx.n_tuple (dv 0)))) (dw_or1 (dt_not (dt_chain os_le os_le nx_le nx_le de_int (de_callB cs_len nx_len rfl tx.n_len boot_len (da_cons (dv 0) da_nil)) de_int)))))
  (ds_cons (ds_ret de_bl)
   ds_nil)
  ds_nil)
  (ds_cons (ds_if (dt_not (dt_val (de_overB (cl_all rfl) nx_all rfl tx.n_all boot_all (dl_lc (own := [("item", 1)]) rfl S.nd (di_e (dv 0)) (blkOk_by rfl) (fun _ _ _ _ _ => (dg_name (i := 1) S.nd rfl (by first | exact Or.inl rfl | exact Or.inr rfl))) (fun _ _ _ _ _ => dts_nil) (fun _ _ _ _ _ => (de_call (ps := ["value"]) O.is_pair hr0 rfl tx.g_is_pair tx.u_is_pair.kp tx.b_is_pair takes0 (da_cons (dv 1) da_nil)))))))
  (ds_cons (ds_ret de_bl)
   ds_nil)
  ds_nil)
  (ds_cons (ds_ret (de_cmp (os_eq hu) nx_eq (de_lenSc (own := [("item", 1)]) rfl S.nd rfl tx.n_len (di_e (dv 0)) (blkOk_by rfl) (fun _ _ _ _ _ => (dg_name (i := 1) S.nd rfl (by first | exact Or.inl rfl | exact Or.inr rfl))) (fun _ _ _ _ _ => dts_nil) (fun _ _ _ _ _ => (de_ix (dv 1) de_int))) (de_callB cs_len nx_len rfl tx.n_len boot_len (da_cons (dv 0) da_nil)) rfl))
  ds_nil)))
theorem sc_is_row : FnScope ["value", "size", "entry"] ["value", "size"] (defScope st_is_row) := ⟨rfl, rfl, rfl, by decide +kernel, rfl, by decide +kernel, by decide +kernel⟩
theorem der_is_row (tx : Txt w K mg A) (ex : Exs P w K mg base A) (O : Oks P w K mg base A j F) : FnOk P w K mg base (L2.CX P w) (j + 3) A.f_is_row A.d_is_row ["value", "size"] (spT K mg 2 (defRun 3 (b_is_row F))) := by
  have S := sc_is_row
  refine fn_T tx.u_is_row S fun cdv Ar outer s H E hr tk hp => ?_
  have hr0 := hr.mono (Nat.le_add_right _ _)
  have hr1 := hr.mono (Nat.le_succ _)
  have hr2 := hr.mono (Nat.le_add_left 2 _)
  have hu := hu65 hr
  exact (ds_cons (ds_if (dt_w (dw_or (dt_not (dt_val (de_isk .tuple boot_tuple rfl tx.n_isinstance rfl tx.n_tuple (dv 0)))) (dw_or1 (dt_cmp (os_ne hu) nx_ne (de_callB cs_len nx_len rfl tx.n_len boot_len (da_cons (dv 0) da_nil)) (dv 1) rfl))))
  (ds_cons (ds_ret de_bl)
   ds_nil)
  ds_nil)
  (ds_cons (ds_ret (de_overB (cl_all rfl) nx_all rfl tx.n_all boot_all (dl_lc (own := [("entry", 2)]) rfl S.nd (di_e (dv 0)) (blkOk_by rfl) (fun _ _ _ _ _ => (dg_name (i := 2) S.nd rfl (by first | exact Or.inl rfl | exact Or.inr rfl))) (fun _ _ _ _ _ => dts_nil) (fun _ _ _ _ _ => (de_or (de_cmp os_is nx_is (dv 2) de_non rfl) (de_or1 (de_call (ps := ["value"]) O.is_name hr0 rfl tx.g_is_name tx.u_is_name.kp tx.b_is_name takes0 (da_cons (dv 2) da_nil))))))))
  ds_nil))
theorem sc_is_near : FnScope ["value", "looks", "size", "row"] ["value", "looks", "size"] (defScope st_is_near) := ⟨rfl, rfl, rfl, by decide +kernel, rfl, by decide +kernel, by decide +kernel⟩
theorem der_is_near (tx : Txt w K mg A) (ex : Exs P w K mg base A) (O : Oks P w K mg base A j F) : FnOk P w K mg base (L2.CX P w) (j + 3) A.f_is_near A.d_is_near ["value", "looks", "size"] (spT K mg 3 (defRun 4 (b_is_near F))) := by
  have S := sc_is_near
  refine fn_T tx.u_is_near S fun cdv Ar outer s H E hr tk hp => ?_
  have hr0 := hr.mono (Nat.le_add_right _ _)
  have hr1 := hr.mono (Nat.le_succ _)
  have hr2 := hr.mono (Nat.le_add_left 2 _)
  have hu := hu65 hr
  exact (ds_cons (ds_if (dt_cmp os_is nx_is (dv 1) de_non rfl)
  (ds_cons (ds_ret (de_call (ps := ["value", "size"]) O.is_row hr0 rfl tx.g_is_row tx.u_is_row.kp tx.b_is_row tk (da_cons (dv 0) (da_cons (dv 2) da_nil))))
   ds_nil)
  ds_nil)
  (ds_cons (ds_if (dt_w (dw_or (dt_not (dt_val (de_isk .tuple boot_tuple rfl tx.n_isinstance rfl tx.n_tuple (dv 0)))) (dw_or1 (dt_cmp (os_ne hu) nx_ne (de_callB cs_len nx_len rfl tx.n_len boot_len (da_cons (dv 0) da_nil)) (dv 2) rfl))))
  (ds_cons (ds_ret de_bl)
   ds_nil)
  ds_nil)
  (ds_cons (ds_ret (de_overB (cl_all rfl) nx_all rfl tx.n_all boot_all (dl_lc (own := [("row", 3)]) rfl S.nd (di_e (dv 0)) (blkOk_by rfl) (fun _ _ _ _ _ => (dg_name (i := 3) S.nd rfl (by first | exact Or.inl rfl | exact Or.inr rfl))) (fun _ _ _ _ _ => dts_nil) (fun _ _ _ _ _ => (de_call (ps := ["value", "size"]) O.is_row hr0 rfl tx.g_is_row tx.u_is_row.kp tx.b_is_row takes0 (da_cons (dv 3) (da_cons (dv 2) da_nil)))))))
  ds_nil)))
theorem sc_check_field : FnScope ["name", "parts", "words", "names", "first", "looks", "near", "far"] ["name", "parts", "words", "names"] (defScope st_check_field) := ⟨rfl, rfl, rfl, by decide +kernel, rfl, by decide +kernel, by decide +kernel⟩
theorem der_check_field (tx : Txt w K mg A) (ex : Exs P w K mg base A) (O : Oks P w K mg base A j F) : FnOk P w K mg base (L2.CX P w) (j + 3) A.f_check_field A.d_check_field ["name", "parts", "words", "names"] (spT K mg 4 (defRun 8 (b_check_field F))) := by
  have S := sc_check_field
  refine fn_T tx.u_check_field S fun cdv Ar outer s H E hr tk hp => ?_
  have hr0 := hr.mono (Nat.le_add_right _ _)
  have hr1 := hr.mono (Nat.le_succ _)
  have hr2 := hr.mono (Nat.le_add_left 2 _)
  have hu := hu65 hr
  exact (ds_cons (ds_asg (dv 1) (dg_tup rfl (dgs_cons (dg_name (i := 4) S.nd rfl (by first | exact Or.inl rfl | exact Or.inr rfl)) (dgs_cons (dg_name (i := 5) S.nd rfl (by first | exact Or.inl rfl | exact Or.inr rfl)) (dgs_cons (dg_name (i := 6) S.nd rfl (by first | exact Or.inl rfl | exact Or.inr rfl)) (dgs_cons (dg_name (i := 7) S.nd rfl (by first | exact Or.inl rfl | exact Or.inr rfl)) dgs_nil))))))
  (ds_cons (ds_if (dt_not (dt_val (de_call (ps := ["value", "names"]) O.is_one_of hr0 rfl tx.g_is_one_of tx.u_is_one_of.kp tx.b_is_one_of tk (da_cons (dv 4) (da_cons (dv 2) da_nil)))))
  (ds_cons (ds_raise2 rfl tk tx.ox_InvalidForm tx.xi_InvalidForm tx.xt_InvalidForm ex.F_InvalidForm hr2 tx.b_InvalidForm rfl tx.g_InvalidForm (da_cons (de_str (by decide +kernel)) (da_cons (dv 0) da_nil)))
   ds_nil)
  ds_nil)
  (ds_cons (ds_if (dt_w (dw_and (dt_cmp os_isnot nx_isnot (dv 5) de_non rfl) (dw_and1 (dt_w (dw_or (dt_not (dt_val (de_call (ps := ["value", "names"]) O.is_one_of hr0 rfl tx.g_is_one_of tx.u_is_one_of.kp tx.b_is_one_of tk (da_cons (dv 5) (da_cons (dv 3) da_nil))))) (dw_or1 (dt_cmp (os_eq hu) nx_eq (dv 5) (dv 0) rfl)))))))
  (ds_cons (ds_raise2 rfl tk tx.ox_InvalidForm tx.xi_InvalidForm tx.xt_InvalidForm ex.F_InvalidForm hr2 tx.b_InvalidForm rfl tx.g_InvalidForm (da_cons (de_str (by decide +kernel)) (da_cons (dv 0) da_nil)))
   ds_nil)
  ds_nil)
  (ds_cons (ds_if (dt_not (dt_val (de_call (ps := ["value", "looks", "size"]) O.is_near hr0 rfl tx.g_is_near tx.u_is_near.kp tx.b_is_near tk (da_cons (dv 6) (da_cons (dv 5) (da_cons (de_callB cs_len nx_len rfl tx.n_len boot_len (da_cons (dv 2) da_nil)) da_nil))))))
  (ds_cons (ds_raise2 rfl tk tx.ox_InvalidForm tx.xi_InvalidForm tx.xt_InvalidForm ex.F_InvalidForm hr2 tx.b_InvalidForm rfl tx.g_InvalidForm (da_cons (de_str (by decide +kernel)) (da_cons (dv 0) da_nil)))
   ds_nil)
  ds_nil)
  (ds_cons (ds_if (dt_w (dw_and (dt_cmp os_isnot nx_isnot (dv 7) de_non rfl) (dw_and1 (dt_not (dt_val (de_call (ps := ["value", "size"]) O.is_row hr0 rfl tx.g_is_row tx.u_is_row.kp tx.b_is_row tk (da_cons (dv 7) (da_cons (de_callB cs_len nx_len rfl tx.n_len boot_len (da_cons (dv 2) da_nil)) da_nil))))))))
  (ds_cons (ds_raise2 rfl tk tx.ox_InvalidForm tx.xi_InvalidForm tx.xt_InvalidForm ex.F_InvalidForm hr2 tx.b_InvalidForm rfl tx.g_InvalidForm (da_cons (de_str (by decide +kernel)) (da_cons (dv 0) da_nil)))
   ds_nil)
  ds_nil)
  ds_nil)))))
theorem sc_Form_init : FnScope ["self", "words", "fields", "room", "names", "item", "name", "parts"] ["self", "words", "fields", "room"] (defScope st_Form_init) := ⟨rfl, rfl, rfl, by decide +kernel, rfl, by decide +kernel, by decide +kernel⟩
theorem der_Form_init (tx : Txt w K mg A) (ex : Exs P w K mg base A) (O : Oks P w K mg base A j F) : FnOk P w K mg base (L2.CX P w) (j + 3) A.f_Form_init A.d_Form_init ["self", "words", "fields", "room"] (spT K mg 4 (defRun 8 (b_Form_init F))) := by
  have S := sc_Form_init
  refine fn_TD tx.u_Form_init S fun cdv Ar outer s H E hr tk hp => ?_
  have hr0 := hr.mono (Nat.le_add_right _ _)
  have hr1 := hr.mono (Nat.le_succ _)
  have hr2 := hr.mono (Nat.le_add_left 2 _)
  have hu := hu65 hr
  exact (ds_cons (ds_if (dt_not (dt_val (de_call (ps := ["value", "least", "most"]) O.are_names hr0 rfl tx.g_are_names tx.u_are_names.kp tx.b_are_names tk (da_cons (dv 1) (da_cons de_int (da_cons de_int da_nil))))))
  (ds_cons (ds_raise2 rfl tk tx.ox_InvalidForm tx.xi_InvalidForm tx.xt_InvalidForm ex.F_InvalidForm hr2 tx.b_InvalidForm rfl tx.g_InvalidForm (da_cons (de_str (by decide +kernel)) (da_cons (de_str (by decide +kernel)) da_nil)))
   ds_nil)
  ds_nil)
  (ds_cons (ds_if (dt_not (dt_val (de_call (ps := ["value"]) O.are_fields hr0 rfl tx.g_are_fields tx.u_are_fields.kp tx.b_are_fields tk (da_cons (dv 2) da_nil))))
  (ds_cons (ds_raise2 rfl tk tx.ox_InvalidForm tx.xi_InvalidForm tx.xt_InvalidForm ex.F_InvalidForm hr2 tx.b_InvalidForm rfl tx.g_InvalidForm (da_cons (de_str (by decide +kernel)) (da_cons (de_str (by decide +kernel)) da_nil)))
   ds_nil)
  ds_nil)
  (ds_cons (ds_setLc (i := 4) (own := [("item", 5)]) rfl S.nd rfl rfl (sw_true rfl rfl rfl (by decide +kernel)) (di_e (dv 2)) (blkOk_by rfl) (fun _ _ _ _ _ => (dg_name (i := 5) S.nd rfl (by first | exact Or.inl rfl | exact Or.inr rfl))) (fun _ _ _ _ _ => dts_nil) (fun _ _ _ _ _ => (de_ix (dv 5) de_int)))
  (ds_cons (ds_for hp rfl (di_e (dv 2)) (dg_tup rfl (dgs_cons (dg_name (i := 6) S.nd rfl (by first | exact Or.inl rfl | exact Or.inr rfl)) (dgs_cons (dg_name (i := 7) S.nd rfl (by first | exact Or.inl rfl | exact Or.inr rfl)) dgs_nil)))
  (ds_cons (ds_expr (de_call (ps := ["name", "parts", "words", "names"]) O.check_field hr0 rfl tx.g_check_field tx.u_check_field.kp tx.b_check_field tk (da_cons (dv 6) (da_cons (dv 7) (da_cons (dv 1) (da_cons (dv 4) da_nil))))))
   ds_nil))
  (ds_cons (ds_if (dt_w (dw_or (dt_not (dt_val (de_call (ps := ["value"]) O.is_integer hr0 rfl tx.g_is_integer tx.u_is_integer.kp tx.b_is_integer tk (da_cons (dv 3) da_nil)))) (dw_or1 (dt_not (dt_chain os_le os_le nx_le nx_le de_int (dv 3) de_int)))))
  (ds_cons (ds_raise2 rfl tk tx.ox_InvalidForm tx.xi_InvalidForm tx.xt_InvalidForm ex.F_InvalidForm hr2 tx.b_InvalidForm rfl tx.g_InvalidForm (da_cons (de_str (by decide +kernel)) (da_cons (de_str (by decide +kernel)) da_nil)))
   ds_nil)
  ds_nil)
  (ds_cons (ds_fld tx.cs (dv 0) (dv 1))
  (ds_cons (ds_fld tx.cs (dv 0) (dv 2))
  (ds_cons (ds_fld tx.cs (dv 0) (dv 3))
  ds_nil))))))))
theorem sc_Step_init : FnScope ["self", "deed", "before", "after", "events"] ["self", "deed", "before", "after", "events"] (defScope st_Step_init) := ⟨rfl, rfl, rfl, by decide +kernel, rfl, by decide +kernel, by decide +kernel⟩
theorem der_Step_init (tx : Txt w K mg A) (ex : Exs P w K mg base A) (O : Oks P w K mg base A j F) : FnOk P w K mg base (L2.CX P w) (j + 3) A.f_Step_init A.d_Step_init ["self", "deed", "before", "after", "events"] (spT K mg 5 (defRun 5 (b_Step_init F))) := by
  have S := sc_Step_init
  refine fn_T tx.u_Step_init S fun cdv Ar outer s H E hr tk hp => ?_
  have hr0 := hr.mono (Nat.le_add_right _ _)
  have hr1 := hr.mono (Nat.le_succ _)
  have hr2 := hr.mono (Nat.le_add_left 2 _)
  have hu := hu65 hr
  exact (ds_cons (ds_fld tx.cs (dv 0) (dv 1))
  (ds_cons (ds_fld tx.cs (dv 0) (dv 2))
  (ds_cons (ds_fld tx.cs (dv 0) (dv 3))
  (ds_cons (ds_fld tx.cs (dv 0) (dv 4))
  ds_nil))))
theorem sc_begin : FnScope ["form", "rule", "words", "name", "parts", "nothing", "word"] ["form", "rule"] (defScope st_begin) := ⟨rfl, rfl, rfl, by decide +kernel, rfl, by decide +kernel, by decide +kernel⟩
theorem der_begin (tx : Txt w K mg A) (ex : Exs P w K mg base A) (O : Oks P w K mg base A j F) : FnOk P w K mg base (L2.CX P w) (j + 3) A.f_begin A.d_begin ["form", "rule"] (spT K mg 2 (defRun 7 (b_begin F))) := by
  have S := sc_begin
  refine fn_T tx.u_begin S fun cdv Ar outer s H E hr tk hp => ?_
  have hr0 := hr.mono (Nat.le_add_right _ _)
  have hr1 := hr.mono (Nat.le_succ _)
  have hr2 := hr.mono (Nat.le_add_left 2 _)
  have hu := hu65 hr
  exact (ds_cons (ds_set (i := 2) S.nd rfl (by first | exact Or.inl rfl | exact Or.inr rfl) (de_overTy cl_tup nx_tup rfl tx.n_tuple boot_tuple (dl_lc (own := [("name", 3), ("parts", 4)]) rfl S.nd (di_e (de_fld tx.cs (dv 0))) (blkOk_by rfl) (fun _ _ _ _ _ => (dg_tup rfl (dgs_cons (dg_name (i := 3) S.nd rfl (by first | exact Or.inl rfl | exact Or.inr rfl)) (dgs_cons (dg_name (i := 4) S.nd rfl (by first | exact Or.inl rfl | exact Or.inr rfl)) dgs_nil)))) (fun _ _ _ _ _ => dts_nil) (fun _ _ _ _ _ => (de_ix (dv 4) de_int)))))
  (ds_cons (ds_set (i := 5) S.nd rfl (by first | exact Or.inl rfl | exact Or.inr rfl) (de_overTy cl_tup nx_tup rfl tx.n_tuple boot_tuple (dl_lc (own := [("word", 6)]) rfl S.nd (di_e (dv 2)) (blkOk_by rfl) (fun _ _ _ _ _ => (dg_name (i := 6) S.nd rfl (by first | exact Or.inl rfl | exact Or.inr rfl))) (fun _ _ _ _ _ => dts_nil) (fun _ _ _ _ _ => de_non))))
  (ds_cons (ds_ret (de_make (ps := ["self", "deed", "before", "after", "events"]) tx.m_Step O.Step_init hr1 rfl tx.g_Step tx.b_Step_init tk (da_cons de_non (da_cons de_non (da_cons (de_tup (da_cons (dv 2) (da_cons (de_overTy cl_tup nx_tup rfl tx.n_tuple boot_tuple (dl_lc (own := [("word", 6)]) rfl S.nd (di_e (dv 2)) (blkOk_by rfl) (fun _ _ _ _ _ => (dg_name (i := 6) S.nd rfl (by first | exact Or.inl rfl | exact Or.inr rfl))) (fun _ _ _ _ _ => dts_nil) (fun _ _ _ _ _ => de_bl))) (da_cons (dv 5) (da_cons (dv 5) (da_cons (de_tup da_nil) (da_cons de_bl da_nil))))))) (da_cons (de_tup da_nil) da_nil))))))
  ds_nil)))
theorem sc_is_name_pair : FnScope ["value"] ["value"] (defScope st_is_name_pair) := ⟨rfl, rfl, rfl, by decide +kernel, rfl, by decide +kernel, by decide +kernel⟩
theorem der_is_name_pair (tx : Txt w K mg A) (ex : Exs P w K mg base A) (O : Oks P w K mg base A j F) : FnOk P w K mg base (L2.CX P w) (j + 3) A.f_is_name_pair A.d_is_name_pair ["value"] (spT K mg 1 (defRun 1 (b_is_name_pair F))) := by
  have S := sc_is_name_pair
  refine fn_T tx.u_is_name_pair S fun cdv Ar outer s H E hr tk hp => ?_
  have hr0 := hr.mono (Nat.le_add_right _ _)
  have hr1 := hr.mono (Nat.le_succ _)
  have hr2 := hr.mono (Nat.le_add_left 2 _)
  have hu := hu65 hr
  exact (ds_cons (ds_if (dt_w (dw_or (dt_not (dt_val (de_isk .tuple boot_tuple rfl tx.n_isinstance rfl tx.n_tuple (dv 0)))) (dw_or1 (dt_cmp (os_ne hu) nx_ne (de_callB cs_len nx_len rfl tx.n_len boot_len (da_cons (dv 0) da_nil)) de_int rfl))))
  (ds_cons (ds_ret de_bl)
   ds_nil)
  ds_nil)
  (ds_cons (ds_ret (de_and (de_call (ps := ["value"]) O.is_name hr0 rfl tx.g_is_name tx.u_is_name.kp tx.b_is_name tk (da_cons (de_ix (dv 0) de_int) da_nil)) (de_and (de_call (ps := ["value"]) O.is_name hr0 rfl tx.g_is_name tx.u_is_name.kp tx.b_is_name tk (da_cons (de_ix (dv 0) de_int) da_nil)) (de_and1 (de_cmp (os_ne hu) nx_ne (de_ix (dv 0) de_int) (de_ix (dv 0) de_int) rfl)))))
  ds_nil))
theorem sc_are_pairs : FnScope ["value", "item"] ["value"] (defScope st_are_pairs) := ⟨rfl, rfl, rfl, by decide +kernel, rfl, by decide +kernel, by decide +kernel⟩
theorem der_are_pairs (tx : Txt w K mg A) (ex : Exs P w K mg base A) (O : Oks P w K mg base A j F) : FnOk P w K mg base (L2.CX P w) (j + 3) A.f_are_pairs A.d_are_pairs ["value"] (spT K mg 1 (defRun 2 (b_are_pairs F))) := by
  have S := sc_are_pairs
  refine fn_T tx.u_are_pairs S fun cdv Ar outer s H E hr tk hp => ?_
  have hr0 := hr.mono (Nat.le_add_right _ _)
  have hr1 := hr.mono (Nat.le_succ _)
  have hr2 := hr.mono (Nat.le_add_left 2 _)
  have hu := hu65 hr
  exact (ds_cons (ds_if (dt_w (dw_or (dt_not (dt_val (de_isk .tuple boot_tuple rfl tx.n_isinstance rfl tx.n_tuple (dv 0)))) (dw_or1 (dt_not (dt_val (de_overB (cl_all rfl) nx_all rfl tx.n_all boot_all (dl_lc (own := [("item", 1)]) rfl S.nd (di_e (dv 0)) (blkOk_by rfl) (fun _ _ _ _ _ => (dg_name (i := 1) S.nd rfl (by first | exact Or.inl rfl | exact Or.inr rfl))) (fun _ _ _ _ _ => dts_nil) (fun _ _ _ _ _ => (de_call (ps := ["value"]) O.is_name_pair hr0 rfl tx.g_is_name_pair tx.u_is_name_pair.kp tx.b_is_name_pair takes0 (da_cons (dv 1) da_nil))))))))))
  (ds_cons (ds_ret de_bl)
   ds_nil)
  ds_nil)
  (ds_cons (ds_ret (de_cmp (os_eq hu) nx_eq (de_lenSetP rfl hu rfl tx.n_len rfl tx.n_set (dv 0)) (de_callB cs_len nx_len rfl tx.n_len boot_len (da_cons (dv 0) da_nil)) rfl))
  ds_nil))
theorem sc_fits_part : FnScope ["part", "value"] ["part", "value"] (defScope st_fits_part) := ⟨rfl, rfl, rfl, by decide +kernel, rfl, by decide +kernel, by decide +kernel⟩
theorem der_fits_part (tx : Txt w K mg A) (ex : Exs P w K mg base A) (O : Oks P w K mg base A j F) : FnOk P w K mg base (L2.CX P w) (j + 3) A.f_fits_part A.d_fits_part ["part", "value"] (spT K mg 2 (defRun 2 (b_fits_part F))) := by
  have S := sc_fits_part
  refine fn_T tx.u_fits_part S fun cdv Ar outer s H E hr tk hp => ?_
  have hr0 := hr.mono (Nat.le_add_right _ _)
  have hr1 := hr.mono (Nat.le_succ _)
  have hr2 := hr.mono (Nat.le_add_left 2 _)
  have hu := hu65 hr
  exact (ds_cons (ds_if (dt_cmp (os_eq hu) nx_eq (dv 0) (de_str (by decide +kernel)) rfl)
  (ds_cons (ds_ret (de_isk .bool boot_bool rfl tx.n_isinstance rfl tx.n_bool (dv 1)))
   ds_nil)
  ds_nil)
  (ds_cons (ds_if (dt_w (dw_and (dt_cmp (os_eq hu) nx_eq (dv 0) (de_str (by decide +kernel)) rfl) (dw_and1 (dt_val (de_call (ps := ["value"]) O.are_pairs hr0 rfl tx.g_are_pairs tx.u_are_pairs.kp tx.b_are_pairs tk (da_cons (dv 1) da_nil))))))
  (ds_cons (ds_ret de_bl)
   ds_nil)
  ds_nil)
  (ds_cons (ds_ret (de_and (de_isk .str boot_str rfl tx.n_isinstance rfl tx.n_str (dv 1)) (de_and1 (de_cmp (os_in hu) nx_in (dv 1) (de_menu tx.c_MENUS (dv 0)) rfl))))
  ds_nil)))
theorem sc_Rule_init : FnScope ["self", "opens", "checks", "around", "wipes", "taken", "sending", "values", "part", "value"] ["self", "opens", "checks", "around", "wipes", "taken", "sending"] (defScope st_Rule_init) := ⟨rfl, rfl, rfl, by decide +kernel, rfl, by decide +kernel, by decide +kernel⟩
theorem der_Rule_init (tx : Txt w K mg A) (ex : Exs P w K mg base A) (O : Oks P w K mg base A j F) : FnOk P w K mg base (L2.CX P w) (j + 3) A.f_Rule_init A.d_Rule_init ["self", "opens", "checks", "around", "wipes", "taken", "sending"] (spT K mg 7 (defRun 10 (b_Rule_init F))) := by
  have S := sc_Rule_init
  refine fn_TD tx.u_Rule_init S fun cdv Ar outer s H E hr tk hp => ?_
  have hr0 := hr.mono (Nat.le_add_right _ _)
  have hr1 := hr.mono (Nat.le_succ _)
  have hr2 := hr.mono (Nat.le_add_left 2 _)
  have hu := hu65 hr
  exact (ds_cons (ds_set (i := 7) S.nd rfl (by first | exact Or.inl rfl | exact Or.inr rfl) (de_tup (da_cons (dv 1) (da_cons (dv 2) (da_cons (dv 3) (da_cons (dv 4) (da_cons (dv 5) (da_cons (dv 6) da_nil))))))))
  (ds_cons (ds_for hp rfl (di_zip rfl tx.n_zip (da_cons (dgk tx.c_PARTS) (da_cons (dv 7) da_nil))) (dg_tup rfl (dgs_cons (dg_name (i := 8) S.nd rfl (by first | exact Or.inl rfl | exact Or.inr rfl)) (dgs_cons (dg_name (i := 9) S.nd rfl (by first | exact Or.inl rfl | exact Or.inr rfl)) dgs_nil)))
  (ds_cons (ds_if (dt_not (dt_val (de_call (ps := ["part", "value"]) O.fits_part hr0 rfl tx.g_fits_part tx.u_fits_part.kp tx.b_fits_part tk (da_cons (dv 8) (da_cons (dv 9) da_nil)))))
   (ds_cons (ds_raise1 rfl tk tx.ox_InvalidRule tx.xi_InvalidRule tx.xt_InvalidRule ex.F_InvalidRule hr2 tx.b_InvalidRule rfl tx.g_InvalidRule (da_cons (dv 8) da_nil))
    ds_nil)
   ds_nil)
   ds_nil))
  (ds_cons (ds_if (dt_val (de_isk .tuple boot_tuple rfl tx.n_isinstance rfl tx.n_tuple (dv 3)))
  (ds_cons (ds_set (i := 3) S.nd rfl (by first | exact Or.inl rfl | exact Or.inr rfl) (de_callTy cs_tuple nx_tuple rfl tx.n_tuple boot_tuple (da_cons (de_callB (cs_sorted hu) nx_sorted rfl tx.n_sorted boot_sorted (da_cons (dv 3) da_nil)) da_nil)))
   ds_nil)
  ds_nil)
  (ds_cons (ds_fld tx.cs (dv 0) (dv 1))
  (ds_cons (ds_fld tx.cs (dv 0) (dv 2))
  (ds_cons (ds_fld tx.cs (dv 0) (dv 3))
  (ds_cons (ds_fld tx.cs (dv 0) (dv 4))
  (ds_cons (ds_fld tx.cs (dv 0) (dv 5))
  (ds_cons (ds_fld tx.cs (dv 0) (dv 6))
  ds_nil)))))))))
theorem sc__law_mix : FnScope ["_law_value", "_law_k", "_law_number"] ["_law_value", "_law_k"] (defScope st__law_mix) := ⟨rfl, rfl, rfl, by decide +kernel, rfl, by decide +kernel, by decide +kernel⟩
theorem der__law_mix (tx : Txt w K mg A) (ex : Exs P w K mg base A) (O : Oks P w K mg base A j F) : FnOk P w K mg base (L2.CX P w) (j + 3) A.f__law_mix A.d__law_mix ["_law_value", "_law_k"] (spT K mg 2 (defRun 3 (b__law_mix F))) := by
  have S := sc__law_mix
  refine fn_T tx.u__law_mix S fun cdv Ar outer s H E hr tk hp => ?_
  have hr0 := hr.mono (Nat.le_add_right _ _)
  have hr1 := hr.mono (Nat.le_succ _)
  have hr2 := hr.mono (Nat.le_add_left 2 _)
  have hu := hu65 hr
  exact (ds_cons (ds_set (i := 2) S.nd rfl (by first | exact Or.inl rfl | exact Or.inr rfl) (de_op os_mod nx_mod (de_op os_mul nx_mul (de_op os_add nx_add (de_op os_add nx_add (de_callTy cs_int nx_bint rfl tx.n_int boot_int (da_cons (dv 0) da_nil)) (de_op os_mul nx_mul de_int (dv 1))) de_int) de_int) de_int))
  (ds_cons (ds_set (i := 2) S.nd rfl (by first | exact Or.inl rfl | exact Or.inr rfl) (de_op os_mod nx_mod (de_op os_mul nx_mul (dv 2) (de_op os_add nx_add (de_op os_div nx_div (dv 2) de_int) de_int)) de_int))
  (ds_cons (ds_ret (de_op os_mod nx_mod (de_op os_mul nx_mul (dv 2) (de_op os_add nx_add (de_op os_div nx_div (dv 2) de_int) de_int)) de_int))
  ds_nil)))
theorem sc__law_box : FnScope ["_law_script", "_law_cells", "_law_cell", "_law_seed"] ["_law_script"] (defScope st__law_box) := ⟨rfl, rfl, rfl, by decide +kernel, rfl, by decide +kernel, by decide +kernel⟩
theorem der__law_box (tx : Txt w K mg A) (ex : Exs P w K mg base A) (O : Oks P w K mg base A j F) : FnOk P w K mg base (L2.CX P w) (j + 3) A.f__law_box A.d__law_box ["_law_script"] (spT K mg 1 (defRun 4 (b__law_box F))) := by
  have S := sc__law_box
  refine fn_T tx.u__law_box S fun cdv Ar outer s H E hr tk hp => ?_
  have hr0 := hr.mono (Nat.le_add_right _ _)
  have hr1 := hr.mono (Nat.le_succ _)
  have hr2 := hr.mono (Nat.le_add_left 2 _)
  have hu := hu65 hr
  exact (ds_cons (ds_setLc (i := 1) (own := [("_law_cell", 2)]) rfl S.nd rfl rfl (sw_true rfl rfl rfl (by decide +kernel)) (di_e (de_sl (dv 0) do_none (do_some de_int))) (blkOk_by rfl) (fun _ _ _ _ _ => (dg_name (i := 2) S.nd rfl (by first | exact Or.inl rfl | exact Or.inr rfl))) (fun _ _ _ _ _ => dts_nil) (fun _ _ _ _ _ => (de_callTy cs_int nx_bint rfl tx.n_int boot_int (da_cons (dv 2) da_nil))))
  (ds_cons (ds_set (i := 3) S.nd rfl (by first | exact Or.inl rfl | exact Or.inr rfl) de_int)
  (ds_cons (ds_for hp rfl (di_e (dv 1)) (dg_name (i := 2) S.nd rfl (by first | exact Or.inl rfl | exact Or.inr rfl))
  (ds_cons (ds_set (i := 3) S.nd rfl (by first | exact Or.inl rfl | exact Or.inr rfl) (de_call (ps := ["_law_value", "_law_k"]) O._law_mix hr0 rfl tx.g__law_mix tx.u__law_mix.kp tx.b__law_mix tk (da_cons (de_op os_add nx_add (dv 3) (dv 2)) (da_cons de_int da_nil))))
   ds_nil))
  (ds_cons (ds_ret (de_lst (da_cons (dv 1) (da_cons de_int (da_cons de_int (da_cons (dv 3) (da_cons de_int da_nil)))))))
  ds_nil))))
theorem sc__law_draw : FnScope ["_law_box_here", "_law_many", "_law_cell", "_law_digit"] ["_law_box_here", "_law_many"] (defScope st__law_draw) := ⟨rfl, rfl, rfl, by decide +kernel, rfl, by decide +kernel, by decide +kernel⟩
theorem der__law_draw (tx : Txt w K mg A) (ex : Exs P w K mg base A) (O : Oks P w K mg base A j F) : FnOk P w K mg base (L2.CX P w) (j + 3) A.f__law_draw A.d__law_draw ["_law_box_here", "_law_many"] (spT K mg 2 (defRun 4 (b__law_draw F))) := by
  have S := sc__law_draw
  refine fn_T tx.u__law_draw S fun cdv Ar outer s H E hr tk hp => ?_
  have hr0 := hr.mono (Nat.le_add_right _ _)
  have hr1 := hr.mono (Nat.le_succ _)
  have hr2 := hr.mono (Nat.le_add_left 2 _)
  have hu := hu65 hr
  exact (ds_cons (ds_sub (dv 0) de_int (de_op os_add nx_add (de_ix (dv 0) de_int) de_int))
  (ds_cons (ds_if (dt_w (dw_and (dt_cmp (os_eq hu) nx_eq (de_ix (dv 0) de_int) de_int rfl) (dw_and1 (dt_cmp os_lt nx_lt (de_ix (dv 0) de_int) (de_callB cs_len nx_len rfl tx.n_len boot_len (da_cons (de_ix (dv 0) de_int) da_nil)) rfl))))
  (ds_cons (ds_set (i := 2) S.nd rfl (by first | exact Or.inl rfl | exact Or.inr rfl) (de_ix (de_ix (dv 0) de_int) (de_ix (dv 0) de_int)))
   (ds_cons (ds_sub (dv 0) de_int (de_op os_add nx_add (de_ix (dv 0) de_int) de_int))
   (ds_cons (ds_if (dt_cmp os_lt nx_lt (dv 2) (de_op os_pow nx_pow de_int de_int) rfl)
   (ds_cons (ds_ret (de_op os_mod nx_mod (de_callTy cs_int nx_bint rfl tx.n_int boot_int (da_cons (de_call (ps := ["_law_value", "_law_k"]) O._law_mix hr0 rfl tx.g__law_mix tx.u__law_mix.kp tx.b__law_mix tk (da_cons (dv 2) (da_cons (de_ix (dv 0) de_int) da_nil))) da_nil)) (dv 1)))
    ds_nil)
   ds_nil)
   (ds_cons (ds_sub (dv 0) de_int (dv 2))
   ds_nil))))
  ds_nil)
  (ds_cons (ds_if (dt_cmp (os_eq hu) nx_eq (de_ix (dv 0) de_int) de_int rfl)
  (ds_cons (ds_ret (de_op os_mod nx_mod (de_callTy cs_int nx_bint rfl tx.n_int boot_int (da_cons (de_call (ps := ["_law_value", "_law_k"]) O._law_mix hr0 rfl tx.g__law_mix tx.u__law_mix.kp tx.b__law_mix tk (da_cons (de_ix (dv 0) de_int) (da_cons (de_ix (dv 0) de_int) da_nil))) da_nil)) (dv 1)))
   ds_nil)
  ds_nil)
  (ds_cons (ds_set (i := 3) S.nd rfl (by first | exact Or.inl rfl | exact Or.inr rfl) (de_op os_mod nx_mod (de_callTy cs_int nx_bint rfl tx.n_int boot_int (da_cons (de_ix (dv 0) de_int) da_nil)) (dv 1)))
  (ds_cons (ds_sub (dv 0) de_int (de_op os_div nx_div (de_callTy cs_int nx_bint rfl tx.n_int boot_int (da_cons (de_ix (dv 0) de_int) da_nil)) (dv 1)))
  (ds_cons (ds_ret (dv 3))
  ds_nil))))))
theorem sc__law_same : FnScope ["_law_told", "_law_due", "_law_k"] ["_law_told", "_law_due"] (defScope st__law_same) := ⟨rfl, rfl, rfl, by decide +kernel, rfl, by decide +kernel, by decide +kernel⟩
theorem der__law_same (tx : Txt w K mg A) (ex : Exs P w K mg base A) (O : Oks P w K mg base A j F) : FnOk P w K mg base (L2.CX P w) (j + 3) A.f__law_same A.d__law_same ["_law_told", "_law_due"] (spT K mg 2 (defRun 3 (b__law_same F))) := by
  have S := sc__law_same
  refine fn_T tx.u__law_same S fun cdv Ar outer s H E hr tk hp => ?_
  have hr0 := hr.mono (Nat.le_add_right _ _)
  have hr1 := hr.mono (Nat.le_succ _)
  have hr2 := hr.mono (Nat.le_add_left 2 _)
  have hu := hu65 hr
  exact (ds_cons (ds_if (dt_w (dw_or (dt_val (de_isk .tuple boot_tuple rfl tx.n_isinstance rfl tx.n_tuple (dv 1))) (dw_or1 (dt_val (de_isk .list boot_list rfl tx.n_isinstance rfl tx.n_list (dv 1))))))
  (ds_cons (ds_if (dt_w (dw_or (dt_cmp (os_ne hu) nx_ne (de_isk .tuple boot_tuple rfl tx.n_isinstance rfl tx.n_tuple (dv 1)) (de_isk .tuple boot_tuple rfl tx.n_isinstance rfl tx.n_tuple (dv 0)) rfl) (dw_or1 (dt_cmp (os_ne hu) nx_ne (de_isk .list boot_list rfl tx.n_isinstance rfl tx.n_list (dv 1)) (de_isk .list boot_list rfl tx.n_isinstance rfl tx.n_list (dv 0)) rfl))))
   (ds_cons (ds_ret de_bl)
    ds_nil)
   ds_nil)
   (ds_cons (ds_if (dt_cmp (os_ne hu) nx_ne (de_callB cs_len nx_len rfl tx.n_len boot_len (da_cons (dv 0) da_nil)) (de_callB cs_len nx_len rfl tx.n_len boot_len (da_cons (dv 1) da_nil)) rfl)
   (ds_cons (ds_ret de_bl)
    ds_nil)
   ds_nil)
   (ds_cons (ds_ret (de_overB (cl_all rfl) nx_all rfl tx.n_all boot_all (dl_lc (own := [("_law_k", 2)]) rfl S.nd (di_range1 rfl tx.n_range (da_cons (de_callB cs_len nx_len rfl tx.n_len boot_len (da_cons (dv 1) da_nil)) da_nil)) (blkOk_by rfl) (fun _ _ _ _ _ => (dg_name (i := 2) S.nd rfl (by first | exact Or.inl rfl | exact Or.inr rfl))) (fun _ _ _ _ _ => dts_nil) (fun _ _ _ _ _ => (de_call (ps := ["_law_told", "_law_due"]) O._law_same hr0 rfl tx.g__law_same tx.u__law_same.kp tx.b__law_same takes0 (da_cons (de_ix (dv 0) (dv 2)) (da_cons (de_ix (dv 1) (dv 2)) da_nil)))))))
   ds_nil)))
  ds_nil)
  (ds_cons (ds_if (dt_cmp os_is nx_is (dv 1) de_non rfl)
  (ds_cons (ds_ret (de_cmp os_is nx_is (dv 0) de_non rfl))
   ds_nil)
  ds_nil)
  (ds_cons (ds_if (dt_w (dw_or (dt_val (de_isk .bool boot_bool rfl tx.n_isinstance rfl tx.n_bool (dv 1))) (dw_or1 (dt_val (de_isk .bool boot_bool rfl tx.n_isinstance rfl tx.n_bool (dv 0))))))
  (ds_cons (ds_ret (de_and (de_isk .bool boot_bool rfl tx.n_isinstance rfl tx.n_bool (dv 1)) (de_and (de_isk .bool boot_bool rfl tx.n_isinstance rfl tx.n_bool (dv 0)) (de_and1 (de_cmp (os_eq hu) nx_eq (dv 1) (dv 0) rfl)))))
   ds_nil)
  ds_nil)
  (ds_cons (ds_if (dt_val (de_isk .int boot_int rfl tx.n_isinstance rfl tx.n_int (dv 1)))
  (ds_cons (ds_ret (de_and (de_isk .int boot_int rfl tx.n_isinstance rfl tx.n_int (dv 0)) (de_and1 (de_cmp (os_eq hu) nx_eq (dv 0) (dv 1) rfl))))
   ds_nil)
  ds_nil)
  (ds_cons (ds_ret (de_and (de_isk .str boot_str rfl tx.n_isinstance rfl tx.n_str (dv 0)) (de_and1 (de_cmp (os_eq hu) nx_eq (dv 0) (dv 1) rfl))))
  ds_nil)))))
theorem sc__law_names : FnScope ["_law_box_here", "_law_many", "_law_names_here", "_law_k", "_law_word", "_law_at", "_law_free", "_law_sign"] ["_law_box_here", "_law_many"] (defScope st__law_names) := ⟨rfl, rfl, rfl, by decide +kernel, rfl, by decide +kernel, by decide +kernel⟩
theorem der__law_names (tx : Txt w K mg A) (ex : Exs P w K mg base A) (O : Oks P w K mg base A j F) : FnOk P w K mg base (L2.CX P w) (j + 3) A.f__law_names A.d__law_names ["_law_box_here", "_law_many"] (spT K mg 2 (defRun 8 (b__law_names F))) := by
  have S := sc__law_names
  refine fn_T tx.u__law_names S fun cdv Ar outer s H E hr tk hp => ?_
  have hr0 := hr.mono (Nat.le_add_right _ _)
  have hr1 := hr.mono (Nat.le_succ _)
  have hr2 := hr.mono (Nat.le_add_left 2 _)
  have hu := hu65 hr
  exact (ds_cons (ds_set (i := 2) S.nd rfl (by first | exact Or.inl rfl | exact Or.inr rfl) (de_lst da_nil))
  (ds_cons (ds_for hp rfl (di_range1 rfl tx.n_range (da_cons (dv 1) da_nil)) (dg_name (i := 3) S.nd rfl (by first | exact Or.inl rfl | exact Or.inr rfl))
  (ds_cons (ds_set (i := 4) S.nd rfl (by first | exact Or.inl rfl | exact Or.inr rfl) (de_str (by decide +kernel)))
   (ds_cons (ds_for hp rfl (di_range1 rfl tx.n_range (da_cons (de_op os_add nx_add de_int (de_call (ps := ["_law_box_here", "_law_many"]) O._law_draw hr0 rfl tx.g__law_draw tx.u__law_draw.kp tx.b__law_draw tk (da_cons (dv 0) (da_cons de_int da_nil)))) da_nil)) (dg_name (i := 5) S.nd rfl (by first | exact Or.inl rfl | exact Or.inr rfl))
   (ds_cons (ds_set (i := 4) S.nd rfl (by first | exact Or.inl rfl | exact Or.inr rfl) (de_op os_add nx_add (dv 4) (de_ix (de_str (by decide +kernel)) (de_call (ps := ["_law_box_here", "_law_many"]) O._law_draw hr0 rfl tx.g__law_draw tx.u__law_draw.kp tx.b__law_draw tk (da_cons (dv 0) (da_cons de_int da_nil))))))
    ds_nil))
   (ds_cons (ds_if (dt_cmp (os_in hu) nx_in (dv 4) (dv 2) rfl)
   (ds_cons (ds_setLc (i := 6) (own := [("_law_sign", 7)]) rfl S.nd rfl rfl (sw_true rfl rfl rfl (by decide +kernel)) (di_e (de_str (by decide +kernel))) (blkOk_by rfl) (fun _ _ _ _ _ => (dg_name (i := 7) S.nd rfl (by first | exact Or.inl rfl | exact Or.inr rfl))) (fun _ _ _ _ _ => (dts_one (dt_cmp (os_notin hu) nx_notin (de_op os_add nx_add (de_sl (dv 4) do_none (do_some de_int)) (dv 7)) (dv 2) rfl))) (fun _ _ _ _ _ => (de_op os_add nx_add (de_sl (dv 4) do_none (do_some de_int)) (dv 7))))
    (ds_cons (ds_set (i := 4) S.nd rfl (by first | exact Or.inl rfl | exact Or.inr rfl) (de_ix (dv 6) de_int))
    ds_nil))
   ds_nil)
   (ds_cons (ds_expr (de_mt ms_append nx_append PySem.F.plainAttrs_list PySem.F.slot_list_append PySem.F.type_list_append (dv 2) (da_cons (dv 4) da_nil)))
   ds_nil)))))
  (ds_cons (ds_ret (dv 2))
  ds_nil)))
theorem sc__law_entries : FnScope ["_law_box_here", "_law_notes", "_law_size", "_law_menu", "_law_k"] ["_law_box_here", "_law_notes", "_law_size"] (defScope st__law_entries) := ⟨rfl, rfl, rfl, by decide +kernel, rfl, by decide +kernel, by decide +kernel⟩
theorem der__law_entries (tx : Txt w K mg A) (ex : Exs P w K mg base A) (O : Oks P w K mg base A j F) : FnOk P w K mg base (L2.CX P w) (j + 3) A.f__law_entries A.d__law_entries ["_law_box_here", "_law_notes", "_law_size"] (spT K mg 3 (defRun 5 (b__law_entries F))) := by
  have S := sc__law_entries
  refine fn_T tx.u__law_entries S fun cdv Ar outer s H E hr tk hp => ?_
  have hr0 := hr.mono (Nat.le_add_right _ _)
  have hr1 := hr.mono (Nat.le_succ _)
  have hr2 := hr.mono (Nat.le_add_left 2 _)
  have hu := hu65 hr
  exact (ds_cons (ds_set (i := 3) S.nd rfl (by first | exact Or.inl rfl | exact Or.inr rfl) (de_lst (da_cons de_non (da_cons de_non (da_cons (de_ix (dv 1) de_int) (da_cons (de_ix (dv 1) de_int) da_nil))))))
  (ds_cons (ds_ret (de_overTy cl_tup nx_tup rfl tx.n_tuple boot_tuple (dl_lc (own := [("_law_k", 4)]) rfl S.nd (di_range1 rfl tx.n_range (da_cons (dv 2) da_nil)) (blkOk_by rfl) (fun _ _ _ _ _ => (dg_name (i := 4) S.nd rfl (by first | exact Or.inl rfl | exact Or.inr rfl))) (fun _ _ _ _ _ => dts_nil) (fun _ _ _ _ _ => (de_ix (dv 3) (de_call (ps := ["_law_box_here", "_law_many"]) O._law_draw hr0 rfl tx.g__law_draw tx.u__law_draw.kp tx.b__law_draw takes0 (da_cons (dv 0) (da_cons de_int da_nil))))))))
  ds_nil))
theorem sc__law_field : FnScope ["_law_box_here", "_law_words", "_law_names_here", "_law_name", "_law_notes", "_law_first", "_law_others", "_law_other", "_law_looks", "_law_near", "_law_word", "_law_far"] ["_law_box_here", "_law_words", "_law_names_here", "_law_name", "_law_notes"] (defScope st__law_field) := ⟨rfl, rfl, rfl, by decide +kernel, rfl, by decide +kernel, by decide +kernel⟩
theorem der__law_field (tx : Txt w K mg A) (ex : Exs P w K mg base A) (O : Oks P w K mg base A j F) : FnOk P w K mg base (L2.CX P w) (j + 3) A.f__law_field A.d__law_field ["_law_box_here", "_law_words", "_law_names_here", "_law_name", "_law_notes"] (spT K mg 5 (defRun 12 (b__law_field F))) := by
  have S := sc__law_field
  refine fn_T tx.u__law_field S fun cdv Ar outer s H E hr tk hp => ?_
  have hr0 := hr.mono (Nat.le_add_right _ _)
  have hr1 := hr.mono (Nat.le_succ _)
  have hr2 := hr.mono (Nat.le_add_left 2 _)
  have hu := hu65 hr
  exact (ds_cons (ds_set (i := 5) S.nd rfl (by first | exact Or.inl rfl | exact Or.inr rfl) (de_ix (dv 1) (de_call (ps := ["_law_box_here", "_law_many"]) O._law_draw hr0 rfl tx.g__law_draw tx.u__law_draw.kp tx.b__law_draw tk (da_cons (dv 0) (da_cons (de_callB cs_len nx_len rfl tx.n_len boot_len (da_cons (dv 1) da_nil)) da_nil)))))
  (ds_cons (ds_setLc (i := 6) (own := [("_law_other", 7)]) rfl S.nd rfl rfl (sw_true rfl rfl rfl (by decide +kernel)) (di_e (dv 2)) (blkOk_by rfl) (fun _ _ _ _ _ => (dg_name (i := 7) S.nd rfl (by first | exact Or.inl rfl | exact Or.inr rfl))) (fun _ _ _ _ _ => (dts_one (dt_cmp (os_ne hu) nx_ne (dv 7) (dv 3) rfl))) (fun _ _ _ _ _ => (dv 7)))
  (ds_cons (ds_set (i := 8) S.nd rfl (by first | exact Or.inl rfl | exact Or.inr rfl) de_non)
  (ds_cons (ds_set (i := 9) S.nd rfl (by first | exact Or.inl rfl | exact Or.inr rfl) (de_call (ps := ["_law_box_here", "_law_notes", "_law_size"]) O._law_entries hr0 rfl tx.g__law_entries tx.u__law_entries.kp tx.b__law_entries tk (da_cons (dv 0) (da_cons (dv 4) (da_cons (de_callB cs_len nx_len rfl tx.n_len boot_len (da_cons (dv 1) da_nil)) da_nil)))))
  (ds_cons (ds_if (dt_w (dw_and (dt_cmp os_gt nx_gt (de_callB cs_len nx_len rfl tx.n_len boot_len (da_cons (dv 6) da_nil)) de_int rfl) (dw_and1 (dt_cmp (os_eq hu) nx_eq (de_call (ps := ["_law_box_here", "_law_many"]) O._law_draw hr0 rfl tx.g__law_draw tx.u__law_draw.kp tx.b__law_draw tk (da_cons (dv 0) (da_cons de_int da_nil))) de_int rfl))))
  (ds_cons (ds_set (i := 8) S.nd rfl (by first | exact Or.inl rfl | exact Or.inr rfl) (de_ix (dv 6) (de_call (ps := ["_law_box_here", "_law_many"]) O._law_draw hr0 rfl tx.g__law_draw tx.u__law_draw.kp tx.b__law_draw tk (da_cons (dv 0) (da_cons (de_callB cs_len nx_len rfl tx.n_len boot_len (da_cons (dv 6) da_nil)) da_nil)))))
   (ds_cons (ds_set (i := 9) S.nd rfl (by first | exact Or.inl rfl | exact Or.inr rfl) (de_overTy cl_tup nx_tup rfl tx.n_tuple boot_tuple (dl_lc (own := [("_law_word", 10)]) rfl S.nd (di_e (dv 1)) (blkOk_by rfl) (fun _ _ _ _ _ => (dg_name (i := 10) S.nd rfl (by first | exact Or.inl rfl | exact Or.inr rfl))) (fun _ _ _ _ _ => dts_nil) (fun _ _ _ _ _ => (de_call (ps := ["_law_box_here", "_law_notes", "_law_size"]) O._law_entries hr0 rfl tx.g__law_entries tx.u__law_entries.kp tx.b__law_entries takes0 (da_cons (dv 0) (da_cons (dv 4) (da_cons (de_callB cs_len nx_len rfl tx.n_len boot_len (da_cons (dv 1) da_nil)) da_nil))))))))
   ds_nil))
  ds_nil)
  (ds_cons (ds_set (i := 11) S.nd rfl (by first | exact Or.inl rfl | exact Or.inr rfl) de_non)
  (ds_cons (ds_if (dt_cmp (os_eq hu) nx_eq (de_call (ps := ["_law_box_here", "_law_many"]) O._law_draw hr0 rfl tx.g__law_draw tx.u__law_draw.kp tx.b__law_draw tk (da_cons (dv 0) (da_cons de_int da_nil))) de_int rfl)
  (ds_cons (ds_set (i := 11) S.nd rfl (by first | exact Or.inl rfl | exact Or.inr rfl) (de_call (ps := ["_law_box_here", "_law_notes", "_law_size"]) O._law_entries hr0 rfl tx.g__law_entries tx.u__law_entries.kp tx.b__law_entries tk (da_cons (dv 0) (da_cons (dv 4) (da_cons (de_callB cs_len nx_len rfl tx.n_len boot_len (da_cons (dv 1) da_nil)) da_nil)))))
   ds_nil)
  ds_nil)
  (ds_cons (ds_ret (de_tup (da_cons (dv 5) (da_cons (dv 8) (da_cons (dv 9) (da_cons (dv 11) da_nil))))))
  ds_nil))))))))
theorem sc__law_parts : FnScope ["_law_box_here", "_law_size", "_law_words", "_law_names_here", "_law_notes", "_law_fields", "_law_name"] ["_law_box_here"] (defScope st__law_parts) := ⟨rfl, rfl, rfl, by decide +kernel, rfl, by decide +kernel, by decide +kernel⟩
theorem der__law_parts (tx : Txt w K mg A) (ex : Exs P w K mg base A) (O : Oks P w K mg base A j F) : FnOk P w K mg base (L2.CX P w) (j + 3) A.f__law_parts A.d__law_parts ["_law_box_here"] (spT K mg 1 (defRun 7 (b__law_parts F))) := by
  have S := sc__law_parts
  refine fn_T tx.u__law_parts S fun cdv Ar outer s H E hr tk hp => ?_
  have hr0 := hr.mono (Nat.le_add_right _ _)
  have hr1 := hr.mono (Nat.le_succ _)
  have hr2 := hr.mono (Nat.le_add_left 2 _)
  have hu := hu65 hr
  exact (ds_cons (ds_set (i := 1) S.nd rfl (by first | exact Or.inl rfl | exact Or.inr rfl) (de_op os_add nx_add de_int (de_call (ps := ["_law_box_here", "_law_many"]) O._law_draw hr0 rfl tx.g__law_draw tx.u__law_draw.kp tx.b__law_draw tk (da_cons (dv 0) (da_cons de_int da_nil)))))
  (ds_cons (ds_set (i := 2) S.nd rfl (by first | exact Or.inl rfl | exact Or.inr rfl) (de_callTy cs_tuple nx_tuple rfl tx.n_tuple boot_tuple (da_cons (de_call (ps := ["_law_box_here", "_law_many"]) O._law_names hr0 rfl tx.g__law_names tx.u__law_names.kp tx.b__law_names tk (da_cons (dv 0) (da_cons (de_op os_add nx_add de_int (de_call (ps := ["_law_box_here", "_law_many"]) O._law_draw hr0 rfl tx.g__law_draw tx.u__law_draw.kp tx.b__law_draw tk (da_cons (dv 0) (da_cons de_int da_nil)))) da_nil))) da_nil)))
  (ds_cons (ds_set (i := 3) S.nd rfl (by first | exact Or.inl rfl | exact Or.inr rfl) (de_call (ps := ["_law_box_here", "_law_many"]) O._law_names hr0 rfl tx.g__law_names tx.u__law_names.kp tx.b__law_names tk (da_cons (dv 0) (da_cons (de_op os_add nx_add de_int (de_call (ps := ["_law_box_here", "_law_many"]) O._law_draw hr0 rfl tx.g__law_draw tx.u__law_draw.kp tx.b__law_draw tk (da_cons (dv 0) (da_cons de_int da_nil)))) da_nil))))
  (ds_cons (ds_set (i := 4) S.nd rfl (by first | exact Or.inl rfl | exact Or.inr rfl) (de_call (ps := ["_law_box_here", "_law_many"]) O._law_names hr0 rfl tx.g__law_names tx.u__law_names.kp tx.b__law_names tk (da_cons (dv 0) (da_cons de_int da_nil))))
  (ds_cons (ds_if (dt_w (dw_and (dt_cmp (os_eq hu) nx_eq (de_call (ps := ["_law_box_here", "_law_many"]) O._law_draw hr0 rfl tx.g__law_draw tx.u__law_draw.kp tx.b__law_draw tk (da_cons (dv 0) (da_cons de_int da_nil))) de_int rfl) (dw_and1 (dt_cmp (os_notin hu) nx_notin (de_ix (dv 2) de_int) (dv 3) rfl))))
  (ds_cons (ds_sub (dv 3) de_int (de_ix (dv 2) de_int))
   ds_nil)
  ds_nil)
  (ds_cons (ds_set (i := 5) S.nd rfl (by first | exact Or.inl rfl | exact Or.inr rfl) (de_overTy cl_tup nx_tup rfl tx.n_tuple boot_tuple (dl_lc (own := [("_law_name", 6)]) rfl S.nd (di_e (dv 3)) (blkOk_by rfl) (fun _ _ _ _ _ => (dg_name (i := 6) S.nd rfl (by first | exact Or.inl rfl | exact Or.inr rfl))) (fun _ _ _ _ _ => dts_nil) (fun _ _ _ _ _ => (de_tup (da_cons (dv 6) (da_cons (de_call (ps := ["_law_box_here", "_law_words", "_law_names_here", "_law_name", "_law_notes"]) O._law_field hr0 rfl tx.g__law_field tx.u__law_field.kp tx.b__law_field takes0 (da_cons (dv 0) (da_cons (dv 2) (da_cons (dv 3) (da_cons (dv 6) (da_cons (dv 4) da_nil)))))) da_nil)))))))
  (ds_cons (ds_ret (de_tup (da_cons (dv 2) (da_cons (dv 5) (da_cons (dv 1) da_nil)))))
  ds_nil)))))))
theorem sc__law_pairs : FnScope ["_law_box_here", "_law_names_here", "_law_found", "_law_one", "_law_two"] ["_law_box_here", "_law_names_here"] (defScope st__law_pairs) := ⟨rfl, rfl, rfl, by decide +kernel, rfl, by decide +kernel, by decide +kernel⟩
theorem der__law_pairs (tx : Txt w K mg A) (ex : Exs P w K mg base A) (O : Oks P w K mg base A j F) : FnOk P w K mg base (L2.CX P w) (j + 3) A.f__law_pairs A.d__law_pairs ["_law_box_here", "_law_names_here"] (spT K mg 2 (defRun 5 (b__law_pairs F))) := by
  have S := sc__law_pairs
  refine fn_T tx.u__law_pairs S fun cdv Ar outer s H E hr tk hp => ?_
  have hr0 := hr.mono (Nat.le_add_right _ _)
  have hr1 := hr.mono (Nat.le_succ _)
  have hr2 := hr.mono (Nat.le_add_left 2 _)
  have hu := hu65 hr
  exact (ds_cons (ds_set (i := 2) S.nd rfl (by first | exact Or.inl rfl | exact Or.inr rfl) (de_lst da_nil))
  (ds_cons (ds_for hp rfl (di_e (dv 1)) (dg_name (i := 3) S.nd rfl (by first | exact Or.inl rfl | exact Or.inr rfl))
  (ds_cons (ds_for hp rfl (di_e (dv 1)) (dg_name (i := 4) S.nd rfl (by first | exact Or.inl rfl | exact Or.inr rfl))
   (ds_cons (ds_if (dt_w (dw_and (dt_cmp (os_ne hu) nx_ne (dv 3) (dv 4) rfl) (dw_and1 (dt_cmp (os_eq hu) nx_eq (de_call (ps := ["_law_box_here", "_law_many"]) O._law_draw hr0 rfl tx.g__law_draw tx.u__law_draw.kp tx.b__law_draw tk (da_cons (dv 0) (da_cons de_int da_nil))) de_int rfl))))
    (ds_cons (ds_expr (de_mt ms_append nx_append PySem.F.plainAttrs_list PySem.F.slot_list_append PySem.F.type_list_append (dv 2) (da_cons (de_tup (da_cons (dv 3) (da_cons (dv 4) da_nil))) da_nil)))
     ds_nil)
    ds_nil)
    ds_nil))
   ds_nil))
  (ds_cons (ds_ret (de_callTy cs_tuple nx_tuple rfl tx.n_tuple boot_tuple (da_cons (dv 2) da_nil)))
  ds_nil)))
theorem sc__law_rule : FnScope ["_law_box_here", "_law_names_here", "_law_begins", "_law_looked", "_law_which", "_law_near", "_law_gone", "_law_kept", "_law_going"] ["_law_box_here", "_law_names_here"] (defScope st__law_rule) := ⟨rfl, rfl, rfl, by decide +kernel, rfl, by decide +kernel, by decide +kernel⟩
theorem der__law_rule (tx : Txt w K mg A) (ex : Exs P w K mg base A) (O : Oks P w K mg base A j F) : FnOk P w K mg base (L2.CX P w) (j + 3) A.f__law_rule A.d__law_rule ["_law_box_here", "_law_names_here"] (spT K mg 2 (defRun 9 (b__law_rule F))) := by
  have S := sc__law_rule
  refine fn_T tx.u__law_rule S fun cdv Ar outer s H E hr tk hp => ?_
  have hr0 := hr.mono (Nat.le_add_right _ _)
  have hr1 := hr.mono (Nat.le_succ _)
  have hr2 := hr.mono (Nat.le_add_left 2 _)
  have hu := hu65 hr
  exact (ds_cons (ds_set (i := 2) S.nd rfl (by first | exact Or.inl rfl | exact Or.inr rfl) (de_ix (de_lst (da_cons (de_str (by decide +kernel)) (da_cons (de_str (by decide +kernel)) (da_cons (de_str (by decide +kernel)) da_nil)))) (de_call (ps := ["_law_box_here", "_law_many"]) O._law_draw hr0 rfl tx.g__law_draw tx.u__law_draw.kp tx.b__law_draw tk (da_cons (dv 0) (da_cons de_int da_nil)))))
  (ds_cons (ds_set (i := 3) S.nd rfl (by first | exact Or.inl rfl | exact Or.inr rfl) (de_ix (de_lst (da_cons (de_str (by decide +kernel)) (da_cons (de_str (by decide +kernel)) da_nil))) (de_call (ps := ["_law_box_here", "_law_many"]) O._law_draw hr0 rfl tx.g__law_draw tx.u__law_draw.kp tx.b__law_draw tk (da_cons (dv 0) (da_cons de_int da_nil)))))
  (ds_cons (ds_set (i := 4) S.nd rfl (by first | exact Or.inl rfl | exact Or.inr rfl) (de_call (ps := ["_law_box_here", "_law_many"]) O._law_draw hr0 rfl tx.g__law_draw tx.u__law_draw.kp tx.b__law_draw tk (da_cons (dv 0) (da_cons de_int da_nil))))
  (ds_cons (ds_set (i := 5) S.nd rfl (by first | exact Or.inl rfl | exact Or.inr rfl) (de_ix (de_lst (da_cons (de_str (by decide +kernel)) (da_cons (de_str (by decide +kernel)) (da_cons (de_str (by decide +kernel)) da_nil)))) (dv 4)))
  (ds_cons (ds_if (dt_cmp (os_eq hu) nx_eq (dv 4) de_int rfl)
  (ds_cons (ds_set (i := 5) S.nd rfl (by first | exact Or.inl rfl | exact Or.inr rfl) (de_call (ps := ["_law_box_here", "_law_names_here"]) O._law_pairs hr0 rfl tx.g__law_pairs tx.u__law_pairs.kp tx.b__law_pairs tk (da_cons (dv 0) (da_cons (dv 1) da_nil))))
   ds_nil)
  ds_nil)
  (ds_cons (ds_set (i := 6) S.nd rfl (by first | exact Or.inl rfl | exact Or.inr rfl) (de_cmp (os_eq hu) nx_eq (de_call (ps := ["_law_box_here", "_law_many"]) O._law_draw hr0 rfl tx.g__law_draw tx.u__law_draw.kp tx.b__law_draw tk (da_cons (dv 0) (da_cons de_int da_nil))) de_int rfl))
  (ds_cons (ds_set (i := 7) S.nd rfl (by first | exact Or.inl rfl | exact Or.inr rfl) (de_ix (de_lst (da_cons (de_str (by decide +kernel)) (da_cons (de_str (by decide +kernel)) (da_cons (de_str (by decide +kernel)) da_nil)))) (de_call (ps := ["_law_box_here", "_law_many"]) O._law_draw hr0 rfl tx.g__law_draw tx.u__law_draw.kp tx.b__law_draw tk (da_cons (dv 0) (da_cons de_int da_nil)))))
  (ds_cons (ds_set (i := 8) S.nd rfl (by first | exact Or.inl rfl | exact Or.inr rfl) (de_ix (de_lst (da_cons (de_str (by decide +kernel)) (da_cons (de_str (by decide +kernel)) (da_cons (de_str (by decide +kernel)) da_nil)))) (de_call (ps := ["_law_box_here", "_law_many"]) O._law_draw hr0 rfl tx.g__law_draw tx.u__law_draw.kp tx.b__law_draw tk (da_cons (dv 0) (da_cons de_int da_nil)))))
  (ds_cons (ds_ret (de_makeK (ps := ["self", "opens", "checks", "around", "wipes", "taken", "sending"]) (ks := ["wipes", "taken", "sending"]) (dt := []) tx.m_Rule O.Rule_init hr1 rfl tx.g_Rule tx.kb_Rule_init_3_wipes_taken_sending (fun _ _ => .nil) tk (da_cons (dv 2) (da_cons (dv 3) (da_cons (dv 5) da_nil))) (dk_cons (dv 6) (dk_cons (dv 7) (dk_cons (dv 8) dk_nil))) rfl))
  ds_nil)))))))))
theorem sc_law : FnScope ["_law_script", "_law_box_here", "_law_parts_here", "_law_names_here", "_law_pair", "_law_form", "_law_words", "_law_nothing", "_law_due", "_law_k", "_law_made"] ["_law_script"] (defScope st_law) := ⟨rfl, rfl, rfl, by decide +kernel, rfl, by decide +kernel, by decide +kernel⟩
theorem der_law (tx : Txt w K mg A) (ex : Exs P w K mg base A) (O : Oks P w K mg base A j F) : FnOk P w K mg base (L2.CX P w) (j + 3) A.f_law A.d_law ["_law_script"] (spT K mg 1 (defRun 11 (b_law F))) := by
  have S := sc_law
  refine fn_T tx.u_law S fun cdv Ar outer s H E hr tk hp => ?_
  have hr0 := hr.mono (Nat.le_add_right _ _)
  have hr1 := hr.mono (Nat.le_succ _)
  have hr2 := hr.mono (Nat.le_add_left 2 _)
  have hu := hu65 hr
  exact (ds_cons (ds_set (i := 1) S.nd rfl (by first | exact Or.inl rfl | exact Or.inr rfl) (de_call (ps := ["_law_script"]) O._law_box hr0 rfl tx.g__law_box tx.u__law_box.kp tx.b__law_box tk (da_cons (dv 0) da_nil)))
  (ds_cons (ds_set (i := 2) S.nd rfl (by first | exact Or.inl rfl | exact Or.inr rfl) (de_call (ps := ["_law_box_here"]) O._law_parts hr0 rfl tx.g__law_parts tx.u__law_parts.kp tx.b__law_parts tk (da_cons (dv 1) da_nil)))
  (ds_cons (ds_setLc (i := 3) (own := [("_law_pair", 4)]) rfl S.nd rfl rfl (sw_true rfl rfl rfl (by decide +kernel)) (di_e (de_ix (dv 2) de_int)) (blkOk_by rfl) (fun _ _ _ _ _ => (dg_name (i := 4) S.nd rfl (by first | exact Or.inl rfl | exact Or.inr rfl))) (fun _ _ _ _ _ => dts_nil) (fun _ _ _ _ _ => (de_ix (dv 4) de_int)))
  (ds_cons (ds_set (i := 5) S.nd rfl (by first | exact Or.inl rfl | exact Or.inr rfl) (de_makeK (ps := ["self", "words", "fields", "room"]) (ks := ["room"]) (dt := []) tx.m_Form O.Form_init hr1 rfl tx.g_Form tx.kb_Form_init_2_room (fun _ _ => .nil) tk (da_cons (de_ix (dv 2) de_int) (da_cons (de_ix (dv 2) de_int) da_nil)) (dk_cons (de_ix (dv 2) de_int) dk_nil) rfl))
  (ds_cons (ds_set (i := 6) S.nd rfl (by first | exact Or.inl rfl | exact Or.inr rfl) (de_overTy cl_tup nx_tup rfl tx.n_tuple boot_tuple (dl_lc (own := [("_law_pair", 4)]) rfl S.nd (di_e (de_ix (dv 2) de_int)) (blkOk_by rfl) (fun _ _ _ _ _ => (dg_name (i := 4) S.nd rfl (by first | exact Or.inl rfl | exact Or.inr rfl))) (fun _ _ _ _ _ => dts_nil) (fun _ _ _ _ _ => (de_ix (de_ix (dv 4) de_int) de_int)))))
  (ds_cons (ds_set (i := 7) S.nd rfl (by first | exact Or.inl rfl | exact Or.inr rfl) (de_op os_mulT nx_mulT (de_tup (da_cons de_non da_nil)) (de_callB cs_len nx_len rfl tx.n_len boot_len (da_cons (dv 3) da_nil))))
  (ds_cons (ds_set (i := 8) S.nd rfl (by first | exact Or.inl rfl | exact Or.inr rfl) (de_tup (da_cons (dv 6) (da_cons (de_op os_mulT nx_mulT (de_tup (da_cons de_bl da_nil)) (de_callB cs_len nx_len rfl tx.n_len boot_len (da_cons (dv 3) da_nil))) (da_cons (dv 7) (da_cons (dv 7) (da_cons (de_tup da_nil) (da_cons de_bl da_nil))))))))
  (ds_cons (ds_for hp rfl (di_range1 rfl tx.n_range (da_cons de_int da_nil)) (dg_name (i := 9) S.nd rfl (by first | exact Or.inl rfl | exact Or.inr rfl))
  (ds_cons (ds_set (i := 10) S.nd rfl (by first | exact Or.inl rfl | exact Or.inr rfl) (de_call (ps := ["form", "rule"]) O.begin hr0 rfl tx.g_begin tx.u_begin.kp tx.b_begin tk (da_cons (dv 5) (da_cons (de_call (ps := ["_law_box_here", "_law_names_here"]) O._law_rule hr0 rfl tx.g__law_rule tx.u__law_rule.kp tx.b__law_rule tk (da_cons (dv 1) (da_cons (dv 3) da_nil))) da_nil))))
   (ds_cons (ds_if (dt_not (dt_val (de_call (ps := ["_law_told", "_law_due"]) O._law_same hr0 rfl tx.g__law_same tx.u__law_same.kp tx.b__law_same tk (da_cons (de_tup (da_cons (de_fld tx.cs (dv 10)) (da_cons (de_fld tx.cs (dv 10)) (da_cons (de_fld tx.cs (dv 10)) (da_cons (de_fld tx.cs (dv 10)) da_nil))))) (da_cons (de_tup (da_cons de_non (da_cons de_non (da_cons (dv 8) (da_cons (de_tup da_nil) da_nil))))) da_nil)))))
   (ds_cons (ds_ret de_bl)
    ds_nil)
   ds_nil)
   ds_nil)))
  (ds_cons (ds_ret de_bl)
  ds_nil)))))))))
theorem oks_step (tx : Txt w K mg A) (ex : Exs P w K mg base A) (O : Oks P w K mg base A j F) : Oks P w K mg base A (j + 3) (stepF F) :=
  ⟨der_is_integer tx ex O, der_is_name tx ex O, der_is_one_of tx ex O, der_are_names tx ex O, der_is_pair tx ex O, der_are_fields tx ex O, der_is_row tx ex O, der_is_near tx ex O, der_check_field tx ex O, der_Form_init tx ex O, der_Step_init tx ex O, der_begin tx ex O, der_is_name_pair tx ex O, der_are_pairs tx ex O, der_fits_part tx ex O, der_Rule_init tx ex O, der__law_mix tx ex O, der__law_box tx ex O, der__law_draw tx ex O, der__law_same tx ex O, der__law_names tx ex O, der__law_entries tx ex O, der__law_field tx ex O, der__law_parts tx ex O, der__law_pairs tx ex O, der__law_rule tx ex O, der_law tx ex O⟩
theorem oks_stk : Oks P w K mg base A 0 FF.stk := by
  constructor <;> exact ⟨fun vs H Q E h => h.1, fun Ar outer s H args us vs Q E hr e0 hb hv hs => (by obtain ⟨_, _, _, _, _, _, z⟩ := hs; exact False.elim z)⟩
theorem oks_run (tx : Txt w K mg A) (ex : Exs P w K mg base A) : ∀ k, Oks P w K mg base A (3 * k) (runF k)
  | 0 => oks_stk
  | k + 1 => oks_step tx ex (oks_run tx ex k)
end
end LW
end

section
namespace LW
open PySem PySem.Spec PyProof.Rows
open L2 W3
theorem all_mk {P : Program} {w : World} {K : PySem.W.Frag} {h : Heap} {mg : Str → Option Value} {fa : Addr} (X : K.In h) (G : h.Ns mainGlobals mg) (hfa : mg "law" = some (.ref fa))
    {C_Form : Addr}
    {C_Step : Addr}
    {C_Rule : Addr}
    {f_is_integer : Addr} {od_is_integer an_is_integer : Option Addr} {sl_is_integer : Array (Option Value)} {oc_is_integer kV_is_integer dc_is_integer pm_is_integer cd_is_integer ct_is_integer : Value}
    {f_is_name : Addr} {od_is_name an_is_name : Option Addr} {sl_is_name : Array (Option Value)} {oc_is_name kV_is_name dc_is_name pm_is_name cd_is_name ct_is_name : Value}
    {f_is_one_of : Addr} {od_is_one_of an_is_one_of : Option Addr} {sl_is_one_of : Array (Option Value)} {oc_is_one_of kV_is_one_of dc_is_one_of pm_is_one_of cd_is_one_of ct_is_one_of : Value}
    {f_are_names : Addr} {od_are_names an_are_names : Option Addr} {sl_are_names : Array (Option Value)} {oc_are_names kV_are_names dc_are_names pm_are_names cd_are_names ct_are_names : Value}
    {f_is_pair : Addr} {od_is_pair an_is_pair : Option Addr} {sl_is_pair : Array (Option Value)} {oc_is_pair kV_is_pair dc_is_pair pm_is_pair cd_is_pair ct_is_pair : Value}
    {f_are_fields : Addr} {od_are_fields an_are_fields : Option Addr} {sl_are_fields : Array (Option Value)} {oc_are_fields kV_are_fields dc_are_fields pm_are_fields cd_are_fields ct_are_fields : Value}
    {f_is_row : Addr} {od_is_row an_is_row : Option Addr} {sl_is_row : Array (Option Value)} {oc_is_row kV_is_row dc_is_row pm_is_row cd_is_row ct_is_row : Value}
    {f_is_near : Addr} {od_is_near an_is_near : Option Addr} {sl_is_near : Array (Option Value)} {oc_is_near kV_is_near dc_is_near pm_is_near cd_is_near ct_is_near : Value}
    {f_check_field : Addr} {od_check_field an_check_field : Option Addr} {sl_check_field : Array (Option Value)} {oc_check_field kV_check_field dc_check_field pm_check_field cd_check_field ct_check_field : Value}
    {f_Form_init : Addr} {od_Form_init an_Form_init : Option Addr} {sl_Form_init : Array (Option Value)} {oc_Form_init dc_Form_init pm_Form_init cd_Form_init ct_Form_init : Value}
    {D_Form_init : Addr}
    {tk_Form_init_room : Tok}
    {f_Step_init : Addr} {od_Step_init an_Step_init : Option Addr} {sl_Step_init : Array (Option Value)} {oc_Step_init kV_Step_init dc_Step_init pm_Step_init cd_Step_init ct_Step_init : Value}
    {f_begin : Addr} {od_begin an_begin : Option Addr} {sl_begin : Array (Option Value)} {oc_begin kV_begin dc_begin pm_begin cd_begin ct_begin : Value}
    {f_is_name_pair : Addr} {od_is_name_pair an_is_name_pair : Option Addr} {sl_is_name_pair : Array (Option Value)} {oc_is_name_pair kV_is_name_pair dc_is_name_pair pm_is_name_pair cd_is_name_pair ct_is_name_pair : Value}
    {f_are_pairs : Addr} {od_are_pairs an_are_pairs : Option Addr} {sl_are_pairs : Array (Option Value)} {oc_are_pairs kV_are_pairs dc_are_pairs pm_are_pairs cd_are_pairs ct_are_pairs : Value}
    {f_fits_part : Addr} {od_fits_part an_fits_part : Option Addr} {sl_fits_part : Array (Option Value)} {oc_fits_part kV_fits_part dc_fits_part pm_fits_part cd_fits_part ct_fits_part : Value}
    {f_Rule_init : Addr} {od_Rule_init an_Rule_init : Option Addr} {sl_Rule_init : Array (Option Value)} {oc_Rule_init dc_Rule_init pm_Rule_init cd_Rule_init ct_Rule_init : Value}
    {D_Rule_init : Addr}
    {tk_Rule_init_taken : Tok}
    {tk_Rule_init_sending : Tok}
    {f__law_mix : Addr} {od__law_mix an__law_mix : Option Addr} {sl__law_mix : Array (Option Value)} {oc__law_mix kV__law_mix dc__law_mix pm__law_mix cd__law_mix ct__law_mix : Value}
    {f__law_box : Addr} {od__law_box an__law_box : Option Addr} {sl__law_box : Array (Option Value)} {oc__law_box kV__law_box dc__law_box pm__law_box cd__law_box ct__law_box : Value}
    {f__law_draw : Addr} {od__law_draw an__law_draw : Option Addr} {sl__law_draw : Array (Option Value)} {oc__law_draw kV__law_draw dc__law_draw pm__law_draw cd__law_draw ct__law_draw : Value}
    {f__law_same : Addr} {od__law_same an__law_same : Option Addr} {sl__law_same : Array (Option Value)} {oc__law_same kV__law_same dc__law_same pm__law_same cd__law_same ct__law_same : Value}
    {f__law_names : Addr} {od__law_names an__law_names : Option Addr} {sl__law_names : Array (Option Value)} {oc__law_names kV__law_names dc__law_names pm__law_names cd__law_names ct__law_names : Value}
    {f__law_entries : Addr} {od__law_entries an__law_entries : Option Addr} {sl__law_entries : Array (Option Value)} {oc__law_entries kV__law_entries dc__law_entries pm__law_entries cd__law_entries ct__law_entries : Value}
    {f__law_field : Addr} {od__law_field an__law_field : Option Addr} {sl__law_field : Array (Option Value)} {oc__law_field kV__law_field dc__law_field pm__law_field cd__law_field ct__law_field : Value}
    {f__law_parts : Addr} {od__law_parts an__law_parts : Option Addr} {sl__law_parts : Array (Option Value)} {oc__law_parts kV__law_parts dc__law_parts pm__law_parts cd__law_parts ct__law_parts : Value}
    {f__law_pairs : Addr} {od__law_pairs an__law_pairs : Option Addr} {sl__law_pairs : Array (Option Value)} {oc__law_pairs kV__law_pairs dc__law_pairs pm__law_pairs cd__law_pairs ct__law_pairs : Value}
    {f__law_rule : Addr} {od__law_rule an__law_rule : Option Addr} {sl__law_rule : Array (Option Value)} {oc__law_rule kV__law_rule dc__law_rule pm__law_rule cd__law_rule ct__law_rule : Value}
    {f_law : Addr} {od_law an_law : Option Addr} {sl_law : Array (Option Value)} {oc_law kV_law dc_law pm_law cd_law ct_law : Value}
    {C_InvalidForm : Addr}
    {C_InvalidRule : Addr}
    {nm_InvalidForm q_InvalidForm : Str} {N_InvalidForm : Addr} {bs_InvalidForm bm_InvalidForm : List Value} {sn_InvalidForm : List Str} {sub_InvalidForm : List Value} {ab_InvalidForm : Bool} {col_InvalidForm : Option Bool} {dd_InvalidForm : Option Addr} {k0_InvalidForm k1_InvalidForm k2_InvalidForm k3_InvalidForm k5_InvalidForm : Option Value}
    {xf_InvalidForm xc_InvalidForm xcc_InvalidForm : Addr} {xoc_InvalidForm : Value} {xod_InvalidForm xan_InvalidForm : Option Addr} {xsl_InvalidForm xcs_InvalidForm xcsl_InvalidForm : Array (Option Value)} {xdc_InvalidForm xpm_InvalidForm xct_InvalidForm xccl_InvalidForm xcl_InvalidForm : Value} {xcdd_InvalidForm xcld_InvalidForm : Option Addr} {xfile_InvalidForm : Str} {xtf_InvalidForm : Tok} {xvs_InvalidForm : Array Value}
    {nm_InvalidRule q_InvalidRule : Str} {N_InvalidRule : Addr} {bs_InvalidRule bm_InvalidRule : List Value} {sn_InvalidRule : List Str} {sub_InvalidRule : List Value} {ab_InvalidRule : Bool} {col_InvalidRule : Option Bool} {dd_InvalidRule : Option Addr} {k0_InvalidRule k1_InvalidRule k2_InvalidRule k3_InvalidRule k5_InvalidRule : Option Value}
    {xf_InvalidRule xc_InvalidRule xcc_InvalidRule : Addr} {xoc_InvalidRule : Value} {xod_InvalidRule xan_InvalidRule : Option Addr} {xsl_InvalidRule xcs_InvalidRule xcsl_InvalidRule : Array (Option Value)} {xdc_InvalidRule xpm_InvalidRule xct_InvalidRule xccl_InvalidRule xcl_InvalidRule : Value} {xcdd_InvalidRule xcld_InvalidRule : Option Addr} {xfile_InvalidRule : Str} {xtf_InvalidRule : Tok} {xvs_InvalidRule : Array Value}
    {A_OPENS : Addr}
    {A_CHECKS : Addr}
    {A_AROUNDS : Addr}
    {A_TAKENS : Addr}
    {A_SENDINGS : Addr}
    {A_PARTS : Addr}
    {tk_LETTERS : Tok}
    {A_MENUS : Addr} {nn_MENUS : Nat} {es_MENUS : Array DictEntry}
    {nn_OPENS : Nat} {sl_OPENS : Array (Option Value)} {tk_OPENS_0 tk_OPENS_1 tk_OPENS_2 : Tok}
    {nn_CHECKS : Nat} {sl_CHECKS : Array (Option Value)} {tk_CHECKS_0 tk_CHECKS_1 : Tok}
    {nn_AROUNDS : Nat} {sl_AROUNDS : Array (Option Value)} {tk_AROUNDS_0 tk_AROUNDS_1 : Tok}
    {nn_TAKENS : Nat} {sl_TAKENS : Array (Option Value)} {tk_TAKENS_0 tk_TAKENS_1 tk_TAKENS_2 : Tok}
    {nn_SENDINGS : Nat} {sl_SENDINGS : Array (Option Value)} {tk_SENDINGS_0 tk_SENDINGS_1 tk_SENDINGS_2 : Tok}
    {nn_PARTS : Nat} {sl_PARTS : Array (Option Value)} {tk_PARTS_0 tk_PARTS_1 tk_PARTS_2 tk_PARTS_3 tk_PARTS_4 tk_PARTS_5 : Tok}
    (a_Form : PySem.W.nsIn K mainGlobals "Form" = some (some (.ref C_Form)))
    (pg_Form : PySem.W.plainGet K C_Form Str.empty = true)
    (hd_Form : PySem.W.hasDictIn K C_Form = true)
    (po_Form : PySem.W.plainOver K C_Form = true)
    (sa_Form : PySem.W.findIn K (.ref C_Form) "__setattr__" = some (some (.builtin "object.__setattr__")))
    (mk_Form : PySem.W.makesIn K C_Form = true)
    (kc_Form : PySem.W.keepIn K (.ref C_Form) = true)
    (no_Form_words : PySem.W.findIn K (.ref C_Form) "words" = some none)
    (no_Form_fields : PySem.W.findIn K (.ref C_Form) "fields" = some none)
    (no_Form_room : PySem.W.findIn K (.ref C_Form) "room" = some none)
    (a_Step : PySem.W.nsIn K mainGlobals "Step" = some (some (.ref C_Step)))
    (pg_Step : PySem.W.plainGet K C_Step Str.empty = true)
    (hd_Step : PySem.W.hasDictIn K C_Step = true)
    (po_Step : PySem.W.plainOver K C_Step = true)
    (sa_Step : PySem.W.findIn K (.ref C_Step) "__setattr__" = some (some (.builtin "object.__setattr__")))
    (mk_Step : PySem.W.makesIn K C_Step = true)
    (kc_Step : PySem.W.keepIn K (.ref C_Step) = true)
    (no_Step_deed : PySem.W.findIn K (.ref C_Step) "deed" = some none)
    (no_Step_before : PySem.W.findIn K (.ref C_Step) "before" = some none)
    (no_Step_after : PySem.W.findIn K (.ref C_Step) "after" = some none)
    (no_Step_events : PySem.W.findIn K (.ref C_Step) "events" = some none)
    (a_Rule : PySem.W.nsIn K mainGlobals "Rule" = some (some (.ref C_Rule)))
    (pg_Rule : PySem.W.plainGet K C_Rule Str.empty = true)
    (hd_Rule : PySem.W.hasDictIn K C_Rule = true)
    (po_Rule : PySem.W.plainOver K C_Rule = true)
    (sa_Rule : PySem.W.findIn K (.ref C_Rule) "__setattr__" = some (some (.builtin "object.__setattr__")))
    (mk_Rule : PySem.W.makesIn K C_Rule = true)
    (kc_Rule : PySem.W.keepIn K (.ref C_Rule) = true)
    (no_Rule_opens : PySem.W.findIn K (.ref C_Rule) "opens" = some none)
    (no_Rule_checks : PySem.W.findIn K (.ref C_Rule) "checks" = some none)
    (no_Rule_around : PySem.W.findIn K (.ref C_Rule) "around" = some none)
    (no_Rule_wipes : PySem.W.findIn K (.ref C_Rule) "wipes" = some none)
    (no_Rule_taken : PySem.W.findIn K (.ref C_Rule) "taken" = some none)
    (no_Rule_sending : PySem.W.findIn K (.ref C_Rule) "sending" = some none)
    (a_is_integer : PySem.W.nsIn K mainGlobals "is_integer" = some (some (.ref f_is_integer)))
    (l_is_integer : K.lookup f_is_integer = some ⟨oc_is_integer, od_is_integer, .func (PySem.W.fnOf "is_integer" "is_integer" (defArgs st_is_integer) (defBody st_is_integer) (defScope st_is_integer) .none kV_is_integer dc_is_integer pm_is_integer an_is_integer cd_is_integer ct_is_integer), sl_is_integer⟩)
    (c_is_integer : PySem.W.codeIn K cd_is_integer "is_integer" = true)
    (k_is_integer : PySem.W.keepIn K (.ref f_is_integer) = true)
    (a_is_name : PySem.W.nsIn K mainGlobals "is_name" = some (some (.ref f_is_name)))
    (l_is_name : K.lookup f_is_name = some ⟨oc_is_name, od_is_name, .func (PySem.W.fnOf "is_name" "is_name" (defArgs st_is_name) (defBody st_is_name) (defScope st_is_name) .none kV_is_name dc_is_name pm_is_name an_is_name cd_is_name ct_is_name), sl_is_name⟩)
    (c_is_name : PySem.W.codeIn K cd_is_name "is_name" = true)
    (k_is_name : PySem.W.keepIn K (.ref f_is_name) = true)
    (a_is_one_of : PySem.W.nsIn K mainGlobals "is_one_of" = some (some (.ref f_is_one_of)))
    (l_is_one_of : K.lookup f_is_one_of = some ⟨oc_is_one_of, od_is_one_of, .func (PySem.W.fnOf "is_one_of" "is_one_of" (defArgs st_is_one_of) (defBody st_is_one_of) (defScope st_is_one_of) .none kV_is_one_of dc_is_one_of pm_is_one_of an_is_one_of cd_is_one_of ct_is_one_of), sl_is_one_of⟩)
    (c_is_one_of : PySem.W.codeIn K cd_is_one_of "is_one_of" = true)
    (k_is_one_of : PySem.W.keepIn K (.ref f_is_one_of) = true)
    (a_are_names : PySem.W.nsIn K mainGlobals "are_names" = some (some (.ref f_are_names)))
    (l_are_names : K.lookup f_are_names = some ⟨oc_are_names, od_are_names, .func (PySem.W.fnOf "are_names" "are_names" (defArgs st_are_names) (defBody st_are_names) (defScope st_are_names) .none kV_are_names dc_are_names pm_are_names an_are_names cd_are_names ct_are_names), sl_are_names⟩)
    (c_are_names : PySem.W.codeIn K cd_are_names "are_names" = true)
    (k_are_names : PySem.W.keepIn K (.ref f_are_names) = true)
    (a_is_pair : PySem.W.nsIn K mainGlobals "is_pair" = some (some (.ref f_is_pair)))
    (l_is_pair : K.lookup f_is_pair = some ⟨oc_is_pair, od_is_pair, .func (PySem.W.fnOf "is_pair" "is_pair" (defArgs st_is_pair) (defBody st_is_pair) (defScope st_is_pair) .none kV_is_pair dc_is_pair pm_is_pair an_is_pair cd_is_pair ct_is_pair), sl_is_pair⟩)
    (c_is_pair : PySem.W.codeIn K cd_is_pair "is_pair" = true)
    (k_is_pair : PySem.W.keepIn K (.ref f_is_pair) = true)
    (a_are_fields : PySem.W.nsIn K mainGlobals "are_fields" = some (some (.ref f_are_fields)))
    (l_are_fields : K.lookup f_are_fields = some ⟨oc_are_fields, od_are_fields, .func (PySem.W.fnOf "are_fields" "are_fields" (defArgs st_are_fields) (defBody st_are_fields) (defScope st_are_fields) .none kV_are_fields dc_are_fields pm_are_fields an_are_fields cd_are_fields ct_are_fields), sl_are_fields⟩)
    (c_are_fields : PySem.W.codeIn K cd_are_fields "are_fields" = true)
    (k_are_fields : PySem.W.keepIn K (.ref f_are_fields) = true)
    (a_is_row : PySem.W.nsIn K mainGlobals "is_row" = some (some (.ref f_is_row)))
    (l_is_row : K.lookup f_is_row = some ⟨oc_is_row, od_is_row, .func (PySem.W.fnOf "is_row" "is_row" (defArgs st_is_row) (defBody st_is_row) (defScope st_is_row) .none kV_is_row dc_is_row pm_is_row an_is_row cd_is_row ct_is_row), sl_is_row⟩)
    (c_is_row : PySem.W.codeIn K cd_is_row "is_row" = true)
    (k_is_row : PySem.W.keepIn K (.ref f_is_row) = true)
    (a_is_near : PySem.W.nsIn K mainGlobals "is_near" = some (some (.ref f_is_near)))
    (l_is_near : K.lookup f_is_near = some ⟨oc_is_near, od_is_near, .func (PySem.W.fnOf "is_near" "is_near" (defArgs st_is_near) (defBody st_is_near) (defScope st_is_near) .none kV_is_near dc_is_near pm_is_near an_is_near cd_is_near ct_is_near), sl_is_near⟩)
    (c_is_near : PySem.W.codeIn K cd_is_near "is_near" = true)
    (k_is_near : PySem.W.keepIn K (.ref f_is_near) = true)
    (a_check_field : PySem.W.nsIn K mainGlobals "check_field" = some (some (.ref f_check_field)))
    (l_check_field : K.lookup f_check_field = some ⟨oc_check_field, od_check_field, .func (PySem.W.fnOf "check_field" "check_field" (defArgs st_check_field) (defBody st_check_field) (defScope st_check_field) .none kV_check_field dc_check_field pm_check_field an_check_field cd_check_field ct_check_field), sl_check_field⟩)
    (c_check_field : PySem.W.codeIn K cd_check_field "check_field" = true)
    (k_check_field : PySem.W.keepIn K (.ref f_check_field) = true)
    (a_Form_init : PySem.W.findIn K (.ref C_Form) "__init__" = some (some (.ref f_Form_init)))
    (i_Form_init : PySem.W.isFn K (.ref f_Form_init) = true)
    (l_Form_init : K.lookup f_Form_init = some ⟨oc_Form_init, od_Form_init, .func (PySem.W.fnOf "__init__" "Form.__init__" (defArgs st_Form_init) (defBody st_Form_init) (defScope st_Form_init) .none (.ref D_Form_init) dc_Form_init pm_Form_init an_Form_init cd_Form_init ct_Form_init), sl_Form_init⟩)
    (c_Form_init : PySem.W.codeIn K cd_Form_init "Form.__init__" = true)
    (k_Form_init : PySem.W.keepIn K (.ref f_Form_init) = true)
    (kd_Form_init_room : PySem.W.nsIn K D_Form_init "room" = some (some (.int 3 tk_Form_init_room)))
    (a_Step_init : PySem.W.findIn K (.ref C_Step) "__init__" = some (some (.ref f_Step_init)))
    (i_Step_init : PySem.W.isFn K (.ref f_Step_init) = true)
    (l_Step_init : K.lookup f_Step_init = some ⟨oc_Step_init, od_Step_init, .func (PySem.W.fnOf "__init__" "Step.__init__" (defArgs st_Step_init) (defBody st_Step_init) (defScope st_Step_init) .none kV_Step_init dc_Step_init pm_Step_init an_Step_init cd_Step_init ct_Step_init), sl_Step_init⟩)
    (c_Step_init : PySem.W.codeIn K cd_Step_init "Step.__init__" = true)
    (k_Step_init : PySem.W.keepIn K (.ref f_Step_init) = true)
    (a_begin : PySem.W.nsIn K mainGlobals "begin" = some (some (.ref f_begin)))
    (l_begin : K.lookup f_begin = some ⟨oc_begin, od_begin, .func (PySem.W.fnOf "begin" "begin" (defArgs st_begin) (defBody st_begin) (defScope st_begin) .none kV_begin dc_begin pm_begin an_begin cd_begin ct_begin), sl_begin⟩)
    (c_begin : PySem.W.codeIn K cd_begin "begin" = true)
    (k_begin : PySem.W.keepIn K (.ref f_begin) = true)
    (a_is_name_pair : PySem.W.nsIn K mainGlobals "is_name_pair" = some (some (.ref f_is_name_pair)))
    (l_is_name_pair : K.lookup f_is_name_pair = some ⟨oc_is_name_pair, od_is_name_pair, .func (PySem.W.fnOf "is_name_pair" "is_name_pair" (defArgs st_is_name_pair) (defBody st_is_name_pair) (defScope st_is_name_pair) .none kV_is_name_pair dc_is_name_pair pm_is_name_pair an_is_name_pair cd_is_name_pair ct_is_name_pair), sl_is_name_pair⟩)
    (c_is_name_pair : PySem.W.codeIn K cd_is_name_pair "is_name_pair" = true)
    (k_is_name_pair : PySem.W.keepIn K (.ref f_is_name_pair) = true)
    (a_are_pairs : PySem.W.nsIn K mainGlobals "are_pairs" = some (some (.ref f_are_pairs)))
    (l_are_pairs : K.lookup f_are_pairs = some ⟨oc_are_pairs, od_are_pairs, .func (PySem.W.fnOf "are_pairs" "are_pairs" (defArgs st_are_pairs) (defBody st_are_pairs) (defScope st_are_pairs) .none kV_are_pairs dc_are_pairs pm_are_pairs an_are_pairs cd_are_pairs ct_are_pairs), sl_are_pairs⟩)
    (c_are_pairs : PySem.W.codeIn K cd_are_pairs "are_pairs" = true)
    (k_are_pairs : PySem.W.keepIn K (.ref f_are_pairs) = true)
    (a_fits_part : PySem.W.nsIn K mainGlobals "fits_part" = some (some (.ref f_fits_part)))
    (l_fits_part : K.lookup f_fits_part = some ⟨oc_fits_part, od_fits_part, .func (PySem.W.fnOf "fits_part" "fits_part" (defArgs st_fits_part) (defBody st_fits_part) (defScope st_fits_part) .none kV_fits_part dc_fits_part pm_fits_part an_fits_part cd_fits_part ct_fits_part), sl_fits_part⟩)
    (c_fits_part : PySem.W.codeIn K cd_fits_part "fits_part" = true)
    (k_fits_part : PySem.W.keepIn K (.ref f_fits_part) = true)
    (a_Rule_init : PySem.W.findIn K (.ref C_Rule) "__init__" = some (some (.ref f_Rule_init)))
    (i_Rule_init : PySem.W.isFn K (.ref f_Rule_init) = true)
    (l_Rule_init : K.lookup f_Rule_init = some ⟨oc_Rule_init, od_Rule_init, .func (PySem.W.fnOf "__init__" "Rule.__init__" (defArgs st_Rule_init) (defBody st_Rule_init) (defScope st_Rule_init) .none (.ref D_Rule_init) dc_Rule_init pm_Rule_init an_Rule_init cd_Rule_init ct_Rule_init), sl_Rule_init⟩)
    (c_Rule_init : PySem.W.codeIn K cd_Rule_init "Rule.__init__" = true)
    (k_Rule_init : PySem.W.keepIn K (.ref f_Rule_init) = true)
    (kd_Rule_init_wipes : PySem.W.nsIn K D_Rule_init "wipes" = some (some (.bool false)))
    (kd_Rule_init_taken : PySem.W.nsIn K D_Rule_init "taken" = some (some (.str "same" tk_Rule_init_taken)))
    (kd_Rule_init_sending : PySem.W.nsIn K D_Rule_init "sending" = some (some (.str "wait" tk_Rule_init_sending)))
    (a__law_mix : PySem.W.nsIn K mainGlobals "_law_mix" = some (some (.ref f__law_mix)))
    (l__law_mix : K.lookup f__law_mix = some ⟨oc__law_mix, od__law_mix, .func (PySem.W.fnOf "_law_mix" "_law_mix" (defArgs st__law_mix) (defBody st__law_mix) (defScope st__law_mix) .none kV__law_mix dc__law_mix pm__law_mix an__law_mix cd__law_mix ct__law_mix), sl__law_mix⟩)
    (c__law_mix : PySem.W.codeIn K cd__law_mix "_law_mix" = true)
    (k__law_mix : PySem.W.keepIn K (.ref f__law_mix) = true)
    (a__law_box : PySem.W.nsIn K mainGlobals "_law_box" = some (some (.ref f__law_box)))
    (l__law_box : K.lookup f__law_box = some ⟨oc__law_box, od__law_box, .func (PySem.W.fnOf "_law_box" "_law_box" (defArgs st__law_box) (defBody st__law_box) (defScope st__law_box) .none kV__law_box dc__law_box pm__law_box an__law_box cd__law_box ct__law_box), sl__law_box⟩)
    (c__law_box : PySem.W.codeIn K cd__law_box "_law_box" = true)
    (k__law_box : PySem.W.keepIn K (.ref f__law_box) = true)
    (a__law_draw : PySem.W.nsIn K mainGlobals "_law_draw" = some (some (.ref f__law_draw)))
    (l__law_draw : K.lookup f__law_draw = some ⟨oc__law_draw, od__law_draw, .func (PySem.W.fnOf "_law_draw" "_law_draw" (defArgs st__law_draw) (defBody st__law_draw) (defScope st__law_draw) .none kV__law_draw dc__law_draw pm__law_draw an__law_draw cd__law_draw ct__law_draw), sl__law_draw⟩)
    (c__law_draw : PySem.W.codeIn K cd__law_draw "_law_draw" = true)
    (k__law_draw : PySem.W.keepIn K (.ref f__law_draw) = true)
    (a__law_same : PySem.W.nsIn K mainGlobals "_law_same" = some (some (.ref f__law_same)))
    (l__law_same : K.lookup f__law_same = some ⟨oc__law_same, od__law_same, .func (PySem.W.fnOf "_law_same" "_law_same" (defArgs st__law_same) (defBody st__law_same) (defScope st__law_same) .none kV__law_same dc__law_same pm__law_same an__law_same cd__law_same ct__law_same), sl__law_same⟩)
    (c__law_same : PySem.W.codeIn K cd__law_same "_law_same" = true)
    (k__law_same : PySem.W.keepIn K (.ref f__law_same) = true)
    (a__law_names : PySem.W.nsIn K mainGlobals "_law_names" = some (some (.ref f__law_names)))
    (l__law_names : K.lookup f__law_names = some ⟨oc__law_names, od__law_names, .func (PySem.W.fnOf "_law_names" "_law_names" (defArgs st__law_names) (defBody st__law_names) (defScope st__law_names) .none kV__law_names dc__law_names pm__law_names an__law_names cd__law_names ct__law_names), sl__law_names⟩)
    (c__law_names : PySem.W.codeIn K cd__law_names "_law_names" = true)
    (k__law_names : PySem.W.keepIn K (.ref f__law_names) = true)
    (a__law_entries : PySem.W.nsIn K mainGlobals "_law_entries" = some (some (.ref f__law_entries)))
    (l__law_entries : K.lookup f__law_entries = some ⟨oc__law_entries, od__law_entries, .func (PySem.W.fnOf "_law_entries" "_law_entries" (defArgs st__law_entries) (defBody st__law_entries) (defScope st__law_entries) .none kV__law_entries dc__law_entries pm__law_entries an__law_entries cd__law_entries ct__law_entries), sl__law_entries⟩)
    (c__law_entries : PySem.W.codeIn K cd__law_entries "_law_entries" = true)
    (k__law_entries : PySem.W.keepIn K (.ref f__law_entries) = true)
    (a__law_field : PySem.W.nsIn K mainGlobals "_law_field" = some (some (.ref f__law_field)))
    (l__law_field : K.lookup f__law_field = some ⟨oc__law_field, od__law_field, .func (PySem.W.fnOf "_law_field" "_law_field" (defArgs st__law_field) (defBody st__law_field) (defScope st__law_field) .none kV__law_field dc__law_field pm__law_field an__law_field cd__law_field ct__law_field), sl__law_field⟩)
    (c__law_field : PySem.W.codeIn K cd__law_field "_law_field" = true)
    (k__law_field : PySem.W.keepIn K (.ref f__law_field) = true)
    (a__law_parts : PySem.W.nsIn K mainGlobals "_law_parts" = some (some (.ref f__law_parts)))
    (l__law_parts : K.lookup f__law_parts = some ⟨oc__law_parts, od__law_parts, .func (PySem.W.fnOf "_law_parts" "_law_parts" (defArgs st__law_parts) (defBody st__law_parts) (defScope st__law_parts) .none kV__law_parts dc__law_parts pm__law_parts an__law_parts cd__law_parts ct__law_parts), sl__law_parts⟩)
    (c__law_parts : PySem.W.codeIn K cd__law_parts "_law_parts" = true)
    (k__law_parts : PySem.W.keepIn K (.ref f__law_parts) = true)
    (a__law_pairs : PySem.W.nsIn K mainGlobals "_law_pairs" = some (some (.ref f__law_pairs)))
    (l__law_pairs : K.lookup f__law_pairs = some ⟨oc__law_pairs, od__law_pairs, .func (PySem.W.fnOf "_law_pairs" "_law_pairs" (defArgs st__law_pairs) (defBody st__law_pairs) (defScope st__law_pairs) .none kV__law_pairs dc__law_pairs pm__law_pairs an__law_pairs cd__law_pairs ct__law_pairs), sl__law_pairs⟩)
    (c__law_pairs : PySem.W.codeIn K cd__law_pairs "_law_pairs" = true)
    (k__law_pairs : PySem.W.keepIn K (.ref f__law_pairs) = true)
    (a__law_rule : PySem.W.nsIn K mainGlobals "_law_rule" = some (some (.ref f__law_rule)))
    (l__law_rule : K.lookup f__law_rule = some ⟨oc__law_rule, od__law_rule, .func (PySem.W.fnOf "_law_rule" "_law_rule" (defArgs st__law_rule) (defBody st__law_rule) (defScope st__law_rule) .none kV__law_rule dc__law_rule pm__law_rule an__law_rule cd__law_rule ct__law_rule), sl__law_rule⟩)
    (c__law_rule : PySem.W.codeIn K cd__law_rule "_law_rule" = true)
    (k__law_rule : PySem.W.keepIn K (.ref f__law_rule) = true)
    (a_law : PySem.W.nsIn K mainGlobals "law" = some (some (.ref f_law)))
    (l_law : K.lookup f_law = some ⟨oc_law, od_law, .func (PySem.W.fnOf "law" "law" (defArgs st_law) (defBody st_law) (defScope st_law) .none kV_law dc_law pm_law an_law cd_law ct_law), sl_law⟩)
    (c_law : PySem.W.codeIn K cd_law "law" = true)
    (k_law : PySem.W.keepIn K (.ref f_law) = true)
    (a_InvalidForm : PySem.W.nsIn K mainGlobals "InvalidForm" = some (some (.ref C_InvalidForm)))
    (a_InvalidRule : PySem.W.nsIn K mainGlobals "InvalidRule" = some (some (.ref C_InvalidRule)))
    (opq : PySem.W.nsIn K cStatics "thirdparty.any" = some none)
    (tops : (P.main.scope.names.lookup ("super" : Str)).isSome = false)
    (spc : PySem.W.specialIn K (.builtin "object.__class__") "__get__" = some (some (.builtin "getset_descriptor.__get__")))
    (tki : PySem.W.takesIn K (.builtin "object.__class__") = some true)
    (lx_InvalidForm : K.lookup C_InvalidForm = some (excClassObj nm_InvalidForm q_InvalidForm C_InvalidForm N_InvalidForm bs_InvalidForm bm_InvalidForm true sn_InvalidForm sub_InvalidForm ab_InvalidForm col_InvalidForm dd_InvalidForm k0_InvalidForm k1_InvalidForm k2_InvalidForm k3_InvalidForm k5_InvalidForm "ValueError.__new__"))
    (ve_InvalidForm : PySem.HandSPX.refsVE bm_InvalidForm = true)
    (xsa_InvalidForm : PySem.W.findIn K (.ref C_InvalidForm) "__setattr__" = some (some (.builtin "object.__setattr__")))
    (xbe_InvalidForm : PySem.W.subIn K (.ref C_InvalidForm) (.type "BaseException") = some true)
    (xty_InvalidForm : PySem.W.typeIn K (.ref C_InvalidForm) = some (.type "type"))
    (xk_InvalidForm : PySem.W.keepIn K (.ref C_InvalidForm) = true)
    (xi_InvalidForm : PySem.W.findIn K (.ref C_InvalidForm) "__init__" = some (some (.ref xf_InvalidForm)))
    (xt_InvalidForm : PySem.W.typeIn K (.ref xf_InvalidForm) = some (.type "function"))
    (xl_InvalidForm : K.lookup xf_InvalidForm = some ⟨xoc_InvalidForm, xod_InvalidForm, .func (fdE "__init__" "InvalidForm.__init__" (defArgs st_x_InvalidForm) (defBody st_x_InvalidForm) (defScope st_x_InvalidForm) xcc_InvalidForm xc_InvalidForm xdc_InvalidForm xpm_InvalidForm xct_InvalidForm xan_InvalidForm), xsl_InvalidForm⟩)
    (xcd_InvalidForm : PySem.W.codeIn K (.ref xc_InvalidForm) "InvalidForm.__init__" = true)
    (xce_InvalidForm : K.lookup xcc_InvalidForm = some ⟨xcl_InvalidForm, xcld_InvalidForm, .cell (some (.ref C_InvalidForm)), xcsl_InvalidForm⟩)
    (xco_InvalidForm : K.lookup xc_InvalidForm = some ⟨xccl_InvalidForm, xcdd_InvalidForm, .fields xvs_InvalidForm, xcs_InvalidForm⟩)
    (xv2_InvalidForm : xvs_InvalidForm[2]? = some (.str xfile_InvalidForm xtf_InvalidForm))
    (xfi_InvalidForm : ((P.main.file : Str) == xfile_InvalidForm) = true)
    (xsu_InvalidForm : PySem.W.ks_superIn K C_InvalidForm C_InvalidForm "__init__" = some (some (.builtin "ValueError.__init__")))
    (xsv_InvalidForm : PySem.W.subIn K (.ref C_InvalidForm) (.type "ValueError") = some true)
    (xmr_InvalidForm : PySem.W.mroIn K C_InvalidForm (.ref C_InvalidForm) = some true)
    (xga_InvalidForm : PySem.W.findIn K (.ref C_InvalidForm) "__getattribute__" = some (some (.builtin "BaseException.__getattribute__")))
    (xgt_InvalidForm : PySem.W.findIn K (.ref C_InvalidForm) "__getattr__" = some none)
    (xcl_InvalidForm : PySem.W.findIn K (.ref C_InvalidForm) "__class__" = some (some (.builtin "object.__class__")))
    (xhd_InvalidForm : PySem.W.hasDictIn K C_InvalidForm = true)
    (xob_InvalidForm : PySem.W.mroIn K C_InvalidForm (.type "object") = some true)
    (xno_InvalidForm_field : PySem.W.findIn K (.ref C_InvalidForm) "field" = some none)
    (xno_InvalidForm_part : PySem.W.findIn K (.ref C_InvalidForm) "part" = some none)
    (lx_InvalidRule : K.lookup C_InvalidRule = some (excClassObj nm_InvalidRule q_InvalidRule C_InvalidRule N_InvalidRule bs_InvalidRule bm_InvalidRule true sn_InvalidRule sub_InvalidRule ab_InvalidRule col_InvalidRule dd_InvalidRule k0_InvalidRule k1_InvalidRule k2_InvalidRule k3_InvalidRule k5_InvalidRule "ValueError.__new__"))
    (ve_InvalidRule : PySem.HandSPX.refsVE bm_InvalidRule = true)
    (xsa_InvalidRule : PySem.W.findIn K (.ref C_InvalidRule) "__setattr__" = some (some (.builtin "object.__setattr__")))
    (xbe_InvalidRule : PySem.W.subIn K (.ref C_InvalidRule) (.type "BaseException") = some true)
    (xty_InvalidRule : PySem.W.typeIn K (.ref C_InvalidRule) = some (.type "type"))
    (xk_InvalidRule : PySem.W.keepIn K (.ref C_InvalidRule) = true)
    (xi_InvalidRule : PySem.W.findIn K (.ref C_InvalidRule) "__init__" = some (some (.ref xf_InvalidRule)))
    (xt_InvalidRule : PySem.W.typeIn K (.ref xf_InvalidRule) = some (.type "function"))
    (xl_InvalidRule : K.lookup xf_InvalidRule = some ⟨xoc_InvalidRule, xod_InvalidRule, .func (fdE "__init__" "InvalidRule.__init__" (defArgs st_x_InvalidRule) (defBody st_x_InvalidRule) (defScope st_x_InvalidRule) xcc_InvalidRule xc_InvalidRule xdc_InvalidRule xpm_InvalidRule xct_InvalidRule xan_InvalidRule), xsl_InvalidRule⟩)
    (xcd_InvalidRule : PySem.W.codeIn K (.ref xc_InvalidRule) "InvalidRule.__init__" = true)
    (xce_InvalidRule : K.lookup xcc_InvalidRule = some ⟨xcl_InvalidRule, xcld_InvalidRule, .cell (some (.ref C_InvalidRule)), xcsl_InvalidRule⟩)
    (xco_InvalidRule : K.lookup xc_InvalidRule = some ⟨xccl_InvalidRule, xcdd_InvalidRule, .fields xvs_InvalidRule, xcs_InvalidRule⟩)
    (xv2_InvalidRule : xvs_InvalidRule[2]? = some (.str xfile_InvalidRule xtf_InvalidRule))
    (xfi_InvalidRule : ((P.main.file : Str) == xfile_InvalidRule) = true)
    (xsu_InvalidRule : PySem.W.ks_superIn K C_InvalidRule C_InvalidRule "__init__" = some (some (.builtin "ValueError.__init__")))
    (xsv_InvalidRule : PySem.W.subIn K (.ref C_InvalidRule) (.type "ValueError") = some true)
    (xmr_InvalidRule : PySem.W.mroIn K C_InvalidRule (.ref C_InvalidRule) = some true)
    (xga_InvalidRule : PySem.W.findIn K (.ref C_InvalidRule) "__getattribute__" = some (some (.builtin "BaseException.__getattribute__")))
    (xgt_InvalidRule : PySem.W.findIn K (.ref C_InvalidRule) "__getattr__" = some none)
    (xcl_InvalidRule : PySem.W.findIn K (.ref C_InvalidRule) "__class__" = some (some (.builtin "object.__class__")))
    (xhd_InvalidRule : PySem.W.hasDictIn K C_InvalidRule = true)
    (xob_InvalidRule : PySem.W.mroIn K C_InvalidRule (.type "object") = some true)
    (xno_InvalidRule_part : PySem.W.findIn K (.ref C_InvalidRule) "part" = some none)
    (g_LETTERS : PySem.W.nsIn K mainGlobals "LETTERS" = some (some (.str "abcdefghijklmnopqrstuvwxyz" tk_LETTERS)))
    (g_MENUS : PySem.W.nsIn K mainGlobals "MENUS" = some (some (.ref A_MENUS)))
    (kd_MENUS : K.lookup A_MENUS = some ⟨.type "dict", none, .dict es_MENUS nn_MENUS, #[]⟩)
    (kl_MENUS : PySem.W.KeysLit w.params es_MENUS.toList)
    (kk_MENUS_opens : PySem.W.nsIn K A_MENUS "opens" = some (some (.ref A_OPENS)))
    (kk_MENUS_checks : PySem.W.nsIn K A_MENUS "checks" = some (some (.ref A_CHECKS)))
    (kk_MENUS_around : PySem.W.nsIn K A_MENUS "around" = some (some (.ref A_AROUNDS)))
    (kk_MENUS_taken : PySem.W.nsIn K A_MENUS "taken" = some (some (.ref A_TAKENS)))
    (kk_MENUS_sending : PySem.W.nsIn K A_MENUS "sending" = some (some (.ref A_SENDINGS)))
    (g_PARTS : PySem.W.nsIn K mainGlobals "PARTS" = some (some (.ref A_PARTS)))
    (kt_OPENS : K.lookup A_OPENS = some ⟨.type "tuple", none, .seq #[.str "enter" tk_OPENS_0, .str "leave" tk_OPENS_1, .str "send" tk_OPENS_2] nn_OPENS, sl_OPENS⟩)
    (kt_CHECKS : K.lookup A_CHECKS = some ⟨.type "tuple", none, .seq #[.str "enter" tk_CHECKS_0, .str "leave" tk_CHECKS_1] nn_CHECKS, sl_CHECKS⟩)
    (kt_AROUNDS : K.lookup A_AROUNDS = some ⟨.type "tuple", none, .seq #[.str "own" tk_AROUNDS_0, .str "looks" tk_AROUNDS_1] nn_AROUNDS, sl_AROUNDS⟩)
    (kt_TAKENS : K.lookup A_TAKENS = some ⟨.type "tuple", none, .seq #[.str "any" tk_TAKENS_0, .str "same" tk_TAKENS_1, .str "last" tk_TAKENS_2] nn_TAKENS, sl_TAKENS⟩)
    (kt_SENDINGS : K.lookup A_SENDINGS = some ⟨.type "tuple", none, .seq #[.str "bar" tk_SENDINGS_0, .str "wait" tk_SENDINGS_1, .str "go" tk_SENDINGS_2] nn_SENDINGS, sl_SENDINGS⟩)
    (kt_PARTS : K.lookup A_PARTS = some ⟨.type "tuple", none, .seq #[.str "opens" tk_PARTS_0, .str "checks" tk_PARTS_1, .str "around" tk_PARTS_2, .str "wipes" tk_PARTS_3, .str "taken" tk_PARTS_4, .str "sending" tk_PARTS_5] nn_PARTS, sl_PARTS⟩)
    (z_all : PySem.W.nsIn K mainGlobals "all" = some none)
    (z_bool : PySem.W.nsIn K mainGlobals "bool" = some none)
    (z_int : PySem.W.nsIn K mainGlobals "int" = some none)
    (z_isinstance : PySem.W.nsIn K mainGlobals "isinstance" = some none)
    (z_len : PySem.W.nsIn K mainGlobals "len" = some none)
    (z_list : PySem.W.nsIn K mainGlobals "list" = some none)
    (z_range : PySem.W.nsIn K mainGlobals "range" = some none)
    (z_set : PySem.W.nsIn K mainGlobals "set" = some none)
    (z_sorted : PySem.W.nsIn K mainGlobals "sorted" = some none)
    (z_str : PySem.W.nsIn K mainGlobals "str" = some none)
    (z_super : PySem.W.nsIn K mainGlobals "super" = some none)
    (z_tuple : PySem.W.nsIn K mainGlobals "tuple" = some none)
    (z_zip : PySem.W.nsIn K mainGlobals "zip" = some none)
    (n : Nat) : ∃ fd : FuncData, (∀ (s : Shared) (v : Value), BindsTo s fd ⟨[v], []⟩ [("_law_script", v)]) ∧ ∀ base : Heap, K.In base → base.Ns mainGlobals mg → FnOk P w K mg base (L2.CX P w) (3 * n) fa fd ["_law_script"] (spL K (runF n).law) := by
  obtain rfl : f_law = fa := by
    have e := hfa.symm.trans (PySem.W.mg_of X G a_law)
    cases e
    rfl
  have U_is_integer := fun_mk (st := st_is_integer) l_is_integer c_is_integer k_is_integer
  have B_is_integer := U_is_integer.binds (ps := ["value"]) fun _ _ _ _ _ _ us hl => match us, hl with | [_], _ => rfl
  have U_is_name := fun_mk (st := st_is_name) l_is_name c_is_name k_is_name
  have B_is_name := U_is_name.binds (ps := ["value"]) fun _ _ _ _ _ _ us hl => match us, hl with | [_], _ => rfl
  have U_is_one_of := fun_mk (st := st_is_one_of) l_is_one_of c_is_one_of k_is_one_of
  have B_is_one_of := U_is_one_of.binds (ps := ["value", "names"]) fun _ _ _ _ _ _ us hl => match us, hl with | [_, _], _ => rfl
  have U_are_names := fun_mk (st := st_are_names) l_are_names c_are_names k_are_names
  have B_are_names := U_are_names.binds (ps := ["value", "least", "most"]) fun _ _ _ _ _ _ us hl => match us, hl with | [_, _, _], _ => rfl
  have U_is_pair := fun_mk (st := st_is_pair) l_is_pair c_is_pair k_is_pair
  have B_is_pair := U_is_pair.binds (ps := ["value"]) fun _ _ _ _ _ _ us hl => match us, hl with | [_], _ => rfl
  have U_are_fields := fun_mk (st := st_are_fields) l_are_fields c_are_fields k_are_fields
  have B_are_fields := U_are_fields.binds (ps := ["value"]) fun _ _ _ _ _ _ us hl => match us, hl with | [_], _ => rfl
  have U_is_row := fun_mk (st := st_is_row) l_is_row c_is_row k_is_row
  have B_is_row := U_is_row.binds (ps := ["value", "size"]) fun _ _ _ _ _ _ us hl => match us, hl with | [_, _], _ => rfl
  have U_is_near := fun_mk (st := st_is_near) l_is_near c_is_near k_is_near
  have B_is_near := U_is_near.binds (ps := ["value", "looks", "size"]) fun _ _ _ _ _ _ us hl => match us, hl with | [_, _, _], _ => rfl
  have U_check_field := fun_mk (st := st_check_field) l_check_field c_check_field k_check_field
  have B_check_field := U_check_field.binds (ps := ["name", "parts", "words", "names"]) fun _ _ _ _ _ _ us hl => match us, hl with | [_, _, _, _], _ => rfl
  have U_Form_init : FunD K "__init__" "Form.__init__" (defArgs st_Form_init) (defBody st_Form_init) (defScope st_Form_init) [] [("room", .int 3)] f_Form_init _ := ⟨⟨_, _, _, _, _, _, _, _, _, _, rfl, l_Form_init, c_Form_init, .inl ⟨rfl, rfl⟩, .inr ⟨D_Form_init, rfl, fun z hz => (by
    simp only [List.mem_cons, List.not_mem_nil, or_false] at hz
    rcases hz with rfl
    · exact ⟨_, kd_Form_init_room, ⟨_, rfl⟩⟩)⟩⟩, k_Form_init⟩
  have U_Step_init := fun_mk (st := st_Step_init) l_Step_init c_Step_init k_Step_init
  have B_Step_init := U_Step_init.binds (ps := ["self", "deed", "before", "after", "events"]) fun _ _ _ _ _ _ us hl => match us, hl with | [_, _, _, _, _], _ => rfl
  have U_begin := fun_mk (st := st_begin) l_begin c_begin k_begin
  have B_begin := U_begin.binds (ps := ["form", "rule"]) fun _ _ _ _ _ _ us hl => match us, hl with | [_, _], _ => rfl
  have U_is_name_pair := fun_mk (st := st_is_name_pair) l_is_name_pair c_is_name_pair k_is_name_pair
  have B_is_name_pair := U_is_name_pair.binds (ps := ["value"]) fun _ _ _ _ _ _ us hl => match us, hl with | [_], _ => rfl
  have U_are_pairs := fun_mk (st := st_are_pairs) l_are_pairs c_are_pairs k_are_pairs
  have B_are_pairs := U_are_pairs.binds (ps := ["value"]) fun _ _ _ _ _ _ us hl => match us, hl with | [_], _ => rfl
  have U_fits_part := fun_mk (st := st_fits_part) l_fits_part c_fits_part k_fits_part
  have B_fits_part := U_fits_part.binds (ps := ["part", "value"]) fun _ _ _ _ _ _ us hl => match us, hl with | [_, _], _ => rfl
  have U_Rule_init : FunD K "__init__" "Rule.__init__" (defArgs st_Rule_init) (defBody st_Rule_init) (defScope st_Rule_init) [] [("wipes", .bl false), ("taken", .str "same"), ("sending", .str "wait")] f_Rule_init _ := ⟨⟨_, _, _, _, _, _, _, _, _, _, rfl, l_Rule_init, c_Rule_init, .inl ⟨rfl, rfl⟩, .inr ⟨D_Rule_init, rfl, fun z hz => (by
    simp only [List.mem_cons, List.not_mem_nil, or_false] at hz
    rcases hz with rfl | rfl | rfl
    · exact ⟨_, kd_Rule_init_wipes, rfl⟩
    · exact ⟨_, kd_Rule_init_taken, ⟨_, rfl⟩⟩
    · exact ⟨_, kd_Rule_init_sending, ⟨_, rfl⟩⟩)⟩⟩, k_Rule_init⟩
  have U__law_mix := fun_mk (st := st__law_mix) l__law_mix c__law_mix k__law_mix
  have B__law_mix := U__law_mix.binds (ps := ["_law_value", "_law_k"]) fun _ _ _ _ _ _ us hl => match us, hl with | [_, _], _ => rfl
  have U__law_box := fun_mk (st := st__law_box) l__law_box c__law_box k__law_box
  have B__law_box := U__law_box.binds (ps := ["_law_script"]) fun _ _ _ _ _ _ us hl => match us, hl with | [_], _ => rfl
  have U__law_draw := fun_mk (st := st__law_draw) l__law_draw c__law_draw k__law_draw
  have B__law_draw := U__law_draw.binds (ps := ["_law_box_here", "_law_many"]) fun _ _ _ _ _ _ us hl => match us, hl with | [_, _], _ => rfl
  have U__law_same := fun_mk (st := st__law_same) l__law_same c__law_same k__law_same
  have B__law_same := U__law_same.binds (ps := ["_law_told", "_law_due"]) fun _ _ _ _ _ _ us hl => match us, hl with | [_, _], _ => rfl
  have U__law_names := fun_mk (st := st__law_names) l__law_names c__law_names k__law_names
  have B__law_names := U__law_names.binds (ps := ["_law_box_here", "_law_many"]) fun _ _ _ _ _ _ us hl => match us, hl with | [_, _], _ => rfl
  have U__law_entries := fun_mk (st := st__law_entries) l__law_entries c__law_entries k__law_entries
  have B__law_entries := U__law_entries.binds (ps := ["_law_box_here", "_law_notes", "_law_size"]) fun _ _ _ _ _ _ us hl => match us, hl with | [_, _, _], _ => rfl
  have U__law_field := fun_mk (st := st__law_field) l__law_field c__law_field k__law_field
  have B__law_field := U__law_field.binds (ps := ["_law_box_here", "_law_words", "_law_names_here", "_law_name", "_law_notes"]) fun _ _ _ _ _ _ us hl => match us, hl with | [_, _, _, _, _], _ => rfl
  have U__law_parts := fun_mk (st := st__law_parts) l__law_parts c__law_parts k__law_parts
  have B__law_parts := U__law_parts.binds (ps := ["_law_box_here"]) fun _ _ _ _ _ _ us hl => match us, hl with | [_], _ => rfl
  have U__law_pairs := fun_mk (st := st__law_pairs) l__law_pairs c__law_pairs k__law_pairs
  have B__law_pairs := U__law_pairs.binds (ps := ["_law_box_here", "_law_names_here"]) fun _ _ _ _ _ _ us hl => match us, hl with | [_, _], _ => rfl
  have U__law_rule := fun_mk (st := st__law_rule) l__law_rule c__law_rule k__law_rule
  have B__law_rule := U__law_rule.binds (ps := ["_law_box_here", "_law_names_here"]) fun _ _ _ _ _ _ us hl => match us, hl with | [_, _], _ => rfl
  have U_law := fun_mk (st := st_law) l_law c_law k_law
  have B_law := U_law.binds (ps := ["_law_script"]) fun _ _ _ _ _ _ us hl => match us, hl with | [_], _ => rfl
  have KB_kb_Form_init_2_room := U_Form_init.kbinds0 (ps := ["self", "words", "fields", "room"]) 3 ["room"] [] (fun us mv ws => us ++ weave [true] mv ws) (by simp) (by simp) (fun r1 r2 r3 => Vals.append r1 (Vals.weave [true] r2 r3)) (fun _ _ _ _ _ _ us mv ws h1 h2 h3 => match us, mv, ws, h1, h2, h3 with | [_, _, _], [], [_], _, _, _ => rfl)
  have KB_kb_Rule_init_3_wipes_taken_sending := U_Rule_init.kbinds0 (ps := ["self", "opens", "checks", "around", "wipes", "taken", "sending"]) 4 ["wipes", "taken", "sending"] [] (fun us mv ws => us ++ weave [true, true, true] mv ws) (by simp) (by simp) (fun r1 r2 r3 => Vals.append r1 (Vals.weave [true, true, true] r2 r3)) (fun _ _ _ _ _ _ us mv ws h1 h2 h3 => match us, mv, ws, h1, h2, h3 with | [_, _, _, _], [], [_, _, _], _, _, _ => rfl)
  have CF : ClsF K mg CS := by
    intro c fs C hm hC
    simp only [CS, List.mem_cons, List.not_mem_nil, or_false, Prod.mk.injEq] at hm
    rcases hm with ⟨rfl, rfl⟩ | ⟨rfl, rfl⟩ | ⟨rfl, rfl⟩
    · have e := hC.symm.trans (PySem.W.mg_of X G a_Form); cases e
      exact ⟨⟨pg_Form, hd_Form, po_Form, sa_Form⟩, fun f hf => by simp only [List.mem_cons, List.not_mem_nil, or_false] at hf; rcases hf with rfl | rfl | rfl <;> assumption⟩
    · have e := hC.symm.trans (PySem.W.mg_of X G a_Step); cases e
      exact ⟨⟨pg_Step, hd_Step, po_Step, sa_Step⟩, fun f hf => by simp only [List.mem_cons, List.not_mem_nil, or_false] at hf; rcases hf with rfl | rfl | rfl | rfl <;> assumption⟩
    · have e := hC.symm.trans (PySem.W.mg_of X G a_Rule); cases e
      exact ⟨⟨pg_Rule, hd_Rule, po_Rule, sa_Rule⟩, fun f hf => by simp only [List.mem_cons, List.not_mem_nil, or_false] at hf; rcases hf with rfl | rfl | rfl | rfl | rfl | rfl <;> assumption⟩
  let A : Ad := { f_is_integer := f_is_integer, d_is_integer := PySem.W.fnOf "is_integer" "is_integer" (defArgs st_is_integer) (defBody st_is_integer) (defScope st_is_integer) .none kV_is_integer dc_is_integer pm_is_integer an_is_integer cd_is_integer ct_is_integer, f_is_name := f_is_name, d_is_name := PySem.W.fnOf "is_name" "is_name" (defArgs st_is_name) (defBody st_is_name) (defScope st_is_name) .none kV_is_name dc_is_name pm_is_name an_is_name cd_is_name ct_is_name, f_is_one_of := f_is_one_of, d_is_one_of := PySem.W.fnOf "is_one_of" "is_one_of" (defArgs st_is_one_of) (defBody st_is_one_of) (defScope st_is_one_of) .none kV_is_one_of dc_is_one_of pm_is_one_of an_is_one_of cd_is_one_of ct_is_one_of, f_are_names := f_are_names, d_are_names := PySem.W.fnOf "are_names" "are_names" (defArgs st_are_names) (defBody st_are_names) (defScope st_are_names) .none kV_are_names dc_are_names pm_are_names an_are_names cd_are_names ct_are_names, f_is_pair := f_is_pair, d_is_pair := PySem.W.fnOf "is_pair" "is_pair" (defArgs st_is_pair) (defBody st_is_pair) (defScope st_is_pair) .none kV_is_pair dc_is_pair pm_is_pair an_is_pair cd_is_pair ct_is_pair, f_are_fields := f_are_fields, d_are_fields := PySem.W.fnOf "are_fields" "are_fields" (defArgs st_are_fields) (defBody st_are_fields) (defScope st_are_fields) .none kV_are_fields dc_are_fields pm_are_fields an_are_fields cd_are_fields ct_are_fields, f_is_row := f_is_row, d_is_row := PySem.W.fnOf "is_row" "is_row" (defArgs st_is_row) (defBody st_is_row) (defScope st_is_row) .none kV_is_row dc_is_row pm_is_row an_is_row cd_is_row ct_is_row, f_is_near := f_is_near, d_is_near := PySem.W.fnOf "is_near" "is_near" (defArgs st_is_near) (defBody st_is_near) (defScope st_is_near) .none kV_is_near dc_is_near pm_is_near an_is_near cd_is_near ct_is_near, f_check_field := f_check_field, d_check_field := PySem.W.fnOf "check_field" "check_field" (defArgs st_check_field) (defBody st_check_field) (defScope st_check_field) .none kV_check_field dc_check_field pm_check_field an_check_field cd_check_field ct_check_field, f_Form_init := f_Form_init, d_Form_init := PySem.W.fnOf "__init__" "Form.__init__" (defArgs st_Form_init) (defBody st_Form_init) (defScope st_Form_init) .none (.ref D_Form_init) dc_Form_init pm_Form_init an_Form_init cd_Form_init ct_Form_init, f_Step_init := f_Step_init, d_Step_init := PySem.W.fnOf "__init__" "Step.__init__" (defArgs st_Step_init) (defBody st_Step_init) (defScope st_Step_init) .none kV_Step_init dc_Step_init pm_Step_init an_Step_init cd_Step_init ct_Step_init, f_begin := f_begin, d_begin := PySem.W.fnOf "begin" "begin" (defArgs st_begin) (defBody st_begin) (defScope st_begin) .none kV_begin dc_begin pm_begin an_begin cd_begin ct_begin, f_is_name_pair := f_is_name_pair, d_is_name_pair := PySem.W.fnOf "is_name_pair" "is_name_pair" (defArgs st_is_name_pair) (defBody st_is_name_pair) (defScope st_is_name_pair) .none kV_is_name_pair dc_is_name_pair pm_is_name_pair an_is_name_pair cd_is_name_pair ct_is_name_pair, f_are_pairs := f_are_pairs, d_are_pairs := PySem.W.fnOf "are_pairs" "are_pairs" (defArgs st_are_pairs) (defBody st_are_pairs) (defScope st_are_pairs) .none kV_are_pairs dc_are_pairs pm_are_pairs an_are_pairs cd_are_pairs ct_are_pairs, f_fits_part := f_fits_part, d_fits_part := PySem.W.fnOf "fits_part" "fits_part" (defArgs st_fits_part) (defBody st_fits_part) (defScope st_fits_part) .none kV_fits_part dc_fits_part pm_fits_part an_fits_part cd_fits_part ct_fits_part, f_Rule_init := f_Rule_init, d_Rule_init := PySem.W.fnOf "__init__" "Rule.__init__" (defArgs st_Rule_init) (defBody st_Rule_init) (defScope st_Rule_init) .none (.ref D_Rule_init) dc_Rule_init pm_Rule_init an_Rule_init cd_Rule_init ct_Rule_init, f__law_mix := f__law_mix, d__law_mix := PySem.W.fnOf "_law_mix" "_law_mix" (defArgs st__law_mix) (defBody st__law_mix) (defScope st__law_mix) .none kV__law_mix dc__law_mix pm__law_mix an__law_mix cd__law_mix ct__law_mix, f__law_box := f__law_box, d__law_box := PySem.W.fnOf "_law_box" "_law_box" (defArgs st__law_box) (defBody st__law_box) (defScope st__law_box) .none kV__law_box dc__law_box pm__law_box an__law_box cd__law_box ct__law_box, f__law_draw := f__law_draw, d__law_draw := PySem.W.fnOf "_law_draw" "_law_draw" (defArgs st__law_draw) (defBody st__law_draw) (defScope st__law_draw) .none kV__law_draw dc__law_draw pm__law_draw an__law_draw cd__law_draw ct__law_draw, f__law_same := f__law_same, d__law_same := PySem.W.fnOf "_law_same" "_law_same" (defArgs st__law_same) (defBody st__law_same) (defScope st__law_same) .none kV__law_same dc__law_same pm__law_same an__law_same cd__law_same ct__law_same, f__law_names := f__law_names, d__law_names := PySem.W.fnOf "_law_names" "_law_names" (defArgs st__law_names) (defBody st__law_names) (defScope st__law_names) .none kV__law_names dc__law_names pm__law_names an__law_names cd__law_names ct__law_names, f__law_entries := f__law_entries, d__law_entries := PySem.W.fnOf "_law_entries" "_law_entries" (defArgs st__law_entries) (defBody st__law_entries) (defScope st__law_entries) .none kV__law_entries dc__law_entries pm__law_entries an__law_entries cd__law_entries ct__law_entries, f__law_field := f__law_field, d__law_field := PySem.W.fnOf "_law_field" "_law_field" (defArgs st__law_field) (defBody st__law_field) (defScope st__law_field) .none kV__law_field dc__law_field pm__law_field an__law_field cd__law_field ct__law_field, f__law_parts := f__law_parts, d__law_parts := PySem.W.fnOf "_law_parts" "_law_parts" (defArgs st__law_parts) (defBody st__law_parts) (defScope st__law_parts) .none kV__law_parts dc__law_parts pm__law_parts an__law_parts cd__law_parts ct__law_parts, f__law_pairs := f__law_pairs, d__law_pairs := PySem.W.fnOf "_law_pairs" "_law_pairs" (defArgs st__law_pairs) (defBody st__law_pairs) (defScope st__law_pairs) .none kV__law_pairs dc__law_pairs pm__law_pairs an__law_pairs cd__law_pairs ct__law_pairs, f__law_rule := f__law_rule, d__law_rule := PySem.W.fnOf "_law_rule" "_law_rule" (defArgs st__law_rule) (defBody st__law_rule) (defScope st__law_rule) .none kV__law_rule dc__law_rule pm__law_rule an__law_rule cd__law_rule ct__law_rule, f_law := f_law, d_law := PySem.W.fnOf "law" "law" (defArgs st_law) (defBody st_law) (defScope st_law) .none kV_law dc_law pm_law an_law cd_law ct_law, c_Form := C_Form, c_Step := C_Step, c_Rule := C_Rule, c_InvalidForm := C_InvalidForm, c_InvalidRule := C_InvalidRule, xf_InvalidForm := xf_InvalidForm, xd_InvalidForm := fdE "__init__" "InvalidForm.__init__" (defArgs st_x_InvalidForm) (defBody st_x_InvalidForm) (defScope st_x_InvalidForm) xcc_InvalidForm xc_InvalidForm xdc_InvalidForm xpm_InvalidForm xct_InvalidForm xan_InvalidForm, xf_InvalidRule := xf_InvalidRule, xd_InvalidRule := fdE "__init__" "InvalidRule.__init__" (defArgs st_x_InvalidRule) (defBody st_x_InvalidRule) (defScope st_x_InvalidRule) xcc_InvalidRule xc_InvalidRule xdc_InvalidRule xpm_InvalidRule xct_InvalidRule xan_InvalidRule }
  have KI_OPENS : KIs K mg A_OPENS (.tup ((["enter", "leave", "send"] : List Str).map T.str)) := kis_strs kt_OPENS (by show 3 ≤ sizeLine; decide +kernel) (show StrsK ["enter", "leave", "send"] #[Value.str "enter" tk_OPENS_0, Value.str "leave" tk_OPENS_1, Value.str "send" tk_OPENS_2].toList from (.cons (.cons (.cons .nil)))) (by decide +kernel)
  have KI_CHECKS : KIs K mg A_CHECKS (.tup ((["enter", "leave"] : List Str).map T.str)) := kis_strs kt_CHECKS (by show 2 ≤ sizeLine; decide +kernel) (show StrsK ["enter", "leave"] #[Value.str "enter" tk_CHECKS_0, Value.str "leave" tk_CHECKS_1].toList from (.cons (.cons .nil))) (by decide +kernel)
  have KI_AROUNDS : KIs K mg A_AROUNDS (.tup ((["own", "looks"] : List Str).map T.str)) := kis_strs kt_AROUNDS (by show 2 ≤ sizeLine; decide +kernel) (show StrsK ["own", "looks"] #[Value.str "own" tk_AROUNDS_0, Value.str "looks" tk_AROUNDS_1].toList from (.cons (.cons .nil))) (by decide +kernel)
  have KI_TAKENS : KIs K mg A_TAKENS (.tup ((["any", "same", "last"] : List Str).map T.str)) := kis_strs kt_TAKENS (by show 3 ≤ sizeLine; decide +kernel) (show StrsK ["any", "same", "last"] #[Value.str "any" tk_TAKENS_0, Value.str "same" tk_TAKENS_1, Value.str "last" tk_TAKENS_2].toList from (.cons (.cons (.cons .nil)))) (by decide +kernel)
  have KI_SENDINGS : KIs K mg A_SENDINGS (.tup ((["bar", "wait", "go"] : List Str).map T.str)) := kis_strs kt_SENDINGS (by show 3 ≤ sizeLine; decide +kernel) (show StrsK ["bar", "wait", "go"] #[Value.str "bar" tk_SENDINGS_0, Value.str "wait" tk_SENDINGS_1, Value.str "go" tk_SENDINGS_2].toList from (.cons (.cons (.cons .nil)))) (by decide +kernel)
  have KI_PARTS : KIs K mg A_PARTS (.tup ((["opens", "checks", "around", "wipes", "taken", "sending"] : List Str).map T.str)) := kis_strs kt_PARTS (by show 6 ≤ sizeLine; decide +kernel) (show StrsK ["opens", "checks", "around", "wipes", "taken", "sending"] #[Value.str "opens" tk_PARTS_0, Value.str "checks" tk_PARTS_1, Value.str "around" tk_PARTS_2, Value.str "wipes" tk_PARTS_3, Value.str "taken" tk_PARTS_4, Value.str "sending" tk_PARTS_5].toList from (.cons (.cons (.cons (.cons (.cons (.cons .nil))))))) (by decide +kernel)
  have KD_MENUS : KDic K w mg A_MENUS [("opens", T.tup ((["enter", "leave", "send"] : List Str).map T.str)), ("checks", T.tup ((["enter", "leave"] : List Str).map T.str)), ("around", T.tup ((["own", "looks"] : List Str).map T.str)), ("taken", T.tup ((["any", "same", "last"] : List Str).map T.str)), ("sending", T.tup ((["bar", "wait", "go"] : List Str).map T.str))] := kdic_of (.cons ⟨_, ⟨_, _, _, kd_MENUS, kl_MENUS, kk_MENUS_opens, rfl⟩, KI_OPENS⟩ (.cons ⟨_, ⟨_, _, _, kd_MENUS, kl_MENUS, kk_MENUS_checks, rfl⟩, KI_CHECKS⟩ (.cons ⟨_, ⟨_, _, _, kd_MENUS, kl_MENUS, kk_MENUS_around, rfl⟩, KI_AROUNDS⟩ (.cons ⟨_, ⟨_, _, _, kd_MENUS, kl_MENUS, kk_MENUS_taken, rfl⟩, KI_TAKENS⟩ (.cons ⟨_, ⟨_, _, _, kd_MENUS, kl_MENUS, kk_MENUS_sending, rfl⟩, KI_SENDINGS⟩ .nil)))))
  have OX_InvalidForm : OexC K C_InvalidForm := ⟨⟨_, _, _, _, _, _, _, _, _, _, _, _, _, _, _, lx_InvalidForm, ve_InvalidForm⟩, xsa_InvalidForm, xbe_InvalidForm, xty_InvalidForm, xk_InvalidForm⟩
  have FX_InvalidForm : ∀ base : Heap, FnOk P w K mg base (L2.CX P w) 1 xf_InvalidForm _ ["self", "part", "field"] (spE2 C_InvalidForm "part" "field") := fun base => exc_ok2 (st := st_x_InvalidForm) ⟨OX_InvalidForm, ⟨_, _, _, xl_InvalidForm⟩, ⟨_, _, _, _, _, _, xco_InvalidForm, xv2_InvalidForm, xfi_InvalidForm⟩, ⟨_, _, _, xce_InvalidForm⟩, xsu_InvalidForm, xsv_InvalidForm, xmr_InvalidForm, opq, tops⟩ rfl xcd_InvalidForm (NdefX.nscope_by rfl) rfl rfl rfl (PySem.W.mg_none_of X G z_super) (fun L => ⟨rfl, rfl, rfl⟩) xno_InvalidForm_part xno_InvalidForm_field (fun L => rfl) (fun L => rfl)
  have OX_InvalidRule : OexC K C_InvalidRule := ⟨⟨_, _, _, _, _, _, _, _, _, _, _, _, _, _, _, lx_InvalidRule, ve_InvalidRule⟩, xsa_InvalidRule, xbe_InvalidRule, xty_InvalidRule, xk_InvalidRule⟩
  have FX_InvalidRule : ∀ base : Heap, FnOk P w K mg base (L2.CX P w) 1 xf_InvalidRule _ ["self", "part"] (spE1 C_InvalidRule "part") := fun base => exc_ok1 (st := st_x_InvalidRule) ⟨OX_InvalidRule, ⟨_, _, _, xl_InvalidRule⟩, ⟨_, _, _, _, _, _, xco_InvalidRule, xv2_InvalidRule, xfi_InvalidRule⟩, ⟨_, _, _, xce_InvalidRule⟩, xsu_InvalidRule, xsv_InvalidRule, xmr_InvalidRule, opq, tops⟩ rfl xcd_InvalidRule (NdefX.nscope_by rfl) rfl rfl rfl (PySem.W.mg_none_of X G z_super) (fun L => ⟨rfl, rfl, rfl⟩) xno_InvalidRule_part (fun L => rfl)
  have tx : Txt w K mg A := { u_is_integer := U_is_integer, b_is_integer := B_is_integer, g_is_integer := PySem.W.mg_of X G a_is_integer, u_is_name := U_is_name, b_is_name := B_is_name, g_is_name := PySem.W.mg_of X G a_is_name, u_is_one_of := U_is_one_of, b_is_one_of := B_is_one_of, g_is_one_of := PySem.W.mg_of X G a_is_one_of, u_are_names := U_are_names, b_are_names := B_are_names, g_are_names := PySem.W.mg_of X G a_are_names, u_is_pair := U_is_pair, b_is_pair := B_is_pair, g_is_pair := PySem.W.mg_of X G a_is_pair, u_are_fields := U_are_fields, b_are_fields := B_are_fields, g_are_fields := PySem.W.mg_of X G a_are_fields, u_is_row := U_is_row, b_is_row := B_is_row, g_is_row := PySem.W.mg_of X G a_is_row, u_is_near := U_is_near, b_is_near := B_is_near, g_is_near := PySem.W.mg_of X G a_is_near, u_check_field := U_check_field, b_check_field := B_check_field, g_check_field := PySem.W.mg_of X G a_check_field, u_Form_init := U_Form_init, u_Step_init := U_Step_init, b_Step_init := B_Step_init, u_begin := U_begin, b_begin := B_begin, g_begin := PySem.W.mg_of X G a_begin, u_is_name_pair := U_is_name_pair, b_is_name_pair := B_is_name_pair, g_is_name_pair := PySem.W.mg_of X G a_is_name_pair, u_are_pairs := U_are_pairs, b_are_pairs := B_are_pairs, g_are_pairs := PySem.W.mg_of X G a_are_pairs, u_fits_part := U_fits_part, b_fits_part := B_fits_part, g_fits_part := PySem.W.mg_of X G a_fits_part, u_Rule_init := U_Rule_init, u__law_mix := U__law_mix, b__law_mix := B__law_mix, g__law_mix := PySem.W.mg_of X G a__law_mix, u__law_box := U__law_box, b__law_box := B__law_box, g__law_box := PySem.W.mg_of X G a__law_box, u__law_draw := U__law_draw, b__law_draw := B__law_draw, g__law_draw := PySem.W.mg_of X G a__law_draw, u__law_same := U__law_same, b__law_same := B__law_same, g__law_same := PySem.W.mg_of X G a__law_same, u__law_names := U__law_names, b__law_names := B__law_names, g__law_names := PySem.W.mg_of X G a__law_names, u__law_entries := U__law_entries, b__law_entries := B__law_entries, g__law_entries := PySem.W.mg_of X G a__law_entries, u__law_field := U__law_field, b__law_field := B__law_field, g__law_field := PySem.W.mg_of X G a__law_field, u__law_parts := U__law_parts, b__law_parts := B__law_parts, g__law_parts := PySem.W.mg_of X G a__law_parts, u__law_pairs := U__law_pairs, b__law_pairs := B__law_pairs, g__law_pairs := PySem.W.mg_of X G a__law_pairs, u__law_rule := U__law_rule, b__law_rule := B__law_rule, g__law_rule := PySem.W.mg_of X G a__law_rule, u_law := U_law, b_law := B_law, g_law := PySem.W.mg_of X G a_law, kb_Form_init_2_room := KB_kb_Form_init_2_room, kb_Rule_init_3_wipes_taken_sending := KB_kb_Rule_init_3_wipes_taken_sending, g_Form := PySem.W.mg_of X G a_Form, cc_Form := ⟨pg_Form, hd_Form, po_Form, sa_Form⟩, m_Form := ⟨mk_Form, a_Form_init, i_Form_init, kc_Form⟩, g_Step := PySem.W.mg_of X G a_Step, cc_Step := ⟨pg_Step, hd_Step, po_Step, sa_Step⟩, m_Step := ⟨mk_Step, a_Step_init, i_Step_init, kc_Step⟩, g_Rule := PySem.W.mg_of X G a_Rule, cc_Rule := ⟨pg_Rule, hd_Rule, po_Rule, sa_Rule⟩, m_Rule := ⟨mk_Rule, a_Rule_init, i_Rule_init, kc_Rule⟩, cs := CF, c_LETTERS := ⟨_, PySem.W.mg_of X G g_LETTERS⟩, c_MENUS := ⟨_, PySem.W.mg_of X G g_MENUS, KD_MENUS⟩, c_PARTS := ⟨_, PySem.W.mg_of X G g_PARTS, KI_PARTS⟩, n_all := PySem.W.mg_none_of X G z_all, n_bool := PySem.W.mg_none_of X G z_bool, n_int := PySem.W.mg_none_of X G z_int, n_isinstance := PySem.W.mg_none_of X G z_isinstance, n_len := PySem.W.mg_none_of X G z_len, n_list := PySem.W.mg_none_of X G z_list, n_range := PySem.W.mg_none_of X G z_range, n_set := PySem.W.mg_none_of X G z_set, n_sorted := PySem.W.mg_none_of X G z_sorted, n_str := PySem.W.mg_none_of X G z_str, n_super := PySem.W.mg_none_of X G z_super, n_tuple := PySem.W.mg_none_of X G z_tuple, n_zip := PySem.W.mg_none_of X G z_zip, ox_InvalidForm := OX_InvalidForm, xi_InvalidForm := xi_InvalidForm, xt_InvalidForm := xt_InvalidForm, b_InvalidForm := bindsE fun us hl => match us, hl with | [_, _, _], _ => rfl, ox_InvalidRule := OX_InvalidRule, xi_InvalidRule := xi_InvalidRule, xt_InvalidRule := xt_InvalidRule, b_InvalidRule := bindsE fun us hl => match us, hl with | [_, _], _ => rfl, g_InvalidForm := PySem.W.mg_of X G a_InvalidForm, g_InvalidRule := PySem.W.mg_of X G a_InvalidRule, xf := xfall_of ⟨⟨_, PySem.W.mg_of X G a_InvalidForm, ⟨xga_InvalidForm, xgt_InvalidForm, xbe_InvalidForm, xhd_InvalidForm⟩, ⟨xga_InvalidForm, xgt_InvalidForm, xbe_InvalidForm, xhd_InvalidForm, xcl_InvalidForm, spc, tki, xob_InvalidForm⟩, fun f hf => by unfold FL at hf; cases hf⟩, ⟨_, PySem.W.mg_of X G a_InvalidRule, ⟨xga_InvalidRule, xgt_InvalidRule, xbe_InvalidRule, xhd_InvalidRule⟩, ⟨xga_InvalidRule, xgt_InvalidRule, xbe_InvalidRule, xhd_InvalidRule, xcl_InvalidRule, spc, tki, xob_InvalidRule⟩, fun f hf => by unfold FL at hf; cases hf⟩, trivial⟩ }
  have ex : ∀ base : Heap, Exs P w K mg base A := fun base => ⟨FX_InvalidForm base, FX_InvalidRule base⟩
  exact ⟨_, fun s v => .of_eq rfl, fun base _ _ => fnL (oks_run (P := P) (w := w) (base := base) tx (ex base) n).law⟩
end LW
open PySem PySem.W PyProof.Rows in
set_option maxRecDepth 100000 in
set_option maxHeartbeats 0 in
theorem PySem.Challenge.cw_wrongshown_k12_begin_holds : PySem.Challenge.rw_wrongshown_k12_begin.Holds := by
  w_on; o_law; k_head; (case hw => w_witness2)
  k_fill
  refine W3.walk3 (l := PySem.Challenge.rw_wrongshown_k12_begin) (k := 3 * LW.fuel) (x := "_law_script") rfl rfl ⟨rfl, by decide, by decide⟩ LW.law_true (fun w h Y => PySem.W.kIn_of Y) ?F
  case F =>
    intro w mg fa h KX G hmg
    refine' LW.all_mk KX G hmg ?a_Form ?pg_Form ?hd_Form ?po_Form ?sa_Form ?mk_Form ?kc_Form ?no_Form_words ?no_Form_fields ?no_Form_room ?a_Step ?pg_Step ?hd_Step ?po_Step ?sa_Step ?mk_Step ?kc_Step ?no_Step_deed ?no_Step_before ?no_Step_after ?no_Step_events ?a_Rule ?pg_Rule ?hd_Rule ?po_Rule ?sa_Rule ?mk_Rule ?kc_Rule ?no_Rule_opens ?no_Rule_checks ?no_Rule_around ?no_Rule_wipes ?no_Rule_taken ?no_Rule_sending ?a_is_integer ?l_is_integer ?c_is_integer ?k_is_integer ?a_is_name ?l_is_name ?c_is_name ?k_is_name ?a_is_one_of ?l_is_one_of ?c_is_one_of ?k_is_one_of ?a_are_names ?l_are_names ?c_are_names ?k_are_names ?a_is_pair ?l_is_pair ?c_is_pair ?k_is_pair ?a_are_fields ?l_are_fields ?c_are_fields ?k_are_fields ?a_is_row ?l_is_row ?c_is_row ?k_is_row ?a_is_near ?l_is_near ?c_is_near ?k_is_near ?a_check_field ?l_check_field ?c_check_field ?k_check_field ?a_Form_init ?i_Form_init ?l_Form_init ?c_Form_init ?k_Form_init ?kd_Form_init_room ?a_Step_init ?i_Step_init ?l_Step_init ?c_Step_init ?k_Step_init ?a_begin ?l_begin ?c_begin ?k_begin ?a_is_name_pair ?l_is_name_pair ?c_is_name_pair ?k_is_name_pair ?a_are_pairs ?l_are_pairs ?c_are_pairs ?k_are_pairs ?a_fits_part ?l_fits_part ?c_fits_part ?k_fits_part ?a_Rule_init ?i_Rule_init ?l_Rule_init ?c_Rule_init ?k_Rule_init ?kd_Rule_init_wipes ?kd_Rule_init_taken ?kd_Rule_init_sending ?a__law_mix ?l__law_mix ?c__law_mix ?k__law_mix ?a__law_box ?l__law_box ?c__law_box ?k__law_box ?a__law_draw ?l__law_draw ?c__law_draw ?k__law_draw ?a__law_same ?l__law_same ?c__law_same ?k__law_same ?a__law_names ?l__law_names ?c__law_names ?k__law_names ?a__law_entries ?l__law_entries ?c__law_entries ?k__law_entries ?a__law_field ?l__law_field ?c__law_field ?k__law_field ?a__law_parts ?l__law_parts ?c__law_parts ?k__law_parts ?a__law_pairs ?l__law_pairs ?c__law_pairs ?k__law_pairs ?a__law_rule ?l__law_rule ?c__law_rule ?k__law_rule ?a_law ?l_law ?c_law ?k_law ?a_InvalidForm ?a_InvalidRule ?opq ?tops ?spc ?tki ?lx_InvalidForm ?ve_InvalidForm ?xsa_InvalidForm ?xbe_InvalidForm ?xty_InvalidForm ?xk_InvalidForm ?xi_InvalidForm ?xt_InvalidForm ?xl_InvalidForm ?xcd_InvalidForm ?xce_InvalidForm ?xco_InvalidForm ?xv2_InvalidForm ?xfi_InvalidForm ?xsu_InvalidForm ?xsv_InvalidForm ?xmr_InvalidForm ?xga_InvalidForm ?xgt_InvalidForm ?xcl_InvalidForm ?xhd_InvalidForm ?xob_InvalidForm ?xno_InvalidForm_field ?xno_InvalidForm_part ?lx_InvalidRule ?ve_InvalidRule ?xsa_InvalidRule ?xbe_InvalidRule ?xty_InvalidRule ?xk_InvalidRule ?xi_InvalidRule ?xt_InvalidRule ?xl_InvalidRule ?xcd_InvalidRule ?xce_InvalidRule ?xco_InvalidRule ?xv2_InvalidRule ?xfi_InvalidRule ?xsu_InvalidRule ?xsv_InvalidRule ?xmr_InvalidRule ?xga_InvalidRule ?xgt_InvalidRule ?xcl_InvalidRule ?xhd_InvalidRule ?xob_InvalidRule ?xno_InvalidRule_part ?g_LETTERS ?g_MENUS ?kd_MENUS ?kl_MENUS ?kk_MENUS_opens ?kk_MENUS_checks ?kk_MENUS_around ?kk_MENUS_taken ?kk_MENUS_sending ?g_PARTS ?kt_OPENS ?kt_CHECKS ?kt_AROUNDS ?kt_TAKENS ?kt_SENDINGS ?kt_PARTS ?z_all ?z_bool ?z_int ?z_isinstance ?z_len ?z_list ?z_range ?z_set ?z_sorted ?z_str ?z_super ?z_tuple ?z_zip LW.fuel
    (case a_Form => k_is)
    (case pg_Form => k_is)
    (case hd_Form => k_is)
    (case po_Form => k_is)
    (case sa_Form => k_is)
    (case mk_Form => k_is)
    (case kc_Form => k_is)
    (case no_Form_words => k_is)
    (case no_Form_fields => k_is)
    (case no_Form_room => k_is)
    (case a_Step => k_is)
    (case pg_Step => k_is)
    (case hd_Step => k_is)
    (case po_Step => k_is)
    (case sa_Step => k_is)
    (case mk_Step => k_is)
    (case kc_Step => k_is)
    (case no_Step_deed => k_is)
    (case no_Step_before => k_is)
    (case no_Step_after => k_is)
    (case no_Step_events => k_is)
    (case a_Rule => k_is)
    (case pg_Rule => k_is)
    (case hd_Rule => k_is)
    (case po_Rule => k_is)
    (case sa_Rule => k_is)
    (case mk_Rule => k_is)
    (case kc_Rule => k_is)
    (case no_Rule_opens => k_is)
    (case no_Rule_checks => k_is)
    (case no_Rule_around => k_is)
    (case no_Rule_wipes => k_is)
    (case no_Rule_taken => k_is)
    (case no_Rule_sending => k_is)
    (case a_is_integer => k_is)
    (case l_is_integer => k_is)
    (case c_is_integer => k_is)
    (case k_is_integer => k_is)
    (case a_is_name => k_is)
    (case l_is_name => k_is)
    (case c_is_name => k_is)
    (case k_is_name => k_is)
    (case a_is_one_of => k_is)
    (case l_is_one_of => k_is)
    (case c_is_one_of => k_is)
    (case k_is_one_of => k_is)
    (case a_are_names => k_is)
    (case l_are_names => k_is)
    (case c_are_names => k_is)
    (case k_are_names => k_is)
    (case a_is_pair => k_is)
    (case l_is_pair => k_is)
    (case c_is_pair => k_is)
    (case k_is_pair => k_is)
    (case a_are_fields => k_is)
    (case l_are_fields => k_is)
    (case c_are_fields => k_is)
    (case k_are_fields => k_is)
    (case a_is_row => k_is)
    (case l_is_row => k_is)
    (case c_is_row => k_is)
    (case k_is_row => k_is)
    (case a_is_near => k_is)
    (case l_is_near => k_is)
    (case c_is_near => k_is)
    (case k_is_near => k_is)
    (case a_check_field => k_is)
    (case l_check_field => k_is)
    (case c_check_field => k_is)
    (case k_check_field => k_is)
    (case a_Form_init => k_is)
    (case i_Form_init => k_is)
    (case l_Form_init => k_is)
    (case c_Form_init => k_is)
    (case k_Form_init => k_is)
    (case kd_Form_init_room => k_is)
    (case a_Step_init => k_is)
    (case i_Step_init => k_is)
    (case l_Step_init => k_is)
    (case c_Step_init => k_is)
    (case k_Step_init => k_is)
    (case a_begin => k_is)
    (case l_begin => k_is)
    (case c_begin => k_is)
    (case k_begin => k_is)
    (case a_is_name_pair => k_is)
    (case l_is_name_pair => k_is)
    (case c_is_name_pair => k_is)
    (case k_is_name_pair => k_is)
    (case a_are_pairs => k_is)
    (case l_are_pairs => k_is)
    (case c_are_pairs => k_is)
    (case k_are_pairs => k_is)
    (case a_fits_part => k_is)
    (case l_fits_part => k_is)
    (case c_fits_part => k_is)
    (case k_fits_part => k_is)
    (case a_Rule_init => k_is)
    (case i_Rule_init => k_is)
    (case l_Rule_init => k_is)
    (case c_Rule_init => k_is)
    (case k_Rule_init => k_is)
    (case kd_Rule_init_wipes => k_is)
    (case kd_Rule_init_taken => k_is)
    (case kd_Rule_init_sending => k_is)
    (case a__law_mix => k_is)
    (case l__law_mix => k_is)
    (case c__law_mix => k_is)
    (case k__law_mix => k_is)
    (case a__law_box => k_is)
    (case l__law_box => k_is)
    (case c__law_box => k_is)
    (case k__law_box => k_is)
    (case a__law_draw => k_is)
    (case l__law_draw => k_is)
    (case c__law_draw => k_is)
    (case k__law_draw => k_is)
    (case a__law_same => k_is)
    (case l__law_same => k_is)
    (case c__law_same => k_is)
    (case k__law_same => k_is)
    (case a__law_names => k_is)
    (case l__law_names => k_is)
    (case c__law_names => k_is)
    (case k__law_names => k_is)
    (case a__law_entries => k_is)
    (case l__law_entries => k_is)
    (case c__law_entries => k_is)
    (case k__law_entries => k_is)
    (case a__law_field => k_is)
    (case l__law_field => k_is)
    (case c__law_field => k_is)
    (case k__law_field => k_is)
    (case a__law_parts => k_is)
    (case l__law_parts => k_is)
    (case c__law_parts => k_is)
    (case k__law_parts => k_is)
    (case a__law_pairs => k_is)
    (case l__law_pairs => k_is)
    (case c__law_pairs => k_is)
    (case k__law_pairs => k_is)
    (case a__law_rule => k_is)
    (case l__law_rule => k_is)
    (case c__law_rule => k_is)
    (case k__law_rule => k_is)
    (case a_law => k_is)
    (case l_law => k_is)
    (case c_law => k_is)
    (case k_law => k_is)
    (case a_InvalidForm => k_is)
    (case a_InvalidRule => k_is)
    (case opq => first | k_is | ks_is | kernel_rfl | rfl | decide +kernel)
    (case tops => first | k_is | ks_is | kernel_rfl | rfl | decide +kernel)
    (case spc => first | k_is | ks_is | kernel_rfl | rfl | decide +kernel)
    (case tki => first | k_is | ks_is | kernel_rfl | rfl | decide +kernel)
    (case lx_InvalidForm => first | k_is | ks_is | kernel_rfl | rfl | decide +kernel)
    (case ve_InvalidForm => first | k_is | ks_is | kernel_rfl | rfl | decide +kernel)
    (case xsa_InvalidForm => first | k_is | ks_is | kernel_rfl | rfl | decide +kernel)
    (case xbe_InvalidForm => first | k_is | ks_is | kernel_rfl | rfl | decide +kernel)
    (case xty_InvalidForm => first | k_is | ks_is | kernel_rfl | rfl | decide +kernel)
    (case xk_InvalidForm => first | k_is | ks_is | kernel_rfl | rfl | decide +kernel)
    (case xi_InvalidForm => first | k_is | ks_is | kernel_rfl | rfl | decide +kernel)
    (case xt_InvalidForm => first | k_is | ks_is | kernel_rfl | rfl | decide +kernel)
    (case xl_InvalidForm => first | k_is | ks_is | kernel_rfl | rfl | decide +kernel)
    (case xcd_InvalidForm => first | k_is | ks_is | kernel_rfl | rfl | decide +kernel)
    (case xce_InvalidForm => first | k_is | ks_is | kernel_rfl | rfl | decide +kernel)
    (case xco_InvalidForm => first | k_is | ks_is | kernel_rfl | rfl | decide +kernel)
    (case xv2_InvalidForm => exact rfl)
    (case xfi_InvalidForm => first | k_is | ks_is | kernel_rfl | rfl | decide +kernel)
    (case xsu_InvalidForm => first | k_is | ks_is | kernel_rfl | rfl | decide +kernel)
    (case xsv_InvalidForm => first | k_is | ks_is | kernel_rfl | rfl | decide +kernel)
    (case xmr_InvalidForm => first | k_is | ks_is | kernel_rfl | rfl | decide +kernel)
    (case xga_InvalidForm => first | k_is | ks_is | kernel_rfl | rfl | decide +kernel)
    (case xgt_InvalidForm => first | k_is | ks_is | kernel_rfl | rfl | decide +kernel)
    (case xcl_InvalidForm => first | k_is | ks_is | kernel_rfl | rfl | decide +kernel)
    (case xhd_InvalidForm => first | k_is | ks_is | kernel_rfl | rfl | decide +kernel)
    (case xob_InvalidForm => first | k_is | ks_is | kernel_rfl | rfl | decide +kernel)
    (case xno_InvalidForm_field => first | k_is | ks_is | kernel_rfl | rfl | decide +kernel)
    (case xno_InvalidForm_part => first | k_is | ks_is | kernel_rfl | rfl | decide +kernel)
    (case lx_InvalidRule => first | k_is | ks_is | kernel_rfl | rfl | decide +kernel)
    (case ve_InvalidRule => first | k_is | ks_is | kernel_rfl | rfl | decide +kernel)
    (case xsa_InvalidRule => first | k_is | ks_is | kernel_rfl | rfl | decide +kernel)
    (case xbe_InvalidRule => first | k_is | ks_is | kernel_rfl | rfl | decide +kernel)
    (case xty_InvalidRule => first | k_is | ks_is | kernel_rfl | rfl | decide +kernel)
    (case xk_InvalidRule => first | k_is | ks_is | kernel_rfl | rfl | decide +kernel)
    (case xi_InvalidRule => first | k_is | ks_is | kernel_rfl | rfl | decide +kernel)
    (case xt_InvalidRule => first | k_is | ks_is | kernel_rfl | rfl | decide +kernel)
    (case xl_InvalidRule => first | k_is | ks_is | kernel_rfl | rfl | decide +kernel)
    (case xcd_InvalidRule => first | k_is | ks_is | kernel_rfl | rfl | decide +kernel)
    (case xce_InvalidRule => first | k_is | ks_is | kernel_rfl | rfl | decide +kernel)
    (case xco_InvalidRule => first | k_is | ks_is | kernel_rfl | rfl | decide +kernel)
    (case xv2_InvalidRule => exact rfl)
    (case xfi_InvalidRule => first | k_is | ks_is | kernel_rfl | rfl | decide +kernel)
    (case xsu_InvalidRule => first | k_is | ks_is | kernel_rfl | rfl | decide +kernel)
    (case xsv_InvalidRule => first | k_is | ks_is | kernel_rfl | rfl | decide +kernel)
    (case xmr_InvalidRule => first | k_is | ks_is | kernel_rfl | rfl | decide +kernel)
    (case xga_InvalidRule => first | k_is | ks_is | kernel_rfl | rfl | decide +kernel)
    (case xgt_InvalidRule => first | k_is | ks_is | kernel_rfl | rfl | decide +kernel)
    (case xcl_InvalidRule => first | k_is | ks_is | kernel_rfl | rfl | decide +kernel)
    (case xhd_InvalidRule => first | k_is | ks_is | kernel_rfl | rfl | decide +kernel)
    (case xob_InvalidRule => first | k_is | ks_is | kernel_rfl | rfl | decide +kernel)
    (case xno_InvalidRule_part => first | k_is | ks_is | kernel_rfl | rfl | decide +kernel)
    (case g_LETTERS => k_is)
    (case g_MENUS => k_is)
    (case kd_MENUS => k_is)
    (case kl_MENUS => repeat (first | exact trivial | refine ⟨⟨_, _, rfl, rfl⟩, ?_⟩))
    (case kk_MENUS_opens => k_is)
    (case kk_MENUS_checks => k_is)
    (case kk_MENUS_around => k_is)
    (case kk_MENUS_taken => k_is)
    (case kk_MENUS_sending => k_is)
    (case g_PARTS => k_is)
    (case kt_OPENS => k_is)
    (case kt_CHECKS => k_is)
    (case kt_AROUNDS => k_is)
    (case kt_TAKENS => k_is)
    (case kt_SENDINGS => k_is)
    (case kt_PARTS => k_is)
    (case z_all => k_is)
    (case z_bool => k_is)
    (case z_int => k_is)
    (case z_isinstance => k_is)
    (case z_len => k_is)
    (case z_list => k_is)
    (case z_range => k_is)
    (case z_set => k_is)
    (case z_sorted => k_is)
    (case z_str => k_is)
    (case z_super => k_is)
    (case z_tuple => k_is)
    (case z_zip => k_is)
end
