import PyProof.Rows.All
import Wide.All
import OpenK.AllK
import Wide.FinOn
import HandS.ForMost
import HandS.ForExc
import HandS.TupAny
import HandS.Deep
import HandS.IsInst
import HandS.Style
import HandS.Iter
import HandS.Defaults
import HandS.SetBool
import HandS.SetKeys
import HandS.SetFor
import HandS.MakeKwOnly
import PySem.Challenge.RW_wrongshown_k09_deeds_listed
set_option Elab.async false
set_option linter.all false
set_option maxRecDepth 100000
set_option maxHeartbeats 1000000
set_option autoImplicit false
section
/-! WA: values as trees, the small heap, results; the combinators of expressions and statements. No model here. -/
namespace W3
open PySem

/-- a value: what is never changed as a tree; a list, dict or instance by its place in the small heap -/
inductive T where
  | non | bl (b : Bool) | int (i : Int) | str (s : Str) | tup (ts : List T) | ref (l : Nat) | fl (ts : List T) | cls (c : Str)

/-- what stands at a place of the small heap -/
inductive Ob where
  | lst (ts : List T) | dic (kvs : List (T × T)) | ins (c : Str) (fs : List (Str × T))

abbrev Hh := List Ob

inductive Res (α : Type) where
  | ok (a : α) (h : Hh) | exc (c : Str) (fs : List (Str × T)) (h : Hh) | stk

def Res.bind {α β : Type} (r : Res α) (f : α → Hh → Res β) : Res β :=
  match r with
  | .ok a h => f a h
  | .exc c fs h => .exc c fs h
  | .stk => .stk

@[simp] theorem Res.bind_ok {α β : Type} (a : α) (h : Hh) (f : α → Hh → Res β) : (Res.ok a h).bind f = f a h := Eq.trans rfl rfl
@[simp] theorem Res.bind_exc {α β : Type} (c : Str) (fs : List (Str × T)) (h : Hh) (f : α → Hh → Res β) : (Res.exc c fs h : Res α).bind f = .exc c fs h := Eq.trans rfl rfl
@[simp] theorem Res.bind_stk {α β : Type} (f : α → Hh → Res β) : (Res.stk : Res α).bind f = .stk := Eq.trans rfl rfl

abbrev St3 := List (Option T)
abbrev SE := St3 → Hh → Res T
abbrev ST := St3 → Hh → Res Bool
abbrev SA := St3 → Hh → Res (List T)
/-- what a callee does: by its name -/
abbrev Fs := Str → List T → Hh → Res T

/-! ### expressions -/
def sVar (i : Nat) : SE := fun σ h => match σ[i]? with | some (some t) => .ok t h | _ => .stk
def sC (t : T) : SE := fun _ h => .ok t h
def s1 (f : T → Hh → Res T) (a : SE) : SE := fun σ h => (a σ h).bind fun x h1 => f x h1
def s2 (f : T → T → Hh → Res T) (a b : SE) : SE := fun σ h => (a σ h).bind fun x h1 => (b σ h1).bind fun y h2 => f x y h2
/-- a test: the value is a bool -/
def sT (a : SE) : ST := fun σ h => (a σ h).bind fun x h1 => match x with | .bl b => .ok b h1 | _ => .stk
def stAnd (a b : ST) : ST := fun σ h => (a σ h).bind fun x h1 => if x = true then b σ h1 else .ok false h1
def stOr (a b : ST) : ST := fun σ h => (a σ h).bind fun x h1 => if x = true then .ok true h1 else b σ h1
def stNot (a : ST) : ST := fun σ h => (a σ h).bind fun x h1 => .ok (!x) h1
/-- .. as a value -/
def sB (a : ST) : SE := fun σ h => (a σ h).bind fun x h1 => .ok (.bl x) h1
def sIf (c : ST) (a b : SE) : SE := fun σ h => (c σ h).bind fun x h1 => if x = true then a σ h1 else b σ h1
/-- a op b op' c -/
def sChain (f g : T → T → Hh → Res T) (a b c : SE) : SE := fun σ h => (a σ h).bind fun x h1 => (b σ h1).bind fun y h2 => (f x y h2).bind fun z h3 => match z with
  | .bl k => if k = true then (c σ h3).bind fun w h4 => g y w h4 else .ok (.bl false) h3
  | _ => .stk
def saNil : SA := fun _ h => .ok [] h
def saCons (a : SE) (r : SA) : SA := fun σ h => (a σ h).bind fun x h1 => (r σ h1).bind fun xs h2 => .ok (x :: xs) h2
def sTup (a : SA) : SE := fun σ h => (a σ h).bind fun xs h1 => if xs.length ≤ sizeLine then .ok (.tup xs) h1 else .stk
def alloc (o : Ob) (h : Hh) : Res T := .ok (.ref h.length) (h ++ [o])
def sLst (a : SA) : SE := fun σ h => (a σ h).bind fun xs h1 => if xs.length ≤ sizeLine then alloc (.lst xs) h1 else .stk
/-- f(..) over values -/
def sCl (f : List T → Hh → Res T) (a : SA) : SE := fun σ h => (a σ h).bind fun xs h1 => f xs h1
/-- o.m(..) over values -/
def sMt (f : T → List T → Hh → Res T) (o : SE) (a : SA) : SE := fun σ h => (o σ h).bind fun x h1 => (a σ h1).bind fun xs h2 => f x xs h2

/-! ### operations on values -/
def lstAt (h : Hh) (l : Nat) : Option (List T) := match h[l]? with | some (.lst ts) => some ts | _ => none
def insAt (h : Hh) (l : Nat) : Option (Str × List (Str × T)) := match h[l]? with | some (.ins c fs) => some (c, fs) | _ => none

def oAdd (x y : T) (h : Hh) : Res T :=
  match x, y with
  | .int i, .int j => .ok (.int (i + j)) h
  | .str i, .str j => if i.length + j.length ≤ sizeLine then .ok (.str (i ++ j)) h else .stk
  | .tup xs, .tup ys => if xs.length + ys.length ≤ sizeLine then .ok (.tup (xs ++ ys)) h else .stk
  | .ref l, .ref b => match lstAt h l, lstAt h b with
    | some xs, some zs => if xs.length + zs.length ≤ sizeLine then alloc (.lst (xs ++ zs)) h else .stk
    | _, _ => .stk
  | _, _ => .stk
def oSub (x y : T) (h : Hh) : Res T :=
  match x, y with
  | .int i, .int j => .ok (.int (i - j)) h
  | _, _ => .stk
def MulOk (i j : Int) : Prop := (-(2 ^ 64) < i ∧ i < 2 ^ 64) ∨ (-(2 ^ 64) < j ∧ j < 2 ^ 64)
def PowOk (i j : Int) : Prop := 0 ≤ j ∧ j ≤ 1000000 ∧ i.natAbs < 2 ^ 64
open Classical in
noncomputable def oMul (x y : T) (h : Hh) : Res T :=
  match x, y with
  | .int i, .int j => if MulOk i j then .ok (.int (i * j)) h else .stk
  | _, _ => .stk
def oMod (x y : T) (h : Hh) : Res T :=
  match x, y with
  | .int i, .int j => if 0 < j then .ok (.int (i % j)) h else .stk
  | _, _ => .stk
def oDiv (x y : T) (h : Hh) : Res T :=
  match x, y with
  | .int i, .int j => if 0 < j ∧ j < 1073741824 then .ok (.int (i / j)) h else .stk
  | _, _ => .stk
open Classical in
noncomputable def oPow (x y : T) (h : Hh) : Res T :=
  match x, y with
  | .int i, .int j => if PowOk i j then .ok (.int (i ^ j.toNat)) h else .stk
  | _, _ => .stk
def oNeg (x : T) (h : Hh) : Res T := match x with | .int i => .ok (.int (-i)) h | _ => .stk
def oLt (x y : T) (h : Hh) : Res T := match x, y with | .int i, .int j => .ok (.bl (decide (i < j))) h | _, _ => .stk
def oLe (x y : T) (h : Hh) : Res T := match x, y with | .int i, .int j => .ok (.bl (decide (i ≤ j))) h | _, _ => .stk
def oGt (x y : T) (h : Hh) : Res T := match x, y with | .int i, .int j => .ok (.bl (decide (j < i))) h | _, _ => .stk
def oGe (x y : T) (h : Hh) : Res T := match x, y with | .int i, .int j => .ok (.bl (decide (j ≤ i))) h | _, _ => .stk
def isNonT : T → Bool | .non => true | _ => false
/-- x is None, x is not None -/
def oIsN (x : T) (h : Hh) : Res T := .ok (.bl (isNonT x)) h
def oNotN (x : T) (h : Hh) : Res T := .ok (.bl (!isNonT x)) h

def oIs (x y : T) (h : Hh) : Res T :=
  match y with
  | .non => .ok (.bl (isNonT x)) h
  | .bl b => match x with | .bl a => .ok (.bl (decide (a = b))) h | _ => .stk
  | _ => .stk
def oIsNot (x y : T) (h : Hh) : Res T :=
  match y with
  | .non => .ok (.bl (!isNonT x)) h
  | .bl b => match x with | .bl a => .ok (.bl (!decide (a = b))) h | _ => .stk
  | _ => .stk
def optL {α : Type} (f : T → Option α) : List T → Option (List α)
  | [] => some []
  | t :: ts => match f t, optL f ts with | some d, some ds => some (d :: ds) | _, _ => none
/-- plain data: None, bools, ints, texts, tuples and lists of these, less than n deep -/
def toD (h : Hh) : Nat → T → Option PyData
  | 0 => fun _ => none
  | n + 1 => fun t => match t with
    | .non => some .none
    | .bl b => some (.bool b)
    | .int i => some (.int i)
    | .str s => some (.str s)
    | .tup ts => (optL (toD h n) ts).map .tuple
    | .fl ts => (optL (toD h n) ts).map .list
    | .ref l => match h[l]? with | some (.lst ts) => (optL (toD h n) ts).map .list | _ => none
    | .cls _ => none
def oEq (x y : T) (h : Hh) : Res T := match toD h 24 x, toD h 24 y with | some d, some e => .ok (.bl (PyData.eqv d e)) h | _, _ => .stk
def oNe (x y : T) (h : Hh) : Res T := match toD h 24 x, toD h 24 y with | some d, some e => .ok (.bl (!PyData.eqv d e)) h | _, _ => .stk
/-- x in y: a text in a text, or an item of a list or tuple -/
def inT (x y : T) (h : Hh) : Option Bool :=
  match x, y with
  | .str i, .str j => some (!(Builtin.Str.occurrences j i 0 j.length 1).isEmpty)
  | x, y => match toD h 24 x, toD h 24 y with
    | some d, some (.list ds) => some (ds.any fun z => PyData.eqv z d)
    | some d, some (.tuple ds) => some (ds.any fun z => PyData.eqv z d)
    | _, _ => none
def oIn (x y : T) (h : Hh) : Res T := match inT x y h with | some b => .ok (.bl b) h | none => .stk
def oNotIn (x y : T) (h : Hh) : Res T := match inT x y h with | some b => .ok (.bl (!b)) h | none => .stk
/-- x[i] -/
def oIx (x y : T) (h : Hh) : Res T :=
  match y with
  | .int i => match x with
    | .tup ts => match L2.atI ts i with | some t => .ok t h | none => .stk
    | .fl ts => match L2.atI ts i with | some t => .ok t h | none => .stk
    | .ref l => match lstAt h l with
      | some ts => match L2.atI ts i with | some t => .ok t h | none => .stk
      | none => .stk
    | .str z => if z.length ≤ sizeLine then (match L2.atI z.cps.toList i with | some c => .ok (.str ⟨#[c]⟩) h | none => .stk) else .stk
    | _ => .stk
  | _ => .stk
def cutT {α : Type} (xs : List α) (lo hi : Option Int) : List α := (xs.drop (HT.sIx xs.length 0 lo)).take (HT.sIx xs.length xs.length hi - HT.sIx xs.length 0 lo)
/-- an end of a slice -/
abbrev SO := St3 → Hh → Res (Option Int)
def soNone : SO := fun _ h => .ok none h
def soSome (a : SE) : SO := fun σ h => (a σ h).bind fun x h1 => match x with | .int i => .ok (some i) h1 | _ => .stk
def oSl (x : T) (lo hi : Option Int) (h : Hh) : Res T :=
  match x with
  | .tup ts => .ok (.tup (cutT ts lo hi)) h
  | .fl ts => alloc (.lst (cutT ts lo hi)) h
  | .ref l => match lstAt h l with | some ts => alloc (.lst (cutT ts lo hi)) h | none => .stk
  | .str z => if z.length ≤ sizeLine then .ok (.str (L2.cutS z lo hi)) h else .stk
  | _ => .stk
def sSl (a : SE) (lo hi : SO) : SE := fun σ h => (a σ h).bind fun x h1 => (lo σ h1).bind fun l h2 => (hi σ h2).bind fun u h3 => oSl x l u h3
/-- o.f of an instance -/
def oFld (f : Str) (x : T) (h : Hh) : Res T :=
  match x with
  | .ref l => match insAt h l with
    | some (_, fs) => match fs.lookup f with | some t => .ok t h | none => .stk
    | none => .stk
  | _ => .stk
def putT (f : Str) (v : T) : List (Str × T) → List (Str × T)
  | [] => [(f, v)]
  | (g, w) :: r => if g = f then (g, v) :: r else (g, w) :: putT f v r

/-! ### built-in functions on values -/
def bLen (xs : List T) (h : Hh) : Res T :=
  match xs with
  | [.tup ts] => .ok (.int ts.length) h
  | [.fl ts] => .ok (.int ts.length) h
  | [.str z] => if z.length ≤ sizeLine then .ok (.int z.length) h else .stk
  | [.ref l] => match lstAt h l with | some ts => .ok (.int ts.length) h | none => .stk
  | _ => .stk
def bInt (xs : List T) (h : Hh) : Res T :=
  match xs with
  | [.int i] => .ok (.int i) h
  | _ => .stk
def blsOf : List T → Option (List Bool)
  | [] => some []
  | .bl b :: r => (blsOf r).map (b :: ·)
  | _ => none
/-- all(..), any(..), tuple(..) of a list's items -/
def bAll (ts : List T) (h : Hh) : Res T := match blsOf ts with | some bs => .ok (.bl (bs.all id)) h | none => .stk
def bAny (ts : List T) (h : Hh) : Res T := match blsOf ts with | some bs => .ok (.bl (bs.any id)) h | none => .stk
def bTup (ts : List T) (h : Hh) : Res T := .ok (.tup ts) h
/-- over a list value: all(xs), tuple(xs) .. -/
def overL (f : List T → Hh → Res T) (xs : List T) (h : Hh) : Res T :=
  match xs with
  | [.ref l] => match lstAt h l with | some ts => f ts h | none => .stk
  | _ => .stk
def bTuple (xs : List T) (h : Hh) : Res T :=
  match xs with
  | [.tup ts] => .ok (.tup ts) h
  | [.fl ts] => .ok (.tup ts) h
  | [.ref l] => match lstAt h l with | some ts => .ok (.tup ts) h | none => .stk
  | _ => .stk
def bList (xs : List T) (h : Hh) : Res T :=
  match xs with
  | [.tup ts] => alloc (.lst ts) h
  | [.fl ts] => alloc (.lst ts) h
  | [.ref l] => match lstAt h l with | some ts => alloc (.lst ts) h | none => .stk
  | _ => .stk
/-- isinstance(x, c) for the built-in kinds -/
inductive Kd where | int | bool | str | tuple | list | dict
  deriving DecidableEq
def isK (k : Kd) (x : T) (h : Hh) : Option Bool :=
  match x with
  | .non => some false
  | .bl _ => some (k == .bool || k == .int)
  | .int _ => some (k == .int)
  | .str _ => some (k == .str)
  | .tup _ => some (k == .tuple)
  | .fl _ => some (k == .list)
  | .ref l => match h[l]? with
    | some (.lst _) => some (k == .list)
    | some (.dic _) => some (k == .dict)
    | some (.ins _ _) => none
    | none => none
  | .cls _ => none
def oIsK (k : Kd) (x : T) (h : Hh) : Res T := match isK k x h with | some b => .ok (.bl b) h | none => .stk
/-- isinstance(x, C), C a class of the program (no class below it) -/
def oIsC (c : Str) (x : T) (h : Hh) : Res T :=
  match x with
  | .cls _ => .stk
  | .ref l => match h[l]? with
    | some (.ins d _) => .ok (.bl (decide (d = c))) h
    | some _ => .ok (.bl false) h
    | none => .stk
  | _ => .ok (.bl false) h

/-! ### methods of lists -/
def mAppend (x : T) (vs : List T) (h : Hh) : Res T :=
  match x, vs with
  | .ref l, [y] => match lstAt h l with
    | some ts => if ts.length < sizeLine then .ok .non (h.set l (.lst (ts ++ [y]))) else .stk
    | none => .stk
  | _, _ => .stk
def mClear (x : T) (vs : List T) (h : Hh) : Res T :=
  match x, vs with
  | .ref l, [] => match lstAt h l with
    | some _ => .ok .non (h.set l (.lst []))
    | none => .stk
  | _, _ => .stk
def mExtend (x : T) (vs : List T) (h : Hh) : Res T :=
  match x, vs with
  | .ref l, [.ref b] => match lstAt h l, lstAt h b with
    | some ts, some zs => if ts.length + zs.length ≤ sizeLine then .ok .non (h.set l (.lst (ts ++ zs))) else .stk
    | _, _ => .stk
  | _, _ => .stk
/-- the first place of an equal item -/
def findE (d : PyData) : List PyData → Nat → Option Nat
  | [], _ => none
  | z :: r, j => if PyData.eqv z d then some j else findE d r (j + 1)
def mIndex (x : T) (vs : List T) (h : Hh) : Res T :=
  match vs with
  | [y] => match toD h 24 x, toD h 24 y with
    | some (.list ds), some d => match findE d ds 0 with | some j => .ok (.int j) h | none => .stk
    | some (.tuple ds), some d => match findE d ds 0 with | some j => .ok (.int j) h | none => .stk
    | _, _ => .stk
  | _ => .stk

def isL (x : T) (h : Hh) : Bool := match x with | .ref l => (lstAt h l).isSome | .fl _ => true | _ => false
/-- o.m(..), o a list -/
def sMtL (f : T → List T → Hh → Res T) (o : SE) (a : SA) : SE := fun σ h => (o σ h).bind fun x h1 => if isL x h1 = true then (a σ h1).bind fun xs h2 => f x xs h2 else .stk
/-- the arity -/
def arN (n : Nat) (f : List T → Hh → Res T) (xs : List T) (h : Hh) : Res T := if xs.length = n then f xs h else .stk
/-- o.m(..) of an instance of c: the def gets o first -/
def sMeth (c m : Str) (n : Nat) (f : List T → Hh → Res T) (o : SE) (a : SA) : SE := fun σ h => (o σ h).bind fun x h1 => match x with
  | .ref l => match insAt h1 l with
    | some (d, fs) => if d = c ∧ fs.lookup m = none then (a σ h1).bind fun xs h2 => arN n f (x :: xs) h2 else .stk
    | none => .stk
  | _ => .stk
/-- the keyword-only values in order: true from the call, false the default -/
def weave {α : Type} : List Bool → List α → List α → List α
  | [], _, _ => []
  | true :: r, ds, z :: zs => z :: weave r ds zs
  | true :: _, _, [] => []
  | false :: r, d :: ds, zs => d :: weave r ds zs
  | false :: _, [], _ => []
/-- f(.., k = v, ..): n positional, q keyword values -/
def sClK (n q : Nat) (pat : List Bool) (ds : List T) (f : List T → Hh → Res T) (a kw : SA) : SE := fun σ h => (a σ h).bind fun xs h1 => (kw σ h1).bind fun zs h2 => if xs.length = n ∧ zs.length = q then f (xs ++ weave pat ds zs) h2 else .stk
/-! ### what is walked -/
inductive Src where
  | its (ts : List T) | live (l : Nat)
abbrev SI := St3 → Hh → Res Src
def Src.len (s : Src) (h : Hh) : Nat := match s with | .its ts => ts.length | .live l => match lstAt h l with | some ts => ts.length | none => 0
/-- none: it is no list any more; some none: the end -/
def Src.at (s : Src) (h : Hh) (i : Nat) : Option (Option T) :=
  match s with
  | .its ts => some ts[i]?
  | .live l => match lstAt h l with | some ts => some ts[i]? | none => none
def srcOf (x : T) (h : Hh) : Res Src :=
  match x with
  | .tup ts => .ok (.its ts) h
  | .fl ts => .ok (.its ts) h
  | .str z => .ok (.its (z.cps.toList.map fun c => .str ⟨#[c]⟩)) h
  | .ref l => match lstAt h l with | some _ => .ok (.live l) h | none => .stk
  | _ => .stk
def siE (a : SE) : SI := fun σ h => (a σ h).bind fun x h1 => srcOf x h1
def rangeT (lo : Int) : Nat → List T
  | 0 => []
  | n + 1 => .int lo :: rangeT (lo + 1) n
def RngOk (j : Int) : Prop := -(2 ^ 62) ≤ j ∧ j < 2 ^ 62
open Classical in
noncomputable def rngOf (xs : List T) (h1 : Hh) : Res Src := match xs with
  | [.int j] => if RngOk j then .ok (.its (rangeT 0 j.toNat)) h1 else .stk
  | _ => .stk
noncomputable def siRange1 (a : SA) : SI := fun σ h => (a σ h).bind rngOf

/-! ### targets -/
abbrev SG := T → St3 → Option St3
def sgName (i : Nat) : SG := fun t σ => some (σ.set i (some t))
abbrev SGs := List T → St3 → Option St3
def sgsNil : SGs := fun ts σ => match ts with | [] => some σ | _ => none
def sgsCons (g : SG) (r : SGs) : SGs := fun ts σ => match ts with
  | t :: more => match g t σ with | some σ1 => r more σ1 | none => none
  | [] => none
def sgTup (n : Nat) (g : SGs) : SG := fun t σ => match t with
  | .tup ts => if ts.length = n then g ts σ else none
  | _ => none

/-! ### list comprehensions: the items made -/
def wipeT (σ : St3) : List Nat → St3
  | [] => σ
  | v :: vs => (wipeT σ vs).set v none
def lcRun (s : Src) (g : SG) (tt : ST) (te : SE) (σ : St3) : Nat → Nat → List T → Hh → Res (List T)
  | k, i, acc, h => match s.at h i with
    | none => .stk
    | some none => .ok acc h
    | some (some x) => match k with
      | 0 => .stk
      | k + 1 => match g x σ with
        | none => .stk
        | some σ1 => match tt σ1 h with
          | .ok b h1 => if b = true then (match te σ1 h1 with
              | .ok t h2 => if acc.length < sizeLine then lcRun s g tt te σ k (i + 1) (acc ++ [t]) h2 else .stk
              | _ => .stk) else lcRun s g tt te σ k (i + 1) acc h1
          | _ => .stk
def stYes : ST := fun _ h => .ok true h
/-- the items of [te for g in si if tt] -/
def saLc (si : SI) (g : SG) (tt : ST) (te : SE) (vs : List Nat) : SA := fun σ h => (si σ h).bind fun s h1 => lcRun s g tt te (wipeT σ vs) (s.len h1) 0 [] h1
/-- the list itself -/
def sLc (a : SA) : SE := fun σ h => (a σ h).bind fun xs h1 => alloc (.lst xs) h1
/-- f([..]) of a list that nobody keeps -/
def sOver (f : List T → Hh → Res T) (a : SA) : SE := fun σ h => (a σ h).bind fun xs h1 => f xs h1

/-! ### statements -/
inductive Flo where
  | nx (σ : St3) (h : Hh) | rt (t : T) (h : Hh) | bk (σ : St3) (h : Hh) | ct (σ : St3) (h : Hh) | exc (c : Str) (fs : List (Str × T)) (σ : St3) (h : Hh) | stk
abbrev SS := St3 → Hh → Flo
def Flo.seq (r : Flo) (k : SS) : Flo := match r with | .nx σ h => k σ h | r => r
@[simp] theorem Flo.seq_nx (σ : St3) (h : Hh) (k : SS) : (Flo.nx σ h).seq k = k σ h := Eq.trans rfl rfl
@[simp] theorem Flo.seq_rt (t : T) (h : Hh) (k : SS) : (Flo.rt t h).seq k = .rt t h := Eq.trans rfl rfl
def Res.flo {α : Type} (r : Res α) (σ : St3) (k : α → Hh → Flo) : Flo := match r with | .ok a h => k a h | .exc c fs h => .exc c fs σ h | .stk => .stk
@[simp] theorem Res.flo_ok {α : Type} (a : α) (h : Hh) (σ : St3) (k : α → Hh → Flo) : (Res.ok a h).flo σ k = k a h := Eq.trans rfl rfl
def ssNil : SS := fun σ h => .nx σ h
def ssCons (a b : SS) : SS := fun σ h => (a σ h).seq b
def ssIf (c : ST) (a b : SS) : SS := fun σ h => (c σ h).flo σ fun x h1 => if x = true then a σ h1 else b σ h1
def ssRet (a : SE) : SS := fun σ h => (a σ h).flo σ fun x h1 => .rt x h1
def ssRetN : SS := fun _ h => .rt .non h
def ssExpr (a : SE) : SS := fun σ h => (a σ h).flo σ fun _ h1 => .nx σ h1
def ssAsg (a : SE) (g : SG) : SS := fun σ h => (a σ h).flo σ fun x h1 => match g x σ with | some σ1 => .nx σ1 h1 | none => .stk
/-- a, b = x, y: plain names, from one row of values -/
def ssPar (is : List Nat) (a : SA) : SS := fun σ h => (a σ h).flo σ fun xs h1 => if xs.length = is.length then .nx ((is.zip xs).foldl (fun s p => s.set p.1 (some p.2)) σ) h1 else .stk
def ssFld (o v : SE) (f : Str) : SS := fun σ h => (v σ h).flo σ fun y h1 => (o σ h1).flo σ fun x h2 => match x with
  | .ref l => match insAt h2 l with
    | some (c, fs) => if fs.length < 1000 then .nx σ (h2.set l (.ins c (putT f y fs))) else .stk
    | none => .stk
  | _ => .stk
/-- o.f = v, the classes' own attributes told -/
def ssFldC (cs : List (Str × List Str)) (o v : SE) (f : Str) : SS := fun σ h => (v σ h).flo σ fun y h1 => (o σ h1).flo σ fun x h2 => match x with
  | .ref l => match insAt h2 l with
    | some (c, fs) => match cs.lookup c with
      | some as => if as.contains f && decide (fs.length < 1000) then .nx σ (h2.set l (.ins c (putT f y fs))) else .stk
      | none => .stk
    | none => .stk
  | _ => .stk
/-- o[i] = v of a list -/
def ssSub (o i v : SE) : SS := fun σ h => (v σ h).flo σ fun y h1 => (o σ h1).flo σ fun x h2 => (i σ h2).flo σ fun k h3 => match x, k with
  | .ref l, .int n => match lstAt h3 l with
    | some ts => match L2.ixN ts.length n with | some j => .nx σ (h3.set l (.lst (ts.set j y))) | none => .stk
    | none => .stk
  | _, _ => .stk
def ssRaise (c : Str) (ns : List Str) (a : SA) : SS := fun σ h => (a σ h).flo σ fun xs h1 => if xs.length = ns.length then .exc c (ns.zip xs) σ h1 else .stk
def ssBreak : SS := fun σ h => .bk σ h
def ssCont : SS := fun σ h => .ct σ h
def forRun (s : Src) (g : SG) (b : SS) : Nat → Nat → St3 → Hh → Flo
  | k, i, σ, h => match s.at h i with
    | none => .stk
    | some none => .nx σ h
    | some (some x) => match k with
      | 0 => .stk
      | k + 1 => match g x σ with
        | none => .stk
        | some σ1 => match b σ1 h with
          | .nx σ2 h2 => forRun s g b k (i + 1) σ2 h2
          | .ct σ2 h2 => forRun s g b k (i + 1) σ2 h2
          | .bk σ2 h2 => .nx σ2 h2
          | r => r
def ssFor (si : SI) (g : SG) (b : SS) : SS := fun σ h => (si σ h).flo σ fun s h1 => forRun s g b (s.len h1) 0 σ h1
def whileRun (c : ST) (b : SS) : Nat → St3 → Hh → Flo
  | 0, _, _ => .stk
  | k + 1, σ, h => (c σ h).flo σ fun x h1 => if x = true then (match b σ h1 with
      | .nx σ2 h2 => whileRun c b k σ2 h2
      | .ct σ2 h2 => whileRun c b k σ2 h2
      | .bk σ2 h2 => .nx σ2 h2
      | r => r) else .nx σ h1
/-- try: a except c1 as x: k1 ..; k1 gets the error's fields; the slot (as x) is empty behind -/
def ssTry (a : SS) (hs : Str → Option ((List (Str × T)) → SS)) : SS := fun σ h => match a σ h with
  | .exc c fs σ1 h1 => match hs c with
    | some k => k fs σ1 h1
    | none => .exc c fs σ1 h1
  | r => r
/-- a def: its body runs on its arguments -/
def startT (n : Nat) (ts : List T) : St3 := ts.map some ++ List.replicate (n - ts.length) none
def defRun (n : Nat) (b : SS) (ts : List T) (h : Hh) : Res T := match b (startT n ts) h with
  | .nx _ h1 => .ok .non h1
  | .rt t h1 => .ok t h1
  | .exc c fs _ h1 => .exc c fs h1
  | _ => .stk
/-- C(..): a new instance, then __init__ -/
def bMake (c : Str) (n : Nat) (f : List T → Hh → Res T) (xs : List T) (h : Hh) : Res T :=
  (arN n f (.ref h.length :: xs) (h ++ [.ins c []])).bind fun t h1 => match t with | .non => .ok (.ref h.length) h1 | _ => .stk
end W3
end

section
/-! WB: trees and the layer's values; the small heap and the abstract heap; what a run promises. -/
namespace W3
open PySem L2

/-- a list that nobody writes: locked, or of the module -/
def SqF (K : PySem.W.Frag) (H : Hp) (a : Addr) (xs : List V) : Prop :=
  (∃ o, H a = some (.frz o (.lst xs))) ∨
    ∃ (o : Obj) (its : Array Value) (n : Nat), K.lookup a = some o ∧ o.cls = .type "list" ∧ o.dict = none ∧ o.data = .seq its n ∧ its.size ≤ sizeLine ∧ Vals xs its.toList
theorem SqF.sq {K : PySem.W.Frag} {H : Hp} {a : Addr} {xs : List V} (h : SqF K H a xs) : SqL K H a xs := by
  rcases h with ⟨o, h⟩ | h
  · exact .inl (.inr ⟨o, h⟩)
  · exact .inr h

abbrev Mp := Nat → Option Addr

mutual
inductive RT (K : PySem.W.Frag) (mg : Str → Option Value) (m : Mp) (H : Hp) : T → V → Prop
  | non : RT K mg m H .non .non
  | bl (b : Bool) : RT K mg m H (.bl b) (.bl b)
  | int (i : Int) : RT K mg m H (.int i) (.int i)
  | str {x : Str} : PyData.strOk x = true → RT K mg m H (.str x) (.str x)
  | tup {a : Addr} {vs : List V} {ts : List T} : SqT K H a vs → RTs K mg m H ts vs → RT K mg m H (.tup ts) (.ref a)
  | fl {a : Addr} {vs : List V} {ts : List T} : SqF K H a vs → RTs K mg m H ts vs → RT K mg m H (.fl ts) (.ref a)
  | ref {l : Nat} {a : Addr} : m l = some a → RT K mg m H (.ref l) (.ref a)
  | cls {c : Str} {C : Addr} : mg c = some (.ref C) → RT K mg m H (.cls c) (.ref C)
inductive RTs (K : PySem.W.Frag) (mg : Str → Option Value) (m : Mp) (H : Hp) : List T → List V → Prop
  | nil : RTs K mg m H [] []
  | cons {t : T} {ts : List T} {v : V} {vs : List V} : RT K mg m H t v → RTs K mg m H ts vs → RTs K mg m H (t :: ts) (v :: vs)
end

/-- fields by name, in order -/
inductive RF (K : PySem.W.Frag) (mg : Str → Option Value) (m : Mp) (H : Hp) : List (Str × T) → List (Str × V) → Prop
  | nil : RF K mg m H [] []
  | cons {f : Str} {t : T} {v : V} {fs : List (Str × T)} {fv : List (Str × V)} : RT K mg m H t v → RF K mg m H fs fv → RF K mg m H ((f, t) :: fs) ((f, v) :: fv)

/-- from one moment to a later one -/
structure Ext (m : Mp) (H : Hp) (m' : Mp) (H' : Hp) : Prop where
  mono : ∀ l a, m l = some a → m' l = some a
  fresh : ∀ l a, m' l = some a → m l = some a ∨ H a = none
  live : ∀ a o, H a = some o → ∃ o', H' a = some o'
  keep : ∀ a o, H a = some o → (∀ l, m l ≠ some a) → H' a = some o
  tups : ∀ a vs, H a = some (.tup vs) → H' a = some (.tup vs)
  frzs : ∀ a o u, H a = some (.frz o u) → H' a = some (.frz o u)
  xds : ∀ a fs, H a = some (.xd fs) → H' a = some (.xd fs)
theorem Ext.refl (m : Mp) (H : Hp) : Ext m H m H := ⟨fun _ _ e => e, fun _ _ e => .inl e, fun _ o e => ⟨o, e⟩, fun _ _ e _ => e, fun _ _ e => e, fun _ _ _ e => e, fun _ _ e => e⟩
theorem Ext.trans {m1 m2 m3 : Mp} {H1 H2 H3 : Hp} (a : Ext m1 H1 m2 H2) (b : Ext m2 H2 m3 H3) : Ext m1 H1 m3 H3 where
  mono := fun l x e => b.mono l x (a.mono l x e)
  fresh := fun l x e => by
    rcases b.fresh l x e with q | q
    · exact a.fresh l x q
    · cases hx : H1 x with
      | none => exact .inr rfl
      | some o =>
        obtain ⟨o', e'⟩ := a.live x o hx
        rw [q] at e'
        cases e'
  live := fun x o e => by
    obtain ⟨o', e'⟩ := a.live x o e
    exact b.live x o' e'
  keep := fun x o e n => b.keep x o (a.keep x o e n) fun l q => by
    rcases a.fresh l x q with z | z
    · exact n l z
    · rw [e] at z
      cases z
  tups := fun x vs e => b.tups x vs (a.tups x vs e)
  frzs := fun x o u e => b.frzs x o u (a.frzs x o u e)
  xds := fun x fs e => b.xds x fs (a.xds x fs e)

section
variable {K : PySem.W.Frag} {mg : Str → Option Value} {m m' : Mp} {H H' : Hp}
/-- what trees lean on -/
structure Tr (m : Mp) (H : Hp) (m' : Mp) (H' : Hp) : Prop where
  mono : ∀ l a, m l = some a → m' l = some a
  tups : ∀ a vs, H a = some (.tup vs) → H' a = some (.tup vs)
  frzs : ∀ a o u, H a = some (.frz o u) → H' a = some (.frz o u)
theorem Ext.tr (E : Ext m H m' H') : Tr m H m' H' := ⟨E.mono, E.tups, E.frzs⟩
theorem Tr.trans {m2 : Mp} {H2 : Hp} (a : Tr m H m' H') (b : Tr m' H' m2 H2) : Tr m H m2 H2 := ⟨fun l x e => b.mono l x (a.mono l x e), fun x vs e => b.tups x vs (a.tups x vs e), fun x o u e => b.frzs x o u (a.frzs x o u e)⟩
theorem Tr.refl : Tr m H m H := ⟨fun _ _ e => e, fun _ _ e => e, fun _ _ _ e => e⟩
theorem SqT.tr (E : Tr m H m' H') {a : Addr} {vs : List V} (h : SqT K H a vs) : SqT K H' a vs := by
  rcases h with h | h
  · rcases h with h | ⟨o, h⟩
    · exact .inl (.inl (E.tups a vs h))
    · exact .inl (.inr ⟨o, E.frzs a o _ h⟩)
  · exact .inr h
theorem SqF.tr (E : Tr m H m' H') {a : Addr} {vs : List V} (h : SqF K H a vs) : SqF K H' a vs := by
  rcases h with ⟨o, h⟩ | h
  · exact .inl ⟨o, E.frzs a o _ h⟩
  · exact .inr h
mutual
theorem RT.tr (E : Tr m H m' H') : ∀ {t : T} {v : V}, RT K mg m H t v → RT K mg m' H' t v
  | _, _, .non => .non
  | _, _, .bl b => .bl b
  | _, _, .int i => .int i
  | _, _, .str h => .str h
  | _, _, .tup h r => .tup (SqT.tr E h) (RTs.tr E r)
  | _, _, .fl h r => .fl (SqF.tr E h) (RTs.tr E r)
  | _, _, .ref h => .ref (E.mono _ _ h)
  | _, _, .cls h => .cls h
theorem RTs.tr (E : Tr m H m' H') : ∀ {ts : List T} {vs : List V}, RTs K mg m H ts vs → RTs K mg m' H' ts vs
  | _, _, .nil => .nil
  | _, _, .cons r q => .cons (RT.tr E r) (RTs.tr E q)
end
theorem RF.tr (E : Tr m H m' H') {fs : List (Str × T)} {fv : List (Str × V)} (r : RF K mg m H fs fv) : RF K mg m' H' fs fv := by
  induction r with
  | nil => exact .nil
  | cons r _ ih => exact .cons (r.tr E) ih
theorem SqT.ext (E : Ext m H m' H') {a : Addr} {vs : List V} (h : SqT K H a vs) : SqT K H' a vs := SqT.tr E.tr h
theorem SqF.ext (E : Ext m H m' H') {a : Addr} {vs : List V} (h : SqF K H a vs) : SqF K H' a vs := SqF.tr E.tr h
theorem RT.ext (E : Ext m H m' H') {t : T} {v : V} (r : RT K mg m H t v) : RT K mg m' H' t v := r.tr E.tr
theorem RTs.ext (E : Ext m H m' H') {ts : List T} {vs : List V} (r : RTs K mg m H ts vs) : RTs K mg m' H' ts vs := r.tr E.tr
theorem RF.ext (E : Ext m H m' H') {fs : List (Str × T)} {fv : List (Str × V)} (r : RF K mg m H fs fv) : RF K mg m' H' fs fv := r.tr E.tr
theorem RTs.length : ∀ {ts : List T} {vs : List V}, RTs K mg m H ts vs → ts.length = vs.length
  | _, _, .nil => rfl
  | _, _, .cons _ q => by rw [List.length_cons, List.length_cons, q.length]
theorem RTs.get : ∀ {ts : List T} {vs : List V} {i : Nat} {t : T}, RTs K mg m H ts vs → ts[i]? = some t → ∃ v, vs[i]? = some v ∧ RT K mg m H t v
  | _, _, _, _, .nil, e => by simp at e
  | _, _, 0, _, .cons r _, e => by simp at e; subst e; exact ⟨_, rfl, r⟩
  | _, _, i + 1, t, .cons _ q, e => by
    obtain ⟨v, h1, h2⟩ := RTs.get (i := i) (t := t) q (by simpa using e)
    exact ⟨v, by simpa using h1, h2⟩
theorem RTs.getV : ∀ {ts : List T} {vs : List V} {i : Nat} {v : V}, RTs K mg m H ts vs → vs[i]? = some v → ∃ t, ts[i]? = some t ∧ RT K mg m H t v
  | _, _, _, _, .nil, e => by simp at e
  | _, _, 0, _, .cons r _, e => by simp at e; subst e; exact ⟨_, rfl, r⟩
  | _, _, i + 1, t, .cons _ q, e => by
    obtain ⟨v, h1, h2⟩ := RTs.getV (i := i) (v := t) q (by simpa using e)
    exact ⟨v, by simpa using h1, h2⟩
theorem RTs.append : ∀ {ts us : List T} {vs ws : List V}, RTs K mg m H ts vs → RTs K mg m H us ws → RTs K mg m H (ts ++ us) (vs ++ ws)
  | _, _, _, _, .nil, s => s
  | _, _, _, _, .cons r q, s => .cons r (RTs.append q s)
theorem RTs.take : ∀ {ts : List T} {vs : List V} (n : Nat), RTs K mg m H ts vs → RTs K mg m H (ts.take n) (vs.take n)
  | _, _, 0, _ => .nil
  | _, _, _ + 1, .nil => .nil
  | _, _, n + 1, .cons r q => .cons r (RTs.take n q)
theorem RTs.drop : ∀ {ts : List T} {vs : List V} (n : Nat), RTs K mg m H ts vs → RTs K mg m H (ts.drop n) (vs.drop n)
  | _, _, 0, r => r
  | _, _, _ + 1, .nil => .nil
  | _, _, n + 1, .cons _ q => RTs.drop n q
theorem RTs.set : ∀ {ts : List T} {vs : List V} (i : Nat) {t : T} {v : V}, RTs K mg m H ts vs → RT K mg m H t v → RTs K mg m H (ts.set i t) (vs.set i v)
  | _, _, _, _, _, .nil, _ => .nil
  | _, _, 0, _, _, .cons _ q, r => .cons r q
  | _, _, i + 1, _, _, .cons p q, r => .cons p (RTs.set i q r)
theorem RF.lookup {fs : List (Str × T)} {fv : List (Str × V)} (r : RF K mg m H fs fv) {f : Str} {t : T} (e : fs.lookup f = some t) : ∃ v, fv.lookup f = some v ∧ RT K mg m H t v := by
  induction r with
  | nil => simp [List.lookup] at e
  | @cons g u v fs fv r _ ih =>
    simp only [List.lookup] at e ⊢
    split at e
    · cases e; exact ⟨v, rfl, r⟩
    · exact ih e
theorem RF.length {fs : List (Str × T)} {fv : List (Str × V)} (r : RF K mg m H fs fv) : fs.length = fv.length := by
  induction r with
  | nil => rfl
  | cons _ _ ih => simp [ih]
theorem RF.put {fs : List (Str × T)} {fv : List (Str × V)} (r : RF K mg m H fs fv) {f : Str} {t : T} {v : V} (q : RT K mg m H t v) : RF K mg m H (putT f t fs) (putF f v fv) := by
  induction r with
  | nil => exact .cons q .nil
  | @cons g u w fs fv r rr ih =>
    unfold putT putF
    by_cases e : g = f
    · rw [if_pos e, if_pos e]; exact .cons q rr
    · rw [if_neg e, if_neg e]; exact .cons r ih
end

section
variable (K : PySem.W.Frag) (mg : Str → Option Value)
/-- what stands at a -/
def OR (m : Mp) (H : Hp) (a : Addr) : Ob → Prop
  | .lst ts => ∃ vs, H a = some (.lst vs) ∧ RTs K mg m H ts vs
  | .dic kvs => kvs = [] ∧ H a = some (.dK [])
  | .ins c fs => ∃ C dx fv, mg c = some (.ref C) ∧ H a = some (.ins C dx fv) ∧ RF K mg m H fs fv
structure HR (m : Mp) (h : Hh) (H : Hp) : Prop where
  dom : ∀ l a, m l = some a → l < h.length
  inj : ∀ l l' a, m l = some a → m l' = some a → l = l'
  ob : ∀ l o, h[l]? = some o → ∃ a, m l = some a ∧ OR K mg m H a o
end
section
variable {K : PySem.W.Frag} {mg : Str → Option Value} {m : Mp} {H : Hp} {h : Hh}
theorem OR.some {a : Addr} {o : Ob} (r : OR K mg m H a o) : ∃ u, H a = some u ∧ (∀ vs, u ≠ .tup vs) ∧ (∀ ob w, u ≠ .frz ob w) ∧ (∀ fs, u ≠ .xd fs) ∧ ∀ b, u ≠ .own b := by
  cases o with
  | lst ts =>
    obtain ⟨vs, e, _⟩ := r
    exact ⟨_, e, fun _ z => (by cases z), fun _ _ z => (by cases z), fun _ z => (by cases z), fun _ z => by cases z⟩
  | dic _ =>
    obtain ⟨_, e⟩ := r
    exact ⟨_, e, fun _ z => (by cases z), fun _ _ z => (by cases z), fun _ z => (by cases z), fun _ z => by cases z⟩
  | ins c fs =>
    obtain ⟨C, dx, fv, _, e, _⟩ := r
    exact ⟨_, e, fun _ z => (by cases z), fun _ _ z => (by cases z), fun _ z => (by cases z), fun _ z => by cases z⟩
theorem HR.tracked (R : HR K mg m h H) {l : Nat} {a : Addr} (e : m l = some a) : ∃ u, H a = some u ∧ (∀ vs, u ≠ .tup vs) ∧ (∀ ob w, u ≠ .frz ob w) ∧ (∀ fs, u ≠ .xd fs) ∧ ∀ b, u ≠ .own b := by
  have hl := R.dom l a e
  obtain ⟨a', e', r⟩ := R.ob l h[l] (by simp [hl])
  rw [e] at e'; cases e'
  exact r.some
/-- a new thing in the abstract heap that the small heap does not know -/
theorem Ext.garbage (R : HR K mg m h H) {p : Addr} {o : HO} (hp : H p = none) : Ext m H m (upd H p o) where
  mono := fun _ _ e => e
  fresh := fun _ _ e => .inl e
  live := fun a u e => ⟨u, by rw [upd_ne (ne_of_none e hp)]; exact e⟩
  keep := fun a u e _ => by rw [upd_ne (ne_of_none e hp)]; exact e
  tups := fun a u e => by rw [upd_ne (ne_of_none e hp)]; exact e
  frzs := fun a u w e => by rw [upd_ne (ne_of_none e hp)]; exact e
  xds := fun a u e => by rw [upd_ne (ne_of_none e hp)]; exact e
theorem OR.moveT {m' : Mp} {H' : Hp} (E : Tr m H m' H') {a : Addr} {o : Ob} (r : OR K mg m H a o) (ha : H' a = H a) : OR K mg m' H' a o := by
  cases o with
  | lst ts =>
    obtain ⟨vs, e, r⟩ := r
    exact ⟨vs, ha.trans e, r.tr E⟩
  | dic _ =>
    obtain ⟨z, e⟩ := r
    exact ⟨z, ha.trans e⟩
  | ins c fs =>
    obtain ⟨C, dx, fv, g, e, r⟩ := r
    exact ⟨C, dx, fv, g, ha.trans e, r.tr E⟩
theorem OR.move {m' : Mp} {H' : Hp} (E : Ext m H m' H') {a : Addr} {o : Ob} (r : OR K mg m H a o) (ha : H' a = H a) : OR K mg m' H' a o := by
  cases o with
  | lst ts =>
    obtain ⟨vs, e, r⟩ := r
    exact ⟨vs, ha.trans e, r.ext E⟩
  | dic _ =>
    obtain ⟨z, e⟩ := r
    exact ⟨z, ha.trans e⟩
  | ins c fs =>
    obtain ⟨C, dx, fv, g, e, r⟩ := r
    exact ⟨C, dx, fv, g, ha.trans e, r.ext E⟩
theorem HR.garbage (R : HR K mg m h H) {p : Addr} {o : HO} (hp : H p = none) : HR K mg m h (upd H p o) where
  dom := R.dom
  inj := R.inj
  ob := fun l u e => by
    obtain ⟨a, e1, r⟩ := R.ob l u e
    obtain ⟨w, hw, _⟩ := r.some
    exact ⟨a, e1, r.move (Ext.garbage R hp) (upd_ne (ne_of_none hw hp))⟩
/-- the new place's address -/
def Mp.put (m : Mp) (l : Nat) (p : Addr) : Mp := fun k => if k = l then some p else m k
theorem Mp.put_same {l : Nat} {p : Addr} : m.put l p l = some p := by unfold Mp.put; rw [if_pos rfl]
theorem Mp.put_ne {l k : Nat} {p : Addr} (e : k ≠ l) : m.put l p k = m k := by unfold Mp.put; rw [if_neg e]
theorem Ext.alloc (R : HR K mg m h H) {p : Addr} {o : HO} (hp : H p = none) : Ext m H (m.put h.length p) (upd H p o) where
  mono := fun l a e => by rw [Mp.put_ne (Nat.ne_of_lt (R.dom l a e))]; exact e
  fresh := fun l a e => by
    by_cases hl : l = h.length
    · subst hl; rw [Mp.put_same] at e; cases e; exact .inr hp
    · rw [Mp.put_ne hl] at e; exact .inl e
  live := (Ext.garbage R hp).live
  keep := (Ext.garbage R hp).keep
  tups := (Ext.garbage R hp).tups
  frzs := (Ext.garbage R hp).frzs
  xds := (Ext.garbage R hp).xds
theorem HR.alloc (R : HR K mg m h H) {p : Addr} {o : HO} {u : Ob} (hp : H p = none) (new : OR K mg (m.put h.length p) (upd H p o) p u) : HR K mg (m.put h.length p) (h ++ [u]) (upd H p o) where
  dom := fun l a e => by
    rw [List.length_append, List.length_singleton]
    by_cases hl : l = h.length
    · omega
    · rw [Mp.put_ne hl] at e; have := R.dom l a e; omega
  inj := fun l l' a e e' => by
    by_cases hl : l = h.length
    · by_cases hl' : l' = h.length
      · rw [hl, hl']
      · rw [hl, Mp.put_same] at e; cases e
        rw [Mp.put_ne hl'] at e'
        obtain ⟨w, hw, _⟩ := R.tracked e'
        rw [hp] at hw; cases hw
    · by_cases hl' : l' = h.length
      · rw [hl', Mp.put_same] at e'; cases e'
        rw [Mp.put_ne hl] at e
        obtain ⟨w, hw, _⟩ := R.tracked e
        rw [hp] at hw; cases hw
      · rw [Mp.put_ne hl] at e; rw [Mp.put_ne hl'] at e'
        exact R.inj l l' a e e'
  ob := fun l w e => by
    by_cases hl : l < h.length
    · rw [List.getElem?_append_left hl] at e
      obtain ⟨a, e1, r⟩ := R.ob l w e
      obtain ⟨z, hz, _⟩ := r.some
      exact ⟨a, (Ext.alloc (o := o) R hp).mono l a e1, r.move (Ext.alloc R hp) (upd_ne (ne_of_none hz hp))⟩
    · have : l = h.length := by
        have := (List.getElem?_eq_some_iff.mp e).1
        rw [List.length_append, List.length_singleton] at this
        omega
      subst this
      simp at e
      subst e
      exact ⟨p, Mp.put_same, new⟩
/-- the object at l is changed -/
theorem Ext.write (R : HR K mg m h H) {l : Nat} {a : Addr} {o : HO} (e : m l = some a) : Ext m H m (upd H a o) := by
  obtain ⟨u, hu, n1, n2, n3, n4⟩ := R.tracked e
  have ne : ∀ b w, H b = some w → b = a → w = u := fun b w q z => by subst z; rw [hu] at q; exact (Option.some.inj q).symm
  refine ⟨fun _ _ e => e, fun _ _ e => .inl e, fun b w q => ?_, fun b w q n => ?_, fun b vs q => ?_, fun b w v q => ?_, fun b fs q => ?_⟩
  · by_cases hb : b = a
    · exact ⟨o, by rw [hb]; exact upd_same⟩
    · exact ⟨w, by rw [upd_ne hb]; exact q⟩
  · rw [upd_ne (fun z => n l (by rw [z]; exact e))]; exact q
  · rw [upd_ne (fun z => n1 vs (ne b _ q z).symm)]; exact q
  · rw [upd_ne (fun z => n2 w v (ne b _ q z).symm)]; exact q
  · rw [upd_ne (fun z => n3 fs (ne b _ q z).symm)]; exact q
theorem HR.write (R : HR K mg m h H) {l : Nat} {a : Addr} {o : HO} {u : Ob} (e : m l = some a) (new : OR K mg m (upd H a o) a u) : HR K mg m (h.set l u) (upd H a o) where
  dom := fun k b q => by rw [List.length_set]; exact R.dom k b q
  inj := R.inj
  ob := fun k w q => by
    by_cases hk : l = k
    · subst hk
      rw [List.getElem?_set_self (R.dom l a e)] at q
      cases q
      exact ⟨a, e, new⟩
    · rw [List.getElem?_set_ne hk] at q
      obtain ⟨b, e1, r⟩ := R.ob k w q
      have hb : b ≠ a := fun z => hk (R.inj l k a e (z ▸ e1))
      exact ⟨b, e1, r.move (Ext.write R e) (upd_ne hb)⟩
/-- a list that the small heap does not know is changed -/
theorem Tr.out {D : Addr} {vs ws : List V} (e : H D = some (.lst vs)) : Tr m H m (upd H D (.lst ws)) :=
  ⟨fun _ _ q => q, fun a us q => by rw [upd_ne (ne_of q e (by intro z; cases z))]; exact q, fun a o u q => by rw [upd_ne (ne_of q e (by intro z; cases z))]; exact q⟩
theorem HR.out (R : HR K mg m h H) {D : Addr} {vs ws : List V} (e : H D = some (.lst vs)) (n : ∀ l, m l ≠ some D) : HR K mg m h (upd H D (.lst ws)) where
  dom := R.dom
  inj := R.inj
  ob := fun l u q => by
    obtain ⟨a, e1, r⟩ := R.ob l u q
    exact ⟨a, e1, r.moveT (Tr.out e) (upd_ne (fun z => n l (by rw [← z]; exact e1)))⟩
theorem Ext.out {m0 : Mp} {H0 : Hp} (E : Ext m0 H0 m H) {D : Addr} {o : HO} (hD : H0 D = none) : Ext m0 H0 m (upd H D o) where
  mono := E.mono
  fresh := E.fresh
  live := fun a u e => by
    obtain ⟨w, q⟩ := E.live a u e
    exact ⟨w, by rw [upd_ne (ne_of_none e hD)]; exact q⟩
  keep := fun a u e n => by rw [upd_ne (ne_of_none e hD)]; exact E.keep a u e n
  tups := fun a u e => by rw [upd_ne (ne_of_none e hD)]; exact E.tups a u e
  frzs := fun a u w e => by rw [upd_ne (ne_of_none e hD)]; exact E.frzs a u w e
  xds := fun a u e => by rw [upd_ne (ne_of_none e hD)]; exact E.xds a u e
theorem HR.lst (R : HR K mg m h H) {l : Nat} {a : Addr} {ts : List T} (e : m l = some a) (hl : lstAt h l = some ts) : ∃ vs, H a = some (.lst vs) ∧ RTs K mg m H ts vs := by
  unfold lstAt at hl
  split at hl
  · cases hl
    rename_i q
    obtain ⟨b, e1, r⟩ := R.ob l _ q
    rw [e] at e1; cases e1
    exact r
  · cases hl
theorem HR.ins (R : HR K mg m h H) {l : Nat} {a : Addr} {c : Str} {fs : List (Str × T)} (e : m l = some a) (hl : insAt h l = some (c, fs)) : ∃ C dx fv, mg c = some (.ref C) ∧ H a = some (.ins C dx fv) ∧ RF K mg m H fs fv := by
  unfold insAt at hl
  split at hl
  · cases hl
    rename_i q
    obtain ⟨b, e1, r⟩ := R.ob l _ q
    rw [e] at e1; cases e1
    exact r
  · cases hl
end

/-! ### what a run promises -/
/-- a further thing that stays true -/
structure Pq where
  p : Mp → Hp → Prop
  st : ∀ {m H m' H'}, Ext m H m' H' → p m H → p m' H'
def PqT : Pq := ⟨fun _ _ => True, fun _ _ => trivial⟩

section
variable (K : PySem.W.Frag) (mg : Str → Option Value)
/-- an error: its class c of the program, its fields -/
def XR (m : Mp) (H : Hp) (c : Str) (fs : List (Str × T)) (cls : Value) (d : Option Addr) : Prop :=
  mg c = some cls ∧ (fs ≠ [] → ∃ dd fv, d = some dd ∧ H dd = some (.xd fv) ∧ RF K mg m H fs fv)
def SR (m : Mp) (H : Hp) (σ : St3) (σV : St) : Prop := σ.length = σV.length ∧ ∀ (i : Nat) (t : T), σ[i]? = some (some t) → ∃ v : V, σV[i]? = some (some v) ∧ RT K mg m H t v
structure At (P : Pq) (m : Mp) (H : Hp) (σV : St) (σ : St3) (h : Hh) : Prop where
  sr : SR K mg m H σ σV
  hr : HR K mg m h H
  pr : P.p m H
def Out {α β : Type} (rel : Mp → Hp → α → β → Prop) (W : WX) (σV : St) (Q : β → Hp → Prop) (m : Mp) (H : Hp) : Res α → Prop
  | .ok a h' => ∀ b m' H', Ext m H m' H' → rel m' H' a b → HR K mg m' h' H' → Q b H'
  | .exc c fs h' => ∀ cls d m' H', Ext m H m' H' → XR K mg m' H' c fs cls d → HR K mg m' h' H' → W cls d σV H'
  | .stk => False
def tG {α β : Type} (rel : Mp → Hp → α → β → Prop) (P : Pq) (W : WX) (se : St3 → Hh → Res α) : St → Hp → (β → Hp → Prop) → Prop := fun σV H Q =>
  ∃ m h σ, At K mg P m H σV σ h ∧ Out K mg rel W σV Q m H (se σ h)
abbrev tI (P : Pq) (W : WX) (se : SE) : TE := tG K mg (RT K mg) P W se
abbrev tTst (P : Pq) (W : WX) (se : ST) : TT := tG K mg (fun _ _ a b => a = b) P W se
abbrev tAr (P : Pq) (W : WX) (se : SA) : TA := tG K mg (RTs K mg) P W se
end
section
variable {K : PySem.W.Frag} {mg : Str → Option Value} {m m' : Mp} {H H' : Hp} {h : Hh} {P : Pq} {W : WX} {σV : St} {σ : St3}
theorem SR.ext (E : Ext m H m' H') (r : SR K mg m H σ σV) : SR K mg m' H' σ σV := ⟨r.1, fun i t e => by
  obtain ⟨v, q, z⟩ := r.2 i t e
  exact ⟨v, q, z.ext E⟩⟩
theorem At.ext (E : Ext m H m' H') (a : At K mg P m H σV σ h) {h' : Hh} (R : HR K mg m' h' H') : At K mg P m' H' σV σ h' := ⟨a.sr.ext E, R, P.st E a.pr⟩
theorem Out.ext {α β : Type} {rel : Mp → Hp → α → β → Prop} {Q : β → Hp → Prop} {r : Res α} (E : Ext m H m' H') (o : Out K mg rel W σV Q m H r) : Out K mg rel W σV Q m' H' r := by
  cases r with
  | ok a h' => exact fun b m2 H2 E2 => o b m2 H2 (E.trans E2)
  | exc c fs h' => exact fun cls d m2 H2 E2 => o cls d m2 H2 (E.trans E2)
  | stk => exact o
theorem Out.mono {α β : Type} {rel : Mp → Hp → α → β → Prop} {Q Q' : β → Hp → Prop} {r : Res α} (hq : ∀ b H, Q b H → Q' b H) (o : Out K mg rel W σV Q m H r) : Out K mg rel W σV Q' m H r := by
  cases r with
  | ok a h' => exact fun b m2 H2 E r R => hq _ _ (o b m2 H2 E r R)
  | exc c fs h' => exact o
  | stk => exact o
theorem Out.bind {α β γ δ : Type} {rel : Mp → Hp → γ → δ → Prop} {rel1 : Mp → Hp → α → β → Prop} {Q : δ → Hp → Prop} {r : Res α} {f : α → Hh → Res γ} (o : Out K mg rel W σV Q m H (r.bind f)) :
    Out K mg rel1 W σV (fun b H1 => ∃ m1 h1 a, Ext m H m1 H1 ∧ rel1 m1 H1 a b ∧ HR K mg m1 h1 H1 ∧ Out K mg rel W σV Q m1 H1 (f a h1)) m H r := by
  cases r with
  | ok a h' => exact fun b m1 H1 E q R => ⟨m1, h', a, E, q, R, o.ext E⟩
  | exc c fs h' => exact o
  | stk => exact o
theorem tG.mono {α β : Type} {rel : Mp → Hp → α → β → Prop} {se : St3 → Hh → Res α} {Q Q' : β → Hp → Prop} (hq : ∀ b H, Q b H → Q' b H) (t : tG K mg rel P W se σV H Q) : tG K mg rel P W se σV H Q' := by
  obtain ⟨m, h, σ, a, o⟩ := t
  exact ⟨m, h, σ, a, o.mono hq⟩
/-- the first of two -/
theorem At.first {α β γ δ : Type} {rel : Mp → Hp → γ → δ → Prop} {rel1 : Mp → Hp → α → β → Prop} {Q : δ → Hp → Prop} {se : St3 → Hh → Res α} {f : α → Hh → Res γ} {Q1 : β → Hp → Prop} (A : At K mg P m H σV σ h) (o : Out K mg rel W σV Q m H ((se σ h).bind f))
    (k : ∀ m1 h1 a b H1, Ext m H m1 H1 → rel1 m1 H1 a b → At K mg P m1 H1 σV σ h1 → Out K mg rel W σV Q m1 H1 (f a h1) → Q1 b H1) : tG K mg rel1 P W se σV H Q1 := by
  refine ⟨m, h, σ, A, (Out.bind (rel1 := rel1) o).mono fun b H1 ⟨m1, h1, a, E, r, R, o1⟩ => k m1 h1 a b H1 E r (A.ext E R) o1⟩
theorem PE.imp {X : Cx} {e : Expr} {t t' : TE} (h : PE X e t) (k : ∀ σ H Q, t' σ H Q → t σ H Q) : PE X e t' := ⟨fun pins s σ H Q I hw => h.run pins s σ H Q I (k _ _ _ hw)⟩
theorem PT.imp {X : Cx} {e : Expr} {t t' : TT} (h : PT X e t) (k : ∀ σ H Q, t' σ H Q → t σ H Q) : PT X e t' := ⟨fun pins s σ H Q I hw => h.run pins s σ H Q I (k _ _ _ hw)⟩
theorem PW.imp {X : Cx} {e : Expr} {t t' : TT} (h : PW X e t) (k : ∀ σ H Q, t' σ H Q → t σ H Q) : PW X e t' := ⟨fun wh pins s σ H Q I hw => h.run wh pins s σ H Q I (k _ _ _ hw)⟩
theorem PA.imp {X : Cx} {e : List Expr} {t t' : TA} (h : PA X e t) (k : ∀ σ H Q, t' σ H Q → t σ H Q) : PA X e t' := ⟨fun pos pins s σ H Q I hw => h.run pos pins s σ H Q I (k _ _ _ hw)⟩
theorem PS.imp {X : Cx} {e : Stmt} {t t' : TS} (h : PS X e t) (k : ∀ D σ H, t' D σ H → t D σ H) : PS X e t' := ⟨fun pins s σ H D I hw => h.run pins s σ H D I (k _ _ _ hw)⟩
theorem PSs.imp {X : Cx} {e : List Stmt} {t t' : TS} (h : PSs X e t) (k : ∀ D σ H, t' D σ H → t D σ H) : PSs X e t' := ⟨fun pins s σ H D I hw => h.run pins s σ H D I (k _ _ _ hw)⟩
end
end W3
end

section
/-! WC: the expressions' combinators are sound. -/
namespace W3
open PySem PySem.Spec PyProof.Rows
open L2

abbrev DE (X : Cx) (P : Pq) (W : WX) (e : Expr) (se : SE) : Prop := PE X e (tI X.K X.mg P W se)
abbrev DT (X : Cx) (P : Pq) (W : WX) (e : Expr) (se : ST) : Prop := PT X e (tTst X.K X.mg P W se)
abbrev DW (X : Cx) (P : Pq) (W : WX) (e : Expr) (se : ST) : Prop := PW X e (tTst X.K X.mg P W se)
abbrev DA (X : Cx) (P : Pq) (W : WX) (es : List Expr) (se : SA) : Prop := PA X es (tAr X.K X.mg P W se)

/-- the promise of something that raises nothing -/
def OutP (K : PySem.W.Frag) (mg : Str → Option Value) (Q : VK) (m : Mp) (H : Hp) : Res T → Prop
  | .ok t h' => ∀ v m' H', Ext m H m' H' → RT K mg m' H' t v → HR K mg m' h' H' → Q v H'
  | _ => False
def NoX2 (f : T → T → Hh → Res T) : Prop := ∀ x y h c fs h', f x y h ≠ .exc c fs h'
def NoX1 (f : T → Hh → Res T) : Prop := ∀ x h c fs h', f x h ≠ .exc c fs h'
def NoXL (f : List T → Hh → Res T) : Prop := ∀ x h c fs h', f x h ≠ .exc c fs h'
def NoXM (f : T → List T → Hh → Res T) : Prop := ∀ x y h c fs h', f x y h ≠ .exc c fs h'
theorem Out.outP {K : PySem.W.Frag} {mg : Str → Option Value} {W : WX} {σV : L2.St} {Q : VK} {m : Mp} {H : Hp} {r : Res T} (o : Out K mg (RT K mg) W σV Q m H r) (n : ∀ c fs h', r ≠ .exc c fs h') : OutP K mg Q m H r := by
  cases r with
  | ok t h' => exact o
  | exc c fs h' => exact absurd rfl (n c fs h')
  | stk => exact o
def rP2 (K : PySem.W.Frag) (mg : Str → Option Value) (f : T → T → Hh → Res T) : R2 := fun x y H Q => ∃ m h tx ty, RT K mg m H tx x ∧ RT K mg m H ty y ∧ HR K mg m h H ∧ OutP K mg Q m H (f tx ty h)
def rP1 (K : PySem.W.Frag) (mg : Str → Option Value) (f : T → Hh → Res T) : V → Hp → VK → Prop := fun x H Q => ∃ m h tx, RT K mg m H tx x ∧ HR K mg m h H ∧ OutP K mg Q m H (f tx h)
def rPL (K : PySem.W.Frag) (mg : Str → Option Value) (f : List T → Hh → Res T) : List V → Hp → VK → Prop := fun xs H Q => ∃ m h ts, RTs K mg m H ts xs ∧ HR K mg m h H ∧ OutP K mg Q m H (f ts h)
def rPM (K : PySem.W.Frag) (mg : Str → Option Value) (f : T → List T → Hh → Res T) : V → List V → Hp → VK → Prop := fun x xs H Q => ∃ m h t ts, RT K mg m H t x ∧ RTs K mg m H ts xs ∧ HR K mg m h H ∧ OutP K mg Q m H (f t ts h)

section
variable {X : Cx} {P : Pq} {W : WX} {a b c : Expr} {sa sb sc : SE} {pos : Pos}

theorem de_var {i : Nat} {x : Str} (hN : X.N[i]? = some x) (hv : Vis X.env.scope x) (hd : (x == ("__debug__" : Str)) = false := by decide) (hcd : (x == ("__classdict__" : Str)) = false := by decide) : DE X P W (.Name x pos) (sVar i) :=
  PE.imp (pe_var hN hv hd hcd) fun σV H Q ⟨m, h, σ, A, o⟩ => by
    unfold sVar at o
    split at o
    · rename_i t e
      obtain ⟨v, ev, r⟩ := A.sr.2 i t e
      exact ⟨v, ev, o v m H (Ext.refl _ _) r A.hr⟩
    · exact False.elim o
theorem de_c {t : T} {v : V} (h : PE X a (tC v)) (r : ∀ m H, RT X.K X.mg m H t v) : DE X P W a (sC t) :=
  PE.imp h fun σV H Q ⟨m, h, σ, A, o⟩ => o v m H (Ext.refl _ _) (r _ _) A.hr
theorem de_int {i j} : DE X P W (.Constant (.int i) j pos) (sC (.int i)) := de_c pe_int fun _ _ => .int i
theorem de_bl {i j} : DE X P W (.Constant (.bool i) j pos) (sC (.bl i)) := de_c pe_bl fun _ _ => .bl i
theorem de_non {j} : DE X P W (.Constant .none j pos) (sC .non) := de_c pe_non fun _ _ => .non
theorem de_str {x : Str} {j} (h : PyData.strOk x = true := by decide +kernel) : DE X P W (.Constant (.str x) j pos) (sC (.str x)) := de_c pe_str fun _ _ => .str h
/-- a module's constant -/
theorem de_glob {x : Str} {t : T} {v : V} {u : Value} (hg : Gl X x) (hm : X.mg x = some u) (r : RelV v u) (rt : ∀ m H, RT X.K X.mg m H t v) (hd : (x == ("__debug__" : Str)) = false := by decide) : DE X P W (.Name x pos) (sC t) :=
  de_c (pe_glob hg hm r hd) rt

/-! ### operations -/
theorem two {f : T → T → Hh → Res T} (hf : NoX2 f) {σV : L2.St} {H : Hp} {Q : VK} (h : tI X.K X.mg P W (s2 f sa sb) σV H Q) :
    tI X.K X.mg P W sa σV H fun x H1 => tI X.K X.mg P W sb σV H1 fun y H2 => rP2 X.K X.mg f x y H2 Q := by
  obtain ⟨m, h, σ, A, o⟩ := h
  refine A.first (rel1 := RT X.K X.mg) o fun m1 h1 t1 x H1 E1 r1 A1 o1 => ?_
  refine A1.first (rel1 := RT X.K X.mg) o1 fun m2 h2 t2 y H2 E2 r2 A2 o2 => ?_
  exact ⟨m2, h2, t1, t2, r1.ext E2, r2, A2.hr, o2.outP (hf t1 t2 h2)⟩
theorem one {f : T → Hh → Res T} (hf : NoX1 f) {σV : L2.St} {H : Hp} {Q : VK} (h : tI X.K X.mg P W (s1 f sa) σV H Q) :
    tI X.K X.mg P W sa σV H fun x H1 => rP1 X.K X.mg f x H1 Q := by
  obtain ⟨m, h, σ, A, o⟩ := h
  refine A.first (rel1 := RT X.K X.mg) o fun m1 h1 t1 x H1 E1 r1 A1 o1 => ?_
  exact ⟨m1, h1, t1, r1, A1.hr, o1.outP (hf t1 h1)⟩
theorem de_op {op : Operator} {f : T → T → Hh → Res T} (ho : OpR X (binaryOp op) (rP2 X.K X.mg f)) (hf : NoX2 f) (ha : DE X P W a sa) (hb : DE X P W b sb) : DE X P W (.BinOp a op b pos) (s2 f sa sb) :=
  PE.imp (pe_op ho ha hb) fun σV H Q h => two hf h
theorem de_un {op : UnaryOp} {f : T → Hh → Res T} (ho : UnR X (unaryOp op) (rP1 X.K X.mg f)) (hf : NoX1 f) (ha : DE X P W a sa) : DE X P W (.UnaryOp op a pos) (s1 f sa) :=
  PE.imp (pe_un ho ha) fun σV H Q h => one hf h
theorem de_cmp {op : CmpOp} {f : T → T → Hh → Res T} (ho : OpR X (compareOp op) (rP2 X.K X.mg f)) (hf : NoX2 f) (ha : DE X P W a sa) (hb : DE X P W b sb) (hm : behindInMarks op b = false) : DE X P W (.Compare a [op] [b] pos) (s2 f sa sb) :=
  PE.imp (pe_cmpR ho ha hb hm) fun σV H Q h => two hf h
theorem dt_cmp {op : CmpOp} {f : T → T → Hh → Res T} (ho : OpR X (compareOp op) (rP2 X.K X.mg f)) (hf : NoX2 f) (ha : DE X P W a sa) (hb : DE X P W b sb) (hm : behindInMarks op b = false) : DT X P W (.Compare a [op] [b] pos) (sT (s2 f sa sb)) :=
  PT.imp (pt_cmpR ho ha hb hm) fun σV H Q ⟨m, h, σ, A, o⟩ => by
    refine two hf (A.first (rel1 := RT X.K X.mg) o fun m1 h1 t x H1 E1 r A1 o1 => ?_)
    cases r with
    | bl k => exact ⟨k, rfl, o1 k m1 H1 (Ext.refl _ _) rfl A1.hr⟩
    | _ => exact False.elim o1

/-! ### the operations on values -/
theorem nx_add : NoX2 oAdd := fun x y h c fs h' e => by
  unfold oAdd alloc at e
  (repeat' split at e) <;> cases e
theorem nx_sub : NoX2 oSub := fun x y h c fs h' e => by unfold oSub at e; (repeat' split at e) <;> cases e
theorem nx_mul : NoX2 oMul := fun x y h c fs h' e => by unfold oMul at e; (repeat' split at e) <;> cases e
theorem nx_mod : NoX2 oMod := fun x y h c fs h' e => by unfold oMod at e; (repeat' split at e) <;> cases e
theorem nx_div : NoX2 oDiv := fun x y h c fs h' e => by unfold oDiv at e; (repeat' split at e) <;> cases e
theorem nx_pow : NoX2 oPow := fun x y h c fs h' e => by unfold oPow at e; (repeat' split at e) <;> cases e
theorem nx_lt : NoX2 oLt := fun x y h c fs h' e => by unfold oLt at e; (repeat' split at e) <;> cases e
theorem nx_le : NoX2 oLe := fun x y h c fs h' e => by unfold oLe at e; (repeat' split at e) <;> cases e
theorem nx_gt : NoX2 oGt := fun x y h c fs h' e => by unfold oGt at e; (repeat' split at e) <;> cases e
theorem nx_ge : NoX2 oGe := fun x y h c fs h' e => by unfold oGe at e; (repeat' split at e) <;> cases e
theorem nx_neg : NoX1 oNeg := fun x h c fs h' e => by unfold oNeg at e; (repeat' split at e) <;> cases e
theorem nx_isN : NoX1 oIsN := fun x h c fs h' e => by unfold oIsN at e; cases e
theorem nx_notN : NoX1 oNotN := fun x h c fs h' e => by unfold oNotN at e; cases e
theorem nx_eq : NoX2 oEq := fun x y h c fs h' e => by unfold oEq at e; (repeat' split at e) <;> cases e
theorem nx_ne : NoX2 oNe := fun x y h c fs h' e => by unfold oNe at e; (repeat' split at e) <;> cases e
theorem nx_in : NoX2 oIn := fun x y h c fs h' e => by unfold oIn at e; (repeat' split at e) <;> cases e
theorem nx_notin : NoX2 oNotIn := fun x y h c fs h' e => by unfold oNotIn at e; (repeat' split at e) <;> cases e
theorem nx_ix : NoX2 oIx := fun x y h c fs h' e => by unfold oIx at e; (repeat' split at e) <;> cases e

/-- two ints in -/
theorem os_int {sem : Value → Value → Sem Value} {C : Int → Int → Prop} {g : Int → Int → V} {gt : Int → Int → T} {f : T → T → Hh → Res T} (ho : OpR X sem (rI C g)) (hg : ∀ i j m H, RT X.K X.mg m H (gt i j) (g i j))
    (hf : ∀ x y h t h', f x y h = .ok t h' → ∃ i j, x = .int i ∧ y = .int j ∧ C i j ∧ t = gt i j ∧ h' = h) : OpR X sem (rP2 X.K X.mg f) := by
  intro pins s σ H x y v u Q I rx ry ⟨m, h, tx, ty, r1, r2, R, o⟩
  cases e : f tx ty h with
  | ok t h' =>
    rw [e] at o
    obtain ⟨i, j, rfl, rfl, hc, rfl, rfl⟩ := hf _ _ _ _ _ e
    cases r1
    cases r2
    exact ho pins s σ H _ _ v u Q I rx ry ⟨i, j, rfl, rfl, hc, o _ m H (Ext.refl _ _) (hg i j m H) R⟩
  | exc c fs h' => rw [e] at o; exact False.elim o
  | stk => rw [e] at o; exact False.elim o
theorem rI_of0 {sem : Value → Value → Sem Value} {g : Int → Int → V} (ho : OpR X sem (rI0 g)) : OpR X sem (rI (fun _ _ => True) g) := by
  intro pins s σ H x y v u Q I rx ry ⟨i, j, e1, e2, _, q⟩
  exact ho pins s σ H x y v u Q I rx ry ⟨i, j, e1, e2, q⟩
theorem os_sub : OpR X (binaryOp .Sub) (rP2 X.K X.mg oSub) := os_int (gt := fun i j => .int (i - j)) (rI_of0 op_sub) (fun _ _ _ _ => .int _) fun x y h t h' e => by
  unfold oSub at e; split at e
  · cases e; exact ⟨_, _, rfl, rfl, trivial, rfl, rfl⟩
  · cases e
theorem os_mul : OpR X (binaryOp .Mult) (rP2 X.K X.mg oMul) := os_int (gt := fun i j => .int (i * j)) op_mul (fun _ _ _ _ => .int _) fun x y h t h' e => by
  unfold oMul at e; split at e
  · split at e
    · rename_i hc; cases e; exact ⟨_, _, rfl, rfl, hc, rfl, rfl⟩
    · cases e
  · cases e
theorem os_mod : OpR X (binaryOp .Mod) (rP2 X.K X.mg oMod) := os_int (gt := fun i j => .int (i % j)) op_mod (fun _ _ _ _ => .int _) fun x y h t h' e => by
  unfold oMod at e; split at e
  · split at e
    · rename_i hc; cases e; exact ⟨_, _, rfl, rfl, hc, rfl, rfl⟩
    · cases e
  · cases e
theorem os_div : OpR X (binaryOp .FloorDiv) (rP2 X.K X.mg oDiv) := os_int (gt := fun i j => .int (i / j)) op_fdiv (fun _ _ _ _ => .int _) fun x y h t h' e => by
  unfold oDiv at e; split at e
  · split at e
    · rename_i hc; cases e; exact ⟨_, _, rfl, rfl, hc, rfl, rfl⟩
    · cases e
  · cases e
theorem os_pow : OpR X (binaryOp .Pow) (rP2 X.K X.mg oPow) := os_int (gt := fun i j => .int (i ^ j.toNat)) op_pow (fun _ _ _ _ => .int _) fun x y h t h' e => by
  unfold oPow at e; split at e
  · split at e
    · rename_i hc; cases e; exact ⟨_, _, rfl, rfl, hc, rfl, rfl⟩
    · cases e
  · cases e
theorem os_lt : OpR X (compareOp .Lt) (rP2 X.K X.mg oLt) := os_int (gt := fun i j => .bl (decide (i < j))) (rI_of0 op_lt) (fun _ _ _ _ => .bl _) fun x y h t h' e => by
  unfold oLt at e; split at e
  · cases e; exact ⟨_, _, rfl, rfl, trivial, rfl, rfl⟩
  · cases e
theorem os_le : OpR X (compareOp .LtE) (rP2 X.K X.mg oLe) := os_int (gt := fun i j => .bl (decide (i ≤ j))) (rI_of0 op_le) (fun _ _ _ _ => .bl _) fun x y h t h' e => by
  unfold oLe at e; split at e
  · cases e; exact ⟨_, _, rfl, rfl, trivial, rfl, rfl⟩
  · cases e
theorem os_gt : OpR X (compareOp .Gt) (rP2 X.K X.mg oGt) := os_int (gt := fun i j => .bl (decide (j < i))) (rI_of0 op_gt) (fun _ _ _ _ => .bl _) fun x y h t h' e => by
  unfold oGt at e; split at e
  · cases e; exact ⟨_, _, rfl, rfl, trivial, rfl, rfl⟩
  · cases e
theorem os_ge : OpR X (compareOp .GtE) (rP2 X.K X.mg oGe) := os_int (gt := fun i j => .bl (decide (j ≤ i))) (rI_of0 op_ge) (fun _ _ _ _ => .bl _) fun x y h t h' e => by
  unfold oGe at e; split at e
  · cases e; exact ⟨_, _, rfl, rfl, trivial, rfl, rfl⟩
  · cases e
theorem us_neg : UnR X (unaryOp .USub) (rP1 X.K X.mg oNeg) := by
  intro pins s σ H x v Q I rx ⟨m, h, tx, r1, R, o⟩
  cases r1 with
  | int i => exact un_neg pins s σ H _ v Q I rx ⟨i, rfl, o _ m H (Ext.refl _ _) (.int _) R⟩
  | _ => exact False.elim o
/-- a new object of the layer, unknown to the small heap, as a tuple value -/
theorem OutP.newTup {K : PySem.W.Frag} {mg : Str → Option Value} {Q : VK} {m : Mp} {H : Hp} {h : Hh} {ts : List T} {vs : List V} (R : HR K mg m h H) (r : RTs K mg m H ts vs) (o : OutP K mg Q m H (.ok (.tup ts) h)) {p : Addr} (hp : H p = none) : Q (.ref p) (upd H p (.tup vs)) :=
  o _ m _ (Ext.garbage R hp) (.tup (SqT.of upd_same) (r.ext (Ext.garbage R hp))) (R.garbage hp)
theorem OutP.newLst {K : PySem.W.Frag} {mg : Str → Option Value} {Q : VK} {m : Mp} {H : Hp} {h : Hh} {ts : List T} {vs : List V} (R : HR K mg m h H) (r : RTs K mg m H ts vs) (o : OutP K mg Q m H (alloc (.lst ts) h)) {p : Addr} (hp : H p = none) : Q (.ref p) (upd H p (.lst vs)) :=
  o _ _ _ (Ext.alloc R hp) (.ref Mp.put_same) (R.alloc hp ⟨vs, upd_same, r.ext (Ext.alloc R hp)⟩)
theorem strOk_append {x y : Str} (hx : PyData.strOk x = true) (hy : PyData.strOk y = true) : PyData.strOk (x ++ y) = true := by
  unfold PyData.strOk at *
  show (x.cps ++ y.cps).all _ = true
  rw [Array.all_append, hx, hy]; rfl
theorem os_add : OpR X (binaryOp .Add) (rP2 X.K X.mg oAdd) := by
  intro pins s σ H x y v u Q I rx ry ⟨m, h, tx, ty, r1, r2, R, o⟩
  cases r1 with
  | int i =>
    cases r2 with
    | int j => exact op_add pins s σ H _ _ v u Q I rx ry ⟨i, j, rfl, rfl, o _ m H (Ext.refl _ _) (.int _) R⟩
    | _ => exact False.elim o
  | str hi =>
    cases r2 with
    | str hj =>
      rename_i i j
      have o' : OutP X.K X.mg Q m H (if i.length + j.length ≤ sizeLine then .ok (.str (i ++ j)) h else .stk) := o
      split at o'
      · rename_i hz; exact op_add_str pins s σ H _ _ v u Q I rx ry ⟨_, _, rfl, rfl, hz, o' _ m H (Ext.refl _ _) (.str (strOk_append hi hj)) R⟩
      · exact False.elim o'
    | _ => exact False.elim o
  | tup ha r =>
    cases r2 with
    | tup hb q =>
      rename_i a vs xs b ws ys
      have o' : OutP X.K X.mg Q m H (if xs.length + ys.length ≤ sizeLine then .ok (.tup (xs ++ ys)) h else .stk) := o
      split at o'
      · rename_i hz
        rw [r.length, q.length] at hz
        refine op_catA pins s σ H _ _ v u Q I rx ry ⟨_, _, _, _, rfl, rfl, ha, hb, hz, fun e => ?_, fun e1 e2 => ?_, fun e1 e2 p hp => ?_⟩
        · subst e; cases r; exact o' _ m H (Ext.refl _ _) (.tup hb q) R
        · subst e2; cases q; rw [List.append_nil] at o'; exact o' _ m H (Ext.refl _ _) (.tup ha r) R
        · exact OutP.newTup R (r.append q) o' hp
      · exact False.elim o'
    | _ => exact False.elim o
  | ref e1 =>
    cases r2 with
    | ref e2 =>
      rename_i l a k b
      have o' : OutP X.K X.mg Q m H (match lstAt h l, lstAt h k with
        | some xs, some zs => if xs.length + zs.length ≤ sizeLine then alloc (.lst (xs ++ zs)) h else .stk
        | _, _ => .stk) := o
      split at o'
      · rename_i xs zs q1 q2
        split at o'
        · rename_i hz
          obtain ⟨vs, g1, r1⟩ := R.lst e1 q1
          obtain ⟨ws, g2, r2⟩ := R.lst e2 q2
          rw [r1.length, r2.length] at hz
          exact op_cat pins s σ H _ _ v u Q I rx ry ⟨_, _, _, _, rfl, rfl, g1, g2, hz, fun p hp => OutP.newLst R (r1.append r2) o' hp⟩
        · exact False.elim o'
      · exact False.elim o'
    | _ => exact False.elim o
  | _ => exact False.elim o
end
end W3
end

section
/-! WD: equality, in, is None; tests; displays; items, slices, fields; calls of built-ins. -/
namespace W3
open PySem PySem.Spec PyProof.Rows
open L2

/-! ### plain data -/
section
variable {K : PySem.W.Frag} {mg : Str → Option Value} {m : Mp} {H : Hp} {h : Hh}
theorem optL_dp {n : Nat} {f : T → Option PyData} (hf : ∀ t v d, RT K mg m H t v → f t = some d → Dp K H v d ∧ d.canLay0 = true ∧ d.depth ≤ n) :
    ∀ {ts : List T} {vs : List V} {ds : List PyData}, RTs K mg m H ts vs → optL f ts = some ds → DpAll K H vs ds ∧ PyData.canLayAll0 ds = true ∧ PyData.depthAll ds ≤ n
  | _, _, _, .nil, e => by cases e; exact ⟨.nil, by simp [PyData.canLayAll0], by simp [PyData.depthAll]⟩
  | _, _, _, .cons (t := t) (ts := ts) r q, e => by
    unfold optL at e
    cases h1 : f t with
    | none => rw [h1] at e; simp at e
    | some d =>
      cases h2 : optL f ts with
      | none => rw [h1, h2] at e; simp at e
      | some ds =>
        rw [h1, h2] at e
        cases e
        obtain ⟨a1, a2, a3⟩ := hf _ _ _ r h1
        obtain ⟨b1, b2, b3⟩ := optL_dp hf q h2
        refine ⟨.cons a1 b1, by simp [PyData.canLayAll0, a2, b2], ?_⟩
        simp only [PyData.depthAll]
        omega
theorem toD_dp (R : HR K mg m h H) : ∀ (n : Nat) (t : T) (v : V) (d : PyData), RT K mg m H t v → toD h n t = some d → Dp K H v d ∧ d.canLay0 = true ∧ d.depth ≤ n
  | 0, _, _, _, _, e => by simp [toD] at e
  | n + 1, _, _, d, r, e => by
    have ih := toD_dp R n
    cases r with
    | non => cases e; exact ⟨.non, by simp [PyData.canLay0], by simp [PyData.depth]⟩
    | bl b => cases e; exact ⟨.bl b, by simp [PyData.canLay0], by simp [PyData.depth]⟩
    | int b => cases e; exact ⟨.int b, by simp [PyData.canLay0], by simp [PyData.depth]⟩
    | str b => cases e; exact ⟨.str _, by simpa [PyData.canLay0] using b, by simp [PyData.depth]⟩
    | @tup a vs ts hq rr =>
      have e' : (optL (toD h n) ts).map PyData.tuple = some d := e
      cases q : optL (toD h n) ts with
      | none => rw [q] at e'; cases e'
      | some ds =>
        rw [q] at e'; cases e'
        obtain ⟨b1, b2, b3⟩ := optL_dp ih rr q
        exact ⟨.tup hq b1, by simpa [PyData.canLay0] using b2, by simp only [PyData.depth]; omega⟩
    | @fl a vs ts hq rr =>
      have e' : (optL (toD h n) ts).map PyData.list = some d := e
      cases q : optL (toD h n) ts with
      | none => rw [q] at e'; cases e'
      | some ds =>
        rw [q] at e'; cases e'
        obtain ⟨b1, b2, b3⟩ := optL_dp ih rr q
        exact ⟨.lst hq.sq b1, by simpa [PyData.canLay0] using b2, by simp only [PyData.depth]; omega⟩
    | @ref l a hq =>
      have e' : (match h[l]? with | some (.lst ts) => (optL (toD h n) ts).map PyData.list | _ => none) = some d := e
      split at e'
      · rename_i ts hl
        obtain ⟨vs, g, rr⟩ := R.lst hq (show lstAt h l = some ts by unfold lstAt; rw [hl])
        cases q : optL (toD h n) ts with
        | none => rw [q] at e'; cases e'
        | some ds =>
          rw [q] at e'; cases e'
          obtain ⟨b1, b2, b3⟩ := optL_dp ih rr q
          exact ⟨.lst (SqL.of g) b1, by simpa [PyData.canLay0] using b2, by simp only [PyData.depth]; omega⟩
      · cases e'
    | cls hq => cases e
theorem toD_shaped (R : HR K mg m h H) {t : T} {v : V} {d : PyData} (r : RT K mg m H t v) (e : toD h 24 t = some d) : Dp K H v d ∧ SeqAt.shaped d = true := by
  obtain ⟨a, b, c⟩ := toD_dp R 24 t v d r e
  refine ⟨a, ?_⟩
  unfold SeqAt.shaped
  rw [b, decide_eq_true (by omega : d.depth ≤ 64)]
  rfl
end
section
variable {X : Cx} {P : Pq} {W : WX} {a b c : Expr} {sa sb sc : SE} {pos : Pos} {es : List Expr} {ar : SA} {ta tb : ST} {rest : List Expr}
theorem os_eq (hu : X.A.units + 65 < cLine) : OpR X (compareOp .Eq) (rP2 X.K X.mg oEq) := by
  intro pins s σ H x y v u Q I rx ry ⟨m, h, tx, ty, r1, r2, R, o⟩
  unfold oEq at o
  split at o
  · rename_i d e q1 q2
    obtain ⟨d1, s1⟩ := toD_shaped R r1 q1
    obtain ⟨d2, s2⟩ := toD_shaped R r2 q2
    exact op_eqD (by omega) pins s σ H x y v u Q I rx ry ⟨d, e, d1, d2, s1, s2, o _ m H (Ext.refl _ _) (.bl _) R⟩
  · exact False.elim o
theorem os_ne (hu : X.A.units + 65 < cLine) : OpR X (compareOp .NotEq) (rP2 X.K X.mg oNe) := by
  intro pins s σ H x y v u Q I rx ry ⟨m, h, tx, ty, r1, r2, R, o⟩
  unfold oNe at o
  split at o
  · rename_i d e q1 q2
    obtain ⟨d1, s1⟩ := toD_shaped R r1 q1
    obtain ⟨d2, s2⟩ := toD_shaped R r2 q2
    exact op_neD (by omega) pins s σ H x y v u Q I rx ry ⟨d, e, d1, d2, s1, s2, o _ m H (Ext.refl _ _) (.bl _) R⟩
  · exact False.elim o
/-- in, not in -/
theorem in_run (hu : X.A.units + 65 < cLine) {pins : List (Addr × Obj)} {s : Shared} {σ : L2.St} {H : Hp} {x y : V} {v u : Value} {m : Mp} {h : Hh} {tx ty : T} {k : Bool} (I : L2.Inv X pins σ H s) (rx : RelV x v) (ry : RelV y u) (r1 : RT X.K X.mg m H tx x)
    (r2 : RT X.K X.mg m H ty y) (R : HR X.K X.mg m h H) (e : inT tx ty h = some k) {Q : Value → Shared → Prop} (q : Q (.bool k) s) : wpAny (model X.prog X.w) X.A (compareOp .In v u) Q X.xe s := by
  have deep : (match toD h 24 tx, toD h 24 ty with
    | some d, some (.list ds) => some (ds.any fun z => PyData.eqv z d)
    | some d, some (.tuple ds) => some (ds.any fun z => PyData.eqv z d)
    | _, _ => none) = some k → wpAny (model X.prog X.w) X.A (compareOp .In v u) Q X.xe s := by
    intro e
    split at e
    · rename_i d ds q1 q2
      cases e
      obtain ⟨d1, s1⟩ := toD_shaped R r1 q1
      obtain ⟨d2, s2⟩ := toD_shaped R r2 q2
      obtain ⟨as, p1⟩ := Dp.reads I d x v d1 rx
      obtain ⟨bs, p2⟩ := Dp.reads I (.list ds) y u d2 ry
      exact SeqAt.in_list_reads p2 p1 (SeqAt.canLay_of_shaped s2) (SeqAt.canLay_of_shaped s1) (room_in_shaped s1 hu) q
    · rename_i d ds q1 q2
      cases e
      obtain ⟨d1, s1⟩ := toD_shaped R r1 q1
      obtain ⟨d2, s2⟩ := toD_shaped R r2 q2
      obtain ⟨as, p1⟩ := Dp.reads I d x v d1 rx
      obtain ⟨bs, p2⟩ := Dp.reads I (.tuple ds) y u d2 ry
      exact SeqAt.in_tuple_reads p2 p1 (SeqAt.canLay_of_shaped s2) (SeqAt.canLay_of_shaped s1) (room_in_shaped s1 hu) q
    · cases e
  cases r1 with
  | str h1 =>
    cases r2 with
    | str h2 =>
      cases e
      obtain ⟨t, rfl⟩ := rx
      obtain ⟨t', rfl⟩ := ry
      exact in_str q
    | _ => exact deep e
  | _ => exact deep e
theorem os_in (hu : X.A.units + 65 < cLine) : OpR X (compareOp .In) (rP2 X.K X.mg oIn) := by
  intro pins s σ H x y v u Q I rx ry ⟨m, h, tx, ty, r1, r2, R, o⟩
  unfold oIn at o
  split at o
  · rename_i k q
    exact in_run hu I rx ry r1 r2 R q ⟨.bl k, H, I, rfl, o _ m H (Ext.refl _ _) (.bl _) R⟩
  · exact False.elim o
theorem notin_run (hu : X.A.units + 65 < cLine) {pins : List (Addr × Obj)} {s : Shared} {σ : L2.St} {H : Hp} {x y : V} {v u : Value} {m : Mp} {h : Hh} {tx ty : T} {k : Bool} (I : L2.Inv X pins σ H s) (rx : RelV x v) (ry : RelV y u) (r1 : RT X.K X.mg m H tx x)
    (r2 : RT X.K X.mg m H ty y) (R : HR X.K X.mg m h H) (e : inT tx ty h = some k) {Q : Value → Shared → Prop} (q : Q (.bool (!k)) s) : wpAny (model X.prog X.w) X.A (compareOp .NotIn v u) Q X.xe s := by
  have deep : (match toD h 24 tx, toD h 24 ty with
    | some d, some (.list ds) => some (ds.any fun z => PyData.eqv z d)
    | some d, some (.tuple ds) => some (ds.any fun z => PyData.eqv z d)
    | _, _ => none) = some k → wpAny (model X.prog X.w) X.A (compareOp .NotIn v u) Q X.xe s := by
    intro e
    split at e
    · rename_i d ds q1 q2
      cases e
      obtain ⟨d1, s1⟩ := toD_shaped R r1 q1
      obtain ⟨d2, s2⟩ := toD_shaped R r2 q2
      obtain ⟨as, p1⟩ := Dp.reads I d x v d1 rx
      obtain ⟨bs, p2⟩ := Dp.reads I (.list ds) y u d2 ry
      exact SeqAt.notIn_list_reads p2 p1 (SeqAt.canLay_of_shaped s2) (SeqAt.canLay_of_shaped s1) (room_in_shaped s1 hu) q
    · rename_i d ds q1 q2
      cases e
      obtain ⟨d1, s1⟩ := toD_shaped R r1 q1
      obtain ⟨d2, s2⟩ := toD_shaped R r2 q2
      obtain ⟨as, p1⟩ := Dp.reads I d x v d1 rx
      obtain ⟨bs, p2⟩ := Dp.reads I (.tuple ds) y u d2 ry
      exact SeqAt.notIn_tuple_reads p2 p1 (SeqAt.canLay_of_shaped s2) (SeqAt.canLay_of_shaped s1) (room_in_shaped s1 hu) q
    · cases e
  cases r1 with
  | str h1 =>
    cases r2 with
    | str h2 =>
      cases e
      obtain ⟨t, rfl⟩ := rx
      obtain ⟨t', rfl⟩ := ry
      exact notIn_str q
    | _ => exact deep e
  | _ => exact deep e
theorem os_notin (hu : X.A.units + 65 < cLine) : OpR X (compareOp .NotIn) (rP2 X.K X.mg oNotIn) := by
  intro pins s σ H x y v u Q I rx ry ⟨m, h, tx, ty, r1, r2, R, o⟩
  unfold oNotIn at o
  split at o
  · rename_i k q
    exact notin_run hu I rx ry r1 r2 R q ⟨.bl (!k), H, I, rfl, o _ m H (Ext.refl _ _) (.bl _) R⟩
  · exact False.elim o
theorem nx_is : NoX2 oIs := fun x y h c fs h' e => by unfold oIs at e; (repeat' split at e) <;> cases e
theorem nx_isnot : NoX2 oIsNot := fun x y h c fs h' e => by unfold oIsNot at e; (repeat' split at e) <;> cases e
theorem isNon_iff {m : Mp} {H : Hp} {t : T} {v : V} (r : RT X.K X.mg m H t v) : decide (v = .non) = isNonT t := by
  cases r <;> first | rfl | simp [isNonT]
theorem os_is : OpR X (compareOp .Is) (rP2 X.K X.mg oIs) := by
  intro pins s σ H x y v u Q I rx ry ⟨m, h, tx, ty, r1, r2, R, o⟩
  cases r2 with
  | non =>
    have o' : OutP X.K X.mg Q m H (.ok (.bl (isNonT tx)) h) := o
    refine op_isN pins s σ H x _ v u Q I rx ry ⟨rfl, ?_⟩
    rw [isNon_iff r1]
    exact o' _ m H (Ext.refl _ _) (.bl _) R
  | bl k =>
    cases r1 with
    | bl j => exact op_isBl pins s σ H _ _ v u Q I rx ry ⟨j, k, rfl, rfl, o _ m H (Ext.refl _ _) (.bl _) R⟩
    | _ => exact False.elim o
  | _ => exact False.elim o
theorem os_isnot : OpR X (compareOp .IsNot) (rP2 X.K X.mg oIsNot) := by
  intro pins s σ H x y v u Q I rx ry ⟨m, h, tx, ty, r1, r2, R, o⟩
  cases r2 with
  | non =>
    have o' : OutP X.K X.mg Q m H (.ok (.bl (!isNonT tx)) h) := o
    refine op_notN pins s σ H x _ v u Q I rx ry ⟨rfl, ?_⟩
    rw [isNon_iff r1]
    exact o' _ m H (Ext.refl _ _) (.bl _) R
  | bl k =>
    cases r1 with
    | bl j => exact op_notBl pins s σ H _ _ v u Q I rx ry ⟨j, k, rfl, rfl, o _ m H (Ext.refl _ _) (.bl _) R⟩
    | _ => exact False.elim o
  | _ => exact False.elim o

/-! ### tests -/
theorem dt_val (ha : DE X P W a sa) (he : ∀ whole, isTrue a X.env whole = (do let v ← whole; standAt a.pos; holding [v] (truthy v)) := by intro _; rfl) : DT X P W a (sT sa) :=
  PT.imp (pt_val ha he) fun σV H Q ⟨m, h, σ, A, o⟩ => by
    refine A.first (rel1 := RT X.K X.mg) o fun m1 h1 t x H1 E1 r A1 o1 => ?_
    cases r with
    | bl k => exact ⟨k, rfl, o1 k m1 H1 (Ext.refl _ _) rfl A1.hr⟩
    | _ => exact False.elim o1
theorem tt_and {σV : L2.St} {H : Hp} {Q : Bool → Hp → Prop} (h : tTst X.K X.mg P W (stAnd ta tb) σV H Q) : tAnd (tTst X.K X.mg P W ta) (tTst X.K X.mg P W tb) σV H Q := by
  obtain ⟨m, h, σ, A, o⟩ := h
  refine A.first (rel1 := fun _ _ a b => a = b) o fun m1 h1 t x H1 E1 r A1 o1 => ?_
  subst r
  cases t with
  | true => rw [if_pos rfl]; rw [if_pos rfl] at o1; exact ⟨m1, h1, σ, A1, o1⟩
  | false => rw [if_neg Bool.false_ne_true]; rw [if_neg Bool.false_ne_true] at o1; exact o1 _ m1 H1 (Ext.refl _ _) rfl A1.hr
theorem tt_or {σV : L2.St} {H : Hp} {Q : Bool → Hp → Prop} (h : tTst X.K X.mg P W (stOr ta tb) σV H Q) : tOr (tTst X.K X.mg P W ta) (tTst X.K X.mg P W tb) σV H Q := by
  obtain ⟨m, h, σ, A, o⟩ := h
  refine A.first (rel1 := fun _ _ a b => a = b) o fun m1 h1 t x H1 E1 r A1 o1 => ?_
  subst r
  cases t with
  | true => rw [if_pos rfl]; rw [if_pos rfl] at o1; exact o1 _ m1 H1 (Ext.refl _ _) rfl A1.hr
  | false => rw [if_neg Bool.false_ne_true]; rw [if_neg Bool.false_ne_true] at o1; exact ⟨m1, h1, σ, A1, o1⟩
theorem dw_and1 (ha : DT X P W a ta) : DW X P W (.BoolOp .And [a] pos) ta := pw_and1 ha
theorem dw_or1 (ha : DT X P W a ta) : DW X P W (.BoolOp .Or [a] pos) ta := pw_or1 ha
theorem dw_and (ha : DT X P W a ta) (hb : DW X P W (.BoolOp .And (b :: rest) pos) tb) : DW X P W (.BoolOp .And (a :: b :: rest) pos) (stAnd ta tb) := PW.imp (pw_and ha hb) fun _ _ _ h => tt_and h
theorem dw_or (ha : DT X P W a ta) (hb : DW X P W (.BoolOp .Or (b :: rest) pos) tb) : DW X P W (.BoolOp .Or (a :: b :: rest) pos) (stOr ta tb) := PW.imp (pw_or ha hb) fun _ _ _ h => tt_or h
theorem dt_w {e : Expr} (h : DW X P W e ta) : DT X P W e ta := h.pt
theorem dt_not (ha : DT X P W a ta) : DT X P W (.UnaryOp .Not a pos) (stNot ta) := PT.imp (pt_not ha) fun σV H Q ⟨m, h, σ, A, o⟩ => by
  refine A.first (rel1 := fun _ _ a b => a = b) o fun m1 h1 t x H1 E1 r A1 o1 => ?_
  subst r
  exact o1 _ m1 H1 (Ext.refl _ _) rfl A1.hr
/-! .. as values -/
theorem de_and1 (ha : DE X P W a sa) : DE X P W (.BoolOp .And [a] pos) sa := pe_one ha
theorem de_or1 (ha : DE X P W a sa) : DE X P W (.BoolOp .Or [a] pos) sa := pe_one ha
/-- a and b, a a bool; b any value -/
theorem de_and (ha : DE X P W a sa) (hb : DE X P W (.BoolOp .And (b :: rest) pos) sb) : DE X P W (.BoolOp .And (a :: b :: rest) pos) (sIf (sT sa) sb (sC (.bl false))) :=
  PE.imp (pe_and ha hb) fun σV H Q ⟨m, h, σ, A, o⟩ => by
    have o' : Out X.K X.mg (RT X.K X.mg) W σV Q m H ((sa σ h).bind fun t h1 => match t with | .bl k => (if k = true then sb σ h1 else .ok (.bl false) h1) | _ => .stk) := by
      have e : sIf (sT sa) sb (sC (.bl false)) σ h = ((sa σ h).bind fun t h1 => match t with | .bl k => (if k = true then sb σ h1 else .ok (.bl false) h1) | _ => .stk) := by
        unfold sIf sT sC
        cases sa σ h with
        | ok t h1 => cases t <;> rfl
        | exc c fs h1 => rfl
        | stk => rfl
      rw [e] at o; exact o
    refine A.first (rel1 := RT X.K X.mg) o' fun m1 h1 t x H1 E1 r A1 o1 => ?_
    cases r with
    | bl k =>
      refine ⟨k, rfl, ?_⟩
      cases k with
      | true => exact ⟨m1, h1, σ, A1, o1⟩
      | false => exact o1 _ m1 H1 (Ext.refl _ _) (.bl _) A1.hr
    | _ => exact False.elim o1
theorem de_or (ha : DE X P W a sa) (hb : DE X P W (.BoolOp .Or (b :: rest) pos) sb) : DE X P W (.BoolOp .Or (a :: b :: rest) pos) (sIf (sT sa) (sC (.bl true)) sb) :=
  PE.imp (pe_or ha hb) fun σV H Q ⟨m, h, σ, A, o⟩ => by
    have o' : Out X.K X.mg (RT X.K X.mg) W σV Q m H ((sa σ h).bind fun t h1 => match t with | .bl k => (if k = true then .ok (.bl true) h1 else sb σ h1) | _ => .stk) := by
      have e : sIf (sT sa) (sC (.bl true)) sb σ h = ((sa σ h).bind fun t h1 => match t with | .bl k => (if k = true then .ok (.bl true) h1 else sb σ h1) | _ => .stk) := by
        unfold sIf sT sC
        cases sa σ h with
        | ok t h1 => cases t <;> rfl
        | exc c fs h1 => rfl
        | stk => rfl
      rw [e] at o; exact o
    refine A.first (rel1 := RT X.K X.mg) o' fun m1 h1 t x H1 E1 r A1 o1 => ?_
    cases r with
    | bl k =>
      refine ⟨k, rfl, ?_⟩
      cases k with
      | true => exact o1 _ m1 H1 (Ext.refl _ _) (.bl _) A1.hr
      | false => exact ⟨m1, h1, σ, A1, o1⟩
    | _ => exact False.elim o1
theorem de_not (ha : DE X P W a sa) : DE X P W (.UnaryOp .Not a pos) (sB (stNot (sT sa))) :=
  PE.imp (pe_not ha) fun σV H Q ⟨m, h, σ, A, o⟩ => by
    have o' : Out X.K X.mg (RT X.K X.mg) W σV Q m H ((sa σ h).bind fun t h1 => match t with | .bl k => .ok (.bl (!k)) h1 | _ => .stk) := by
      have e : sB (stNot (sT sa)) σ h = ((sa σ h).bind fun t h1 => match t with | .bl k => .ok (.bl (!k)) h1 | _ => .stk) := by
        unfold sB stNot sT
        cases sa σ h with
        | ok t h1 => cases t <;> rfl
        | exc c fs h1 => rfl
        | stk => rfl
      rw [e] at o; exact o
    refine A.first (rel1 := RT X.K X.mg) o' fun m1 h1 t x H1 E1 r A1 o1 => ?_
    cases r with
    | bl k => exact ⟨k, rfl, o1 _ m1 H1 (Ext.refl _ _) (.bl _) A1.hr⟩
    | _ => exact False.elim o1
theorem de_if (hc : DT X P W c ta) (ha : DE X P W a sa) (hb : DE X P W b sb) : DE X P W (.IfExp c a b pos) (sIf ta sa sb) := PE.imp (pe_ifExp hc ha hb) fun σV H Q ⟨m, h, σ, A, o⟩ => by
  refine A.first (rel1 := fun _ _ a b => a = b) o fun m1 h1 t x H1 E1 r A1 o1 => ?_
  subst r
  cases t with
  | true => exact ⟨m1, h1, σ, A1, o1⟩
  | false => exact ⟨m1, h1, σ, A1, o1⟩
/-- a op b op' c -/
theorem chain {f g : T → T → Hh → Res T} (hf : NoX2 f) (hg : NoX2 g) {σV : L2.St} {H : Hp} {Q : VK} (h : tI X.K X.mg P W (sChain f g sa sb sc) σV H Q) :
    tChain (rP2 X.K X.mg f) (rP2 X.K X.mg g) (tI X.K X.mg P W sa) (tI X.K X.mg P W sb) (tI X.K X.mg P W sc) σV H Q := by
  obtain ⟨m, h, σ, A, o⟩ := h
  refine A.first (rel1 := RT X.K X.mg) o fun m1 h1 t1 x H1 E1 r1 A1 o1 => ?_
  refine A1.first (rel1 := RT X.K X.mg) o1 fun m2 h2 t2 y H2 E2 r2 A2 o2 => ?_
  refine ⟨m2, h2, t1, t2, r1.ext E2, r2, A2.hr, ?_⟩
  have o3 := (Out.bind (rel1 := RT X.K X.mg) o2).outP (hf t1 t2 h2)
  cases e : f t1 t2 h2 with
  | exc c fs h' => exact absurd e (hf _ _ _ _ _ _)
  | stk => rw [e] at o3; exact False.elim o3
  | ok z h3 =>
    rw [e] at o3
    intro v m3 H3 E3 rv R3
    obtain ⟨m4, h4, z', E4, rz, R4, o4⟩ := o3 v m3 H3 E3 rv R3
    cases rz with
    | bl k =>
      refine ⟨k, rfl, ?_⟩
      have A4 := A2.ext E4 R4
      cases k with
      | true =>
        refine A4.first (rel1 := RT X.K X.mg) o4 fun m5 h5 t5 w H5 E5 r5 A5 o5 => ?_
        exact ⟨m5, h5, t2, t5, (r2.ext E4).ext E5, r5, A5.hr, o5.outP (hg _ _ _)⟩
      | false => exact o4 _ m4 H3 (Ext.refl _ _) (.bl _) R4
    | _ => exact False.elim o4
/-! ### displays -/
theorem da_nil : DA X P W [] saNil := PA.imp pa_nil fun σV H Q ⟨m, h, σ, A, o⟩ => o [] m H (Ext.refl _ _) .nil A.hr
theorem da_cons (ha : DE X P W a sa) (hr : DA X P W es ar) (hs : starEach (a :: es) X.env = (false, eval a X.env) :: starEach es X.env := by rfl) : DA X P W (a :: es) (saCons sa ar) :=
  PA.imp (pa_cons ha hr hs) fun σV H Q ⟨m, h, σ, A, o⟩ => by
    refine A.first (rel1 := RT X.K X.mg) o fun m1 h1 t1 x H1 E1 r1 A1 o1 => ?_
    refine A1.first (rel1 := RTs X.K X.mg) o1 fun m2 h2 t2 y H2 E2 r2 A2 o2 => ?_
    exact o2 _ m2 H2 (Ext.refl _ _) (.cons (r1.ext E2) r2) A2.hr
theorem de_tup {x1} (h : DA X P W es ar) : DE X P W (.Tuple es x1 pos) (sTup ar) := PE.imp (pe_tup h) fun σV H Q ⟨m, h, σ, A, o⟩ => by
  refine A.first (rel1 := RTs X.K X.mg) o fun m1 h1 t1 x H1 E1 r1 A1 o1 => ?_
  split at o1
  · rename_i hz
    refine ⟨by rw [← r1.length]; exact hz, fun p hp => ?_⟩
    exact OutP.newTup A1.hr r1 (o1.outP (fun _ _ _ z => by cases z)) hp
  · exact False.elim o1
theorem de_lst (h : DA X P W es ar) : DE X P W (.List es pos) (sLst ar) := PE.imp (pe_lst h) fun σV H Q ⟨m, h, σ, A, o⟩ => by
  refine A.first (rel1 := RTs X.K X.mg) o fun m1 h1 t1 x H1 E1 r1 A1 o1 => ?_
  split at o1
  · rename_i hz
    refine ⟨by rw [← r1.length]; exact hz, fun p hp => ?_⟩
    exact OutP.newLst A1.hr r1 (o1.outP (fun _ _ _ z => by cases z)) hp
  · exact False.elim o1
end
end W3
end

section
/-! WE: items, slices, fields, chains, calls of built-ins, methods of lists. -/
namespace W3
open PySem PySem.Spec PyProof.Rows
open L2
section
variable {X : Cx} {P : Pq} {W : WX} {a b c : Expr} {sa sb sc : SE} {pos p2 : Pos} {es : List Expr} {ar : SA} {ta tb : ST} {rest : List Expr}
theorem de_chain {op op' : CmpOp} {f g : T → T → Hh → Res T} (ho : OpR X (compareOp op) (rP2 X.K X.mg f)) (ho' : OpR X (compareOp op') (rP2 X.K X.mg g)) (hf : NoX2 f) (hg : NoX2 g) (ha : DE X P W a sa) (hb : DE X P W b sb) (hc : DE X P W c sc)
    (hm : lastMarks [op, op'] [b, c] = false := by with_unfolding_all rfl) : DE X P W (.Compare a [op, op'] [b, c] pos) (sChain f g sa sb sc) := PE.imp (pe_chain ho ho' ha hb hc hm) fun _ _ _ h => chain hf hg h
theorem dt_chain {op op' : CmpOp} {f g : T → T → Hh → Res T} (ho : OpR X (compareOp op) (rP2 X.K X.mg f)) (ho' : OpR X (compareOp op') (rP2 X.K X.mg g)) (hf : NoX2 f) (hg : NoX2 g) (ha : DE X P W a sa) (hb : DE X P W b sb) (hc : DE X P W c sc)
    (hm : lastMarks [op, op'] [b, c] = false := by with_unfolding_all rfl) : DT X P W (.Compare a [op, op'] [b, c] pos) (sT (sChain f g sa sb sc)) := PT.imp (pt_chain ho ho' ha hb hc hm) fun σV H Q ⟨m, h, σ, A, o⟩ => by
  refine chain hf hg (A.first (rel1 := RT X.K X.mg) o fun m1 h1 t x H1 E1 r A1 o1 => ?_)
  cases r with
  | bl k => exact ⟨k, rfl, o1 k m1 H1 (Ext.refl _ _) rfl A1.hr⟩
  | _ => exact False.elim o1
/-! ### items -/
theorem RTs.atI {m : Mp} {H : Hp} {ts : List T} {vs : List V} (r : RTs X.K X.mg m H ts vs) {i : Int} {t : T} (e : L2.atI ts i = some t) : ∃ v, L2.atI vs i = some v ∧ RT X.K X.mg m H t v := by
  unfold L2.atI at e ⊢
  rw [← r.length]
  cases q : ixN ts.length i with
  | none => rw [q] at e; cases e
  | some j =>
    rw [q] at e
    exact r.get (show ts[j]? = some t from e)
theorem strOk_one {c : Nat} {z : Str} (hz : PyData.strOk z = true) {i : Int} (e : L2.atI z.cps.toList i = some c) : PyData.strOk ⟨#[c]⟩ = true := by
  obtain ⟨j, _, h, _⟩ := atI_get e
  have hm : c ∈ z.cps.toList := List.mem_of_getElem? h
  unfold PyData.strOk at *
  rw [← Array.all_toList, List.all_eq_true] at hz
  have := hz c hm
  simpa using this
theorem ixs : IxR X (rP2 X.K X.mg oIx) := by
  intro value slice pins s σ H x y v u Q I rx ry ⟨m, h, tx, ty, r1, r2, R, o⟩ hs
  cases r2 with
  | int i =>
    cases r1 with
    | @tup a vs ts hq r =>
      have o' : OutP X.K X.mg Q m H (match L2.atI ts i with | some t => .ok t h | none => .stk) := o
      split at o'
      · rename_i t e
        obtain ⟨w, e2, rw⟩ := r.atI e
        exact ix_tup value slice pins s σ H _ _ v u Q I rx ry ⟨_, _, i, w, rfl, rfl, hq, e2, o' _ m H (Ext.refl _ _) rw R⟩ hs
      · exact False.elim o'
    | @fl a vs ts hq r =>
      have o' : OutP X.K X.mg Q m H (match L2.atI ts i with | some t => .ok t h | none => .stk) := o
      split at o'
      · rename_i t e
        obtain ⟨w, e2, rw⟩ := r.atI e
        exact ix_list value slice pins s σ H _ _ v u Q I rx ry ⟨_, _, i, w, rfl, rfl, hq.sq, e2, o' _ m H (Ext.refl _ _) rw R⟩ hs
      · exact False.elim o'
    | @ref l a e1 =>
      have o' : OutP X.K X.mg Q m H (match lstAt h l with
        | some ts => (match L2.atI ts i with | some t => .ok t h | none => .stk)
        | none => .stk) := o
      split at o'
      · rename_i ts q1
        obtain ⟨vs, g1, r1⟩ := R.lst e1 q1
        split at o'
        · rename_i t e
          obtain ⟨w, e2, rw⟩ := r1.atI e
          exact ix_list value slice pins s σ H _ _ v u Q I rx ry ⟨_, _, i, w, rfl, rfl, SqL.of g1, e2, o' _ m H (Ext.refl _ _) rw R⟩ hs
        · exact False.elim o'
      · exact False.elim o'
    | @str z hz =>
      have o' : OutP X.K X.mg Q m H (if z.length ≤ sizeLine then (match L2.atI z.cps.toList i with | some c => .ok (.str ⟨#[c]⟩) h | none => .stk) else .stk) := o
      split at o'
      · rename_i hl
        split at o'
        · rename_i c e
          exact ix_str value slice pins s σ H _ _ v u Q I rx ry ⟨z, i, c, rfl, rfl, hl, e, o' _ m H (Ext.refl _ _) (.str (strOk_one hz e)) R⟩ hs
        · exact False.elim o'
      · exact False.elim o'
    | _ => exact False.elim o
  | _ => cases r1 <;> exact False.elim o
theorem de_ix (ha : DE X P W a sa) (hb : DE X P W b sb) (hs : PlainIx b := by intro _ _; rfl) : DE X P W (.Subscript a b pos) (s2 oIx sa sb) :=
  PE.imp (pe_ix ixs ha hb hs) fun σV H Q h => two nx_ix h
/-! ### slices -/
theorem RTs.cut {m : Mp} {H : Hp} {ts : List T} {vs : List V} (r : RTs X.K X.mg m H ts vs) (lo hi : Option Int) : RTs X.K X.mg m H (cutT ts lo hi) (cutV vs lo hi) := by
  unfold cutT cutV
  rw [← r.length]
  exact (r.drop _).take _
abbrev DO (X : Cx) (P : Pq) (W : WX) (e : Option Expr) (se : SO) : Prop := PO X e (tG X.K X.mg (fun _ _ a b => a = b) P W se)
theorem PO.imp {e : Option Expr} {t t' : TO} (h : PO X e t) (k : ∀ σ H Q, t' σ H Q → t σ H Q) : PO X e t' := ⟨fun pins s σ H Q I hw => h.run pins s σ H Q I (k _ _ _ hw)⟩
theorem do_none : DO X P W none soNone := PO.imp po_none fun σV H Q ⟨m, h, σ, A, o⟩ => o none m H (Ext.refl _ _) rfl A.hr
theorem do_some (h : DE X P W a sa) : DO X P W (some a) (soSome sa) := PO.imp (po_some h) fun σV H Q ⟨m, h, σ, A, o⟩ => by
  refine A.first (rel1 := RT X.K X.mg) o fun m1 h1 t x H1 E1 r A1 o1 => ?_
  cases r with
  | int i => exact ⟨i, rfl, o1 (some i) m1 H1 (Ext.refl _ _) rfl A1.hr⟩
  | _ => exact False.elim o1
def rPS (K : PySem.W.Frag) (mg : Str → Option Value) : V → Option Int → Option Int → Hp → VK → Prop := fun x lo hi H Q => ∃ m h t, RT K mg m H t x ∧ HR K mg m h H ∧ OutP K mg Q m H (oSl t lo hi h)
theorem strOk_cut {z : Str} (hz : PyData.strOk z = true) (lo hi : Option Int) : PyData.strOk (L2.cutS z lo hi) = true := by
  unfold PyData.strOk at hz ⊢
  rw [Array.all_eq_true_iff_forall_mem] at hz ⊢
  intro c hc
  refine hz c ?_
  unfold L2.cutS at hc
  have := List.mem_of_mem_drop (List.mem_of_mem_take (List.mem_toArray.mp hc))
  exact Array.mem_toList_iff.mp this
theorem sls : SlR X (rPS X.K X.mg) := by
  intro pins s σ H x v vl vu lo hi sl Q I rx hs pl pu ⟨m, h, t, r, R, o⟩
  cases r with
  | @tup a vs ts hq r =>
    refine sl_tupA pins s σ H _ v vl vu lo hi sl Q I rx hs pl pu ⟨a, vs, rfl, hq, fun ⟨e1, e2⟩ => ?_, fun _ p hp => ?_⟩
    · have hc : cutV vs lo hi = vs := by
        unfold cutV; rw [e1, e2]; simp
      have hr := r.cut lo hi
      rw [hc] at hr
      exact o _ m H (Ext.refl _ _) (.tup hq hr) R
    · exact OutP.newTup R (r.cut lo hi) o hp
  | @fl a vs ts hq r => exact sl_list pins s σ H _ v vl vu lo hi sl Q I rx hs pl pu ⟨a, vs, rfl, hq.sq, fun p hp => OutP.newLst R (r.cut lo hi) o hp⟩
  | @ref l a e1 =>
    have o' : OutP X.K X.mg Q m H (match lstAt h l with | some ts => alloc (.lst (cutT ts lo hi)) h | none => .stk) := o
    split at o'
    · rename_i ts q1
      obtain ⟨vs, g1, r1⟩ := R.lst e1 q1
      exact sl_list pins s σ H _ v vl vu lo hi sl Q I rx hs pl pu ⟨a, vs, rfl, SqL.of g1, fun p hp => OutP.newLst R (r1.cut lo hi) o' hp⟩
    · exact False.elim o'
  | @str z hz =>
    have o' : OutP X.K X.mg Q m H (if z.length ≤ sizeLine then .ok (.str (L2.cutS z lo hi)) h else .stk) := o
    split at o'
    · rename_i hl
      exact sl_str pins s σ H _ v vl vu lo hi sl Q I rx hs pl pu ⟨z, rfl, hl, o' _ m H (Ext.refl _ _) (.str (strOk_cut hz lo hi)) R⟩
    · exact False.elim o'
  | _ => exact False.elim o
theorem nx_sl (t : T) (lo hi : Option Int) (h : Hh) : ∀ c fs h', oSl t lo hi h ≠ .exc c fs h' := fun c fs h' e => by unfold oSl alloc at e; (repeat' split at e) <;> cases e
theorem de_sl {lo hi : Option Expr} {sl sh : SO} (ha : DE X P W a sa) (hl : DO X P W lo sl) (hh : DO X P W hi sh) : DE X P W (.Subscript a (.Slice lo hi none p2) pos) (sSl sa sl sh) :=
  PE.imp (pe_slice sls ha hl hh) fun σV H Q ⟨m, h, σ, A, o⟩ => by
    refine A.first (rel1 := RT X.K X.mg) o fun m1 h1 t x H1 E1 r A1 o1 => ?_
    refine A1.first (rel1 := fun _ _ a b => a = b) o1 fun m2 h2 l l' H2 E2 r2 A2 o2 => ?_
    refine A2.first (rel1 := fun _ _ a b => a = b) o2 fun m3 h3 u u' H3 E3 r3 A3 o3 => ?_
    subst r2; subst r3
    exact ⟨m3, h3, t, (r.ext E2).ext E3, A3.hr, o3.outP (nx_sl _ _ _ _)⟩
/-! ### fields -/
/-- what the text says of a class of the program and its attributes fs -/
def ClsF (K : PySem.W.Frag) (mg : Str → Option Value) (cs : List (Str × List Str)) : Prop := ∀ c fs C, (c, fs) ∈ cs → mg c = some (.ref C) → Cls K C ∧ ∀ f ∈ fs, NoAttr K C f
def oFldC (cs : List (Str × List Str)) (f : Str) (x : T) (h : Hh) : Res T :=
  match x with
  | .ref l => match insAt h l with
    | some (c, fs) => match cs.lookup c with
      | some as => if as.contains f then (match fs.lookup f with | some t => .ok t h | none => .stk) else .stk
      | none => .stk
    | none => .stk
  | _ => .stk
theorem mem_of_lookup {α : Type} : ∀ {l : List (Str × α)} {c : Str} {x : α}, l.lookup c = some x → (c, x) ∈ l
  | [], _, _, e => by simp [List.lookup] at e
  | (d, y) :: r, c, x, e => by
    unfold List.lookup at e
    split at e
    · rename_i q
      have : c = d := by simpa using q
      subst this; cases e; exact List.mem_cons_self
    · exact List.mem_cons_of_mem _ (mem_of_lookup e)
theorem nx_fld (cs : List (Str × List Str)) (f : Str) : NoX1 (oFldC cs f) := fun x h c fs h' e => by unfold oFldC at e; (repeat' split at e) <;> cases e
theorem de_fld {cs : List (Str × List Str)} {f : Str} (C : ClsF X.K X.mg cs) (ha : DE X P W a sa) (hb : attributeBase a f X.env (eval a X.env) = eval a X.env := by rfl) : DE X P W (.Attribute a f pos) (s1 (oFldC cs f) sa) :=
  PE.imp (pe_fld ha hb) fun σV H Q h => by
    refine tG.mono (fun x H1 hq => ?_) (one (nx_fld cs f) h)
    obtain ⟨m, h, t, r, R, o⟩ := hq
    cases r with
    | @ref l a e1 =>
      have o' : OutP X.K X.mg Q m H1 (match insAt h l with
        | some (c, fs) => (match cs.lookup c with
          | some as => if as.contains f then (match fs.lookup f with | some t => .ok t h | none => .stk) else .stk
          | none => .stk)
        | none => .stk) := o
      split at o'
      · rename_i c fs q1
        obtain ⟨Ca, dx, fv, g1, g2, rf⟩ := R.ins e1 q1
        split at o'
        · rename_i as q2
          split at o'
          · rename_i hc
            split at o'
            · rename_i t q3
              obtain ⟨v, e3, rv⟩ := rf.lookup q3
              obtain ⟨k1, k2⟩ := C c as Ca (mem_of_lookup q2) g1
              exact ⟨a, Ca, dx, fv, v, rfl, g2, k1, k2 f (by simpa using hc), e3, o' _ m H1 (Ext.refl _ _) rv R⟩
            · exact False.elim o'
          · exact False.elim o'
        · exact False.elim o'
      · exact False.elim o'
    | _ => exact False.elim o
/-! ### calls of built-ins -/
theorem args_of {f : List T → Hh → Res T} (hf : NoXL f) {σV : L2.St} {H : Hp} {Q : VK} (h : tI X.K X.mg P W (sCl f ar) σV H Q) : tAr X.K X.mg P W ar σV H fun xs H1 => rPL X.K X.mg f xs H1 Q := by
  obtain ⟨m, h, σ, A, o⟩ := h
  refine A.first (rel1 := RTs X.K X.mg) o fun m1 h1 t1 x H1 E1 r1 A1 o1 => ?_
  exact ⟨m1, h1, t1, r1, A1.hr, o1.outP (hf _ _)⟩
theorem de_callB {id : String} {x : Str} {p : Pos} {f : List T → Hh → Res T} (hc : CallR X (.builtin id) (rPL X.K X.mg f)) (hf : NoXL f) (hg : Gl X x) (hm : X.mg x = none) (hv : bootBuiltins x = some (.builtin id)) (ha : DA X P W (a :: es) ar) (hn : x ≠ "__name__" := by decide) (hdb : (x == ("__debug__" : Str)) = false := by decide)
    (he : starEach (a :: es) X.env = (false, eval a X.env) :: starEach es X.env := by rfl) (hpl : (backTo pos (starEach es X.env)).any (·.1) = false := by rfl) : DE X P W (.Call (.Name x p) (a :: es) [] pos) (sCl f ar) :=
  PE.imp (pe_callB hc hg hm hv ha hn hdb he hpl) fun σV H Q h => args_of hf h
theorem de_callTy {T' : String} {x : Str} {p : Pos} {f : List T → Hh → Res T} (hc : CallR X (.type T') (rPL X.K X.mg f)) (hf : NoXL f) (hg : Gl X x) (hm : X.mg x = none) (hv : bootBuiltins x = some (.type T')) (ha : DA X P W (a :: es) ar) (hn : x ≠ "__name__" := by decide) (hdb : (x == ("__debug__" : Str)) = false := by decide)
    (he : starEach (a :: es) X.env = (false, eval a X.env) :: starEach es X.env := by rfl) (hpl : (backTo pos (starEach es X.env)).any (·.1) = false := by rfl) : DE X P W (.Call (.Name x p) (a :: es) [] pos) (sCl f ar) :=
  PE.imp (pe_callTy hc hg hm hv ha hn hdb he hpl) fun σV H Q h => args_of hf h
theorem nx_len : NoXL bLen := fun x h c fs h' e => by unfold bLen at e; (repeat' split at e) <;> cases e
theorem nx_bint : NoXL bInt := fun x h c fs h' e => by unfold bInt at e; (repeat' split at e) <;> cases e
theorem nx_tuple : NoXL bTuple := fun x h c fs h' e => by unfold bTuple at e; (repeat' split at e) <;> cases e
theorem nx_list : NoXL bList := fun x h c fs h' e => by unfold bList alloc at e; (repeat' split at e) <;> cases e
theorem RTs.one {m : Mp} {H : Hp} {t : T} {vs : List V} (r : RTs X.K X.mg m H [t] vs) : ∃ v, vs = [v] ∧ RT X.K X.mg m H t v := by
  cases r with
  | cons r q => cases q; exact ⟨_, rfl, r⟩
theorem cs_len : CallR X (.builtin "len") (rPL X.K X.mg bLen) := by
  intro pins s σ H xs us Q I ru ⟨m, h, ts, r, R, o⟩
  unfold bLen at o
  split at o
  · obtain ⟨v, rfl, r1⟩ := r.one
    cases r1 with
    | tup hq r2 => exact call_len_seq pins s σ H _ us Q I ru ⟨_, _, rfl, .inr hq, by rw [← r2.length]; exact o _ m H (Ext.refl _ _) (.int _) R⟩
  · obtain ⟨v, rfl, r1⟩ := r.one
    cases r1 with
    | fl hq r2 => exact call_len_seq pins s σ H _ us Q I ru ⟨_, _, rfl, .inl hq.sq, by rw [← r2.length]; exact o _ m H (Ext.refl _ _) (.int _) R⟩
  · obtain ⟨v, rfl, r1⟩ := r.one
    split at o
    · rename_i hz
      cases r1 with
      | str hq => exact call_len_str pins s σ H _ us Q I ru ⟨_, rfl, hz, o _ m H (Ext.refl _ _) (.int _) R⟩
    · exact False.elim o
  · obtain ⟨v, rfl, r1⟩ := r.one
    split at o
    · rename_i ts q1
      cases r1 with
      | ref e1 =>
        obtain ⟨vs, g1, r2⟩ := R.lst e1 q1
        exact call_len_seq pins s σ H _ us Q I ru ⟨_, _, rfl, .inl (SqL.of g1), by rw [← r2.length]; exact o _ m H (Ext.refl _ _) (.int _) R⟩
    · exact False.elim o
  · exact False.elim o
theorem cs_int : CallR X (.type "int") (rPL X.K X.mg bInt) := by
  intro pins s σ H xs us Q I ru ⟨m, h, ts, r, R, o⟩
  unfold bInt at o
  split at o
  · obtain ⟨v, rfl, r1⟩ := r.one
    cases r1 with
    | int i => exact call_int1 pins s σ H _ us Q I ru (.inl ⟨_, rfl, o _ m H (Ext.refl _ _) (.int _) R⟩)
  · exact False.elim o
theorem cs_tuple : CallR X (.type "tuple") (rPL X.K X.mg bTuple) := by
  intro pins s σ H xs us Q I ru ⟨m, h, ts, r, R, o⟩
  unfold bTuple at o
  split at o
  · obtain ⟨v, rfl, r1⟩ := r.one
    cases r1 with
    | tup hq r2 => exact call_tuple_of pins s σ H _ us Q I ru ⟨_, _, rfl, .inr ⟨hq, o _ m H (Ext.refl _ _) (.tup hq r2) R⟩⟩
  · obtain ⟨v, rfl, r1⟩ := r.one
    cases r1 with
    | fl hq r2 => exact call_tuple_of pins s σ H _ us Q I ru ⟨_, _, rfl, .inl ⟨hq.sq, fun p hp => OutP.newTup R r2 o hp⟩⟩
  · obtain ⟨v, rfl, r1⟩ := r.one
    split at o
    · rename_i ts q1
      cases r1 with
      | ref e1 =>
        obtain ⟨vs, g1, r2⟩ := R.lst e1 q1
        exact call_tuple_of pins s σ H _ us Q I ru ⟨_, _, rfl, .inl ⟨SqL.of g1, fun p hp => OutP.newTup R r2 o hp⟩⟩
    · exact False.elim o
  · exact False.elim o
theorem cs_list : CallR X (.type "list") (rPL X.K X.mg bList) := by
  intro pins s σ H xs us Q I ru ⟨m, h, ts, r, R, o⟩
  unfold bList at o
  split at o
  · obtain ⟨v, rfl, r1⟩ := r.one
    cases r1 with
    | tup hq r2 => exact call_list_of pins s σ H _ us Q I ru ⟨_, _, rfl, .inr hq, fun p hp => OutP.newLst R r2 o hp⟩
  · obtain ⟨v, rfl, r1⟩ := r.one
    cases r1 with
    | fl hq r2 => exact call_list_of pins s σ H _ us Q I ru ⟨_, _, rfl, .inl hq.sq, fun p hp => OutP.newLst R r2 o hp⟩
  · obtain ⟨v, rfl, r1⟩ := r.one
    split at o
    · rename_i ts q1
      cases r1 with
      | ref e1 =>
        obtain ⟨vs, g1, r2⟩ := R.lst e1 q1
        exact call_list_of pins s σ H _ us Q I ru ⟨_, _, rfl, .inl (SqL.of g1), fun p hp => OutP.newLst R r2 o hp⟩
    · exact False.elim o
  · exact False.elim o
end
end W3
end

section
/-! WF: what is walked, targets, comprehensions. -/
namespace W3
open PySem PySem.Spec PyProof.Rows
open L2
/-- the iterator J walks what s tells -/
structure SrcJ (K : PySem.W.Frag) (mg : Str → Option Value) (m : Mp) (H : Hp) (s : Src) (J : It) : Prop where
  go : ∀ m' h' H' i x, Tr m H m' H' → HR K mg m' h' H' → s.at h' i = some (some x) → J.go i H' ∧ ∀ y H2, J.yld i H' y H2 → Ext m' H' m' H2 ∧ HR K mg m' h' H2 ∧ RT K mg m' H2 x y
  stop : ∀ m' h' H' i, Tr m H m' H' → HR K mg m' h' H' → s.at h' i = some none → J.stop i H'
theorem SrcJ.ext {K : PySem.W.Frag} {mg : Str → Option Value} {m m1 : Mp} {H H1 : Hp} {s : Src} {J : It} (S : SrcJ K mg m H s J) (E : Ext m H m1 H1) : SrcJ K mg m1 H1 s J :=
  ⟨fun m' h' H' i x E' => S.go m' h' H' i x (E.tr.trans E'), fun m' h' H' i E' => S.stop m' h' H' i (E.tr.trans E')⟩
section
variable {K : PySem.W.Frag} {mg : Str → Option Value} {m : Mp} {H : Hp}
theorem srcj_tup {a : Addr} {vs : List V} {ts : List T} (hq : SqT K H a vs) (r : RTs K mg m H ts vs) : SrcJ K mg m H (.its ts) (Itt K a) where
  go := fun m' h' H' i x E R e => by
    have e' : ts[i]? = some x := Option.some.inj e
    obtain ⟨v, ev, rv⟩ := r.get e'
    refine ⟨⟨vs, v, SqT.tr E hq, ev⟩, fun y H2 ⟨e1, e2⟩ => ?_⟩
    subst e1
    have := e2 vs (SqT.tr E hq)
    rw [ev] at this; cases this
    exact ⟨Ext.refl _ _, R, rv.tr E⟩
  stop := fun m' h' H' i E R e => by
    have e' : ts[i]? = none := Option.some.inj e
    refine ⟨vs, SqT.tr E hq, ?_⟩
    rw [← r.length]
    exact List.getElem?_eq_none_iff.mp e'
theorem srcj_fl {a : Addr} {vs : List V} {ts : List T} (hq : SqF K H a vs) (r : RTs K mg m H ts vs) : SrcJ K mg m H (.its ts) (Itl K a) where
  go := fun m' h' H' i x E R e => by
    have e' : ts[i]? = some x := Option.some.inj e
    obtain ⟨v, ev, rv⟩ := r.get e'
    refine ⟨⟨vs, v, (SqF.tr E hq).sq, ev⟩, fun y H2 ⟨e1, e2⟩ => ?_⟩
    subst e1
    have := e2 vs (SqF.tr E hq).sq
    rw [ev] at this; cases this
    exact ⟨Ext.refl _ _, R, rv.tr E⟩
  stop := fun m' h' H' i E R e => by
    have e' : ts[i]? = none := Option.some.inj e
    refine ⟨vs, (SqF.tr E hq).sq, ?_⟩
    rw [← r.length]
    exact List.getElem?_eq_none_iff.mp e'
theorem srcj_live {l : Nat} {a : Addr} (hl : m l = some a) : SrcJ K mg m H (.live l) (Itl K a) where
  go := fun m' h' H' i x E R e => by
    have e' : (match lstAt h' l with | some ts => some ts[i]? | none => none) = some (some x) := e
    split at e'
    · rename_i ts q
      have e2 : ts[i]? = some x := Option.some.inj e'
      obtain ⟨vs, g, r⟩ := R.lst (E.mono _ _ hl) q
      obtain ⟨v, ev, rv⟩ := r.get e2
      refine ⟨⟨vs, v, SqL.of g, ev⟩, fun y H2 ⟨e1, e2⟩ => ?_⟩
      subst e1
      have := e2 vs (SqL.of g)
      rw [ev] at this; cases this
      exact ⟨Ext.refl _ _, R, rv⟩
    · cases e'
  stop := fun m' h' H' i E R e => by
    have e' : (match lstAt h' l with | some ts => some ts[i]? | none => none) = some none := e
    split at e'
    · rename_i ts q
      have e2 : ts[i]? = none := Option.some.inj e'
      obtain ⟨vs, g, r⟩ := R.lst (E.mono _ _ hl) q
      refine ⟨vs, SqL.of g, ?_⟩
      rw [← r.length]
      exact List.getElem?_eq_none_iff.mp e2
    · cases e'
theorem rangeT_get : ∀ (n : Nat) (lo : Int) (i : Nat), (rangeT lo n)[i]? = if i < n then some (.int (lo + i)) else none
  | 0, lo, i => by simp [rangeT]
  | n + 1, lo, 0 => by simp [rangeT]
  | n + 1, lo, i + 1 => by
    show (rangeT (lo + 1) n)[i]? = _
    rw [rangeT_get n (lo + 1) i]
    by_cases h : i < n
    · rw [if_pos h, if_pos (by omega)]
      congr 2
      push_cast
      omega
    · rw [if_neg h, if_neg (by omega)]
theorem srcj_range (lo : Int) (n : Nat) : SrcJ K mg m H (.its (rangeT lo n)) (Itr lo n) where
  go := fun m' h' H' i x E R e => by
    have e' : (rangeT lo n)[i]? = some x := Option.some.inj e
    rw [rangeT_get] at e'
    split at e'
    · rename_i hi
      cases e'
      refine ⟨hi, fun y H2 ⟨e1, e2⟩ => ?_⟩
      subst e1; subst e2
      exact ⟨Ext.refl _ _, R, .int _⟩
    · cases e'
  stop := fun m' h' H' i E R e => by
    have e' : (rangeT lo n)[i]? = none := Option.some.inj e
    rw [rangeT_get] at e'
    split at e'
    · cases e'
    · rename_i hi
      exact Nat.le_of_not_lt hi
theorem srcj_str {z : Str} (hz : PyData.strOk z = true) : SrcJ K mg m H (.its (z.cps.toList.map fun c => .str ⟨#[c]⟩)) (Its z) where
  go := fun m' h' H' i x E R e => by
    have e' : (z.cps.toList.map fun c => T.str ⟨#[c]⟩)[i]? = some x := Option.some.inj e
    rw [List.getElem?_map] at e'
    cases q : z.cps.toList[i]? with
    | none => rw [q] at e'; cases e'
    | some c =>
      rw [q] at e'
      have e2 : T.str ⟨#[c]⟩ = x := Option.some.inj e'
      subst e2
      have hi : i < z.cps.size := by
        have := (List.getElem?_eq_some_iff.mp q).1
        simpa using this
      refine ⟨hi, fun y H2 ⟨e1, c', e3, e4⟩ => ?_⟩
      subst e1; subst e4
      have e5 : z.cps[i]? = some c := by rw [← Array.getElem?_toList]; exact q
      rw [e5] at e3; cases e3
      refine ⟨Ext.refl _ _, R, .str ?_⟩
      unfold PyData.strOk at *
      rw [← Array.all_toList, List.all_eq_true] at hz
      have := hz c (List.mem_of_getElem? q)
      simpa using this
  stop := fun m' h' H' i E R e => by
    have e' : (z.cps.toList.map fun c => T.str ⟨#[c]⟩)[i]? = none := Option.some.inj e
    have := List.getElem?_eq_none_iff.mp e'
    show z.cps.size ≤ i
    simpa using this
end
abbrev DI (X : Cx) (P : Pq) (W : WX) (tg iter : Expr) (si : SI) : Prop := PI X tg iter (tG X.K X.mg (SrcJ X.K X.mg) P W si)
section
variable {X : Cx} {P : Pq} {W : WX} {a b c tg iter : Expr} {sa sb sc : SE} {pos : Pos} {es : List Expr} {ar : SA} {si : SI} {ta tb : ST} {rest : List Expr}
theorem PI.imp {tg iter : Expr} {t t' : TI} (h : PI X tg iter t) (k : ∀ σ H R, t' σ H R → t σ H R) : PI X tg iter t' := ⟨fun pins s σ H R I hw => h.run pins s σ H R I (k _ _ _ hw)⟩
/-- several readings of one iterable -/
theorem PI.or {tg iter : Expr} {t t' : TI} (h : PI X tg iter t) (h' : PI X tg iter t') : PI X tg iter (fun σ H R => t σ H R ∨ t' σ H R) := ⟨fun pins s σ H R I hw => by
  rcases hw with hw | hw
  · exact h.run pins s σ H R I hw
  · exact h'.run pins s σ H R I hw⟩
theorem iList_and {tl : TE} (hl : PE X iter tl) : PI X tg iter (fun σ H R => tl σ H fun x H1 => (∃ a, x = .ref a ∧ (∃ xs, SqL X.K H1 a xs) ∧ R (Itl X.K a) H1) ∨ (∃ a, x = .ref a ∧ (∃ xs, SqT X.K H1 a xs) ∧ R (Itt X.K a) H1) ∨ ∃ z, x = .str z ∧ R (Its z) H1) := by
  refine ⟨fun pins s σ H R I h => ?_⟩
  refine thn (hl.run pins s σ H _ I h) fun v s1 ⟨x, H1, I1, r1, q1⟩ => ?_
  rcases q1 with ⟨a, e, ⟨xs, hq⟩, q⟩ | ⟨a, e, ⟨xs, hq⟩, q⟩ | ⟨z, e, q⟩
  · subst e
    cases r1
    obtain ⟨its, rv, p, hz⟩ := I1.list hq
    refine wpAny_pyIter_list p.isList ?_
    refine ⟨s1.heap.objs.size, [s1.heap.objs.size], _, _, H1, rfl, I1.kept (t' := s1.toks) fun b o e => Heap.get?_push_of_some _ e, turn_list a _, ⟨_, Heap.get?_push_size _ rfl, rfl, rfl⟩, fun b hb => ?_, q⟩
    have e : b = s1.heap.objs.size := by simpa using hb
    subst e
    exact I1.fpOk (Nat.le_refl _) (I1.hok.fresh (Nat.le_refl _))
  · subst e
    cases r1
    obtain ⟨its, rv, p, hz⟩ := I1.tuple hq
    refine wpAny_pyIter_tuple (show s1.heap.IsTuple a its.toArray from p) ?_
    refine ⟨s1.heap.objs.size, [s1.heap.objs.size], _, _, H1, rfl, I1.kept (t' := s1.toks) fun b o e => Heap.get?_push_of_some _ e, turn_tuple a _, ⟨_, Heap.get?_push_size _ rfl, rfl, rfl⟩, fun b hb => ?_, q⟩
    have e : b = s1.heap.objs.size := by simpa using hb
    subst e
    exact I1.fpOk (Nat.le_refl _) (I1.hok.fresh (Nat.le_refl _))
  · subst e
    obtain ⟨t, rfl⟩ := r1
    cases ha : z.cps.all (· < 128)
    · exact wpAny_pyIter_wide ha (pi_one (tk := s1.toks) I1 _ (turn_str _ z t "str_iterator" (.inr rfl)) ⟨_, Heap.get?_push_size _ rfl, rfl, rfl⟩ q)
    · exact wpAny_pyIter_ascii ha (pi_one (tk := s1.toks) I1 _ (turn_str _ z t "str_ascii_iterator" (.inl rfl)) ⟨_, Heap.get?_push_size _ rfl, rfl, rfl⟩ q)
/-- for .. in e: a tuple, a list, a text -/
theorem di_e (ha : DE X P W iter sa) : DI X P W tg iter (siE sa) := PI.imp (iList_and ha) fun σV H R ⟨m, h, σ, A, o⟩ => by
  refine A.first (rel1 := RT X.K X.mg) o fun m1 h1 t x H1 E1 r A1 o1 => ?_
  cases r with
  | @tup a vs ts hq r => exact .inr (.inl ⟨a, rfl, ⟨vs, hq⟩, o1 _ m1 H1 (Ext.refl _ _) (srcj_tup hq r) A1.hr⟩)
  | @fl a vs ts hq r => exact .inl ⟨a, rfl, ⟨vs, hq.sq⟩, o1 _ m1 H1 (Ext.refl _ _) (srcj_fl hq r) A1.hr⟩
  | @str z hz => exact .inr (.inr ⟨z, rfl, o1 _ m1 H1 (Ext.refl _ _) (srcj_str hz) A1.hr⟩)
  | @ref l a e1 =>
    have o' : Out X.K X.mg (SrcJ X.K X.mg) W σV R m1 H1 (match lstAt h1 l with | some _ => .ok (.live l) h1 | none => .stk) := o1
    split at o'
    · rename_i ts q1
      obtain ⟨vs, g1, r1⟩ := A1.hr.lst e1 q1
      exact .inl ⟨a, rfl, ⟨vs, SqL.of g1⟩, o' _ m1 H1 (Ext.refl _ _) (srcj_live e1) A1.hr⟩
    · exact False.elim o'
  | _ => exact False.elim o1
theorem di_range1 {p : Pos} (hg : Gl X "range") (hm : X.mg "range" = none) (ha : DA X P W [a] ar) (hs : starEach [a] X.env = [(false, eval a X.env)] := by rfl) : DI X P W tg (.Call (.Name "range" p) [a] [] pos) (siRange1 ar) :=
  PI.imp (pi_range1 hg hm ha hs) fun σV H R ⟨m, h, σ, A, o⟩ => by
    refine A.first (rel1 := RTs X.K X.mg) o fun m1 h1 ts x H1 E1 r A1 o1 => ?_
    unfold rngOf at o1
    split at o1
    · obtain ⟨v, rfl, r1⟩ := r.one
      cases r1 with
      | int _ =>
        rename_i j
        split at o1
        · rename_i hj
          exact ⟨j, rfl, hj.1, hj.2, o1 _ m1 H1 (Ext.refl _ _) (srcj_range 0 j.toNat) A1.hr⟩
        · exact False.elim o1
    · exact False.elim o1

/-! ### targets -/
/-- only the slots is are touched -/
def Only3 (is : List Nat) (σV σV' : L2.St) : Prop := σV'.length = σV.length ∧ ∀ j, j ∉ is → σV'[j]? = σV[j]?
def tTg (K : PySem.W.Frag) (mg : Str → Option Value) (P : Pq) (is : List Nat) (g : SG) : TG := fun v σV H Q => ∃ m h σ t, At K mg P m H σV σ h ∧ RT K mg m H t v ∧
  (match g t σ with | some σ' => ∀ σV', SR K mg m H σ' σV' → Only3 is σV σV' → Q σV' H | none => False)
def tTgs (K : PySem.W.Frag) (mg : Str → Option Value) (P : Pq) (is : List Nat) (g : SGs) : TGs := fun vs σV H Q => ∃ m h σ ts, At K mg P m H σV σ h ∧ RTs K mg m H ts vs ∧
  (match g ts σ with | some σ' => ∀ σV', SR K mg m H σ' σV' → Only3 is σV σV' → Q σV' H | none => False)
abbrev DG (X : Cx) (P : Pq) (tg : Expr) (is : List Nat) (g : SG) : Prop := PG X tg (tTg X.K X.mg P is g)
abbrev DGs (X : Cx) (P : Pq) (ts : List Expr) (is : List Nat) (g : SGs) : Prop := PGs X ts (tTgs X.K X.mg P is g)
theorem PG.imp {tg : Expr} {t t' : TG} (h : PG X tg t) (k : ∀ v σ H Q, t' v σ H Q → t v σ H Q) : PG X tg t' := ⟨fun pins s σ H v u Q I r hw => h.run pins s σ H v u Q I r (k _ _ _ _ hw)⟩
theorem PGs.imp {tg : List Expr} {t t' : TGs} (h : PGs X tg t) (k : ∀ v σ H Q, t' v σ H Q → t v σ H Q) : PGs X tg t' := ⟨fun pins s σ H v u Q I r hw => h.run pins s σ H v u Q I r (k _ _ _ _ hw)⟩
theorem SR.set {m : Mp} {H : Hp} {σ : St3} {σV : L2.St} (r : SR X.K X.mg m H σ σV) {t : T} {v : V} (q : RT X.K X.mg m H t v) (i : Nat) : SR X.K X.mg m H (σ.set i (some t)) (σV.set i (some v)) := by
  refine ⟨by rw [List.length_set, List.length_set]; exact r.1, fun j u e => ?_⟩
  by_cases hj : i = j
  · subst hj
    by_cases hi : i < σ.length
    · rw [List.getElem?_set_self hi] at e
      cases e
      exact ⟨v, by rw [List.getElem?_set_self (by rw [← r.1]; exact hi)], q⟩
    · rw [List.getElem?_eq_none (by rw [List.length_set]; omega)] at e
      cases e
  · rw [List.getElem?_set_ne hj] at e
    obtain ⟨w, e2, q2⟩ := r.2 j u e
    exact ⟨w, by rw [List.getElem?_set_ne hj]; exact e2, q2⟩
theorem dg_name {i : Nat} {x : Str} (hN : X.N.Nodup) (hi : X.N[i]? = some x) (hx : Loc X.env.scope x) (hf : X.fn x = true ∨ X.env.scope.names.lookup x = some .local := by first | exact .inl rfl | exact .inr rfl | assumption) : DG X P (.Name x pos) [i] (sgName i) :=
  PG.imp (pg_name hN hi hx hf) fun v σV H Q ⟨m, h, σ, t, A, r, q⟩ => by
    refine q (σV.set i (some v)) (A.sr.set r i) ⟨List.length_set, fun j hj => ?_⟩
    rw [List.getElem?_set_ne (fun e => hj (by simp [e]))]
theorem dgs_nil : DGs X P [] [] sgsNil := PGs.imp pgs_nil fun vs σV H Q ⟨m, h, σ, ts, A, r, q⟩ => by
  cases r with
  | nil => exact ⟨rfl, q σV A.sr ⟨rfl, fun _ _ => rfl⟩⟩
  | cons _ _ => exact False.elim q
theorem dgs_cons {e : Expr} {is js : List Nat} {g : SG} {gs : SGs} (h1 : DG X P e is g) (h2 : DGs X P es js gs) (hs : (assignEach (e :: es) X.env).map (·.2) = assign e X.env :: (assignEach es X.env).map (·.2) := by rfl) : DGs X P (e :: es) (is ++ js) (sgsCons g gs) :=
  PGs.imp (pgs_cons h1 h2 hs) fun vs σV H Q ⟨m, h, σ, ts, A, r, q⟩ => by
    cases r with
    | nil => exact False.elim q
    | @cons t ts v vs r rr =>
      refine ⟨v, vs, rfl, m, h, σ, t, A, r, ?_⟩
      have q' : (match (match g t σ with | some σ1 => gs ts σ1 | none => none) with | some σ' => ∀ σV', SR X.K X.mg m H σ' σV' → Only3 (is ++ js) σV σV' → Q σV' H | none => False) := q
      cases e1 : g t σ with
      | none => rw [e1] at q'; exact q'
      | some σ1 =>
        rw [e1] at q'
        intro σV1 s1 o1
        refine ⟨m, h, σ1, ts, ⟨s1, A.hr, A.pr⟩, rr, ?_⟩
        have q2 : (match gs ts σ1 with | some σ' => ∀ σV', SR X.K X.mg m H σ' σV' → Only3 (is ++ js) σV σV' → Q σV' H | none => False) := q'
        cases e2 : gs ts σ1 with
        | none => rw [e2] at q2; exact q2
        | some σ2 =>
          rw [e2] at q2
          intro σV2 s2 o2
          refine q2 σV2 s2 ⟨o2.1.trans o1.1, fun j hj => ?_⟩
          have hj' : j ∉ is ∧ j ∉ js := by simpa [not_or] using hj
          exact (o2.2 j hj'.2).trans (o1.2 j hj'.1)
theorem dg_tup {k n : Nat} {is : List Nat} {gs : SGs} (hc : X.calm = true) (h : DGs X P es is gs) (hn : (assignEach es X.env).length = n := by rfl) (hst : (assignEach es X.env).findIdx? (·.1) = none := by rfl) : DG X P (.Tuple es k pos) is (sgTup n gs) :=
  PG.imp (pg_tup hc h hn hst) fun v σV H Q ⟨m, h, σ, t, A, r, q⟩ => by
    cases r with
    | @tup a vs ts hq r =>
      have q' : (match (if ts.length = n then gs ts σ else none) with | some σ' => ∀ σV', SR X.K X.mg m H σ' σV' → Only3 is σV σV' → Q σV' H | none => False) := q
      split at q'
      · rename_i σ' e
        split at e
        · rename_i hl
          refine ⟨a, vs, rfl, hq, by rw [← r.length]; exact hl, m, h, σ, ts, A, r, ?_⟩
          rw [e]; exact q'
        · cases e
      · exact False.elim q'
    | _ => exact False.elim q

/-! ### list comprehensions -/
/-- the list D has just been made of the items; the small heap does not know it -/
def relL (K : PySem.W.Frag) (mg : Str → Option Value) (H0 : Hp) (m : Mp) (H : Hp) (ts : List T) (v : V) : Prop :=
  ∃ D vs, v = .ref D ∧ H0 D = none ∧ H D = some (.lst vs) ∧ RTs K mg m H ts vs ∧ ∀ l, m l ≠ some D
def tL (K : PySem.W.Frag) (mg : Str → Option Value) (P : Pq) (W : WX) (sa : SA) : TE := fun σV H Q => tG K mg (relL K mg H) P W sa σV H Q
abbrev DL (X : Cx) (P : Pq) (W : WX) (e : Expr) (sa : SA) : Prop := PE X e (tL X.K X.mg P W sa)
/-- a clause's tests -/
abbrev DTs (X : Cx) (P : Pq) (W : WX) (es : List Expr) (se : ST) : Prop := PTs X es (tTst X.K X.mg P W se)
theorem PTs.imp {es : List Expr} {t t' : TT} (h : PTs X es t) (k : ∀ σ H Q, t' σ H Q → t σ H Q) : PTs X es t' := ⟨fun pins s σ H Q I hw => h.run pins s σ H Q I (k _ _ _ hw)⟩
theorem dts_nil : DTs X P W [] stYes := PTs.imp pts_nil fun σV H Q ⟨m, h, σ, A, o⟩ => o true m H (Ext.refl _ _) rfl A.hr
theorem dts_one (h : DT X P W c ta) : DTs X P W [c] ta := pts_one h
def WF : WX := fun _ _ _ _ => False
theorem SR.wipe {m : Mp} {H : Hp} {σ : St3} {σV : L2.St} (r : SR X.K X.mg m H σ σV) : ∀ vs : List Nat, SR X.K X.mg m H (wipeT σ vs) (L2.wipe σV vs)
  | [] => r
  | v :: vs => by
    have ih := SR.wipe r vs
    refine ⟨by unfold wipeT L2.wipe; rw [List.length_set, List.length_set]; exact ih.1, fun j u e => ?_⟩
    unfold wipeT at e
    unfold L2.wipe
    by_cases hj : v = j
    · subst hj
      by_cases hi : v < (wipeT σ vs).length
      · rw [List.getElem?_set_self hi] at e; cases e
      · rw [List.getElem?_eq_none (by rw [List.length_set]; omega)] at e; cases e
    · rw [List.getElem?_set_ne hj] at e ⊢
      exact ih.2 j u e
theorem wipe_get (σV : L2.St) : ∀ (vs : List Nat) (j : Nat), (L2.wipe σV vs)[j]? = if j ∈ vs ∧ j < σV.length then some none else σV[j]?
  | [], j => by simp [L2.wipe]
  | v :: vs, j => by
    unfold L2.wipe
    by_cases hj : v = j
    · subst hj
      by_cases hi : v < σV.length
      · rw [List.getElem?_set_self (by rw [wipe_length]; exact hi), if_pos ⟨List.mem_cons_self, hi⟩]
      · rw [List.getElem?_eq_none (by rw [List.length_set, wipe_length]; omega), if_neg (fun z => hi z.2), List.getElem?_eq_none (by omega)]
    · rw [List.getElem?_set_ne hj, wipe_get σV vs j]
      have : (j ∈ v :: vs ∧ j < σV.length) ↔ (j ∈ vs ∧ j < σV.length) := by
        simp only [List.mem_cons]
        constructor
        · rintro ⟨z | z, w⟩
          · exact absurd z.symm hj
          · exact ⟨z, w⟩
        · rintro ⟨z, w⟩; exact ⟨.inr z, w⟩
      by_cases hh : j ∈ vs ∧ j < σV.length
      · rw [if_pos hh, if_pos (this.mpr hh)]
      · rw [if_neg hh, if_neg (fun z => hh (this.mp z))]
theorem wipe_only {is vs : List Nat} {σV σV' : L2.St} (hs : ∀ i ∈ is, i ∈ vs) (o : Only3 is (L2.wipe σV vs) σV') : L2.wipe σV' vs = L2.wipe σV vs := by
  apply List.ext_getElem?
  intro j
  rw [wipe_get, wipe_get]
  have hl : σV'.length = σV.length := by rw [o.1, wipe_length]
  by_cases hj : j ∈ vs ∧ j < σV.length
  · rw [if_pos (by rw [hl]; exact hj), if_pos hj]
  · rw [if_neg (by rw [hl]; exact hj), if_neg hj]
    by_cases hj2 : j ∈ vs
    · have : ¬ j < σV.length := fun z => hj ⟨hj2, z⟩
      rw [List.getElem?_eq_none (by omega), List.getElem?_eq_none (by omega)]
    · rw [o.2 j (fun z => hj2 (hs j z)), wipe_get, if_neg (fun z => hj2 z.1)]
theorem lc_read {is vs : List Nat} {g : SG} {tt : ST} {te : SE} (his : ∀ i ∈ is, i ∈ vs) {σV : L2.St} {H : Hp} {Q : VK} (h : tL X.K X.mg P W (saLc si g tt te vs) σV H Q) :
    tLc (tG X.K X.mg (SrcJ X.K X.mg) P W si) (tTg X.K X.mg P is g) (tTst X.K X.mg P WF tt) (tI X.K X.mg P WF te) vs σV H Q := by
  obtain ⟨m, h, σ, A, o⟩ := h
  refine A.first (rel1 := SrcJ X.K X.mg) o fun m1 h1 s J H1 E1 S A1 o1 D hD => ?_
  have hD0 : H D = none := by
    cases q : H D with
    | none => rfl
    | some u =>
      obtain ⟨w, e⟩ := E1.live D u q
      rw [hD] at e; cases e
  refine ⟨fun i k H' => ∃ m' h' acc accV, Ext m1 H1 m' H' ∧ HR X.K X.mg m' h' H' ∧ H' D = some (.lst accV) ∧ RTs X.K X.mg m' H' acc accV ∧ (∀ l, m' l ≠ some D) ∧
    Out X.K X.mg (relL X.K X.mg H) W σV Q m1 H1 (lcRun s g tt te (wipeT σ vs) k i acc h'), ⟨s.len h1, m1, h1, [], [], Ext.garbage A1.hr hD, A1.hr.garbage hD, upd_same, .nil, fun l e => ?_, o1⟩, ?_⟩
  · obtain ⟨u, e2, _⟩ := A1.hr.tracked e
    rw [hD] at e2; cases e2
  rintro i k H' ⟨m', h', acc, accV, E', R', hDl, racc, nD, o'⟩
  unfold lcRun at o'
  cases es : s.at h' i with
  | none => rw [es] at o'; exact False.elim o'
  | some ox =>
    cases ox with
    | none =>
      rw [es] at o'
      exact .inl ⟨S.stop m' h' H' i E'.tr R' es, o' _ m' H' E' ⟨D, accV, rfl, hD0, hDl, racc, nD⟩ R'⟩
    | some x =>
      rw [es] at o'
      cases k with
      | zero => exact False.elim o'
      | succ k =>
        obtain ⟨jg, jy⟩ := S.go m' h' H' i x E'.tr R' es
        refine .inr ⟨jg, _, fun H'' q => ⟨k, Nat.lt_succ_self k, q⟩, fun y H2 hy => ?_⟩
        obtain ⟨E2, R2, rx⟩ := jy y H2 hy
        have A2 : At X.K X.mg P m' H2 (L2.wipe σV vs) (wipeT σ vs) h' := ⟨((A1.sr.ext (E'.trans E2)).wipe vs), R2, P.st (E'.trans E2) A1.pr⟩
        refine ⟨m', h', wipeT σ vs, x, A2, rx, ?_⟩
        have keepD : ∀ {m3 H3}, Ext m' H2 m3 H3 → H3 D = some (.lst accV) ∧ ∀ l, m3 l ≠ some D := fun {m3 H3} E3 => by
          have d2 : H2 D = some (.lst accV) := E2.keep D _ hDl nD
          refine ⟨E3.keep D _ d2 nD, fun l e => ?_⟩
          rcases E3.fresh l D e with z | z
          · exact nD l z
          · rw [d2] at z; cases z
        dsimp only at o'
        cases eg : g x (wipeT σ vs) with
        | none => rw [eg] at o'; exact False.elim o'
        | some σ1 =>
          rw [eg] at o'
          intro σV1 s1 only
          refine ⟨wipe_only his only, m', h', σ1, ⟨s1, R2, A2.pr⟩, ?_⟩
          dsimp only at o'
          cases et : tt σ1 h' with
          | exc c fs h3 => rw [et] at o'; exact False.elim o'
          | stk => rw [et] at o'; exact False.elim o'
          | ok b h3 =>
            rw [et] at o'
            dsimp only at o'
            intro b' m3 H3 E3 eb R3
            subst eb
            cases b with
            | false =>
              rw [if_neg Bool.false_ne_true] at o' ⊢
              obtain ⟨d3, n3⟩ := keepD E3
              exact ⟨m3, h3, acc, accV, (E'.trans E2).trans E3, R3, d3, (racc.ext E2).ext E3, n3, o'⟩
            | true =>
              rw [if_pos rfl] at o' ⊢
              refine ⟨m3, h3, σ1, ⟨s1.ext E3, R3, P.st E3 A2.pr⟩, ?_⟩
              cases ee : te σ1 h3 with
              | exc c fs h4 => rw [ee] at o'; exact False.elim o'
              | stk => rw [ee] at o'; exact False.elim o'
              | ok t h4 =>
                rw [ee] at o'
                dsimp only at o'
                intro y' m4 H4 E4 rt R4
                obtain ⟨d4, n4⟩ := keepD (E3.trans E4)
                split at o'
                · rename_i hz
                  refine ⟨accV, d4, by rw [← racc.length]; exact hz, m4, h4, acc ++ [t], accV ++ [y'], ?_, R4.out d4 n4, upd_same, ?_, n4, o'⟩
                  · exact Ext.out (((E'.trans E2).trans E3).trans E4) hD
                  · have r4 := (((racc.ext E2).ext E3).ext E4).append (.cons rt .nil)
                    exact r4.tr (Tr.out d4)
                · exact False.elim o'
theorem dl_lc {elt : Expr} {ifs : List Expr} {scope : Scope} {own : List (Str × Nat)} {is : List Nat} {g : SG} {tt : ST} {te : SE} (hc : X.calm = true) (hN : X.N.Nodup) (hi : DI X P W tg iter si) (ok : BlkOk X.N X.env.scope scope own)
    (hg : ∀ (s : Shared) (H : Hp) (C : Addr) (cl : List (Str × Addr)) (fp : List Addr), DG (X.blk s H scope (compEnvC scope cl C X.env) fp) P tg is g)
    (ht : ∀ (s : Shared) (H : Hp) (C : Addr) (cl : List (Str × Addr)) (fp : List Addr), DTs (X.blk s H scope (compEnvC scope cl C X.env) fp) P WF ifs tt)
    (he : ∀ (s : Shared) (H : Hp) (C : Addr) (cl : List (Str × Addr)) (fp : List Addr), DE (X.blk s H scope (compEnvC scope cl C X.env) fp) P WF elt te)
    (his : ∀ i ∈ is, i ∈ own.map (·.2) := by decide) (hs : ∀ x, foldedSetIterable iter X.env x = pure x := by intro _; rfl) :
    DL X P W (.ListComp elt [⟨tg, iter, ifs, 0⟩] scope pos) (saLc si g tt te (own.map (·.2))) := by
  exact PE.imp (pe_lc (own := own) (wi := tG X.K X.mg (SrcJ X.K X.mg) P W si) (g := tTg X.K X.mg P is g) (tt := tTst X.K X.mg P WF tt) (te := tI X.K X.mg P WF te) hc hN hi ok hg ht he hs) fun σV H Q h => lc_read his h
/-- the list itself is kept -/
theorem lc_keep {sa : SA} {σV : L2.St} {H : Hp} {Q : VK} (h : tI X.K X.mg P W (sLc sa) σV H Q) : tL X.K X.mg P W sa σV H Q := by
  obtain ⟨m, h, σ, A, o⟩ := h
  refine ⟨m, h, σ, A, ?_⟩
  unfold sLc at o
  cases e : sa σ h with
  | exc c fs h1 => rw [e] at o; exact o
  | stk => rw [e] at o; exact o
  | ok ts h1 =>
    rw [e] at o
    rintro v m1 H1 E1 ⟨D, vs, rfl, hD, d1, r1, n1⟩ R1
    have o' : Out X.K X.mg (RT X.K X.mg) W σV Q m H (alloc (.lst ts) h1) := o
    have hne : ∀ l a, m1 l = some a → l ≠ h1.length := fun l a e => Nat.ne_of_lt (R1.dom l a e)
    have E2 : Ext m H (m1.put h1.length D) H1 := ⟨fun l a e => by rw [Mp.put_ne (hne l a (E1.mono l a e))]; exact E1.mono l a e, fun l a e => by
        by_cases hl : l = h1.length
        · subst hl; rw [Mp.put_same] at e; cases e; exact .inr hD
        · rw [Mp.put_ne hl] at e; exact E1.fresh l a e, E1.live, E1.keep, E1.tups, E1.frzs, E1.xds⟩
    have T2 : Tr m1 H1 (m1.put h1.length D) H1 := ⟨fun l a e => by rw [Mp.put_ne (hne l a e)]; exact e, fun _ _ q => q, fun _ _ _ q => q⟩
    refine o' _ (m1.put h1.length D) H1 E2 (.ref Mp.put_same) ⟨fun l a e => ?_, fun l l' a e e' => ?_, fun l u q => ?_⟩
    · rw [List.length_append, List.length_singleton]
      by_cases hl : l = h1.length
      · omega
      · rw [Mp.put_ne hl] at e; have := R1.dom l a e; omega
    · by_cases hl : l = h1.length
      · by_cases hl' : l' = h1.length
        · rw [hl, hl']
        · rw [hl, Mp.put_same] at e; cases e
          rw [Mp.put_ne hl'] at e'
          exact absurd e' (n1 l')
      · by_cases hl' : l' = h1.length
        · rw [hl', Mp.put_same] at e'; cases e'
          rw [Mp.put_ne hl] at e
          exact absurd e (n1 l)
        · rw [Mp.put_ne hl] at e; rw [Mp.put_ne hl'] at e'
          exact R1.inj l l' a e e'
    · by_cases hl : l < h1.length
      · rw [List.getElem?_append_left hl] at q
        obtain ⟨a, e1, r⟩ := R1.ob l u q
        exact ⟨a, T2.mono l a e1, r.moveT T2 rfl⟩
      · have : l = h1.length := by
          have := (List.getElem?_eq_some_iff.mp q).1
          rw [List.length_append, List.length_singleton] at this
          omega
        subst this
        simp at q
        subst q
        exact ⟨D, Mp.put_same, vs, d1, r1.tr T2⟩
theorem de_lc {e : Expr} {sa : SA} (h : DL X P W e sa) : DE X P W e (sLc sa) := PE.imp h fun σV H Q h => lc_keep h
end
end W3
end

section
/-! WG: statements. -/
namespace W3
open PySem PySem.Spec PyProof.Rows
open L2
section
variable (K : PySem.W.Frag) (mg : Str → Option Value)
def OutS (W : WX) (D : Ends) (m : Mp) (H : Hp) : Flo → Prop
  | .nx σ' h' => ∀ σV' m' H', Ext m H m' H' → SR K mg m' H' σ' σV' → HR K mg m' h' H' → D.nx σV' H'
  | .rt t h' => ∀ v m' H', Ext m H m' H' → RT K mg m' H' t v → HR K mg m' h' H' → D.rt v H'
  | .bk σ' h' => ∀ σV' m' H', Ext m H m' H' → SR K mg m' H' σ' σV' → HR K mg m' h' H' → D.bk σV' H'
  | .ct σ' h' => ∀ σV' m' H', Ext m H m' H' → SR K mg m' H' σ' σV' → HR K mg m' h' H' → D.ct σV' H'
  | .exc c fs σ' h' => ∀ cls d σV' m' H', Ext m H m' H' → SR K mg m' H' σ' σV' → XR K mg m' H' c fs cls d → HR K mg m' h' H' → W cls d σV' H'
  | .stk => False
def tS (P : Pq) (W : WX) (ss : SS) : TS := fun D σV H => ∃ m h σ, At K mg P m H σV σ h ∧ OutS K mg W D m H (ss σ h)
end
abbrev DS (X : Cx) (P : Pq) (W : WX) (st : Stmt) (ss : SS) : Prop := PS X st (tS X.K X.mg P W ss)
abbrev DSs (X : Cx) (P : Pq) (W : WX) (st : List Stmt) (ss : SS) : Prop := PSs X st (tS X.K X.mg P W ss)
section
variable {K : PySem.W.Frag} {mg : Str → Option Value} {m m' : Mp} {H H' : Hp} {h : Hh} {P : Pq} {W : WX} {σV : L2.St} {σ : St3} {D : Ends}
theorem OutS.ext {r : Flo} (E : Ext m H m' H') (o : OutS K mg W D m H r) : OutS K mg W D m' H' r := by
  cases r with
  | nx σ h => exact fun v m2 H2 E2 => o v m2 H2 (E.trans E2)
  | rt σ h => exact fun v m2 H2 E2 => o v m2 H2 (E.trans E2)
  | bk σ h => exact fun v m2 H2 E2 => o v m2 H2 (E.trans E2)
  | ct σ h => exact fun v m2 H2 E2 => o v m2 H2 (E.trans E2)
  | exc c fs σ h => exact fun c d v m2 H2 E2 => o c d v m2 H2 (E.trans E2)
  | stk => exact o
/-- an expression ahead of the rest of a statement -/
theorem At.flo {α β : Type} {rel1 : Mp → Hp → α → β → Prop} {se : St3 → Hh → Res α} {k : α → Hh → Flo} {Q1 : β → Hp → Prop} (A : At K mg P m H σV σ h) (o : OutS K mg W D m H ((se σ h).flo σ k))
    (q : ∀ m1 h1 a b H1, Ext m H m1 H1 → rel1 m1 H1 a b → At K mg P m1 H1 σV σ h1 → OutS K mg W D m1 H1 (k a h1) → Q1 b H1) : tG K mg rel1 P W se σV H Q1 := by
  refine ⟨m, h, σ, A, ?_⟩
  cases e : se σ h with
  | ok a h1 =>
    rw [e] at o
    exact fun b m1 H1 E1 r1 R1 => q m1 h1 a b H1 E1 r1 (A.ext E1 R1) (OutS.ext E1 o)
  | exc c fs h1 =>
    rw [e] at o
    exact fun cls d m1 H1 E1 x R1 => o cls d σV m1 H1 E1 (A.sr.ext E1) x R1
  | stk => rw [e] at o; exact o
end
section
variable {X : Cx} {P : Pq} {W : WX} {a b c tg iter : Expr} {sa sb sc : SE} {pos pos' : Pos} {es : List Expr} {ar : SA} {si : SI} {ta tb : ST} {st : Stmt} {rest body : List Stmt} {x1 x2 : SS}
theorem ds_nil : DSs X P W [] ssNil := PSs.imp pss_nil fun D σV H ⟨m, h, σ, A, o⟩ => o σV m H (Ext.refl _ _) A.sr A.hr
theorem ds_cons (h1 : DS X P W st x1) (h2 : DSs X P W rest x2) : DSs X P W (st :: rest) (ssCons x1 x2) := PSs.imp (pss_cons h1 h2) fun D σV H ⟨m, h, σ, A, o⟩ => by
  refine ⟨m, h, σ, A, ?_⟩
  have o' : OutS X.K X.mg W D m H ((x1 σ h).seq x2) := o
  cases e : x1 σ h with
  | nx σ1 h1 =>
    rw [e] at o'
    exact fun σV1 m1 H1 E1 s1 R1 => ⟨m1, h1, σ1, ⟨s1, R1, P.st E1 A.pr⟩, OutS.ext E1 o'⟩
  | rt t h1 => rw [e] at o'; exact o'
  | bk σ1 h1 => rw [e] at o'; exact o'
  | ct σ1 h1 => rw [e] at o'; exact o'
  | exc c fs σ1 h1 => rw [e] at o'; exact o'
  | stk => rw [e] at o'; exact o'
theorem ds_if {p q : List Stmt} (hc : DT X P W c ta) (ha : DSs X P W p x1) (hb : DSs X P W q x2) : DS X P W (.If c p q pos) (ssIf ta x1 x2) := PS.imp (ps_if hc ha hb) fun D σV H ⟨m, h, σ, A, o⟩ => by
  refine A.flo (rel1 := fun _ _ a b => a = b) o fun m1 h1 t x H1 E1 r A1 o1 => ?_
  subst r
  cases t with
  | true => exact ⟨m1, h1, σ, A1, o1⟩
  | false => exact ⟨m1, h1, σ, A1, o1⟩
theorem ds_ret (ha : DE X P W a sa) : DS X P W (.Return (some a) pos) (ssRet sa) := PS.imp (ps_ret ha) fun D σV H ⟨m, h, σ, A, o⟩ => by
  refine A.flo (rel1 := RT X.K X.mg) o fun m1 h1 t x H1 E1 r A1 o1 => ?_
  exact o1 x m1 H1 (Ext.refl _ _) r A1.hr
theorem ds_retN : DS X P W (.Return none pos) ssRetN := PS.imp ps_retN fun D σV H ⟨m, h, σ, A, o⟩ => o .non m H (Ext.refl _ _) .non A.hr
theorem ds_expr (ha : DE X P W a sa) (hs : swapsWith a none pos.line X.env = pure false := by rfl) : DS X P W (.Expr a pos) (ssExpr sa) := PS.imp (ps_expr ha hs) fun D σV H ⟨m, h, σ, A, o⟩ => by
  refine A.flo (rel1 := RT X.K X.mg) o fun m1 h1 t x H1 E1 r A1 o1 => ?_
  exact o1 σV m1 H1 (Ext.refl _ _) A1.sr A1.hr
theorem ds_break : DS X P W (.Break pos) ssBreak := PS.imp ps_break fun D σV H ⟨m, h, σ, A, o⟩ => o σV m H (Ext.refl _ _) A.sr A.hr
theorem ds_cont : DS X P W (.Continue pos) ssCont := PS.imp ps_continue fun D σV H ⟨m, h, σ, A, o⟩ => o σV m H (Ext.refl _ _) A.sr A.hr
theorem ds_pass : DS X P W (.Pass pos) ssNil := PS.imp ps_pass fun D σV H ⟨m, h, σ, A, o⟩ => o σV m H (Ext.refl _ _) A.sr A.hr
theorem asg_read {is : List Nat} {g : SG} {D : Ends} {σV : L2.St} {H : Hp} (h : tS X.K X.mg P W (ssAsg sa g) D σV H) : tAsg (tI X.K X.mg P W sa) (tTg X.K X.mg P is g) D σV H := by
  obtain ⟨m, h, σ, A, o⟩ := h
  refine A.flo (rel1 := RT X.K X.mg) o fun m1 h1 t x H1 E1 r A1 o1 => ?_
  refine ⟨m1, h1, σ, t, A1, r, ?_⟩
  cases e : g t σ with
  | none => rw [e] at o1; exact o1
  | some σ' => rw [e] at o1; exact fun σV' s' _ => o1 σV' m1 H1 (Ext.refl _ _) s' A1.hr
/-- target = value -/
theorem ds_asg {is : List Nat} {g : SG} (ha : DE X P W a sa) (hg : DG X P tg is g) (hs : swapsWithSole [tg] a pos.line X.env = pure false := by rfl) (hw : swappedStores [tg] a X.env = pure none := by rfl)
    (h1 : (assignEach [tg] X.env).map (·.2) = [assign tg X.env] := by rfl) : DS X P W (.Assign [tg] a pos) (ssAsg sa g) := PS.imp (ps_asg ha hg hs hw h1) fun D σV H h => asg_read h
/-- name = value -/
theorem ds_set {i : Nat} {x : Str} (hN : X.N.Nodup) (hi : X.N[i]? = some x) (hx : Loc X.env.scope x) (ha : DE X P W a sa) (hs : swapsWith a (some (.Name x pos')) pos.line X.env = pure false := by rfl) (hf : X.fn x = true ∨ X.env.scope.names.lookup x = some .local := by first | exact .inl rfl | exact .inr rfl | assumption) :
    DS X P W (.Assign [.Name x pos'] a pos) (ssAsg sa (sgName i)) := PS.imp (ps_set hN hi hx ha hs hf) fun D σV H ⟨m, h, σ, A, o⟩ => by
  refine A.flo (rel1 := RT X.K X.mg) o fun m1 h1 t x H1 E1 r A1 o1 => ?_
  exact o1 _ m1 H1 (Ext.refl _ _) (A1.sr.set r i) A1.hr
/-- name = [..] on one line -/
theorem ds_setLc {i : Nat} {y : Str} {py : Pos} {elt : Expr} {ifs : List Expr} {scope : Scope} {own : List (Str × Nat)} {spos : Pos} {is : List Nat} {g : SG} {tt : ST} {te : SE} (hc : X.calm = true) (hN : X.N.Nodup) (hy : X.N[i]? = some y) (hyl : X.env.scope.names.lookup y = some .local)
    (hsw : swapsWith (.ListComp elt [⟨tg, iter, ifs, 0⟩] scope pos) (some (.Name y py)) spos.line X.env = pure true) (hi : DI X P W tg iter si) (ok : BlkOk X.N X.env.scope scope own)
    (hg : ∀ (s : Shared) (H : Hp) (C : Addr) (cl : List (Str × Addr)) (fp : List Addr), DG (X.blk s H scope (compEnvC scope cl C X.env) fp) P tg is g)
    (ht : ∀ (s : Shared) (H : Hp) (C : Addr) (cl : List (Str × Addr)) (fp : List Addr), DTs (X.blk s H scope (compEnvC scope cl C X.env) fp) P WF ifs tt)
    (he : ∀ (s : Shared) (H : Hp) (C : Addr) (cl : List (Str × Addr)) (fp : List Addr), DE (X.blk s H scope (compEnvC scope cl C X.env) fp) P WF elt te)
    (his : ∀ i ∈ is, i ∈ own.map (·.2) := by decide) (hs : ∀ x, foldedSetIterable iter X.env x = pure x := by intro _; rfl) :
    DS X P W (.Assign [.Name y py] (.ListComp elt [⟨tg, iter, ifs, 0⟩] scope pos) spos) (ssAsg (sLc (saLc si g tt te (own.map (·.2)))) (sgName i)) := by
  refine PS.imp (ps_setLc (own := own) (i := i) (wi := tG X.K X.mg (SrcJ X.K X.mg) P W si) (g := tTg X.K X.mg P is g) (tt := tTst X.K X.mg P WF tt) (te := tI X.K X.mg P WF te) hc hN hy hyl hsw hi ok hg ht he hs) fun D σV H h => ?_
  refine lc_read his (lc_keep ?_)
  obtain ⟨m, h, σ, A, o⟩ := h
  refine A.flo (rel1 := RT X.K X.mg) o fun m1 h1 t x H1 E1 r A1 o1 => ?_
  exact o1 _ m1 H1 (Ext.refl _ _) (A1.sr.set r i) A1.hr
/-- o.f = v -/
theorem ds_fld {o v : Expr} {so sv : SE} {f : Str} {cs : List (Str × List Str)} (C : ClsF X.K X.mg cs) (ho : DE X P W o so) (hv : DE X P W v sv) (hs : swapsWith v (some (.Attribute o f pos')) pos.line X.env = pure false := by rfl) :
    DS X P W (.Assign [.Attribute o f pos'] v pos) (ssFldC cs so sv f) := PS.imp (ps_fld ho hv hs) fun D σV H ⟨m, h, σ, A, o⟩ => by
  refine A.flo (rel1 := RT X.K X.mg) o fun m1 h1 t1 y H1 E1 r1 A1 o1 => ?_
  refine A1.flo (rel1 := RT X.K X.mg) o1 fun m2 h2 t2 x H2 E2 r2 A2 o2 => ?_
  cases r2 with
  | @ref l a e1 =>
    have o' : OutS X.K X.mg W D m2 H2 (match insAt h2 l with
      | some (c, fs) => (match cs.lookup c with
        | some as => if as.contains f && decide (fs.length < 1000) then .nx σ (h2.set l (.ins c (putT f t1 fs))) else .stk
        | none => .stk)
      | none => .stk) := o2
    split at o'
    · rename_i c fs q1
      obtain ⟨Ca, dx, fv, g1, g2, rf⟩ := A2.hr.ins e1 q1
      split at o'
      · rename_i as q2
        split at o'
        · rename_i hc
          rw [Bool.and_eq_true, decide_eq_true_eq] at hc
          obtain ⟨k1, k2⟩ := C c as Ca (mem_of_lookup q2) g1
          refine ⟨a, Ca, dx, fv, rfl, g2, k1, k2 f (by simpa using hc.1), by rw [← rf.length]; exact hc.2, ?_⟩
          have Ew : Ext m2 H2 m2 (upd H2 a (.ins Ca dx (putF f y fv))) := Ext.write A2.hr e1
          refine o' σV m2 _ Ew (A2.sr.ext Ew) (A2.hr.write e1 ⟨Ca, dx, _, g1, upd_same, ?_⟩)
          exact (rf.put (r1.ext E2)).ext Ew
        · exact False.elim o'
      · exact False.elim o'
    · exact False.elim o'
  | _ => exact False.elim o2
end
end W3
end

section
/-! WH: loops, stores by place, methods of lists, defs and their calls. -/
namespace W3
open PySem PySem.Spec PyProof.Rows
open L2
section
variable {X : Cx} {P : Pq} {W : WX} {a b c tg iter : Expr} {sa sb sc : SE} {pos pos' : Pos} {es : List Expr} {ar : SA} {si : SI} {ta tb : ST} {st : Stmt} {rest body : List Stmt} {x1 x2 : SS}
theorem ds_for {is : List Nat} {g : SG} (hp : PassesOwn (model X.prog X.w) X.A X.env X.xe) (hc : X.calm = true) (hi : DI X P W tg iter si) (hg : DG X P tg is g) (hb : DSs X P W body x1)
    (hs : ∀ x, foldedSetIterable iter X.env x = pure x := by intro _; rfl) : DS X P W (.For tg iter body [] pos) (ssFor si g x1) := PS.imp (ps_for hp hc hi hg hb hs) fun D σV H ⟨m, h, σ, A, o⟩ => by
  refine A.flo (rel1 := SrcJ X.K X.mg) o fun m1 h1 s J H1 E1 S A1 o1 => ?_
  refine ⟨fun i k σV' H' => ∃ m' h' σ', Ext m1 H1 m' H' ∧ At X.K X.mg P m' H' σV' σ' h' ∧ OutS X.K X.mg W D m1 H1 (forRun s g x1 k i σ' h'), ⟨s.len h1, m1, h1, σ, Ext.refl _ _, A1, o1⟩, ?_⟩
  rintro i k σV' H' ⟨m', h', σ', E', A', o'⟩
  unfold forRun at o'
  cases es : s.at h' i with
  | none => rw [es] at o'; exact False.elim o'
  | some ox =>
    cases ox with
    | none =>
      rw [es] at o'
      exact .inl ⟨S.stop m' h' H' i E'.tr A'.hr es, o' σV' m' H' E' A'.sr A'.hr⟩
    | some x =>
      rw [es] at o'
      cases k with
      | zero => exact False.elim o'
      | succ k =>
        obtain ⟨jg, jy⟩ := S.go m' h' H' i x E'.tr A'.hr es
        refine .inr ⟨jg, _, fun σV2 H'' q => ⟨k, Nat.lt_succ_self k, q⟩, fun y H2 hy => ?_⟩
        obtain ⟨E2, R2, rx⟩ := jy y H2 hy
        have A2 : At X.K X.mg P m' H2 σV' σ' h' := A'.ext E2 R2
        refine ⟨m', h', σ', x, A2, rx, ?_⟩
        dsimp only at o'
        cases eg : g x σ' with
        | none => rw [eg] at o'; exact False.elim o'
        | some σ1 =>
          rw [eg] at o'
          intro σV1 s1 _
          refine ⟨m', h', σ1, ⟨s1, R2, A2.pr⟩, ?_⟩
          dsimp only at o'
          have up : ∀ {r : Flo}, OutS X.K X.mg W D m1 H1 r → OutS X.K X.mg W D m' H2 r := fun q => OutS.ext (E'.trans E2) q
          cases eb : x1 σ1 h' with
          | nx σ2 h2 =>
            rw [eb] at o'
            exact fun σV3 m3 H3 E3 s3 R3 => ⟨m3, h2, σ2, (E'.trans E2).trans E3, ⟨s3, R3, P.st E3 A2.pr⟩, o'⟩
          | ct σ2 h2 =>
            rw [eb] at o'
            exact fun σV3 m3 H3 E3 s3 R3 => ⟨m3, h2, σ2, (E'.trans E2).trans E3, ⟨s3, R3, P.st E3 A2.pr⟩, o'⟩
          | bk σ2 h2 => rw [eb] at o'; exact up o'
          | rt t h2 => rw [eb] at o'; exact up (r := .rt t h2) o'
          | exc c fs σ2 h2 => rw [eb] at o'; exact up (r := .exc c fs σ2 h2) o'
          | stk => rw [eb] at o'; exact o'
theorem ds_while {n : Nat} (hp : PassesOwn (model X.prog X.w) X.A X.env X.xe) (hc : DT X P W c ta) (hb : DSs X P W body x1) : DS X P W (.While c body [] pos) (whileRun ta x1 n) := PS.imp (ps_while hp hc hb) fun D σV H ⟨m, h, σ, A, o⟩ => by
  refine ⟨fun k σV' H' => ∃ m' h' σ', At X.K X.mg P m' H' σV' σ' h' ∧ OutS X.K X.mg W D m' H' (whileRun ta x1 k σ' h'), ⟨n, m, h, σ, A, o⟩, ?_⟩
  rintro k σV' H' ⟨m', h', σ', A', o'⟩
  cases k with
  | zero => exact False.elim o'
  | succ k =>
    have o2 : OutS X.K X.mg W D m' H' ((ta σ' h').flo σ' fun x h1 => if x = true then (match x1 σ' h1 with
      | .nx σ2 h2 => whileRun ta x1 k σ2 h2
      | .ct σ2 h2 => whileRun ta x1 k σ2 h2
      | .bk σ2 h2 => .nx σ2 h2
      | r => r) else .nx σ' h1) := o'
    refine A'.flo (rel1 := fun _ _ a b => a = b) o2 fun m1 h1 t x H1 E1 r A1 o1 => ?_
    subst r
    cases t with
    | false =>
      rw [if_neg Bool.false_ne_true] at o1 ⊢
      exact o1 σV' m1 H1 (Ext.refl _ _) A1.sr A1.hr
    | true =>
      rw [if_pos rfl] at o1 ⊢
      refine ⟨_, fun σV2 H'' q => ⟨k, Nat.lt_succ_self k, q⟩, m1, h1, σ', A1, ?_⟩
      cases eb : x1 σ' h1 with
      | nx σ2 h2 =>
        rw [eb] at o1
        exact fun σV3 m3 H3 E3 s3 R3 => ⟨m3, h2, σ2, ⟨s3, R3, P.st E3 A1.pr⟩, OutS.ext E3 o1⟩
      | ct σ2 h2 =>
        rw [eb] at o1
        exact fun σV3 m3 H3 E3 s3 R3 => ⟨m3, h2, σ2, ⟨s3, R3, P.st E3 A1.pr⟩, OutS.ext E3 o1⟩
      | bk σ2 h2 => rw [eb] at o1; exact o1
      | rt t h2 => rw [eb] at o1; exact o1
      | exc c fs σ2 h2 => rw [eb] at o1; exact o1
      | stk => rw [eb] at o1; exact o1
/-- o[i] = v, o a list -/
theorem ds_sub {o i v : Expr} {so si' sv : SE} (ho : DE X P W o so) (hi : DE X P W i si') (hv : DE X P W v sv) (hs : swapsWithSole [.Subscript o i pos'] v pos.line X.env = pure false := by rfl) (hw : swappedStores [.Subscript o i pos'] v X.env = pure none := by rfl)
    (h1 : (assignEach [.Subscript o i pos'] X.env).map (·.2) = [assign (.Subscript o i pos') X.env] := by rfl)
    (ha : ∀ v, assign (.Subscript o i pos') X.env v = (do
      let ov ← holding [v] (eval o X.env)
      let iv ← holding [v, ov] (eval i X.env)
      standAt pos'
      holding [v, ov, iv] (setItem ov iv v)
      release [v, ov, iv] []) := by intro _; rfl) : DS X P W (.Assign [.Subscript o i pos'] v pos) (ssSub so si' sv) := by
  refine PS.imp (ps_asg hv (pg_sub ho hi set_list ha) hs hw h1) fun D σV H ⟨m, h, σ, A, o⟩ => ?_
  refine A.flo (rel1 := RT X.K X.mg) o fun m1 h1 t1 y H1 E1 r1 A1 o1 => ?_
  refine A1.flo (rel1 := RT X.K X.mg) o1 fun m2 h2 t2 x H2 E2 r2 A2 o2 => ?_
  refine A2.flo (rel1 := RT X.K X.mg) o2 fun m3 h3 t3 k H3 E3 r3 A3 o3 => ?_
  have r2' := r2.ext E3
  cases r2' with
  | @ref l a e1 =>
    cases r3 with
    | int n =>
      have o' : OutS X.K X.mg W D m3 H3 (match lstAt h3 l with
        | some ts => (match L2.ixN ts.length n with | some j => .nx σ (h3.set l (.lst (ts.set j t1))) | none => .stk)
        | none => .stk) := o3
      split at o'
      · rename_i ts q1
        obtain ⟨vs, g1, rv⟩ := A3.hr.lst e1 q1
        split at o'
        · rename_i j q2
          rw [rv.length] at q2
          refine ⟨a, vs, n, j, rfl, rfl, g1, q2, ?_⟩
          have Ew : Ext m3 H3 m3 (upd H3 a (.lst (vs.set j y))) := Ext.write A3.hr e1
          exact o' σV m3 _ Ew (A3.sr.ext Ew) (A3.hr.write e1 ⟨_, upd_same, ((rv.set j ((r1.ext E2).ext E3)).ext Ew)⟩)
        · exact False.elim o'
      · exact False.elim o'
    | _ => exact False.elim o3
  | _ => exact False.elim o3

/-! ### methods of lists -/
theorem nx_append : NoXM mAppend := fun x y h c fs h' e => by unfold mAppend at e; (repeat' split at e) <;> cases e
theorem nx_clear : NoXM mClear := fun x y h c fs h' e => by unfold mClear at e; (repeat' split at e) <;> cases e
theorem nx_extend : NoXM mExtend := fun x y h c fs h' e => by unfold mExtend at e; (repeat' split at e) <;> cases e
/-- what a method of lists does, by values -/
def MtS (X : Cx) (id : String) (f : T → List T → Hh → Res T) : Prop :=
  ∀ (pins : List (Addr × Obj)) (s : Shared) (σ : L2.St) (H : Hp) (x : V) (xs : List V) (v : Value) (us : List Value) (Q : VK), L2.Inv X pins σ H s → RelV x v → Vals xs us → rPM X.K X.mg f x xs H Q →
    wpAny (model X.prog X.w) X.A (call (.builtin id) (v :: us)) (EP X pins σ Q) X.xe s
theorem ms_append : MtS X "list.append" mAppend := by
  intro pins s σ H x xs v us Q I rx rs ⟨m, h, t, ts, r, rr, R, o⟩
  cases r with
  | @ref l a e1 =>
    cases rr with
    | nil => exact False.elim o
    | cons r1 r2 =>
      cases r2 with
      | cons _ _ => exact False.elim o
      | nil =>
        rename_i t1 v1
        have o' : OutP X.K X.mg Q m H (match lstAt h l with
          | some ts => if ts.length < sizeLine then .ok .non (h.set l (.lst (ts ++ [t1]))) else .stk
          | none => .stk) := o
        split at o'
        · rename_i ts q1
          obtain ⟨vs, g1, rv⟩ := R.lst e1 q1
          split at o'
          · rename_i hz
            refine mt_append pins s σ H _ _ v us Q I rx rs ⟨a, vs, v1, rfl, rfl, g1, by rw [← rv.length]; exact hz, ?_⟩
            have Ew : Ext m H m (upd H a (.lst (vs ++ [v1]))) := Ext.write R e1
            exact o' .non m _ Ew .non (R.write e1 ⟨_, upd_same, (rv.append (.cons r1 .nil)).ext Ew⟩)
          · exact False.elim o'
        · exact False.elim o'
  | _ => exact False.elim o
theorem ms_clear : MtS X "list.clear" mClear := by
  intro pins s σ H x xs v us Q I rx rs ⟨m, h, t, ts, r, rr, R, o⟩
  cases r with
  | @ref l a e1 =>
    cases rr with
    | cons _ _ => exact False.elim o
    | nil =>
      have o' : OutP X.K X.mg Q m H (match lstAt h l with
        | some _ => .ok .non (h.set l (.lst []))
        | none => .stk) := o
      split at o'
      · rename_i ts q1
        obtain ⟨vs, g1, rv⟩ := R.lst e1 q1
        refine mt_clear pins s σ H _ _ v us Q I rx rs ⟨a, vs, rfl, rfl, g1, ?_⟩
        have Ew : Ext m H m (upd H a (.lst [])) := Ext.write R e1
        exact o' .non m _ Ew .non (R.write e1 ⟨_, upd_same, .nil⟩)
      · exact False.elim o'
  | _ => exact False.elim o
theorem ms_extend : MtS X "list.extend" mExtend := by
  intro pins s σ H x xs v us Q I rx rs ⟨m, h, t, ts, r, rr, R, o⟩
  cases r with
  | @ref l a e1 =>
    cases rr with
    | nil => exact False.elim o
    | cons r1 r2 =>
      cases r2 with
      | cons _ _ => cases r1 <;> exact False.elim o
      | nil =>
        cases r1 with
        | @ref k b e2 =>
          have o' : OutP X.K X.mg Q m H (match lstAt h l, lstAt h k with
            | some ts, some zs => if ts.length + zs.length ≤ sizeLine then .ok .non (h.set l (.lst (ts ++ zs))) else .stk
            | _, _ => .stk) := o
          split at o'
          · rename_i ts zs q1 q2
            obtain ⟨vs, g1, rv⟩ := R.lst e1 q1
            obtain ⟨ws, g2, rw⟩ := R.lst e2 q2
            split at o'
            · rename_i hz
              refine mt_extend pins s σ H _ _ v us Q I rx rs ⟨a, b, vs, ws, rfl, rfl, g1, g2, by rw [← rv.length, ← rw.length]; exact hz, ?_⟩
              have Ew : Ext m H m (upd H a (.lst (vs ++ ws))) := Ext.write R e1
              exact o' .non m _ Ew .non (R.write e1 ⟨_, upd_same, (rv.append rw).ext Ew⟩)
            · exact False.elim o'
          · exact False.elim o'
        | _ => exact False.elim o
  | _ => exact False.elim o
end
end W3
end

section
/-! WI: methods of built-ins called, defs and their calls, instances made. -/
namespace W3
open PySem PySem.Spec PyProof.Rows
open L2
section
variable {X : Cx} {P : Pq} {W : WX} {a b c o e : Expr} {sa sb sc so : SE} {pos pos' apos cpos p : Pos} {es : List Expr} {ar : SA}
theorem mt_read {f : T → List T → Hh → Res T} (hf : NoXM f) {σV : L2.St} {H : Hp} {Q : VK} (h : tI X.K X.mg P W (sMtL f so ar) σV H Q) :
    tI X.K X.mg P W so σV H fun x H1 => tyV X.K "list" x H1 ∧ tAr X.K X.mg P W ar σV H1 fun xs H2 => rPM X.K X.mg f x xs H2 Q := by
  obtain ⟨m, h, σ, A, o⟩ := h
  refine A.first (rel1 := RT X.K X.mg) o fun m1 h1 t x H1 E1 r A1 o1 => ?_

  split at o1
  · rename_i hl
    refine ⟨?_, ?_⟩
    · cases r with
      | @ref l a e1 =>
        have hl' : (lstAt h1 l).isSome = true := hl
        obtain ⟨ts, q⟩ := Option.isSome_iff_exists.mp hl'
        obtain ⟨vs, g, _⟩ := A1.hr.lst e1 q
        exact .inl ⟨rfl, vs, SqL.of g⟩
      | @fl a vs ts hq _ => exact .inl ⟨rfl, vs, hq.sq⟩
      | _ => cases hl
    · refine A1.first (rel1 := RTs X.K X.mg) o1 fun m2 h2 ts xs H2 E2 r2 A2 o2 => ?_
      exact ⟨m2, h2, t, ts, r.ext E2, r2, A2.hr, o2.outP (hf _ _ _)⟩
  · exact False.elim o1
theorem de_mt {id : String} {name : Str} {f : T → List T → Hh → Res T} (hm : MtS X id f) (hf : NoXM f) (pa : PlainAttrs "list") (slot : Slot "list" name id) (hty : typeOf (.builtin id) = pure (.type "method_descriptor")) (ho : DE X P W o so) (ha : DA X P W (e :: es) ar)
    (hbase : attributeBase o name X.env (eval o X.env) = eval o X.env := by rfl)
    (hfew : ((backTo cpos (starEach (e :: es) X.env)).all (fun x => !x.1) && (backToKw cpos (keywordEach [] X.env)).all (fun x => x.1.isSome)
      && decide ((e :: es).length + ([] : List Keyword).length + (if ([] : List Keyword).isEmpty then 0 else 1) < 30)) = true := by rfl)
    (hline : (apos.endLine == cpos.line) = true := by rfl) (hs : starEach (e :: es) X.env = (false, eval e X.env) :: starEach es X.env := by rfl) (hplain : (backTo cpos (starEach es X.env)).any (·.1) = false := by rfl) :
    DE X P W (.Call (.Attribute o name apos) (e :: es) [] cpos) (sMtL f so ar) :=
  PE.imp (pe_bm (r := rPM X.K X.mg f) pa slot hty hm ho ha hbase hfew hline hs hplain) fun σV H Q h => mt_read hf h
theorem de_mt0 {id : String} {name : Str} {f : T → List T → Hh → Res T} (hm : MtS X id f) (hf : NoXM f) (pa : PlainAttrs "list") (slot : Slot "list" name id) (hty : typeOf (.builtin id) = pure (.type "method_descriptor")) (ho : DE X P W o so)
    (hbase : attributeBase o name X.env (eval o X.env) = eval o X.env := by rfl) (hline : (apos.endLine == cpos.line) = true := by rfl) : DE X P W (.Call (.Attribute o name apos) [] [] cpos) (sMtL f so saNil) :=
  PE.imp (pe_bm0 (r := rPM X.K X.mg f) pa slot hty hm ho hbase hline) fun σV H Q h => tG.mono (fun x H1 ⟨q1, m, h, σ, A, o⟩ => ⟨q1, o [] m H1 (Ext.refl _ _) .nil A.hr⟩) (mt_read hf h)

/-! ### defs -/
/-- what a def promises: that f tells what it does -/
def spT (K : PySem.W.Frag) (mg : Str → Option Value) (n : Nat) (f : List T → Hh → Res T) : Sp := fun vs H Q E => vs.length = n ∧ ∃ m h ts, RTs K mg m H ts vs ∧ HR K mg m h H ∧
  (match f ts h with
    | .ok t h' => ∀ v m' H', Ext m H m' H' → RT K mg m' H' t v → HR K mg m' h' H' → Q v H'
    | .exc c fs h' => ∀ cls d m' H', Ext m H m' H' → XR K mg m' H' c fs cls d → HR K mg m' h' H' → E cls d H'
    | .stk => False)
theorem SR.start {K : PySem.W.Frag} {mg : Str → Option Value} {m : Mp} {H : Hp} {ts : List T} {vs : List V} (N : List Str) (r : RTs K mg m H ts vs) : SR K mg m H (startT N.length ts) (L2.start N vs) := by
  unfold startT L2.start
  rw [r.length]
  refine ⟨by rw [List.length_append, List.length_append, List.length_map, List.length_map, List.length_replicate, List.length_replicate, r.length], fun i t e => ?_⟩
  by_cases hi : i < vs.length
  · have hi' : i < ts.length := by rw [r.length]; exact hi
    rw [List.getElem?_append_left (by rw [List.length_map]; exact hi'), List.getElem?_map] at e
    cases q : ts[i]? with
    | none => rw [q] at e; cases e
    | some u =>
      rw [q] at e
      have e2 : u = t := Option.some.inj (Option.some.inj e)
      subst e2
      obtain ⟨v, q2, rv⟩ := r.get q
      exact ⟨v, by rw [List.getElem?_append_left (by rw [List.length_map]; exact hi), List.getElem?_map, q2]; rfl, rv⟩
  · rw [List.getElem?_append_right (by rw [List.length_map, r.length]; omega), List.getElem?_replicate] at e
    split at e
    · cases e
    · cases e
/-- the context of a def's body -/
abbrev cxD (P : Program) (w : World) (K : PySem.W.Frag) (mg : Str → Option Value) (base : Heap) (N : List Str) (qual : Str) (sc : Scope) (f : Addr) (cdv : Value) (A : Around) (outer : List Env) (s : Shared) (H : Hp) (E : XK) : Cx :=
  cxOf (L2.CX P w) P w K mg base N qual sc f cdv A outer s H E
abbrev wD (E : XK) : WX := fun cls d _ H => E cls d H
theorem def_read {K : PySem.W.Frag} {mg : Str → Option Value} {N ps : List Str} {ss : SS} {vs : List V} {H : Hp} {Q : VK} {E : XK} (h : spT K mg ps.length (defRun N.length ss) vs H Q E) : tS K mg PqT (wD E) ss { nx := fun _ H' => Q .non H', rt := Q } (L2.start N vs) H := by
  obtain ⟨_, m, h, ts, r, R, o⟩ := h
  refine ⟨m, h, startT N.length ts, ⟨SR.start N r, R, trivial⟩, ?_⟩
  unfold defRun at o
  cases e : ss (startT N.length ts) h with
  | nx σ1 h1 => rw [e] at o; exact fun σV' m' H' E' _ R' => o .non m' H' E' .non R'
  | rt t h1 => rw [e] at o; exact o
  | exc c fs σ1 h1 => rw [e] at o; exact fun cls d _ m' H' E' _ x R' => o cls d m' H' E' x R'
  | bk σ1 h1 => rw [e] at o; exact False.elim o
  | ct σ1 h1 => rw [e] at o; exact False.elim o
  | stk => rw [e] at o; exact False.elim o
/-- a def's body keeps its promise -/
theorem fn_T {P : Program} {w : World} {K : PySem.W.Frag} {mg : Str → Option Value} {base : Heap} {x qual : Str} {st : Stmt} {f : Addr} {fd : FuncData} {N ps : List Str} {k : Nat} {ss : SS} (F : Fun K x qual st f fd) (S : FnScope N ps (defScope st))
    (hbody : ∀ (cdv : Value) (A : Around) (outer : List Env) (s : Shared) (H : Hp) (E : XK), Room k (cxD P w K mg base N qual (defScope st) f cdv A outer s H E).A → Takes (cxD P w K mg base N qual (defScope st) f cdv A outer s H E) (wD E) →
      PassesOwn (model P w) (cxD P w K mg base N qual (defScope st) f cdv A outer s H E).A (cxD P w K mg base N qual (defScope st) f cdv A outer s H E).env (cxD P w K mg base N qual (defScope st) f cdv A outer s H E).xe →
      DSs (cxD P w K mg base N qual (defScope st) f cdv A outer s H E) PqT (wD E) (defBody st) ss) : FnOk P w K mg base (L2.CX P w) (k + 1) f fd ps (spT K mg ps.length (defRun N.length ss)) :=
  F.okX S (fun vs H Q E h => h.1) fun cdv A outer s H vs Q E hr h => ⟨_, hbody cdv A outer s H E hr (takes_of rfl rfl rfl rfl) (passes_of rfl), def_read h⟩
theorem fn_TD {P : Program} {w : World} {K : PySem.W.Frag} {mg : Str → Option Value} {base : Heap} {x qual : Str} {params : Arguments} {body : List Stmt} {sc : Scope} {dvs : List V} {kws : List (Str × V)} {f : Addr} {fd : FuncData} {N ps : List Str} {k : Nat} {ss : SS}
    (F : FunD K x qual params body sc dvs kws f fd) (S : FnScope N ps sc)
    (hbody : ∀ (cdv : Value) (A : Around) (outer : List Env) (s : Shared) (H : Hp) (E : XK), Room k (cxD P w K mg base N qual sc f cdv A outer s H E).A → Takes (cxD P w K mg base N qual sc f cdv A outer s H E) (wD E) →
      PassesOwn (model P w) (cxD P w K mg base N qual sc f cdv A outer s H E).A (cxD P w K mg base N qual sc f cdv A outer s H E).env (cxD P w K mg base N qual sc f cdv A outer s H E).xe →
      DSs (cxD P w K mg base N qual sc f cdv A outer s H E) PqT (wD E) body ss) : FnOk P w K mg base (L2.CX P w) (k + 1) f fd ps (spT K mg ps.length (defRun N.length ss)) :=
  F.ok S (fun vs H Q E h => h.1) fun cdv A outer s H vs Q E hr h => ⟨_, hbody cdv A outer s H E hr (takes_of rfl rfl rfl rfl) (passes_of rfl), def_read h⟩
/-- f(..) -/
theorem de_call {x : Str} {k : Nat} {f : Addr} {fd : FuncData} {ps : List Str} {ff : List T → Hh → Res T} (F : FnOk X.prog X.w X.K X.mg X.base (L2.CX X.prog X.w) k f fd ps (spT X.K X.mg ps.length ff)) (hr : Room k X.A) (hg : Gl X x) (hm : X.mg x = some (.ref f))
    (hk : PySem.W.keepIn X.K (.ref f) = true) (hb : Binds X.K fd ps []) (tk : Takes X W) (ha : DA X P W (a :: es) ar) (hdb : (x == ("__debug__" : Str)) = false := by decide)
    (he : starEach (a :: es) X.env = (false, eval a X.env) :: starEach es X.env := by rfl) (hpl : (backTo pos (starEach es X.env)).any (·.1) = false := by rfl) :
    DE X P W (.Call (.Name x p) (a :: es) [] pos) (sCl (arN ps.length ff) ar) :=
  PE.imp (pe_callS F hr hg hm hk hb (fun σ => passAt tk σ) ha hdb he hpl) fun σV H Q ⟨m, h, σ, A, o⟩ => by
    refine A.first (rel1 := RTs X.K X.mg) o fun m1 h1 ts xs H1 E1 r A1 o1 => ?_
    unfold arN at o1
    split at o1
    · rename_i hl
      refine ⟨by rw [← r.length]; exact hl, m1, h1, ts, r, A1.hr, ?_⟩
      cases e : ff ts h1 with
      | ok t h2 => rw [e] at o1; exact o1
      | exc c fs h2 => rw [e] at o1; exact o1
      | stk => rw [e] at o1; exact o1
    · exact False.elim o1
/-- how a call's end lies for the caller -/
theorem call_end {pins : List (Addr × Obj)} {σ : L2.St} {H : Hp} {s s' : Shared} {Q : VK} {r : Result} (I : L2.Inv X pins σ H s) (tk : Takes X W)
    (hq : CR (L2.CX X.prog X.w) X.stack X.prog X.w H s Q (WE W σ) r s') : match r with | .ok (.ret u) => EP X pins σ Q u s' | .error e => X.xe e s' | .ok _ => False := by
  cases r with
  | error e => exact passAt tk σ pins H s e s' I hq
  | ok fl =>
    cases fl with
    | ret u => exact I.after hq
    | next => exact hq
    | brk => exact hq
    | cont => exact hq
/-- f() -/
theorem de_call0 {x : Str} {k : Nat} {f : Addr} {fd : FuncData} {ff : List T → Hh → Res T} (F : FnOk X.prog X.w X.K X.mg X.base (L2.CX X.prog X.w) k f fd [] (spT X.K X.mg 0 ff)) (hr : Room k X.A) (hg : Gl X x) (hm : X.mg x = some (.ref f))
    (hk : PySem.W.keepIn X.K (.ref f) = true) (hb : Binds X.K fd [] []) (tk : Takes X W) (hdb : (x == ("__debug__" : Str)) = false := by decide) :
    DE X P W (.Call (.Name x p) [] [] pos) (sCl (arN 0 ff) saNil) := by
  refine ⟨fun pins s σV H Q I ⟨m, h, σ, A, o⟩ => ?_⟩
  refine wpAny_Call_Name_kw (ld_glob I hg hm ?_ hdb)
  refine PySem.W.callWith_K0 I.kIn hk (run_fnS (vs := []) F hr hb (passAt tk σV) I .nil ⟨rfl, m, h, [], .nil, A.hr, ?_⟩)
  have o' : Out X.K X.mg (RT X.K X.mg) W σV Q m H (ff [] h) := o
  cases e : ff [] h with
  | ok t h2 => rw [e] at o'; exact o'
  | exc c fs h2 => rw [e] at o'; exact o'
  | stk => rw [e] at o'; exact o'
theorem spT_of {m : Mp} {H : Hp} {h : Hh} {σV : L2.St} {Q : VK} {ff : List T → Hh → Res T} {ts : List T} {vs : List V} {n : Nat} (hl : vs.length = n) (r : RTs X.K X.mg m H ts vs) (R : HR X.K X.mg m h H)
    (o : Out X.K X.mg (RT X.K X.mg) W σV Q m H (ff ts h)) : spT X.K X.mg n ff vs H Q (WE W σV) := by
  refine ⟨hl, m, h, ts, r, R, ?_⟩
  cases e : ff ts h with
  | ok t h2 => rw [e] at o; exact o
  | exc c fs h2 => rw [e] at o; exact o
  | stk => rw [e] at o; exact o
theorem RTs.weave {K : PySem.W.Frag} {mg : Str → Option Value} {m : Mp} {H : Hp} : ∀ (pat : List Bool) {ds zs : List T} {dv zv : List V}, RTs K mg m H ds dv → RTs K mg m H zs zv → RTs K mg m H (weave pat ds zs) (weave pat dv zv)
  | [], _, _, _, _, _, _ => .nil
  | true :: r, _, _, _, _, d, .cons q z => .cons q (RTs.weave r d z)
  | true :: _, _, _, _, _, _, .nil => .nil
  | false :: r, _, _, _, _, .cons q d, z => .cons q (RTs.weave r d z)
  | false :: _, _, _, _, _, .nil, _ => .nil
theorem Vals.weave : ∀ (pat : List Bool) {ds zs : List V} {dv zv : List Value}, Vals ds dv → Vals zs zv → Vals (W3.weave pat ds zs) (W3.weave pat dv zv)
  | [], _, _, _, _, _, _ => .nil
  | true :: r, _, _, _, _, d, .cons q z => .cons q (Vals.weave r d z)
  | true :: _, _, _, _, _, _, .nil => .nil
  | false :: r, _, _, _, _, .cons q d, z => .cons q (Vals.weave r d z)
  | false :: _, _, _, _, _, .nil, _ => .nil
abbrev DK (X : Cx) (P : Pq) (W : WX) (kws : List Keyword) (se : SA) : Prop := PK X kws (tAr X.K X.mg P W se)
theorem PK.imp {kws : List Keyword} {t t' : TA} (h : PK X kws t) (k : ∀ σ H Q, t' σ H Q → t σ H Q) : PK X kws t' := ⟨fun pos pins s σ H Q I hw => h.run pos pins s σ H Q I (k _ _ _ hw)⟩
theorem dk_nil : DK X P W [] saNil := PK.imp pk_nil fun σV H Q ⟨m, h, σ, A, o⟩ => o [] m H (Ext.refl _ _) .nil A.hr
theorem dk_cons {kws : List Keyword} {nm : Option Str} {kpos : Pos} (ha : DE X P W a sa) (hr : DK X P W kws ar) : DK X P W (⟨nm, a, kpos⟩ :: kws) (saCons sa ar) :=
  PK.imp (pk_cons ha hr) fun σV H Q ⟨m, h, σ, A, o⟩ => by
    refine A.first (rel1 := RT X.K X.mg) o fun m1 h1 t1 x H1 E1 r1 A1 o1 => ?_
    refine A1.first (rel1 := RTs X.K X.mg) o1 fun m2 h2 t2 y H2 E2 r2 A2 o2 => ?_
    exact o2 _ m2 H2 (Ext.refl _ _) (.cons (r1.ext E2) r2) A2.hr
/-- how the keyword-only parameters are filled: some by the call, some by their defaults -/
def KBw (K : PySem.W.Frag) (fd : FuncData) (ps : List Str) (n : Nat) (ks : List Str) (pat : List Bool) (dv : List V) : Prop :=
  ∃ mv : List Value, KBn K fd ps n ks (fun us ws => us ++ weave pat mv ws) (fun vs zs => vs ++ weave pat dv zs)
/-- f(.., k = v, ..) -/
theorem de_callK {x : Str} {k n : Nat} {f : Addr} {fd : FuncData} {ps ks : List Str} {pat : List Bool} {dv : List V} {dt : List T} {kws : List Keyword} {kw : SA} {ff : List T → Hh → Res T}
    (F : FnOk X.prog X.w X.K X.mg X.base (L2.CX X.prog X.w) k f fd ps (spT X.K X.mg ps.length ff)) (hr : Room k X.A) (hg : Gl X x) (hm : X.mg x = some (.ref f)) (hk : PySem.W.keepIn X.K (.ref f) = true)
    (hb : KBw X.K fd ps n ks pat dv) (hd : ∀ m H, RTs X.K X.mg m H dt dv) (tk : Takes X W) (ha : DA X P W (a :: es) ar) (hkw : DK X P W kws kw) (hn : n + pat.length = ps.length) (hw : ∀ zs : List V, zs.length = ks.length → (weave pat dv zs).length = pat.length)
    (hall : (backToKw pos (keywordEach kws X.env)).all (·.1.isSome) = true := by rfl) (hks : (backToKw pos (keywordEach kws X.env)).filterMap (·.1) = ks := by rfl)
    (hdb : (x == ("__debug__" : Str)) = false := by decide) (he : starEach (a :: es) X.env = (false, eval a X.env) :: starEach es X.env := by rfl)
    (hpl : ((backTo pos (starEach (a :: es) X.env)).any (·.1) || (backToKw pos (keywordEach kws X.env)).any (·.1.isNone)) = false := by rfl) :
    DE X P W (.Call (.Name x p) (a :: es) kws pos) (sClK n ks.length pat dt ff ar kw) := by
  obtain ⟨mv, hb⟩ := hb
  refine ⟨fun pins s σV H Q I ⟨m, h, σ, A, o⟩ => ?_⟩
  refine wpAny_Call_Name_kw (ld_glob I hg hm ?_ hdb)
  have first := A.first (rel1 := RTs X.K X.mg) o fun m1 h1 ts vs H1 E1 r1 A1 o1 =>
    (⟨m1, h1, ts, r1, A1, o1⟩ : ∃ m1 h1 ts, RTs X.K X.mg m1 H1 ts vs ∧ At X.K X.mg P m1 H1 σV σ h1 ∧ Out X.K X.mg (RT X.K X.mg) W σV Q m1 H1 ((kw σ h1).bind fun zs h2 => if ts.length = n ∧ zs.length = ks.length then ff (ts ++ weave pat dt zs) h2 else .stk))
  refine PySem.W.callWith_KW (h₀ := X.base) I.ok.mod.kin hk hall (thn (ha.run pos pins s σV H _ I first) fun us s1 ⟨vs, H1, I1, r, m1, h1, ts, r1, A1, o1⟩ => ?_) hpl he
  have second := A1.first (rel1 := RTs X.K X.mg) o1 fun m2 h2 zt zv H2 E2 r2 A2 o2 =>
    (⟨m2, h2, zt, r1.ext E2, r2, A2, o2⟩ : ∃ m2 h2 zt, RTs X.K X.mg m2 H2 ts vs ∧ RTs X.K X.mg m2 H2 zt zv ∧ At X.K X.mg P m2 H2 σV σ h2 ∧ Out X.K X.mg (RT X.K X.mg) W σV Q m2 H2 (if ts.length = n ∧ zt.length = ks.length then ff (ts ++ weave pat dt zt) h2 else .stk))
  refine thn (hkw.run pos pins s1 σV H1 _ I1 second) fun ws s2 ⟨zv, H2, I2, rz, m2, h2, zt, r1, r2, A2, o2⟩ => ⟨I2.kIn, ?_⟩
  rw [hks]
  split at o2
  · rename_i hl
    have l1 : vs.length = n := by rw [← r1.length]; exact hl.1
    have l2 : zv.length = ks.length := by rw [← r2.length]; exact hl.2
    have sp := spT_of (n := ps.length) (by rw [List.length_append, l1, hw zv l2]; exact hn) (r1.append (RTs.weave pat (hd m2 H2) r2)) A2.hr o2
    refine wpAny_call (codeAny_mono (F.run X.A X.stack s2 H2 ⟨us, ks.zip ws⟩ (us ++ weave pat mv ws) (vs ++ weave pat dv zv) Q (WE W σV) hr I2.env0 (hb.to s2 us ws I2.kIn (r.length.symm.trans l1) (rz.length.symm.trans l2)) (hb.rel r rz) sp) fun res s' hq => ?_)
    have fin := call_end I2 tk hq
    cases res with
    | error e => exact fin
    | ok fl => cases fl <;> exact fin
  · exact False.elim o2
end
end W3
end

section
/-! WJ: instances made, their methods called. -/
namespace W3
open PySem PySem.Spec PyProof.Rows
open L2
section
variable {X : Cx} {P : Pq} {W : WX} {a b c o e : Expr} {sa sb sc so : SE} {pos pos' apos cpos p : Pos} {es : List Expr} {ar : SA}
theorem make_read {m : Mp} {H : Hp} {h : Hh} {σV : L2.St} {Q : VK} {ff : List T → Hh → Res T} {ts : List T} {vs : List V} {n : Nat} {cn : Str} {C : Addr} (hC : X.mg cn = some (.ref C)) (r : RTs X.K X.mg m H ts vs) (R : HR X.K X.mg m h H)
    (o : Out X.K X.mg (RT X.K X.mg) W σV Q m H (bMake cn n ff ts h)) {x dx : Addr} (nx : H x = none) (nd : H dx = none) (ne : dx ≠ x) :
    spT X.K X.mg n ff (.ref x :: vs) (upd (upd H dx (.own x)) x (.ins C dx [])) (fun v H2 => v = .non ∧ Q (.ref x) H2) (WE W σV) := by
  have R1 : HR X.K X.mg m h (upd H dx (.own x)) := R.garbage nd
  have nx1 : upd H dx (.own x) x = none := by rw [upd_ne ne.symm]; exact nx
  have E1 : Ext m H m (upd H dx (.own x)) := Ext.garbage R nd
  have E2 : Ext m (upd H dx (.own x)) (m.put h.length x) (upd (upd H dx (.own x)) x (.ins C dx [])) := Ext.alloc R1 nx1
  have R2 : HR X.K X.mg (m.put h.length x) (h ++ [.ins cn []]) (upd (upd H dx (.own x)) x (.ins C dx [])) := R1.alloc nx1 ⟨C, dx, [], hC, upd_same, .nil⟩
  have E12 := E1.trans E2
  unfold bMake arN at o
  by_cases hl : (T.ref h.length :: ts).length = n
  · rw [if_pos hl] at o
    have r2 : RTs X.K X.mg (m.put h.length x) (upd (upd H dx (.own x)) x (.ins C dx [])) (.ref h.length :: ts) (.ref x :: vs) := .cons (.ref Mp.put_same) (r.ext E12)
    refine ⟨by rw [← r2.length]; exact hl, m.put h.length x, h ++ [.ins cn []], .ref h.length :: ts, r2, R2, ?_⟩
    cases e : ff (.ref h.length :: ts) (h ++ [.ins cn []]) with
    | stk => rw [e] at o; exact o
    | exc c fs h2 => rw [e] at o; exact fun cls d m' H' E' xr R' => o cls d m' H' (E12.trans E') xr R'
    | ok t h2 =>
      rw [e] at o
      intro v m' H' E' rv R'
      cases rv with
      | non => exact ⟨rfl, o (.ref x) m' H' (E12.trans E') (.ref (E'.mono _ _ Mp.put_same)) R'⟩
      | _ => exact False.elim o
  · rw [if_neg hl] at o; exact False.elim o
/-- C(..) -/
theorem de_make {x : Str} {k : Nat} {f C : Addr} {fd : FuncData} {ps : List Str} {ff : List T → Hh → Res T} (M : Mk X.K C f) (F : FnOk X.prog X.w X.K X.mg X.base (L2.CX X.prog X.w) k f fd ps (spT X.K X.mg ps.length ff)) (hr : Room (k + 1) X.A) (hg : Gl X x)
    (hm : X.mg x = some (.ref C)) (hb : Binds X.K fd ps []) (tk : Takes X W) (ha : DA X P W (a :: es) ar) (hdb : (x == ("__debug__" : Str)) = false := by decide)
    (he : starEach (a :: es) X.env = (false, eval a X.env) :: starEach es X.env := by rfl) (hpl : (backTo pos (starEach es X.env)).any (·.1) = false := by rfl) :
    DE X P W (.Call (.Name x p) (a :: es) [] pos) (sCl (bMake x ps.length ff) ar) := by
  refine ⟨fun pins s σV H Q I ⟨m, h, σ, A, o⟩ => ?_⟩
  refine wpAny_Call_Name_kw (ld_glob I hg hm ?_ hdb)
  have first := A.first (rel1 := RTs X.K X.mg) o fun m1 h1 ts vs H1 E1 r1 A1 o1 =>
    (⟨m1, h1, ts, r1, A1, o1⟩ : ∃ m1 h1 ts, RTs X.K X.mg m1 H1 ts vs ∧ At X.K X.mg P m1 H1 σV σ h1 ∧ Out X.K X.mg (RT X.K X.mg) W σV Q m1 H1 (bMake x ps.length ff ts h1))
  refine PySem.W.callWith_K (h₀ := X.base) I.ok.mod.kin M.kp (thn (ha.run pos pins s σV H _ I first) fun us s1 ⟨vs, H1, I1, r, m1, h1, ts, r1, A1, o1⟩ => ⟨I1.kIn, ?_⟩) he hpl
  have hq := make_read hm r1 A1.hr o1 (I1.hok.fresh (Nat.le_succ _)) (I1.hok.fresh (Nat.le_refl _)) (Nat.ne_of_lt (Nat.lt_succ_self s1.heap.objs.size))
  have I2 := Inv.made (C := C) I1
  have r2 : Vals (V.ref (s1.heap.objs.size + 1) :: vs) (Value.ref (s1.heap.objs.size + 1) :: us) := .cons rfl r
  have hl2 : (Value.ref (s1.heap.objs.size + 1) :: us).length = ps.length := by rw [← r2.length]; exact hq.1
  have bt := hb _ (Value.ref (s1.heap.objs.size + 1) :: us) I2.kIn (by rw [List.append_nil]; exact hl2)
  rw [List.append_nil] at bt
  refine wpAny_call (make_map (f := f) I1.kIn M.makes M.init (beq_iff_eq.mp M.fn) (codeAny_mono (F.run _ X.stack _ _ ⟨Value.ref (s1.heap.objs.size + 1) :: us, []⟩ (Value.ref (s1.heap.objs.size + 1) :: us) _ _ (WE W σV) (hr.make C us [])
    (I2.env0.make C us []) bt r2 hq) fun res s' hq' => ?_))
  have fin := call_end I2 tk hq'
  cases res with
  | error e => exact fin
  | ok fl =>
    cases fl with
    | ret u =>
      obtain ⟨v, H', I3, rv, ev, q3⟩ := fin
      subst ev
      exact ⟨rv, ⟨V.ref (s1.heap.objs.size + 1), H', I3, rfl, q3⟩⟩
    | next => exact fin
    | brk => exact fin
    | cont => exact fin
/-- C(.., k = v, ..) -/
def bMakeK (c : Str) (q n : Nat) (pat : List Bool) (ds : List T) (f : List T → Hh → Res T) (a kw : SA) : SE := fun σ h => (a σ h).bind fun xs h1 => (kw σ h1).bind fun zs h2 => if xs.length = n ∧ zs.length = q then bMake c (n + 1 + pat.length) f (xs ++ weave pat ds zs) h2 else .stk
theorem de_makeK {x : Str} {k n : Nat} {f C : Addr} {fd : FuncData} {ps ks : List Str} {pat : List Bool} {dv : List V} {dt : List T} {kws : List Keyword} {kw : SA} {ff : List T → Hh → Res T} (M : Mk X.K C f)
    (F : FnOk X.prog X.w X.K X.mg X.base (L2.CX X.prog X.w) k f fd ps (spT X.K X.mg ps.length ff)) (hr : Room (k + 1) X.A) (hg : Gl X x) (hm : X.mg x = some (.ref C))
    (hb : KBw X.K fd ps (n + 1) ks pat dv) (hd : ∀ m H, RTs X.K X.mg m H dt dv) (tk : Takes X W) (ha : DA X P W (a :: es) ar) (hkw : DK X P W kws kw) (hn : n + 1 + pat.length = ps.length)
    (hall : (backToKw pos (keywordEach kws X.env)).all (·.1.isSome) = true := by rfl) (hks : (backToKw pos (keywordEach kws X.env)).filterMap (·.1) = ks := by rfl)
    (hdb : (x == ("__debug__" : Str)) = false := by decide) (he : starEach (a :: es) X.env = (false, eval a X.env) :: starEach es X.env := by rfl)
    (hpl : ((backTo pos (starEach (a :: es) X.env)).any (·.1) || (backToKw pos (keywordEach kws X.env)).any (·.1.isNone)) = false := by rfl) :
    DE X P W (.Call (.Name x p) (a :: es) kws pos) (bMakeK x ks.length n pat dt ff ar kw) := by
  obtain ⟨mv, hb⟩ := hb
  refine ⟨fun pins s σV H Q I ⟨m, h, σ, A, o⟩ => ?_⟩
  refine wpAny_Call_Name_kw (ld_glob I hg hm ?_ hdb)
  have first := A.first (rel1 := RTs X.K X.mg) o fun m1 h1 ts vs H1 E1 r1 A1 o1 =>
    (⟨m1, h1, ts, r1, A1, o1⟩ : ∃ m1 h1 ts, RTs X.K X.mg m1 H1 ts vs ∧ At X.K X.mg P m1 H1 σV σ h1 ∧ Out X.K X.mg (RT X.K X.mg) W σV Q m1 H1 ((kw σ h1).bind fun zs h2 => if ts.length = n ∧ zs.length = ks.length then bMake x (n + 1 + pat.length) ff (ts ++ weave pat dt zs) h2 else .stk))
  refine PySem.W.callWith_KW (h₀ := X.base) I.ok.mod.kin M.kp hall (thn (ha.run pos pins s σV H _ I first) fun us s1 ⟨vs, H1, I1, r, m1, h1, ts, r1, A1, o1⟩ => ?_) hpl he
  have second := A1.first (rel1 := RTs X.K X.mg) o1 fun m2 h2 zt zv H2 E2 r2 A2 o2 =>
    (⟨m2, h2, zt, r1.ext E2, r2, A2, o2⟩ : ∃ m2 h2 zt, RTs X.K X.mg m2 H2 ts vs ∧ RTs X.K X.mg m2 H2 zt zv ∧ At X.K X.mg P m2 H2 σV σ h2 ∧ Out X.K X.mg (RT X.K X.mg) W σV Q m2 H2 (if ts.length = n ∧ zt.length = ks.length then bMake x (n + 1 + pat.length) ff (ts ++ weave pat dt zt) h2 else .stk))
  refine thn (hkw.run pos pins s1 σV H1 _ I1 second) fun ws s2 ⟨zv, H2, I2, rz, m2, h2, zt, r1, r2, A2, o2⟩ => ⟨I2.kIn, ?_⟩
  rw [hks]
  split at o2
  · rename_i hl
    have l1 : vs.length = n := by rw [← r1.length]; exact hl.1
    have l2 : zv.length = ks.length := by rw [← r2.length]; exact hl.2
    rw [hn] at o2
    have hq := make_read hm (r1.append (RTs.weave pat (hd m2 H2) r2)) A2.hr o2 (I2.hok.fresh (Nat.le_succ _)) (I2.hok.fresh (Nat.le_refl _)) (Nat.ne_of_lt (Nat.lt_succ_self s2.heap.objs.size))
    have I3 := Inv.made (C := C) I2
    have rr := hb.rel (Paired.cons (show RelV (V.ref (s2.heap.objs.size + 1)) (Value.ref (s2.heap.objs.size + 1)) from rfl) r) rz
    have bt := hb.to _ (Value.ref (s2.heap.objs.size + 1) :: us) ws I3.kIn (by rw [List.length_cons, ← r.length, l1]) (rz.length.symm.trans l2)
    refine wpAny_call (make_map (f := f) I2.kIn M.makes M.init (beq_iff_eq.mp M.fn) (codeAny_mono (F.run _ X.stack _ _ ⟨Value.ref (s2.heap.objs.size + 1) :: us, ks.zip ws⟩ _ _ _ (WE W σV) (hr.make C us (ks.zip ws))
      (I3.env0.make C us (ks.zip ws)) bt rr hq) fun res s' hq' => ?_))
    have fin := call_end I3 tk hq'
    cases res with
    | error e => exact fin
    | ok fl =>
      cases fl with
      | ret u =>
        obtain ⟨v, H', I4, rv, ev, q3⟩ := fin
        subst ev
        exact ⟨rv, ⟨V.ref (s2.heap.objs.size + 1), H', I4, rfl, q3⟩⟩
      | next => exact fin
      | brk => exact fin
      | cont => exact fin
  · exact False.elim o2
end
end W3
end

section
/-! WK: isinstance, {}, what is done with a list that nobody keeps, methods of own classes. -/
namespace W3
open PySem PySem.Spec PyProof.Rows
open L2
def Kd.nm : Kd → String
  | .int => "int" | .bool => "bool" | .str => "str" | .tuple => "tuple" | .list => "list" | .dict => "dict"
section
variable {X : Cx} {P : Pq} {W : WX} {a b c o e : Expr} {sa sb sc so : SE} {pos pos' apos cpos p p2 : Pos} {es : List Expr} {ar : SA}
/-- the name of a value's kind -/
theorem ty_of {m : Mp} {H : Hp} {h : Hh} {t : T} {v : V} {k : Kd} {r : Bool} (R : HR X.K X.mg m h H) (q : RT X.K X.mg m H t v) (e : isK k t h = some r) : ∃ n : String, TyX X.K H v (.type n) ∧ kitB n k.nm = some r := by
  cases q with
  | non => exact ⟨_, .base .non, by cases e; cases k <;> decide +kernel⟩
  | bl b => exact ⟨_, .base (.bl b), by cases e; cases k <;> decide +kernel⟩
  | int b => exact ⟨_, .base (.int b), by cases e; cases k <;> decide +kernel⟩
  | str b => exact ⟨_, .base (.str _), by cases e; cases k <;> decide +kernel⟩
  | @tup a vs ts hq _ =>
    refine ⟨"tuple", ?_, by cases e; cases k <;> decide +kernel⟩
    rcases hq with (z | ⟨ob, z⟩) | ⟨ob, its, n, hk, hc, _⟩
    · exact .base (.tup z)
    · exact .fTuple z
    · exact .kTuple hk hc
  | @fl a vs ts hq _ =>
    refine ⟨"list", ?_, by cases e; cases k <;> decide +kernel⟩
    rcases hq with ⟨ob, z⟩ | ⟨ob, its, n, hk, hc, _⟩
    · exact .base (.frz z)
    · exact .kList hk hc
  | @ref l a e1 =>
    have e' : (match h[l]? with
      | some (.lst _) => some (k == .list)
      | some (.dic _) => some (k == .dict)
      | some (.ins _ _) => none
      | none => none) = some r := e
    split at e'
    · rename_i ts q1
      obtain ⟨b, e2, vs, g, _⟩ := R.ob l _ q1
      rw [e1] at e2; cases e2
      exact ⟨"list", .base (.lst g), by cases e'; cases k <;> decide +kernel⟩
    · rename_i ts q1
      obtain ⟨b, e2, _, g⟩ := R.ob l _ q1
      rw [e1] at e2; cases e2
      exact ⟨"dict", .base (.dK g), by cases e'; cases k <;> decide +kernel⟩
    · cases e'
    · cases e'
  | cls _ => cases e
theorem nx_isk (k : Kd) : NoX1 (oIsK k) := fun x h c fs h' e => by unfold oIsK at e; (repeat' split at e) <;> cases e
theorem de_isk (k : Kd) {x : Str} (hx : bootBuiltins x = some (.type k.nm)) (hg : Gl X "isinstance") (hm : X.mg "isinstance" = none) (hgx : Gl X x) (hmx : X.mg x = none) (ha : DE X P W a sa) (hn : x ≠ "__name__" := by decide) (hdx : (x == ("__debug__" : Str)) = false := by decide)
    (he : starEach [a, .Name x p2] X.env = (false, eval a X.env) :: starEach [.Name x p2] X.env := by rfl) (hpl : (backTo pos (starEach [.Name x p2] X.env)).any (·.1) = false := by rfl) (hs2 : starEach [.Name x p2] X.env = (false, eval (.Name x p2) X.env) :: starEach [] X.env := by rfl) :
    DE X P W (.Call (.Name "isinstance" p) [a, .Name x p2] [] pos) (s1 (oIsK k) sa) :=
  PE.imp (pe_callB call_isi hg hm boot_isinstance (pa_cons ha (pa_cons (pe_bltn (v := .ty k.nm) hgx hmx hx rfl hn hdx) pa_nil hs2) he) (by decide) (by decide) he hpl) fun σV H Q h => by
    refine tG.mono (fun v H1 hq => ?_) (one (nx_isk k) h)
    obtain ⟨m, h, t, r, R, o⟩ := hq
    unfold oIsK at o
    split at o
    · rename_i b e
      obtain ⟨n, ty, kb⟩ := ty_of R r e
      exact ⟨v, .ty k.nm, .type n, .type k.nm, b, rfl, .ty _, ty, kit_ty kb, o _ m H1 (Ext.refl _ _) (.bl _) R⟩
    · exact False.elim o
def sDic0 : SE := fun _ h => alloc (.dic []) h
theorem de_dic0 : DE X P W (.Dict [] [] pos) sDic0 := PE.imp pe_dnewK fun σV H Q ⟨m, h, σ, A, o⟩ => by
  intro d hd
  exact o _ _ _ (Ext.alloc A.hr hd) (.ref Mp.put_same) (A.hr.alloc hd ⟨rfl, upd_same⟩)
/-! ### a list that nobody keeps -/
/-- a call on a list that the small heap does not know -/
def rLst (K : PySem.W.Frag) (mg : Str → Option Value) (f : List T → Hh → Res T) : List V → Hp → VK → Prop := fun xs H Q => ∃ m h ts D vs, xs = [.ref D] ∧ H D = some (.lst vs) ∧ RTs K mg m H ts vs ∧ HR K mg m h H ∧ OutP K mg Q m H (f ts h)
theorem over_read {f : List T → Hh → Res T} (hf : NoXL f) {σV : L2.St} {H : Hp} {Q : VK} (h : tI X.K X.mg P W (sOver f ar) σV H Q) : tL X.K X.mg P W ar σV H fun x H1 => rLst X.K X.mg f [x] H1 Q := by
  obtain ⟨m, h, σ, A, o⟩ := h
  refine A.first (rel1 := relL X.K X.mg H) o fun m1 h1 ts x H1 E1 r1 A1 o1 => ?_
  obtain ⟨D, vs, rfl, _, hD, rr, _⟩ := r1
  exact ⟨m1, h1, ts, D, vs, rfl, hD, rr, A1.hr, o1.outP (hf _ _)⟩
theorem de_overB {id : String} {x : Str} {f : List T → Hh → Res T} (hc : CallR X (.builtin id) (rLst X.K X.mg f)) (hf : NoXL f) (hg : Gl X x) (hm : X.mg x = none) (hv : bootBuiltins x = some (.builtin id)) (ha : DL X P W a ar) (hn : x ≠ "__name__" := by decide) (hdb : (x == ("__debug__" : Str)) = false := by decide)
    (he : starEach [a] X.env = (false, eval a X.env) :: starEach [] X.env := by rfl) (hpl : (backTo pos (starEach [] X.env)).any (·.1) = false := by rfl) : DE X P W (.Call (.Name x p) [a] [] pos) (sOver f ar) :=
  PE.imp (pe_callB hc hg hm hv (pa_cons ha pa_nil he) hn hdb he hpl) fun σV H Q h => over_read hf h
theorem de_overTy {T' : String} {x : Str} {f : List T → Hh → Res T} (hc : CallR X (.type T') (rLst X.K X.mg f)) (hf : NoXL f) (hg : Gl X x) (hm : X.mg x = none) (hv : bootBuiltins x = some (.type T')) (ha : DL X P W a ar) (hn : x ≠ "__name__" := by decide) (hdb : (x == ("__debug__" : Str)) = false := by decide)
    (he : starEach [a] X.env = (false, eval a X.env) :: starEach [] X.env := by rfl) (hpl : (backTo pos (starEach [] X.env)).any (·.1) = false := by rfl) : DE X P W (.Call (.Name x p) [a] [] pos) (sOver f ar) :=
  PE.imp (pe_callTy hc hg hm hv (pa_cons ha pa_nil he) hn hdb he hpl) fun σV H Q h => over_read hf h
theorem bls_of {m : Mp} {H : Hp} : ∀ {ts : List T} {vs : List V} {bs : List Bool}, RTs X.K X.mg m H ts vs → blsOf ts = some bs → vs = bs.map V.bl
  | _, _, _, .nil, e => by cases e; rfl
  | _, _, bs, .cons (t := t) (ts := ts) r q, e => by
    cases r with
    | bl b =>
      have e' : (blsOf ts).map (b :: ·) = some bs := e
      cases z : blsOf ts with
      | none => rw [z] at e'; cases e'
      | some cs =>
        rw [z] at e'; cases e'
        rw [bls_of q z]; rfl
    | _ => cases e
theorem nx_all : NoXL bAll := fun x h c fs h' e => by unfold bAll at e; (repeat' split at e) <;> cases e
theorem nx_any : NoXL bAny := fun x h c fs h' e => by unfold bAny at e; (repeat' split at e) <;> cases e
theorem nx_tup : NoXL bTup := fun x h c fs h' e => by unfold bTup at e; cases e
theorem cl_all (hc : X.calm = true) : CallR X (.builtin "all") (rLst X.K X.mg bAll) := by
  intro pins s σ H xs us Q I ru hq
  obtain ⟨m, h, ts, D, vs, rfl, hD, r, R, o⟩ := hq
  unfold bAll at o
  split at o
  · rename_i bs e
    have := bls_of r e
    subst this
    exact cr_all hc pins s σ H _ us Q I ru ⟨D, bs, rfl, SqL.of hD, o _ m H (Ext.refl _ _) (.bl _) R⟩
  · exact False.elim o
theorem cl_any (hc : X.calm = true) : CallR X (.builtin "any") (rLst X.K X.mg bAny) := by
  intro pins s σ H xs us Q I ru hq
  obtain ⟨m, h, ts, D, vs, rfl, hD, r, R, o⟩ := hq
  unfold bAny at o
  split at o
  · rename_i bs e
    have := bls_of r e
    subst this
    exact cr_any hc pins s σ H _ us Q I ru ⟨D, bs, rfl, SqL.of hD, o _ m H (Ext.refl _ _) (.bl _) R⟩
  · exact False.elim o
theorem cl_tup : CallR X (.type "tuple") (rLst X.K X.mg bTup) := by
  intro pins s σ H xs us Q I ru hq
  obtain ⟨m, h, ts, D, vs, rfl, hD, r, R, o⟩ := hq
  exact call_tuple_of pins s σ H _ us Q I ru ⟨D, vs, rfl, .inl ⟨SqL.of hD, fun p hp => OutP.newTup R r o hp⟩⟩
/-! ### o.m(..) of an own class -/
theorem de_meth {m : Str} {cn : Str} {C f : Addr} {k : Nat} {fd : FuncData} {ps : List Str} {ff : List T → Hh → Res T} {pl : Sem Bool} (hC : X.mg cn = some (.ref C)) (cc : Cls X.K C) (hm : Meth X.K C m f)
    (F : FnOk X.prog X.w X.K X.mg X.base (L2.CX X.prog X.w) k f fd ps (spT X.K X.mg ps.length ff)) (hr : Room k X.A) (hb : Binds X.K fd ps []) (tk : Takes X W) (ho : DE X P W o so) (ha : DA X P W (e :: es) ar)
    (hst : starEach (e :: es) X.env = (false, eval e X.env) :: starEach es X.env := by rfl) (hpl : (backTo pos (starEach es X.env)).any (·.1) = false := by rfl)
    (ht : eval (.Call (.Attribute o m apos) (e :: es) [] pos) X.env = (do
      let ov ← eval o X.env
      standAt apos.atName
      let (f, first) ← holding [ov] (getMethod ov m pl)
      callWith pos f first (backTo pos (starEach (e :: es) X.env)) (backToKw pos (keywordEach [] X.env))) := by rfl) :
    DE X P W (.Call (.Attribute o m apos) (e :: es) [] pos) (sMeth cn m ps.length ff so ar) := by
  refine ⟨fun pins s σV H Q I ⟨m0, h, σ, A, o0⟩ => ?_⟩
  have first := A.first (rel1 := RT X.K X.mg) o0 fun m1 h1 t v H1 E1 r1 A1 o1 =>
    (⟨m1, h1, t, r1, A1, o1⟩ : ∃ m1 h1 t, RT X.K X.mg m1 H1 t v ∧ At X.K X.mg P m1 H1 σV σ h1 ∧ Out X.K X.mg (RT X.K X.mg) W σV Q m1 H1 (match t with
      | .ref l => (match insAt h1 l with
        | some (d, fs) => if d = cn ∧ fs.lookup m = none then (ar σ h1).bind fun xs h2 => arN ps.length ff (t :: xs) h2 else .stk
        | none => .stk)
      | _ => .stk))
  refine PySem.W.methodCall_KW (pl := pl) (thn (ho.run pins s σV H _ I first) fun u s1 ⟨v, H1, I1, rv, m1, h1, t, r1, A1, o1⟩ => ?_) ht
  cases r1 with
  | @ref l a e1 =>
    dsimp only at o1
    split at o1
    · rename_i d fs q1
      split at o1
      · rename_i hd
        obtain ⟨hd1, hd2⟩ := hd
        subst hd1
        obtain ⟨Ca, dx, fv, g1, g2, rf⟩ := A1.hr.ins e1 q1
        rw [hC] at g1; cases g1
        obtain rfl : u = Value.ref a := rv
        have hno : fv.lookup m = none := by
          cases z : fv.lookup m with
          | none => rfl
          | some w =>
            exfalso
            have back : ∀ {fs : List (Str × T)} {fv : List (Str × V)} {w : V}, RF X.K X.mg m1 H1 fs fv → fv.lookup m = some w → fs.lookup m ≠ none := by
              intro fs fv w r
              induction r with
              | nil => intro q; simp [List.lookup] at q
              | @cons g t v fs fv _ _ ih =>
                intro q
                simp only [List.lookup] at q ⊢
                split at q
                · simp
                · exact ih q
            exact back rf z hd2
        refine getmeth_ok I1 g2 cc hm hno ?_
        have second := A1.first (rel1 := RTs X.K X.mg) o1 fun m2 h2 ts vs H2 E2 r2 A2 o2 =>
          (⟨m2, h2, ts, .ref (E2.mono _ _ e1), r2, A2, o2⟩ : ∃ m2 h2 ts, RT X.K X.mg m2 H2 (.ref l) (.ref a) ∧ RTs X.K X.mg m2 H2 ts vs ∧ At X.K X.mg P m2 H2 σV σ h2 ∧ Out X.K X.mg (RT X.K X.mg) W σV Q m2 H2 (arN ps.length ff (.ref l :: ts) h2))
        refine PySem.W.callWith_K (first := [.ref a]) (h₀ := X.base) I.ok.mod.kin hm.kp (thn (ha.run pos pins s1 σV H1 _ I1 second) fun us s2 ⟨vs, H2, I2, r, m2, h2, ts, ra, r2, A2, o2⟩ => ⟨I2.kIn, ?_⟩) hst hpl
        unfold arN at o2
        split at o2
        · rename_i hl
          exact run_fnS (us := .ref a :: us) (vs := .ref a :: vs) F hr hb (passAt tk σV) I2 (.cons rfl r) (spT_of (by rw [← hl, List.length_cons, List.length_cons, r2.length]) (.cons ra r2) A2.hr o2)
        · exact False.elim o2
      · exact False.elim o1
    · exact False.elim o1
  | _ => exact False.elim o1
theorem de_meth0 {m : Str} {cn : Str} {C f : Addr} {k : Nat} {fd : FuncData} {ps : List Str} {ff : List T → Hh → Res T} {pl : Sem Bool} (hC : X.mg cn = some (.ref C)) (cc : Cls X.K C) (hm : Meth X.K C m f)
    (F : FnOk X.prog X.w X.K X.mg X.base (L2.CX X.prog X.w) k f fd ps (spT X.K X.mg ps.length ff)) (hr : Room k X.A) (hb : Binds X.K fd ps []) (tk : Takes X W) (ho : DE X P W o so)
    (ht : eval (.Call (.Attribute o m apos) [] [] pos) X.env = (do
      let ov ← eval o X.env
      standAt apos.atName
      let (f, first) ← holding [ov] (getMethod ov m pl)
      callWith pos f first (backTo pos (starEach [] X.env)) (backToKw pos (keywordEach [] X.env))) := by rfl) :
    DE X P W (.Call (.Attribute o m apos) [] [] pos) (sMeth cn m ps.length ff so saNil) := by
  refine ⟨fun pins s σV H Q I ⟨m0, h, σ, A, o0⟩ => ?_⟩
  have first := A.first (rel1 := RT X.K X.mg) o0 fun m1 h1 t v H1 E1 r1 A1 o1 =>
    (⟨m1, h1, t, r1, A1, o1⟩ : ∃ m1 h1 t, RT X.K X.mg m1 H1 t v ∧ At X.K X.mg P m1 H1 σV σ h1 ∧ Out X.K X.mg (RT X.K X.mg) W σV Q m1 H1 (match t with
      | .ref l => (match insAt h1 l with
        | some (d, fs) => if d = cn ∧ fs.lookup m = none then (saNil σ h1).bind fun xs h2 => arN ps.length ff (t :: xs) h2 else .stk
        | none => .stk)
      | _ => .stk))
  refine PySem.W.methodCall_KW (pl := pl) (thn (ho.run pins s σV H _ I first) fun u s1 ⟨v, H1, I1, rv, m1, h1, t, r1, A1, o1⟩ => ?_) ht
  cases r1 with
  | @ref l a e1 =>
    dsimp only at o1
    split at o1
    · rename_i d fs q1
      split at o1
      · rename_i hd
        obtain ⟨hd1, hd2⟩ := hd
        subst hd1
        obtain ⟨Ca, dx, fv, g1, g2, rf⟩ := A1.hr.ins e1 q1
        rw [hC] at g1; cases g1
        obtain rfl : u = Value.ref a := rv
        have hno : fv.lookup m = none := by
          cases z : fv.lookup m with
          | none => rfl
          | some w =>
            exfalso
            have back : ∀ {fs : List (Str × T)} {fv : List (Str × V)} {w : V}, RF X.K X.mg m1 H1 fs fv → fv.lookup m = some w → fs.lookup m ≠ none := by
              intro fs fv w r
              induction r with
              | nil => intro q; simp [List.lookup] at q
              | @cons g t v fs fv _ _ ih =>
                intro q
                simp only [List.lookup] at q ⊢
                split at q
                · simp
                · exact ih q
            exact back rf z hd2
        refine getmeth_ok I1 g2 cc hm hno ?_
        have o2 : Out X.K X.mg (RT X.K X.mg) W σV Q m1 H1 (arN ps.length ff [.ref l] h1) := o1
        unfold arN at o2
        split at o2
        · rename_i hl
          exact PySem.W.callWith_K0 (first := [.ref a]) I1.kIn hm.kp (run_fnS (us := [.ref a]) (vs := [.ref a]) F hr hb (passAt tk σV) I1 (.cons rfl .nil) (spT_of hl (.cons (.ref e1) .nil) A1.hr o2))
        · exact False.elim o2
      · exact False.elim o1
    · exact False.elim o1
  | _ => exact False.elim o1
end
end W3
end

section
/-! WL: sets of ints and texts: {e for ..} and set(..), for their number. -/
namespace W3
open PySem PySem.Spec PyProof.Rows
open L2
instance decMemK (k : Key) (l : List Key) : Decidable (k ∈ l) := decidable_of_iff (l.any (fun j => decide (j = k)) = true) (by simp [List.any_eq_true])
/-- each once, in the order of the first -/
def uq : List Key → List Key := fun ks => ks.foldl (fun acc k => if k ∈ acc then acc else acc ++ [k]) []
theorem uq_snoc (ks : List Key) (k : Key) : uq (ks ++ [k]) = if k ∈ uq ks then uq ks else uq ks ++ [k] := by
  unfold uq; rw [List.foldl_append]; rfl
theorem uq_mem (ks : List Key) : ∀ k, k ∈ uq ks ↔ k ∈ ks := by
  intro k
  suffices h : ∀ (l acc : List Key), (k ∈ l.foldl (fun acc k => if k ∈ acc then acc else acc ++ [k]) acc ↔ k ∈ acc ∨ k ∈ l) by
    have := h ks []
    simpa [uq] using this
  intro l
  induction l with
  | nil => intro acc; simp
  | cons x l ih =>
    intro acc
    rw [List.foldl_cons, ih]
    by_cases hx : x ∈ acc
    · rw [if_pos hx]
      constructor
      · rintro (h | h)
        · exact .inl h
        · exact .inr (List.mem_cons_of_mem _ h)
      · rintro (h | h)
        · exact .inl h
        · rcases List.mem_cons.mp h with e | e
          · subst e; exact .inl hx
          · exact .inr e
    · rw [if_neg hx]
      simp only [List.mem_append, List.mem_cons, List.mem_singleton, List.not_mem_nil, or_false]
      constructor
      · rintro ((h | h) | h)
        · exact .inl h
        · exact .inr (.inl h)
        · exact .inr (.inr h)
      · rintro (h | h | h)
        · exact .inl (.inl h)
        · exact .inl (.inr h)
        · exact .inr h
def keyT : T → Option Key
  | .int i => some (.inl i)
  | .str x => some (.inr x)
  | _ => none
def keysT : List T → Option (List Key)
  | [] => some []
  | t :: ts => match keyT t, keysT ts with | some k, some ks => some (k :: ks) | _, _ => none
/-- len(set(..)) by the items -/
def bLenSet (ts : List T) (h : Hh) : Res T := match keysT ts with
  | some ks => if ks.length + 1 < scanBound then .ok (.int (uq ks).length) h else .stk
  | none => .stk
theorem nx_lenset : NoXL bLenSet := fun x h c fs h' e => by unfold bLenSet at e; (repeat' split at e) <;> cases e
/-- the set of the keys acc at a -/
def SetA (P : Program) (w : World) (a : Addr) (acc : List Key) : HO := SetK P w a (fun k => decide (k ∈ acc)) (uq acc).length
theorem setA_snoc (P : Program) (w : World) (a : Addr) (acc : List Key) (k : Key) :
    SetK P w a (fun j => (fun k => decide (k ∈ acc)) j || decide (j = k)) (if (fun k => decide (k ∈ acc)) k = true then (uq acc).length else (uq acc).length + 1) = SetA P w a (acc ++ [k]) := by
  unfold SetA
  have e1 : (fun j => (decide (j ∈ acc) || decide (j = k))) = fun j => decide (j ∈ acc ++ [k]) := by
    funext j
    by_cases h1 : j ∈ acc <;> by_cases h2 : j = k <;> simp [h1, h2]
  have e2 : (if decide (k ∈ acc) = true then (uq acc).length else (uq acc).length + 1) = (uq (acc ++ [k])).length := by
    rw [uq_snoc]
    by_cases h : k ∈ acc
    · rw [if_pos (decide_eq_true h), if_pos ((uq_mem acc k).mpr h)]
    · rw [if_neg (by simpa using h), if_neg (fun z => h ((uq_mem acc k).mp z)), List.length_append, List.length_singleton]
  rw [← e1, ← e2]
section
variable {X : Cx}
theorem kv_of {m : Mp} {H : Hp} {t : T} {v : V} {k : Key} (r : RT X.K X.mg m H t v) (e : keyT t = some k) : v = kV k := by
  cases r with
  | int i => cases e; rfl
  | str h => cases e; rfl
  | _ => cases e
/-- {elt for tg in iter if ..}: D the new set of keys -/
def tSk (P : Program) (w : World) (wi : TI) (g : TG) (tt : TT) (te : TE) (vs : List Nat) : TE := fun σ H Q => wi σ H fun J H1 => ∀ D, H1 D = none →
  ∃ V : Nat → Nat → Hp → Prop, (∃ m, V 0 m (upd H1 D (SetA P w D []))) ∧ ∀ i m H, V i m H →
    (J.stop i H ∧ Q (.ref D) H) ∨ (J.go i H ∧ ∃ Nx : Hp → Prop, (∀ H', Nx H' → ∃ m', m' < m ∧ V (i + 1) m' H') ∧ ∀ x H', J.yld i H x H' →
      g x (wipe σ vs) H' fun σ2 H2 => wipe σ2 vs = wipe σ vs ∧ tt σ2 H2 fun b H3 => if b = true then te σ2 H3 fun y H4 =>
        ∃ (k : Key) (acc : List Key), y = kV k ∧ H4 D = some (SetA P w D acc) ∧ acc.length + 1 < scanBound ∧ Nx (upd H4 D (SetA P w D (acc ++ [k]))) else Nx H3)
theorem uq_len (ks : List Key) : (uq ks).length ≤ ks.length := by
  suffices h : ∀ (l acc : List Key), (l.foldl (fun acc k => if k ∈ acc then acc else acc ++ [k]) acc).length ≤ acc.length + l.length by
    have := h ks []
    simpa [uq] using this
  intro l
  induction l with
  | nil => intro acc; simp
  | cons x l ih =>
    intro acc
    rw [List.foldl_cons]
    refine Nat.le_trans (ih _) ?_
    by_cases hx : x ∈ acc
    · rw [if_pos hx, List.length_cons]; omega
    · rw [if_neg hx, List.length_append, List.length_singleton, List.length_cons]; omega
theorem setA_fresh {h : Heap} {P : Program} {w : World} {H : Hp} :
    ObjOk P w H (h.push { cls := .type "set", dict := none, data := .set #[] 0 (.fresh 0 0 (!w.params.followText "set-order")) }) h.objs.size (SetA P w h.objs.size []) :=
  setK_new ⟨_, #[], 0, _, Heap.get?_push_size _ rfl, ⟨rfl, rfl, rfl⟩, rfl, fun e he => by simp at he, fun k => by simp, by decide, rfl, rfl⟩
theorem setA_add {pins : List (Addr × Obj)} {σ : L2.St} {H : Hp} {s : Shared} {D : Addr} {acc : List Key} {k : Key} {v : Value} {Q : Value → Shared → Prop} (I : L2.Inv X pins σ H s) (hD : H D = some (SetA X.prog X.w D acc)) (rv : RelV (kV k) v)
    (room : acc.length + 1 < scanBound) (q : ∀ s', L2.Inv X pins σ (upd H D (SetA X.prog X.w D (acc ++ [k]))) s' → Q .none s') : wpAny (model X.prog X.w) X.A (call (.builtin "set.add") [.ref D, v]) Q X.xe s := by
  refine thn (mt_saddK pins s σ H (.ref D) [kV k] (.ref D) [v] (fun v H' => v = .non ∧ H' = upd H D (SetA X.prog X.w D (acc ++ [k]))) I rfl (.cons rv .nil) ⟨D, k, _, _, rfl, rfl, hD, by have := uq_len acc; omega, rfl, ?_⟩) fun u s' hu => ?_
  · exact congrArg (upd H D) (setA_snoc X.prog X.w D acc k)
  · obtain ⟨v', H', I', r', e1, e2⟩ := hu
    subst e1; subst e2
    obtain rfl : u = Value.none := r'
    exact q s' I'
open PpSet in
theorem pe_sk {elt tg iter : Expr} {ifs : List Expr} {scope : Scope} {own : List (PySem.Str × Nat)} {pos : Pos} {wi : TI} {g : TG} {tt : TT} {te : TE} (hc : X.calm = true) (hN : X.N.Nodup) (hi : PI X tg iter wi) (ok : BlkOk X.N X.env.scope scope own)
    (hg : ∀ (z : Shared) (L : Hp) (C : Addr) (cl : List (PySem.Str × Addr)) (fp : List Addr), PG (X.blk z L scope (compEnvC scope cl C X.env) fp) tg g)
    (ht : ∀ (z : Shared) (L : Hp) (C : Addr) (cl : List (PySem.Str × Addr)) (fp : List Addr), PTs (X.blk z L scope (compEnvC scope cl C X.env) fp) ifs tt)
    (he : ∀ (z : Shared) (L : Hp) (C : Addr) (cl : List (PySem.Str × Addr)) (fp : List Addr), PE (X.blk z L scope (compEnvC scope cl C X.env) fp) elt te) (hs : ∀ x, foldedSetIterable iter X.env x = pure x) :
    PE X (.SetComp elt [⟨tg, iter, ifs, 0⟩] scope pos) (tSk X.prog X.w wi g tt te (own.map (·.2))) := by
  refine ⟨fun pins s σ H Q I hw => ?_⟩
  rw [eval_SetComp]
  have fr : ∀ y ∈ scope.names, y.2 = .free → ∃ c, X.env.cells.lookup y.1 = some c := by
    intro y hy e
    cases ok.free y hy e with
    | inl k => exact I.ok.has _ (.inl k)
    | inr k => exact I.ok.has _ (.inr k)
  refine wpAny_comprehension_free (use := none) rfl hs (closure_ok fr) ok.kind (fun y hy e => (ok.uniq y hy).trans (congrArg some e)) ?_
  refine thn (hi.run pins s σ H _ I hw) fun xv s1 hx => thn hx fun itv s2 hz => ?_
  obtain ⟨it, fp, tn, J, L2', e, J2, Tn, a2, b2, q⟩ := hz
  subst e
  refine newSet_ok (newEnv_comp ?_)
  generalize hD : s2.heap.objs.size = D
  have nD : L2' D = none := J2.hok.fresh (Nat.le_of_eq hD)
  obtain ⟨V, ⟨m0, w0⟩, turn⟩ := q D nD
  generalize hs3 : ({ s2 with heap := s2.heap.push { cls := .type "set", dict := none, data := .set #[] 0 (.fresh 0 0 (!X.w.params.followText "set-order")) } } : Shared) = s3
  have kp3 : ∀ b o, s2.heap.get? b = some o → s3.heap.get? b = some o := by
    intro b o e
    rw [← hs3]
    exact Heap.get?_push_of_some _ e
  generalize hL3 : upd L2' D (SetA X.prog X.w D []) = L3 at w0
  have J3 : L2.Inv X pins σ L3 s3 := by
    rw [← hL3, ← hs3]
    refine J2.laid (t' := s2.toks) (fun b o e => Heap.get?_push_of_some _ e) (Nat.le_of_eq hD) ?_
    rw [← hD]
    exact setA_fresh
  have old : ∀ b ∈ fp, b < s2.heap.objs.size := fun b hb => (Tn.obj _ _ a2 b hb).elim fun o z => Heap.lt_size z.1
  have b3 : ∀ b ∈ fp, FpOk X pins L3 b ∧ b < s3.heap.objs.size := by
    intro b hb
    have lt := old b hb
    refine ⟨⟨?_, (b2 b hb).2⟩, ?_⟩
    · rw [← hL3, upd_ne (by rw [← hD]; exact Nat.ne_of_lt lt)]
      exact (b2 b hb).1
    · rw [← hs3]
      show b < (Heap.push _ _).objs.size
      rw [Heap.size_push]
      exact Nat.lt_succ_of_lt lt
  have a3 : tn 0 s3.heap := Tn.keep _ _ _ a2 fun b _ o e => kp3 b o e
  have J4 := block_start J3 ok hN b3
  generalize hcl : cellsFrom (s3.heap.objs.size + 1) scope.names (cloFrom X.env.cells scope.names []) = cl at J4 ⊢
  have pg := hg s3 L3 s3.heap.objs.size cl fp
  have pt := ht s3 L3 s3.heap.objs.size cl fp
  have pe := he s3 L3 s3.heap.objs.size cl fp
  show codeAny _ _ (.compStart (.SetComp elt [⟨tg, iter, ifs, 0⟩] scope pos) 0 (.ref it) (.ref D) (compEnvC scope cl s3.heap.objs.size X.env))
    (compPost (model X.prog X.w) X.A X.xe none (EP X pins σ Q) (.ref D) s3.heap.objs.size) _
  generalize hce : compEnvC scope cl s3.heap.objs.size X.env = ce at J4 pg pt pe ⊢
  have cL : ce.locals = s3.heap.objs.size := by rw [← hce]; rfl
  have n3 : ∀ b ∈ fp, L3 b = none := fun b hb => (b3 b hb).1.1
  generalize hs4 : ({ s3 with heap := pushCells (s3.heap.push { cls := .type "dict", data := .dict #[] }) scope.names } : Shared) = s4 at J4 ⊢
  have a4 : tn 0 s4.heap := Tn.keep _ _ _ a3 fun b _ o e => by
    rw [← hs4]
    exact pushCells_keeps _ _ _ _ (Heap.get?_push_of_some _ e)
  have stat : ∀ {τ : L2.St} {L : Hp} {z : Shared}, L2.Inv (X.blk s3 L3 scope ce fp) [] τ L z → (∀ b ∈ fp, L b = none) → ∀ b ∈ fp, FpOk (X.blk s3 L3 scope ce fp) [] L b := by
    intro τ L z J' hn b hb
    refine ⟨hn b hb, (J'.ok.exf b hb).1, J'.ok.exfs b hb, .inl hb, (J'.ok.exf b hb).2, fun p hp => ?_⟩
    have : p ∈ ([] : List (Addr × Obj)) := hp
    cases this
  have loop : codeAny (model X.prog X.w) X.A (.compLoop (.SetComp elt [⟨tg, iter, ifs, 0⟩] scope pos) 0 (.ref it) (.ref D) ce)
      (compPost (model X.prog X.w) X.A X.xe none (EP X pins σ Q) (.ref D) s3.heap.objs.size) s4 := by
    refine compLoopS_any (fun n z => ∃ i L, L2.Inv (X.blk s3 L3 scope ce fp) [] (wipe σ (own.map (·.2))) L z ∧ tn i z.heap ∧ (∀ b ∈ fp, L b = none) ∧ V i n L) ?_ m0 ⟨0, L3, J4, a4, n3, w0⟩
    intro n s5 h5
    obtain ⟨i, L5, J5, a5, n5, w5⟩ := h5
    cases turn i n L5 w5 with
    | inl hstop =>
      refine thnF (Tn.done (X.blk s3 L3 scope ce fp) rfl rfl rfl hc i [] s5 _ L5 (fun _ _ => False) J5 (stat J5 n5) a5 hstop.1) fun r s6 h6 => ?_
      obtain ⟨hr, J6⟩ := h6
      subst hr
      have J7 : L2.Inv X pins σ L5 s6 := J3.call' (ch := fp) J6.os J6.base J6.hok J6.bare fun b hb => by
        have z := (b3 b hb).1.2
        exact ⟨z.2.2.1, z.1, z.2.2.2.1, z.2.2.2.2⟩
      have nC : L5 s3.heap.objs.size = none := by rw [← cL]; exact J6.free
      obtain ⟨mm, hn, _⟩ := J6.loc
      have hn' : s6.heap.Ns s3.heap.objs.size mm := by rw [← cL]; exact hn
      have fC := J3.fpOk (Nat.le_refl s3.heap.objs.size) nC
      obtain ⟨c0, c1, _, c3, c4, c5⟩ := fC
      exact ⟨mm, hn', fun h'' sb => ⟨.ref D, L5, J7.turned (t' := s6.toks) (fun b o hb e => (sb.2 b hb).trans e) c0 c1 c3 c4 c5, rfl, hstop.2⟩⟩
    | inr hgo =>
      obtain ⟨go, Nx, hNx, step⟩ := hgo
      refine thnF (Tn.item (X.blk s3 L3 scope ce fp) rfl rfl rfl hc i [] s5 _ L5 (fun _ _ => False) J5 (stat J5 n5) a5 go) fun r s6 h6 => ?_
      obtain ⟨u, hr, h6⟩ := h6
      subst hr
      refine thnF h6 fun _ s7 h7 => ?_
      obtain ⟨x, L7, J7, r7, y7, a7, n7⟩ := h7
      refine thnF (pg.run _ s7 _ L7 x u _ (J7.pinned (stat J7 n7) (Tn.obj _ _ a7)) r7 (step x L7 y7)) fun _ s8 h8 => ?_
      obtain ⟨σ8, L8, J8, hw8, q8⟩ := h8
      refine thnF (pt.run _ s8 σ8 L8 _ J8 q8) fun b s9 h9 => ?_
      obtain ⟨L9, J9, q9⟩ := h9
      have fin : ∀ {z : Shared} {L : Hp}, L2.Inv (X.blk s3 L3 scope ce fp) ([] ++ pinsAt fp s7.heap) σ8 L z → Nx L →
          ∃ m, m < n ∧ ∃ i L, L2.Inv (X.blk s3 L3 scope ce fp) [] (wipe σ (own.map (·.2))) L z ∧ tn i z.heap ∧ (∀ b ∈ fp, L b = none) ∧ V i m L := by
        intro z L J' nx
        obtain ⟨m', hm, w'⟩ := hNx L nx
        have held : ∀ b ∈ fp, ∀ o, s7.heap.get? b = some o → z.heap.get? b = some o ∧ L b = none := by
          intro b hb o e
          have k := J'.pin (b, o) (List.mem_append_right _ (List.mem_append_right _ (mem_pinsAt hb e)))
          exact ⟨k.1, k.2.1⟩
        refine ⟨m', hm, i + 1, L, (J'.unpinned (pins := [])).weak (by rw [← hw8, wipe_length]) (fun j v e => ?_), Tn.keep _ _ _ a7 fun b hb o e => (held b hb o e).1, fun b hb => ?_, w'⟩
        · rw [← hw8] at e
          exact (wipe_some e).1
        · obtain ⟨o, e, _⟩ := Tn.obj _ _ a7 b hb
          exact (held b hb o e).2
      cases b with
      | false => exact fin J9 q9
      | true =>
        refine thnF (pe.run _ s9 σ8 L9 _ J9 q9) fun z s10 h10 => ?_
        obtain ⟨yv, L10, J10, r10, k, acc, ey, hD10, room, nx⟩ := h10
        subst ey
        exact thnF (setA_add (X := X.blk s3 L3 scope ce fp) (Q := fun u z => u = .none ∧ L2.Inv (X.blk s3 L3 scope ce fp) ([] ++ pinsAt fp s7.heap) σ8 (upd L10 D (SetA X.prog X.w D (acc ++ [k]))) z) J10 hD10 r10 room fun s11 J11 => ⟨rfl, J11⟩) fun _ s11 h11 => fin h11.2 nx
  exact codeAny_compStart_set loop (Tn.self X.A 0 _ _ _ a4 loop)
end
end W3
end

section
/-! WM: set(t) of a tuple of keys; len of such sets. -/
namespace W3
open PySem PySem.Spec PyProof.Rows
open L2
section
variable {P : Program} {w : World} {A : Around} {E : Value → Shared → Prop} {s : Shared}
/-- the keys of values -/
abbrev KeysAre (P : Program) (w : World) (ks : List Key) (vs : List Value) : Prop := Paired (fun k v => RelV (kV k) v) ks vs
theorem KeysAre.get {ks : List Key} {vs : List Value} (r : KeysAre P w ks vs) : ∀ {i : Nat} {v : Value}, vs[i]? = some v → ∃ k, ks[i]? = some k ∧ RelV (kV k) v := by
  induction r with
  | nil => intro i v e; simp at e
  | cons r _ ih =>
    intro i v e
    cases i with
    | zero => simp at e; subst e; exact ⟨_, rfl, r⟩
    | succ i => exact ih (by simpa using e)
abbrev freshSet (w : World) : Obj := { cls := .type "set", dict := none, data := .set #[] 0 (.fresh 0 0 (!w.params.followText "set-order")) }
abbrev SetI (P : Program) (w : World) (h : Heap) (a : Addr) (acc : List Key) : Prop := h.SetOf (mixKind P w) a (fun k => decide (k ∈ acc)) (uq acc).length
theorem setI_fresh {h : Heap} {a : Addr} (e : h.get? a = some (freshSet w)) : SetI P w h a [] :=
  ⟨_, #[], 0, _, e, ⟨rfl, rfl, rfl⟩, rfl, fun e he => by simp at he, fun k => by simp, by decide, rfl, rfl⟩
theorem setI_snoc {h : Heap} {a : Addr} {acc : List Key} {k : Key} (R : h.SetOf (mixKind P w) a (fun j => (fun k => decide (k ∈ acc)) j || decide (j = k)) (if (fun k => decide (k ∈ acc)) k = true then (uq acc).length else (uq acc).length + 1)) :
    SetI P w h a (acc ++ [k]) := by
  have e1 : (fun j => (decide (j ∈ acc) || decide (j = k))) = fun j => decide (j ∈ acc ++ [k]) := by
    funext j
    by_cases h1 : j ∈ acc <;> by_cases h2 : j = k <;> simp [h1, h2]
  have e2 : (if decide (k ∈ acc) = true then (uq acc).length else (uq acc).length + 1) = (uq (acc ++ [k])).length := by
    rw [uq_snoc]
    by_cases h : k ∈ acc
    · rw [if_pos (decide_eq_true h), if_pos ((uq_mem acc k).mpr h)]
    · rw [if_neg (by simpa using h), if_neg (fun z => h ((uq_mem acc k).mp z)), List.length_append, List.length_singleton]
  show h.SetOf (mixKind P w) a (fun j => decide (j ∈ acc ++ [k])) (uq (acc ++ [k])).length
  rw [← e1, ← e2]
  exact R
theorem loopK {I : Addr} {fp wr : List Addr} {G : Array GenState → Array GenState → Prop} {n : Nat} {Pv : Nat → Value → Prop} {St : Nat → Shared → Prop} {R : Result → Shared → Prop}
    (Wk : WalksS P w A.in1 I fp wr G n Pv St) (D : Addr) (nD : D ∉ fp) (ks : List Key) (hn : n = ks.length) (room : ks.length + 1 < scanBound) (hv : ∀ i v, Pv i v → ∃ k, ks[i]? = some k ∧ RelV (kV k) v) :
    ∀ (left i : Nat) (z : Shared), n - i = left → i ≤ n → St i z → SetI P w z.heap D (ks.take i) → (∀ z', Moved (D :: wr) G z z' → SetI P w z'.heap D ks → R (.ok (.ret .none)) z') →
      codeAny (model P w) A (.builtin "set.update.loop" ⟨[.ref D, .ref I], []⟩) R z := by
  have nW : D ∉ wr := fun q => nD (Wk.sub _ q)
  have more : ∀ b ∈ wr, b ∈ D :: wr := fun b q => List.mem_cons_of_mem _ q
  intro left
  induction left with
  | zero =>
    intro i z e1 e2 st S fin
    have hi : i = n := by omega
    subst hi
    refine codeAny_builtin PyProof.Rows.F.entry_set_update_loop ?_
    rw [Around.under_plainId PyProof.Rows.F.plain_set_update_loop _]
    show wpAny _ A.in1 (pyNext (.ref I) >>= _) _ _ z
    refine wpAny_bind (Wk.done z _ _ st fun z' mv => ?_)
    show wpAny _ A.in1 (ret Value.none) _ _ z'
    rw [List.take_of_length_le (by omega)] at S
    exact wpAny_pure (fin z' (mv.mono more) (setOf_at S fun o q => mv.heap D o nW q))
  | succ left ih =>
    intro i z e1 e2 st S fin
    have lt : i < n := by omega
    refine codeAny_builtin PyProof.Rows.F.entry_set_update_loop ?_
    rw [Around.under_plainId PyProof.Rows.F.plain_set_update_loop _]
    show wpAny _ A.in1 (pyNext (.ref I) >>= _) _ _ z
    refine wpAny_bind (Wk.item i z _ _ lt st fun v z' pv st' mv => ?_)
    obtain ⟨k, hk, rk⟩ := hv i v pv
    have S' : SetI P w z'.heap D (ks.take i) := setOf_at S fun o q => mv.heap D o nW q
    have hlen : (uq (ks.take i)).length + 1 < scanBound := by
      have := uq_len (ks.take i)
      rw [List.length_take] at this
      omega
    show wpAny _ A.in1 (holding [v] (setAdd D v) >>= _) _ _ z'
    refine wpAny_bind (wpAny_holding ?_)
    unfold setAdd
    refine wpAny_holding (wpAny_bind ((mixKind P w).pyHash (k := k) (kV_is rk) ?_))
    refine wpAny_setAddHashed_of (knd := mixKind P w) (s := { z' with toks := z'.toks + 1 }) (kV_is rk) (key_scan rk) S' hlen fun h' sb S2 => ?_
    have S3 : SetI P w h' D (ks.take (i + 1)) := by
      rw [List.take_add_one, hk]
      exact setI_snoc S2
    refine wpAny_pure ⟨plainId_quiet PyProof.Rows.F.plain_set_update_loop _, ih (i + 1) _ (by omega) (by omega) (Wk.frame _ z' _ _ st' (Nat.le_succ _) fun b hb o q => ?_) S3 fun z'' mv'' S'' => ?_⟩
    · rw [sb.2 b (fun q : b = D => nD (q ▸ hb))]; exact q
    · refine fin z'' (Moved.trans Wk.gtrans ((mv.mono more).then_heap (Nat.le_succ _) fun b o hb q => ?_) mv'') S''
      rw [sb.2 b (fun q : b = D => hb (by rw [q]; exact List.mem_cons_self))]; exact q
set_option maxHeartbeats 3200000 in
theorem call_setK {l : Addr} {items : Array Value} (ks : List Key) {Q : Value → Shared → Prop} (hh : A.handled = none) (hl : s.heap.IsTuple l items) (hit : KeysAre P w ks items.toList) (room : ks.length + 1 < scanBound)
    (h : ∀ (h' : Heap) (tk : Nat), SetI P w h' s.heap.objs.size ks → (∀ b o, s.heap.get? b = some o → h'.get? b = some o) → Q (.ref s.heap.objs.size) { s with heap := h', toks := tk }) :
    wpAny (model P w) A (call (.type "set") [.ref l]) Q E s := by
  have hisz : items.size = ks.length := by
    have q : ks.length = items.toList.length := Paired.length hit
    rw [Array.length_toList] at q
    exact q.symm
  obtain ⟨c, tl, hmro⟩ := PySem.F.called_set.mro
  have hmade := PySem.F.called_set.made
  have hsub := PySem.F.called_set.sub
  refine wpAny_call (codeAny_of_tree ?_)
  show wpAny _ _ (callAny (.type "set") _) _ _ _
  refine wpAny_pure ⟨Code.quiet_builtin _ (by decide +kernel), codeAny_builtin PySem.F.entry_type_call ?_⟩
  rw [Around.under_plain (weight_type_call_type "set" [.ref l] []) rfl]
  have h1 := PySem.F.called_set.notType
  have h2 := PySem.F.called_set.canCreate
  have hct := PySem.F.typeCall_set_1 (.ref l)
  repeat (any_goals (first | assumption | wp_step))
  refine codeAny_mono (code_set_led1 (.ref l) (E := E) (Q₁ := fun obj z => obj = .ref s.heap.objs.size ∧ z = { s with heap := s.heap.push (freshSet w) }) ⟨rfl, rfl⟩) fun r z hr => ?_
  cases r with
  | error e => exact hr
  | ok fl =>
    cases fl with
    | next => exact hr.elim
    | brk => exact hr.elim
    | cont => exact hr.elim
    | ret obj =>
      obtain ⟨rfl, rfl⟩ := hr
      have hS : (s.heap.push (freshSet w)).get? s.heap.objs.size = some (freshSet w) := Heap.get?_push_size _ rfl
      have hT : Shared.TypeIs { s with heap := s.heap.push (freshSet w) } (.ref s.heap.objs.size) "set" := ⟨_, hS, rfl⟩
      have hli := PySem.F.called_set.init.lookup
      have hbi := PySem.F.called_set.init.bind (.ref s.heap.objs.size)
      repeat (any_goals (first | assumption | wp_step))
      refine codeAny_mono (codeAny_call_builtin (R := wants (fun r z => r = .none ∧ ∃ h' tk, z = { s with heap := h', toks := tk } ∧ SetI P w h' s.heap.objs.size ks ∧ ∀ b o, s.heap.get? b = some o → h'.get? b = some o) E)
        PySem.F.called_set.init.plain PySem.F.entry_set_init (check_set_init_1 hT ?_)) fun r2 z2 hr2 => ?_
      · obtain ⟨⟨oc, od, odat, osl⟩, hol, hcl, nl, hdl⟩ := hl
        simp only at hcl hdl
        subst hcl
        subst hdl
        have hol' : (s.heap.push (freshSet w)).get? l = some { cls := .type "tuple", dict := od, data := .seq items nl, slots := osl } := Heap.get?_push_of_some _ hol
        have hsls := PySem.F.sub_tuple_set
        have hslf := PySem.F.sub_tuple_frozenset
        have hne : (Value.type "tuple" == Value.type "dict") = false := by decide
        have hl1 : (s.heap.push (freshSet w)).IsTuple l items := ⟨_, hol', rfl, nl, rfl⟩
        unfold Builtin.«set.__init__» noKeywords Builtin.Frozenset.updateFrom
        generalize hPI : pyIter = PI
        wp_walk
        subst hPI
        refine wpAny_pyIter_tuple hl1 (wpAny_bind (wpAny_runValue ?_))
        have lS : l < s.heap.objs.size := Heap.lt_size hol
        have hh3 : A.in1.in1.in1.handled = none := by simp [hh]
        have neI : l ≠ (s.heap.push (freshSet w)).objs.size := by
          rw [Heap.size_push]
          exact Nat.ne_of_lt (Nat.lt_succ_of_lt lS)
        have nSf : s.heap.objs.size ∉ [(s.heap.push (freshSet w)).objs.size, l] := by
          rw [Heap.size_push]
          simp only [List.mem_cons, List.not_mem_nil, or_false, not_or]
          exact ⟨Nat.ne_of_lt (Nat.lt_succ_self _), Nat.ne_of_gt lS⟩
        refine loopK ((Walks.tuple hh3 _ l neI items).toS) s.heap.objs.size nSf ks hisz room (fun i v q => hit.get (by rw [Array.getElem?_toList]; exact q)) items.size 0 _ (by omega) (Nat.zero_le _) ⟨⟨_, Heap.get?_push_size _ rfl, rfl, rfl⟩, hl1.push _⟩ ?_ ?_
        · exact setI_fresh (Heap.get?_push_of_some _ hS)
        · intro z' mv S'
          obtain ⟨h', g2, d', tk', os'⟩ := z'
          have eg : g2 = s.gens := mv.gens
          have ed : d' = s.drawn := mv.drawn
          have eo : os' = s.os := mv.os
          subst eg; subst ed; subst eo
          refine wpAny_pure ?_
          show wpAny _ _ (ret Value.none) _ _ _
          refine wpAny_pure ⟨rfl, h', tk', rfl, S', fun b o q => ?_⟩
          have lb : b < s.heap.objs.size := Heap.lt_size q
          refine mv.heap b o ?_ (Heap.get?_push_of_some _ (Heap.get?_push_of_some _ q))
          rw [Heap.size_push]
          simp only [List.mem_cons, List.not_mem_nil, or_false, not_or]
          exact ⟨Nat.ne_of_lt lb, Nat.ne_of_lt (Nat.lt_succ_of_lt lb)⟩
      · cases r2 with
        | error e => exact hr2
        | ok fl2 =>
          cases fl2 with
          | next => exact hr2.elim
          | brk => exact hr2.elim
          | cont => exact hr2.elim
          | ret r =>
            obtain ⟨rfl, h', tk, rfl, S', kk⟩ := hr2
            repeat (any_goals (first | assumption | wp_step))
            exact h _ _ S' kk
end
end W3
end

section
/-! WN: len(set(t)), len({e for ..}). -/
namespace W3
open PySem PySem.Spec PyProof.Rows
open L2
section
variable {X : Cx} {P : Pq} {W : WX} {a b c o e tg iter : Expr} {sa sb sc so : SE} {pos pos' apos cpos p p2 q2 : Pos} {es : List Expr} {ar : SA} {si : SI}
theorem HR.outA {K : PySem.W.Frag} {mg : Str → Option Value} {m : Mp} {H : Hp} {h : Hh} (R : HR K mg m h H) {D : Addr} {Pr : Program} {w : World} {as bs : List Key} (e : H D = some (SetA Pr w D as)) (n : ∀ l, m l ≠ some D) : HR K mg m h (upd H D (SetA Pr w D bs)) where
  dom := R.dom
  inj := R.inj
  ob := fun l u q => by
    obtain ⟨a, e1, r⟩ := R.ob l u q
    have T : Tr m H m (upd H D (SetA Pr w D bs)) := ⟨fun _ _ q => q, fun a us q => by rw [upd_ne (ne_of q e (by intro z; cases z))]; exact q, fun a o u q => by rw [upd_ne (ne_of q e (by intro z; cases z))]; exact q⟩
    exact ⟨a, e1, r.moveT T (upd_ne (fun z => n l (by rw [← z]; exact e1)))⟩
/-- len of a set of keys -/
def rLenK (P : Program) (w : World) : List V → Hp → VK → Prop := fun xs H Q => ∃ D acc, xs = [.ref D] ∧ H D = some (SetA P w D acc) ∧ Q (.int (uq acc).length) H
theorem cr_lenK : CallR X (.builtin "len") (rLenK X.prog X.w) := by
  intro pins s σ H xs us Q I ru hq
  obtain ⟨D, acc, rfl, hD, q⟩ := hq
  cases ru with
  | cons r1 r2 =>
    cases r2
    obtain rfl : _ = Value.ref D := r1
    obtain ⟨ob, es, ep, t, ho, hex, hd, _, _, hb, hf, hn⟩ := setK_get I hD
    have hb' : es.size < 2 ^ 63 := Nat.lt_trans hb (by decide)
    refine call_len_set ho hex hd hf (by exact_mod_cast hb') ⟨.int (uq acc).length, H, I.tok _, ⟨_, by rw [hn]⟩, q⟩
/-- set(t), t a tuple of keys -/
def rSetT (K : PySem.W.Frag) (P : Program) (w : World) : List V → Hp → VK → Prop := fun xs H Q => ∃ l ks, xs = [.ref l] ∧ SqT K H l (ks.map kV) ∧ ks.length + 1 < scanBound ∧ ∀ D, H D = none → Q (.ref D) (upd H D (SetA P w D ks))
theorem cr_setT (hc : X.calm = true) : CallR X (.type "set") (rSetT X.K X.prog X.w) := by
  intro pins s σ H xs us Q I ru hq
  obtain ⟨l, ks, rfl, hl, room, q⟩ := hq
  cases ru with
  | cons r1 r2 =>
    cases r2
    obtain rfl : _ = Value.ref l := r1
    obtain ⟨its, rv, ht, _⟩ := I.tuple hl
    have hk : KeysAre X.prog X.w ks its.toArray.toList := by
      have go : ∀ (ks : List Key) (us : List Value), Vals (ks.map kV) us → KeysAre X.prog X.w ks us := by
        intro ks
        induction ks with
        | nil => intro us r; cases r; exact .nil
        | cons k ks ih =>
          intro us r
          cases r with
          | cons r rr => exact .cons r (ih _ rr)
      simpa using go ks its rv
    refine call_setK ks (I.ok.hd hc) ht hk room fun h' tk S kk => ?_
    exact ⟨.ref s.heap.objs.size, upd H s.heap.objs.size (SetA X.prog X.w s.heap.objs.size ks), I.laid (t' := tk) kk (Nat.le_refl _) (setK_new S), rfl, q _ (I.hok.fresh (Nat.le_refl _))⟩
theorem keys_of {m : Mp} {H : Hp} : ∀ {ts : List T} {vs : List V} {ks : List Key}, RTs X.K X.mg m H ts vs → keysT ts = some ks → vs = ks.map kV
  | _, _, _, .nil, e => by cases e; rfl
  | _, _, _, .cons (t := t) (ts := ts) r q, e => by
    unfold keysT at e
    cases h1 : keyT t with
    | none => rw [h1] at e; simp at e
    | some k =>
      cases h2 : keysT ts with
      | none => rw [h1, h2] at e; simp at e
      | some ks =>
        rw [h1, h2] at e
        cases e
        rw [kv_of r h1, keys_of q h2]; rfl
def oLenSet (x : T) (h : Hh) : Res T := match x with | .tup ts => bLenSet ts h | _ => .stk
theorem nx_olenset : NoX1 oLenSet := fun x h c fs h' e => by unfold oLenSet bLenSet at e; (repeat' split at e) <;> cases e
theorem de_lenSet (hc : X.calm = true) (hg : Gl X "len") (hm : X.mg "len" = none) (hg2 : Gl X "set") (hm2 : X.mg "set" = none) (ha : DE X P W a sa)
    (he : starEach [a] X.env = (false, eval a X.env) :: starEach [] X.env := by rfl) (hpl : (backTo p2 (starEach [] X.env)).any (·.1) = false := by rfl)
    (he2 : starEach [.Call (.Name "set" q2) [a] [] p2] X.env = (false, eval (.Call (.Name "set" q2) [a] [] p2) X.env) :: starEach [] X.env := by rfl) (hpl2 : (backTo pos (starEach [] X.env)).any (·.1) = false := by rfl) :
    DE X P W (.Call (.Name "len" p) [.Call (.Name "set" q2) [a] [] p2] [] pos) (s1 oLenSet sa) :=
  PE.imp (pe_callB cr_lenK hg hm boot_len (pa_cons (pe_callTy (cr_setT hc) hg2 hm2 boot_set (pa_cons ha pa_nil he) (by decide) (by decide) he hpl) pa_nil he2) (by decide) (by decide) he2 hpl2) fun σV H Q h => by
    refine tG.mono (fun v H1 hq => ?_) (one nx_olenset h)
    obtain ⟨m, h, t, r, R, o⟩ := hq
    cases r with
    | @tup l vs ts hl rr =>
      have o' : OutP X.K X.mg Q m H1 (match keysT ts with
        | some ks => if ks.length + 1 < scanBound then .ok (.int (uq ks).length) h else .stk
        | none => .stk) := o
      split at o'
      · rename_i ks hk
        split at o'
        · rename_i room
          have e := keys_of rr hk
          subst e
          refine ⟨l, ks, rfl, hl, room, fun D hD => ⟨D, ks, rfl, upd_same, ?_⟩⟩
          exact o' _ m _ (Ext.garbage R hD) (.int _) (R.garbage hD)
        · exact False.elim o'
      · exact False.elim o'
    | _ => exact False.elim o
theorem lcRun_pre {s : Src} {g : SG} {tt : ST} {te : SE} {σ : St3} : ∀ (k i : Nat) (acc : List T) (h : Hh) (ts : List T) (h' : Hh), lcRun s g tt te σ k i acc h = .ok ts h' → ∃ r, ts = acc ++ r := by
  intro k
  induction k with
  | zero =>
    intro i acc h ts h' e
    unfold lcRun at e
    split at e
    · cases e
    · cases e; exact ⟨[], by simp⟩
    · cases e
  | succ k ih =>
    intro i acc h ts h' e
    unfold lcRun at e
    split at e
    · cases e
    · cases e; exact ⟨[], by simp⟩
    · dsimp only at e
      split at e
      · cases e
      · split at e
        · split at e
          · split at e
            · split at e
              · obtain ⟨r, e2⟩ := ih _ _ _ _ _ e
                rename_i t _ _ _
                exact ⟨t :: r, by rw [e2]; simp⟩
              · cases e
            · cases e
          · exact ih _ _ _ _ _ e
        · cases e
theorem keys_pre : ∀ {as bs : List T} {ks : List Key}, keysT (as ++ bs) = some ks → ∃ k1 k2, keysT as = some k1 ∧ keysT bs = some k2 ∧ ks = k1 ++ k2
  | [], bs, ks, e => ⟨[], ks, rfl, e, rfl⟩
  | t :: as, bs, ks, e => by
    have e' : (match keyT t, keysT (as ++ bs) with | some k, some ks => some (k :: ks) | _, _ => none) = some ks := e
    cases h1 : keyT t with
    | none => rw [h1] at e'; simp at e'
    | some k =>
      cases h2 : keysT (as ++ bs) with
      | none => rw [h1, h2] at e'; simp at e'
      | some k2 =>
        rw [h1, h2] at e'
        cases e'
        obtain ⟨x1, x2, y1, y2, y3⟩ := keys_pre h2
        exact ⟨k :: x1, x2, by unfold keysT; rw [h1, y1], y2, by rw [y3]; rfl⟩
theorem lcRun_nx {s : Src} {g : SG} {tt : ST} {te : SE} {σ : St3} : ∀ (k i : Nat) (acc : List T) (h : Hh) (c : Str) (fs : List (Str × T)) (h' : Hh), lcRun s g tt te σ k i acc h ≠ .exc c fs h' := by
  intro k
  induction k with
  | zero =>
    intro i acc h c fs h' e
    unfold lcRun at e
    split at e <;> cases e
  | succ k ih =>
    intro i acc h c fs h' e
    unfold lcRun at e
    split at e
    · cases e
    · cases e
    · dsimp only at e
      split at e
      · cases e
      · split at e
        · split at e
          · split at e
            · split at e
              · exact ih _ _ _ _ _ _ e
              · cases e
            · cases e
          · exact ih _ _ _ _ _ _ e
        · cases e
theorem sk_read {is vs : List Nat} {g : SG} {tt : ST} {te : SE} (his : ∀ i ∈ is, i ∈ vs) {σV : L2.St} {H : Hp} {Q : VK} (h : tI X.K X.mg P W (sOver bLenSet (saLc si g tt te vs)) σV H Q) :
    tSk X.prog X.w (tG X.K X.mg (SrcJ X.K X.mg) P W si) (tTg X.K X.mg P is g) (tTst X.K X.mg P WF tt) (tI X.K X.mg P WF te) vs σV H (fun v H1 => rLenK X.prog X.w [v] H1 Q) := by
  obtain ⟨m, h, σ, A, o⟩ := h
  have o : Out X.K X.mg (RT X.K X.mg) W σV Q m H ((si σ h).bind fun s h1 => (lcRun s g tt te (wipeT σ vs) (s.len h1) 0 [] h1).bind bLenSet) := by
    have e : sOver bLenSet (saLc si g tt te vs) σ h = ((si σ h).bind fun s h1 => (lcRun s g tt te (wipeT σ vs) (s.len h1) 0 [] h1).bind bLenSet) := by
      unfold sOver saLc
      cases si σ h <;> rfl
    rw [e] at o; exact o
  refine A.first (rel1 := SrcJ X.K X.mg) o fun m1 h1 s J H1 E1 S A1 o1 D hD => ?_
  refine ⟨fun i k H' => ∃ m' h' acc accK, Ext m1 H1 m' H' ∧ HR X.K X.mg m' h' H' ∧ H' D = some (SetA X.prog X.w D accK) ∧ keysT acc = some accK ∧ (∀ l, m' l ≠ some D) ∧
    Out X.K X.mg (RT X.K X.mg) W σV Q m1 H1 ((lcRun s g tt te (wipeT σ vs) k i acc h').bind bLenSet), ⟨s.len h1, m1, h1, [], [], Ext.garbage A1.hr hD, A1.hr.garbage hD, upd_same, rfl, fun l e => ?_, o1⟩, ?_⟩
  · obtain ⟨u, e2, _⟩ := A1.hr.tracked e
    rw [hD] at e2; cases e2
  rintro i k H' ⟨m', h', acc, accK, E', R', hDl, hK, nD, o'⟩
  unfold lcRun at o'
  cases es : s.at h' i with
  | none => rw [es] at o'; exact False.elim o'
  | some ox =>
    cases ox with
    | none =>
      rw [es] at o'
      refine .inl ⟨S.stop m' h' H' i E'.tr R' es, D, accK, rfl, hDl, ?_⟩
      have o2 : Out X.K X.mg (RT X.K X.mg) W σV Q m1 H1 (bLenSet acc h') := o'
      unfold bLenSet at o2
      rw [hK] at o2
      dsimp only at o2
      split at o2
      · exact o2 _ m' H' E' (.int _) R'
      · exact False.elim o2
    | some x =>
      rw [es] at o'
      cases k with
      | zero => exact False.elim o'
      | succ k =>
        obtain ⟨jg, jy⟩ := S.go m' h' H' i x E'.tr R' es
        refine .inr ⟨jg, _, fun H'' q => ⟨k, Nat.lt_succ_self k, q⟩, fun y H2 hy => ?_⟩
        obtain ⟨E2, R2, rx⟩ := jy y H2 hy
        have A2 : At X.K X.mg P m' H2 (L2.wipe σV vs) (wipeT σ vs) h' := ⟨((A1.sr.ext (E'.trans E2)).wipe vs), R2, P.st (E'.trans E2) A1.pr⟩
        refine ⟨m', h', wipeT σ vs, x, A2, rx, ?_⟩
        have keepD : ∀ {m3 H3}, Ext m' H2 m3 H3 → H3 D = some (SetA X.prog X.w D accK) ∧ ∀ l, m3 l ≠ some D := fun {m3 H3} E3 => by
          have d2 : H2 D = some (SetA X.prog X.w D accK) := E2.keep D _ hDl nD
          refine ⟨E3.keep D _ d2 nD, fun l e => ?_⟩
          rcases E3.fresh l D e with z | z
          · exact nD l z
          · rw [d2] at z; cases z
        dsimp only at o'
        cases eg : g x (wipeT σ vs) with
        | none => rw [eg] at o'; exact False.elim o'
        | some σ1 =>
          rw [eg] at o'
          intro σV1 s1 only
          refine ⟨wipe_only his only, m', h', σ1, ⟨s1, R2, A2.pr⟩, ?_⟩
          dsimp only at o'
          cases et : tt σ1 h' with
          | exc c fs h3 => rw [et] at o'; exact False.elim o'
          | stk => rw [et] at o'; exact False.elim o'
          | ok b h3 =>
            rw [et] at o'
            dsimp only at o'
            intro b' m3 H3 E3 eb R3
            subst eb
            cases b with
            | false =>
              rw [if_neg Bool.false_ne_true] at o' ⊢
              obtain ⟨d3, n3⟩ := keepD E3
              exact ⟨m3, h3, acc, accK, (E'.trans E2).trans E3, R3, d3, hK, n3, o'⟩
            | true =>
              rw [if_pos rfl] at o' ⊢
              refine ⟨m3, h3, σ1, ⟨s1.ext E3, R3, P.st E3 A2.pr⟩, ?_⟩
              cases ee : te σ1 h3 with
              | exc c fs h4 => rw [ee] at o'; exact False.elim o'
              | stk => rw [ee] at o'; exact False.elim o'
              | ok t h4 =>
                rw [ee] at o'
                dsimp only at o'
                intro y' m4 H4 E4 rt R4
                obtain ⟨d4, n4⟩ := keepD (E3.trans E4)
                split at o'
                · -- the last look tells that the new item is a key
                  have key : ∃ kt, keyT t = some kt ∧ accK.length + 1 < scanBound := by
                    cases el : lcRun s g tt te (wipeT σ vs) k (i + 1) (acc ++ [t]) h4 with
                    | exc c fs h5 => exact absurd el (lcRun_nx _ _ _ _ _ _ _)
                    | stk => rw [el] at o'; exact False.elim o'
                    | ok ts h5 =>
                      rw [el] at o'
                      obtain ⟨r, er⟩ := lcRun_pre _ _ _ _ _ _ el
                      have o2 : Out X.K X.mg (RT X.K X.mg) W σV Q m1 H1 (bLenSet ts h5) := o'
                      unfold bLenSet at o2
                      cases eks : keysT ts with
                      | none => rw [eks] at o2; exact False.elim o2
                      | some ks =>
                        rw [eks] at o2
                        dsimp only at o2
                        split at o2
                        · rename_i room
                          rw [er] at eks
                          obtain ⟨k1, k2, e1, _, e3⟩ := keys_pre eks
                          obtain ⟨k3, k4, e4, e5, e6⟩ := keys_pre e1
                          rw [hK] at e4; cases e4
                          have e7 : (match keyT t, keysT [] with | some k, some ks => some (k :: ks) | _, _ => none) = some k4 := e5
                          cases hkt : keyT t with
                          | none => rw [hkt] at e7; simp at e7
                          | some kt =>
                            refine ⟨kt, rfl, ?_⟩
                            rw [e3, e6, List.length_append, List.length_append] at room
                            omega
                        · exact False.elim o2
                  obtain ⟨kt, hkt, room⟩ := key
                  have ey := kv_of rt hkt
                  refine ⟨kt, accK, ey, d4, room, m4, h4, acc ++ [t], accK ++ [kt], ?_, ?_, upd_same, ?_, n4, o'⟩
                  · exact Ext.out (((E'.trans E2).trans E3).trans E4) hD
                  · exact R4.outA d4 n4
                  · have app : ∀ (as : List T) (ks : List Key), keysT as = some ks → keysT (as ++ [t]) = some (ks ++ [kt]) := by
                      intro as
                      induction as with
                      | nil => intro ks e; cases e; show (match keyT t, keysT [] with | some k, some ks => some (k :: ks) | _, _ => none) = _; rw [hkt]; rfl
                      | cons u as ih =>
                        intro ks e
                        unfold keysT at e
                        cases h1 : keyT u with
                        | none => rw [h1] at e; simp at e
                        | some ku =>
                          cases h2 : keysT as with
                          | none => rw [h1, h2] at e; simp at e
                          | some kas =>
                            rw [h1, h2] at e; cases e
                            show (match keyT u, keysT (as ++ [t]) with | some k, some ks => some (k :: ks) | _, _ => none) = _
                            rw [h1, ih kas h2]; rfl
                    exact app acc accK hK
                · exact False.elim o'
theorem de_lenSc {elt : Expr} {ifs : List Expr} {scope : Scope} {own : List (Str × Nat)} {is : List Nat} {g : SG} {tt : ST} {te : SE} (hc : X.calm = true) (hN : X.N.Nodup) (hg' : Gl X "len") (hm : X.mg "len" = none) (hi : DI X P W tg iter si) (ok : BlkOk X.N X.env.scope scope own)
    (hg : ∀ (s : Shared) (H : Hp) (C : Addr) (cl : List (Str × Addr)) (fp : List Addr), DG (X.blk s H scope (compEnvC scope cl C X.env) fp) P tg is g)
    (ht : ∀ (s : Shared) (H : Hp) (C : Addr) (cl : List (Str × Addr)) (fp : List Addr), DTs (X.blk s H scope (compEnvC scope cl C X.env) fp) P WF ifs tt)
    (he : ∀ (s : Shared) (H : Hp) (C : Addr) (cl : List (Str × Addr)) (fp : List Addr), DE (X.blk s H scope (compEnvC scope cl C X.env) fp) P WF elt te)
    (his : ∀ i ∈ is, i ∈ own.map (·.2) := by decide) (hs : ∀ x, foldedSetIterable iter X.env x = pure x := by intro _; rfl)
    (he2 : starEach [.SetComp elt [⟨tg, iter, ifs, 0⟩] scope p2] X.env = (false, eval (.SetComp elt [⟨tg, iter, ifs, 0⟩] scope p2) X.env) :: starEach [] X.env := by rfl) (hpl2 : (backTo pos (starEach [] X.env)).any (·.1) = false := by rfl) :
    DE X P W (.Call (.Name "len" p) [.SetComp elt [⟨tg, iter, ifs, 0⟩] scope p2] [] pos) (sOver bLenSet (saLc si g tt te (own.map (·.2)))) :=
  PE.imp (pe_callB cr_lenK hg' hm boot_len (pa_cons (pe_sk (own := own) (wi := tG X.K X.mg (SrcJ X.K X.mg) P W si) (g := tTg X.K X.mg P is g) (tt := tTst X.K X.mg P WF tt) (te := tI X.K X.mg P WF te) hc hN hi ok hg ht he hs) pa_nil he2) (by decide) (by decide) he2 hpl2)
    fun σV H Q h => sk_read his h
end
end W3
end

section
/-! WO: short words for the printed derivations. -/
namespace W3
open PySem PySem.Spec PyProof.Rows
open L2
theorem hu65 {k : Nat} {A : Around} (hr : Room k A) : A.units + 65 < cLine := by have := hr.un; omega
section
variable {X : Cx} {P : Pq} {W : WX} {a b c o e : Expr} {sa sb sc so : SE} {pos pos' : Pos} {st : Stmt}
theorem dv (i : Nat) {x : Str} (hN : X.N[i]? = some x := by rfl) (hv : Vis X.env.scope x := by first | exact Or.inl rfl | exact Or.inr (Or.inl rfl) | exact Or.inr (Or.inr rfl)) (hd : (x == ("__debug__" : Str)) = false := by decide) (hcd : (x == ("__classdict__" : Str)) = false := by decide) :
    DE X P W (.Name x pos) (sVar i) := de_var hN hv hd hcd
theorem dgs {x s : Str} (hm : ∃ t, X.mg x = some (.str s t)) (hs : PyData.strOk s = true) (hg : Gl X x := by rfl) (hd : (x == ("__debug__" : Str)) = false := by decide) : DE X P W (.Name x pos) (sC (.str s)) := by
  obtain ⟨t, hm⟩ := hm
  exact de_glob (v := .str s) hg hm ⟨_, rfl⟩ (fun _ _ => .str hs) hd
theorem dgi {x : Str} {i : Int} (hm : ∃ t, X.mg x = some (.int i t)) (hg : Gl X x := by rfl) (hd : (x == ("__debug__" : Str)) = false := by decide) : DE X P W (.Name x pos) (sC (.int i)) := by
  obtain ⟨t, hm⟩ := hm
  exact de_glob (v := .int i) hg hm ⟨_, rfl⟩ (fun _ _ => .int i) hd
def ssStk : SS := fun _ _ => .stk
theorem ds_stk : DS X P W st ssStk := PS.imp ps_never fun D σV H ⟨_, _, _, _, o⟩ => o
end
/-- the script: nothing but it is tracked -/
theorem sqF_of {K : PySem.W.Frag} {H : Hp} {a : Addr} {xs : List V} (hO : Only H) (h : SqL K H a xs) : SqF K H a xs := by
  rcases h with (h | ⟨o, h⟩) | h
  · rcases hO a with z | ⟨o, ys, z⟩
    · rw [z] at h; cases h
    · rw [z] at h; cases h
  · exact .inl ⟨o, h⟩
  · exact .inr h
theorem rts_ints {K : PySem.W.Frag} {mg : Str → Option Value} {m : Mp} {H : Hp} : ∀ ns : List Int, RTs K mg m H (ns.map T.int) (ns.map V.int)
  | [] => .nil
  | n :: ns => .cons (.int n) (rts_ints ns)
/-- from the law's own run to its promise -/
theorem sp_law {K : PySem.W.Frag} {mg : Str → Option Value} {f : List T → Hh → Res T} (hf : ∀ ns : List Int, ns.length ≤ 63 → ∃ h', f [.fl (ns.map T.int)] [] = .ok (.bl true) h') {H : Hp} {a : Addr} {ns : List Int} (hl : ns.length ≤ 63) (hO : Only H)
    (hS : SqL K H a (ns.map V.int)) : spT K mg 1 f [.ref a] H (fun v _ => v = .bl true) fun _ _ _ => False := by
  refine ⟨rfl, fun _ => none, [], [.fl (ns.map T.int)], .cons (.fl (sqF_of hO hS) (rts_ints ns)) .nil, ⟨fun l a e => (by cases e), fun l l' a e => (by cases e), fun l o e => by simp at e⟩, ?_⟩
  obtain ⟨h', e⟩ := hf ns hl
  rw [e]
  intro v m' H' _ r _
  cases r
  rfl
end W3
namespace W3
open PySem PySem.Spec PyProof.Rows
open L2
/-- the law's promise, whatever the module holds -/
def spL (K : PySem.W.Frag) (f : List T → Hh → Res T) : Sp := fun vs H Q E => ∀ mg, spT K mg 1 f vs H Q E
theorem fnL {P : Program} {w : World} {K : PySem.W.Frag} {mg : Str → Option Value} {base : Heap} {CX : CXT} {k : Nat} {fa : Addr} {fd : FuncData} {ps : List Str} {f : List T → Hh → Res T} (F : FnOk P w K mg base CX k fa fd ps (spT K mg 1 f)) : FnOk P w K mg base CX k fa fd ps (spL K f) :=
  F.imp fun _ _ _ _ h => h mg
end W3
namespace W3
open PySem PySem.Spec PyProof.Rows
open L2
theorem walk3 {l : PySem.W.OpenLaw} {q : Program} {loose : List Str} {XP : (Str → Option Value) → Heap → Prop} {YP : World → Heap → Prop} {d : DefRec} {K : Params → PySem.W.Frag} {f : List T → Hh → Res T} {k : Nat} {x : Str} (hn : l.most = some 63) (hdf : d.params.defaults = []) (hr : Room k callerA)
    (hf : ∀ ns : List Int, ns.length ≤ 63 → ∃ h', f [.fl (ns.map T.int)] [] = .ok (.bl true) h')
    (hY : ∀ (w : World) (h : Heap), YP w h → (K w.params).In h)
    (F : ∀ (w : World) (mg : Str → Option Value) (fa : Addr) (h : Heap), (K w.params).In h → h.Ns mainGlobals mg → mg d.name = some (.ref fa) →
      ∃ fd : FuncData, (∀ (s : Shared) (u : Value), BindsTo s fd ⟨[u], []⟩ [(x, u)]) ∧ ∀ base : Heap, (K w.params).In base → base.Ns mainGlobals mg → FnOk l.prog w (K w.params) mg base (L2.CX l.prog w) k fa fd [x] (spL (K w.params) f)) :
    PySem.W.WalkO q loose XP YP l.row.toRowW d [] (fun f vs => PySem.call f vs) :=
  L2.walk_of (n := 63) (k := k) (x := x) (CX := fun w => L2.CX l.prog w) (sp := fun w => spL (K w.params) f) hn (by decide) hdf hr hY F (fun _ _ _ _ hl hO hS mg => sp_law hf hl hO hS) fun w H s e s' z => by
    obtain ⟨_, _, _, _, _, _, _, _, _, _, _, _, z⟩ := z
    exact z.elim
end W3
end

section
/-! WP: comprehensions with two fors. -/
namespace W3
open PySem PySem.Spec PyProof.Rows
open L2
def lc2Run (s : Src) (g : SG) (tt : ST) (si1 : SI) (g1 : SG) (tt1 : ST) (te : SE) (vs1 : List Nat) (σ : St3) : Nat → Nat → List T → Hh → Res (List T)
  | k, i, acc, h => match s.at h i with
    | none => .stk
    | some none => .ok acc h
    | some (some x) => match k with
      | 0 => .stk
      | k + 1 => match g x σ with
        | none => .stk
        | some σ1 => match tt σ1 h with
          | .ok b h1 => if b = true then (match si1 σ1 h1 with
              | .ok s1 h2 => (match lcRun s1 g1 tt1 te (wipeT σ1 vs1) (s1.len h2) 0 acc h2 with
                | .ok acc' h3 => lc2Run s g tt si1 g1 tt1 te vs1 σ k (i + 1) acc' h3
                | _ => .stk)
              | _ => .stk) else lc2Run s g tt si1 g1 tt1 te vs1 σ k (i + 1) acc h1
          | _ => .stk
/-- the items of [te for g in si if tt for g1 in si1 if tt1] -/
def saLc2 (si : SI) (g : SG) (tt : ST) (si1 : SI) (g1 : SG) (tt1 : ST) (te : SE) (vs vs1 : List Nat) : SA := fun σ h => (si σ h).bind fun s h1 => lc2Run s g tt si1 g1 tt1 te vs1 (wipeT σ vs) (s.len h1) 0 [] h1
section
variable {X : Cx} {P : Pq} {W : WX} {a b c tg iter tg1 iter1 : Expr} {sa sb sc : SE} {pos : Pos} {es : List Expr} {ar : SA} {si si1 : SI} {ta tb : ST} {rest : List Expr}
theorem SR.tr' {m m' : Mp} {H H' : Hp} {σ : St3} {σV : L2.St} (r : SR X.K X.mg m H σ σV) (E : Tr m H m' H') : SR X.K X.mg m' H' σ σV := ⟨r.1, fun i t e => by
  obtain ⟨v, q, z⟩ := r.2 i t e
  exact ⟨v, q, z.tr E⟩⟩
theorem lc2_read {is is1 vs vs1 : List Nat} {g g1 : SG} {tt tt1 : ST} {te : SE} (his : ∀ i ∈ is, i ∈ vs) (his1 : ∀ i ∈ is1, i ∈ vs1) {σV : L2.St} {H : Hp} {Q : VK} (h : tL X.K X.mg P W (saLc2 si g tt si1 g1 tt1 te vs vs1) σV H Q) :
    tLc2 (tG X.K X.mg (SrcJ X.K X.mg) P W si) (tTg X.K X.mg P is g) (tTst X.K X.mg P WF tt) (tG X.K X.mg (SrcJ X.K X.mg) P WF si1) (tTg X.K X.mg P is1 g1) (tTst X.K X.mg P WF tt1) (tI X.K X.mg P WF te) vs vs1 σV H Q := by
  obtain ⟨m, h, σ, A, o⟩ := h
  refine A.first (rel1 := SrcJ X.K X.mg) o fun m1 h1 s J H1 E1 S A1 o1 D hD => ?_
  have hD0 : H D = none := by
    cases q : H D with
    | none => rfl
    | some u =>
      obtain ⟨w, e⟩ := E1.live D u q
      rw [hD] at e; cases e
  refine ⟨fun i k H' => ∃ m' h' acc accV, Ext m1 H1 m' H' ∧ HR X.K X.mg m' h' H' ∧ H' D = some (.lst accV) ∧ RTs X.K X.mg m' H' acc accV ∧ (∀ l, m' l ≠ some D) ∧
    Out X.K X.mg (relL X.K X.mg H) W σV Q m1 H1 (lc2Run s g tt si1 g1 tt1 te vs1 (wipeT σ vs) k i acc h'), ⟨s.len h1, m1, h1, [], [], Ext.garbage A1.hr hD, A1.hr.garbage hD, upd_same, .nil, fun l e => ?_, o1⟩, ?_⟩
  · obtain ⟨u, e2, _⟩ := A1.hr.tracked e
    rw [hD] at e2; cases e2
  rintro i k H' ⟨m', h', acc, accV, E', R', hDl, racc, nD, o'⟩
  unfold lc2Run at o'
  cases es : s.at h' i with
  | none => rw [es] at o'; exact False.elim o'
  | some ox =>
    cases ox with
    | none =>
      rw [es] at o'
      exact .inl ⟨S.stop m' h' H' i E'.tr R' es, o' _ m' H' E' ⟨D, accV, rfl, hD0, hDl, racc, nD⟩ R'⟩
    | some x =>
      rw [es] at o'
      cases k with
      | zero => exact False.elim o'
      | succ k =>
        obtain ⟨jg, jy⟩ := S.go m' h' H' i x E'.tr R' es
        refine .inr ⟨jg, _, fun H'' q => ⟨k, Nat.lt_succ_self k, q⟩, fun y H2 hy => ?_⟩
        obtain ⟨E2, R2, rx⟩ := jy y H2 hy
        have A2 : At X.K X.mg P m' H2 (L2.wipe σV vs) (wipeT σ vs) h' := ⟨((A1.sr.ext (E'.trans E2)).wipe vs), R2, P.st (E'.trans E2) A1.pr⟩
        refine ⟨m', h', wipeT σ vs, x, A2, rx, ?_⟩
        have keepD : ∀ {m3 H3}, Ext m' H2 m3 H3 → H3 D = some (.lst accV) ∧ ∀ l, m3 l ≠ some D := fun {m3 H3} E3 => by
          have d2 : H2 D = some (.lst accV) := E2.keep D _ hDl nD
          refine ⟨E3.keep D _ d2 nD, fun l e => ?_⟩
          rcases E3.fresh l D e with z | z
          · exact nD l z
          · rw [d2] at z; cases z
        dsimp only at o'
        cases eg : g x (wipeT σ vs) with
        | none => rw [eg] at o'; exact False.elim o'
        | some σ1 =>
          rw [eg] at o'
          intro σV1 s1 only
          refine ⟨wipe_only his only, m', h', σ1, ⟨s1, R2, A2.pr⟩, ?_⟩
          dsimp only at o'
          cases et : tt σ1 h' with
          | exc c fs h3 => rw [et] at o'; exact False.elim o'
          | stk => rw [et] at o'; exact False.elim o'
          | ok b h3 =>
            rw [et] at o'
            dsimp only at o'
            intro b' m3 H3 E3 eb R3
            subst eb
            cases b with
            | false =>
              rw [if_neg Bool.false_ne_true] at o' ⊢
              obtain ⟨d3, n3⟩ := keepD E3
              exact ⟨m3, h3, acc, accV, (E'.trans E2).trans E3, R3, d3, (racc.ext E2).ext E3, n3, o'⟩
            | true =>
              rw [if_pos rfl] at o' ⊢
              have A3 : At X.K X.mg P m3 H3 σV1 σ1 h3 := ⟨s1.ext E3, R3, P.st E3 A2.pr⟩
              refine ⟨m3, h3, σ1, A3, ?_⟩
              cases ei : si1 σ1 h3 with
              | exc c fs h4 => rw [ei] at o'; exact False.elim o'
              | stk => rw [ei] at o'; exact False.elim o'
              | ok sr1 h4 =>
                rw [ei] at o'
                dsimp only at o'
                intro J1 m4 H4 E4 S1 R4
                obtain ⟨d4, n4⟩ := keepD (E3.trans E4)
                have A4 : At X.K X.mg P m4 H4 σV1 σ1 h4 := A3.ext E4 R4
                have E14 : Ext m1 H1 m4 H4 := ((E'.trans E2).trans E3).trans E4
                refine ⟨fun j kk H' => ∃ m' h' acc accV, Ext m1 H1 m' H' ∧ Tr m4 H4 m' H' ∧ HR X.K X.mg m' h' H' ∧ H' D = some (.lst accV) ∧ RTs X.K X.mg m' H' acc accV ∧ (∀ l, m' l ≠ some D) ∧
                  Out X.K X.mg (relL X.K X.mg H) W σV Q m1 H1 (match lcRun sr1 g1 tt1 te (wipeT σ1 vs1) kk j acc h' with
                    | .ok acc' h3 => lc2Run s g tt si1 g1 tt1 te vs1 (wipeT σ vs) k (i + 1) acc' h3
                    | _ => .stk), ⟨sr1.len h4, m4, h4, acc, accV, E14, Tr.refl, R4, d4, ((racc.ext E2).ext E3).ext E4, n4, o'⟩, ?_⟩
                rintro j kk H5 ⟨m5, h5, acc5, accV5, E5, T5, R5, d5, racc5, n5, o5⟩
                unfold lcRun at o5
                cases es1 : sr1.at h5 j with
                | none => rw [es1] at o5; exact False.elim o5
                | some ox1 =>
                  cases ox1 with
                  | none =>
                    rw [es1] at o5
                    exact .inl ⟨S1.stop m5 h5 H5 j T5 R5 es1, m5, h5, acc5, accV5, E5, R5, d5, racc5, n5, o5⟩
                  | some x1 =>
                    rw [es1] at o5
                    cases kk with
                    | zero => exact False.elim o5
                    | succ kk =>
                      obtain ⟨jg1, jy1⟩ := S1.go m5 h5 H5 j x1 T5 R5 es1
                      refine .inr ⟨jg1, _, fun H'' q => ⟨kk, Nat.lt_succ_self kk, q⟩, fun y1 H6 hy1 => ?_⟩
                      obtain ⟨E6, R6, rx1⟩ := jy1 y1 H6 hy1
                      have sr6 : SR X.K X.mg m5 H6 σ1 σV1 := (A4.sr.tr' T5).ext E6
                      have A6 : At X.K X.mg P m5 H6 (L2.wipe σV1 vs1) (wipeT σ1 vs1) h5 := ⟨sr6.wipe vs1, R6, P.st (E5.trans E6) A1.pr⟩
                      refine ⟨m5, h5, wipeT σ1 vs1, x1, A6, rx1, ?_⟩
                      have keep5 : ∀ {m7 H7}, Ext m5 H6 m7 H7 → H7 D = some (.lst accV5) ∧ ∀ l, m7 l ≠ some D := fun {m7 H7} E7 => by
                        have d6 : H6 D = some (.lst accV5) := E6.keep D _ d5 n5
                        refine ⟨E7.keep D _ d6 n5, fun l e => ?_⟩
                        rcases E7.fresh l D e with z | z
                        · exact n5 l z
                        · rw [d6] at z; cases z
                      dsimp only at o5
                      cases eg1 : g1 x1 (wipeT σ1 vs1) with
                      | none => rw [eg1] at o5; exact False.elim o5
                      | some σ2 =>
                        rw [eg1] at o5
                        intro σV2 s2 only1
                        refine ⟨wipe_only his1 only1, m5, h5, σ2, ⟨s2, R6, A6.pr⟩, ?_⟩
                        dsimp only at o5
                        cases et1 : tt1 σ2 h5 with
                        | exc c fs h7 => rw [et1] at o5; exact False.elim o5
                        | stk => rw [et1] at o5; exact False.elim o5
                        | ok b h7 =>
                          rw [et1] at o5
                          dsimp only at o5
                          intro b' m7 H7 E7 eb R7
                          subst eb
                          cases b with
                          | false =>
                            rw [if_neg Bool.false_ne_true] at o5 ⊢
                            obtain ⟨d7, n7⟩ := keep5 E7
                            exact ⟨m7, h7, acc5, accV5, (E5.trans E6).trans E7, (T5.trans E6.tr).trans E7.tr, R7, d7, (racc5.ext E6).ext E7, n7, o5⟩
                          | true =>
                            rw [if_pos rfl] at o5 ⊢
                            refine ⟨m7, h7, σ2, ⟨s2.ext E7, R7, P.st E7 A6.pr⟩, ?_⟩
                            cases ee : te σ2 h7 with
                            | exc c fs h8 => rw [ee] at o5; exact False.elim o5
                            | stk => rw [ee] at o5; exact False.elim o5
                            | ok t h8 =>
                              rw [ee] at o5
                              dsimp only at o5
                              intro y' m8 H8 E8 rt R8
                              obtain ⟨d8, n8⟩ := keep5 (E7.trans E8)
                              by_cases hz : acc5.length < sizeLine
                              · rw [if_pos hz] at o5
                                refine ⟨accV5, d8, by rw [← racc5.length]; exact hz, m8, h8, acc5 ++ [t], accV5 ++ [y'], ?_, ?_, R8.out d8 n8, upd_same, ?_, n8, o5⟩
                                · exact Ext.out (((E5.trans E6).trans E7).trans E8) hD
                                · exact ((((T5.trans E6.tr).trans E7.tr).trans E8.tr)).trans (Tr.out d8)
                                · have r8 := (((racc5.ext E6).ext E7).ext E8).append (.cons rt .nil)
                                  exact r8.tr (Tr.out d8)
                              · rw [if_neg hz] at o5
                                exact False.elim o5
theorem dl_lc2 {elt : Expr} {ifs ifs1 : List Expr} {scope : Scope} {own : List (Str × Nat)} {is is1 vs1 : List Nat} {g g1 : SG} {tt tt1 : ST} {te : SE} (hc : X.calm = true) (hN : X.N.Nodup) (hi : DI X P W tg iter si) (ok : BlkOk X.N X.env.scope scope own)
    (hg : ∀ (s : Shared) (H : Hp) (C : Addr) (cl : List (Str × Addr)) (fp : List Addr), DG (X.blk s H scope (compEnvC scope cl C X.env) fp) P tg is g)
    (ht : ∀ (s : Shared) (H : Hp) (C : Addr) (cl : List (Str × Addr)) (fp : List Addr), DTs (X.blk s H scope (compEnvC scope cl C X.env) fp) P WF ifs tt)
    (hi1 : ∀ (s : Shared) (H : Hp) (C : Addr) (cl : List (Str × Addr)) (fp : List Addr), DI (X.blk s H scope (compEnvC scope cl C X.env) fp) P WF tg1 iter1 si1)
    (hg1 : ∀ (s : Shared) (H : Hp) (C : Addr) (cl : List (Str × Addr)) (fp : List Addr), DG (X.blk s H scope (compEnvC scope cl C X.env) fp) P tg1 is1 g1)
    (ht1 : ∀ (s : Shared) (H : Hp) (C : Addr) (cl : List (Str × Addr)) (fp : List Addr), DTs (X.blk s H scope (compEnvC scope cl C X.env) fp) P WF ifs1 tt1)
    (he : ∀ (s : Shared) (H : Hp) (C : Addr) (cl : List (Str × Addr)) (fp : List Addr), DE (X.blk s H scope (compEnvC scope cl C X.env) fp) P WF elt te)
    (his : ∀ i ∈ is, i ∈ own.map (·.2) := by decide) (his1 : ∀ i ∈ is1, i ∈ vs1 := by decide) (hv : ∀ i ∈ vs1, i ∈ own.map (·.2) := by decide) (hs : ∀ x, foldedSetIterable iter X.env x = pure x := by intro _; rfl) (hs1 : ∀ env x, foldedSetIterable iter1 env x = pure x := by intro _ _; rfl) :
    DL X P W (.ListComp elt [⟨tg, iter, ifs, 0⟩, ⟨tg1, iter1, ifs1, 0⟩] scope pos) (saLc2 si g tt si1 g1 tt1 te (own.map (·.2)) vs1) := by
  exact PE.imp (pe_lc2 (own := own) (vs1 := vs1) (wi := tG X.K X.mg (SrcJ X.K X.mg) P W si) (g := tTg X.K X.mg P is g) (tt := tTst X.K X.mg P WF tt) (wi1 := tG X.K X.mg (SrcJ X.K X.mg) P WF si1) (g1 := tTg X.K X.mg P is1 g1) (tt1 := tTst X.K X.mg P WF tt1) (te := tI X.K X.mg P WF te) hc hN hi ok hv hg ht hi1 hg1 ht1 he hs hs1) fun σV H Q h => lc2_read his his1 h
/-- name = [.. for .. for ..] on one line -/
theorem ds_setLc2 {i : Nat} {y : Str} {py : Pos} {elt : Expr} {ifs ifs1 : List Expr} {scope : Scope} {own : List (Str × Nat)} {spos : Pos} {is is1 vs1 : List Nat} {g g1 : SG} {tt tt1 : ST} {te : SE} (hc : X.calm = true) (hN : X.N.Nodup) (hy : X.N[i]? = some y) (hyl : X.env.scope.names.lookup y = some .local)
    (hsw : swapsWith (.ListComp elt [⟨tg, iter, ifs, 0⟩, ⟨tg1, iter1, ifs1, 0⟩] scope pos) (some (.Name y py)) spos.line X.env = pure true) (hi : DI X P W tg iter si) (ok : BlkOk X.N X.env.scope scope own)
    (hg : ∀ (s : Shared) (H : Hp) (C : Addr) (cl : List (Str × Addr)) (fp : List Addr), DG (X.blk s H scope (compEnvC scope cl C X.env) fp) P tg is g)
    (ht : ∀ (s : Shared) (H : Hp) (C : Addr) (cl : List (Str × Addr)) (fp : List Addr), DTs (X.blk s H scope (compEnvC scope cl C X.env) fp) P WF ifs tt)
    (hi1 : ∀ (s : Shared) (H : Hp) (C : Addr) (cl : List (Str × Addr)) (fp : List Addr), DI (X.blk s H scope (compEnvC scope cl C X.env) fp) P WF tg1 iter1 si1)
    (hg1 : ∀ (s : Shared) (H : Hp) (C : Addr) (cl : List (Str × Addr)) (fp : List Addr), DG (X.blk s H scope (compEnvC scope cl C X.env) fp) P tg1 is1 g1)
    (ht1 : ∀ (s : Shared) (H : Hp) (C : Addr) (cl : List (Str × Addr)) (fp : List Addr), DTs (X.blk s H scope (compEnvC scope cl C X.env) fp) P WF ifs1 tt1)
    (he : ∀ (s : Shared) (H : Hp) (C : Addr) (cl : List (Str × Addr)) (fp : List Addr), DE (X.blk s H scope (compEnvC scope cl C X.env) fp) P WF elt te)
    (his : ∀ i ∈ is, i ∈ own.map (·.2) := by decide) (his1 : ∀ i ∈ is1, i ∈ vs1 := by decide) (hv : ∀ i ∈ vs1, i ∈ own.map (·.2) := by decide) (hs : ∀ x, foldedSetIterable iter X.env x = pure x := by intro _; rfl) (hs1 : ∀ env x, foldedSetIterable iter1 env x = pure x := by intro _ _; rfl) :
    DS X P W (.Assign [.Name y py] (.ListComp elt [⟨tg, iter, ifs, 0⟩, ⟨tg1, iter1, ifs1, 0⟩] scope pos) spos) (ssAsg (sLc (saLc2 si g tt si1 g1 tt1 te (own.map (·.2)) vs1)) (sgName i)) := by
  refine PS.imp (ps_setLc2 (own := own) (i := i) (vs1 := vs1) (wi := tG X.K X.mg (SrcJ X.K X.mg) P W si) (g := tTg X.K X.mg P is g) (tt := tTst X.K X.mg P WF tt) (wi1 := tG X.K X.mg (SrcJ X.K X.mg) P WF si1) (g1 := tTg X.K X.mg P is1 g1) (tt1 := tTst X.K X.mg P WF tt1) (te := tI X.K X.mg P WF te) hc hN hy hyl hsw hi ok hv hg ht hi1 hg1 ht1 he hs hs1) fun D σV H h => ?_
  refine lc2_read his his1 (lc_keep ?_)
  obtain ⟨m, h, σ, A, o⟩ := h
  refine A.flo (rel1 := RT X.K X.mg) o fun m1 h1 t x H1 E1 r A1 o1 => ?_
  exact o1 _ m1 H1 (Ext.refl _ _) (A1.sr.set r i) A1.hr
end
/-! ### isinstance(x, (k1, k2)) -/
section
variable {X : Cx} {P : Pq} {W : WX} {a b c o e : Expr} {sa sb sc so : SE} {pos pos' apos cpos tpos p p2 p3 : Pos} {es : List Expr} {ar : SA}
def isK2 (k1 k2 : Kd) (x : T) (h : Hh) : Option Bool := match isK k1 x h, isK k2 x h with | some a, some b => some (a || b) | _, _ => none
def oIsK2 (k1 k2 : Kd) (x : T) (h : Hh) : Res T := match isK2 k1 k2 x h with | some b => .ok (.bl b) h | none => .stk
theorem nx_isk2 (k1 k2 : Kd) : NoX1 (oIsK2 k1 k2) := fun x h c fs h' e => by unfold oIsK2 at e; (repeat' split at e) <;> cases e
theorem ty_of2 {m : Mp} {H : Hp} {h : Hh} {t : T} {v : V} {k1 k2 : Kd} {r : Bool} (R : HR X.K X.mg m h H) (q : RT X.K X.mg m H t v) (e : isK2 k1 k2 t h = some r) : ∃ n : String, TyX X.K H v (.type n) ∧ ∃ r1 r2, kitB n k1.nm = some r1 ∧ kitB n k2.nm = some r2 ∧ r = (r1 || r2) := by
  unfold isK2 at e
  split at e
  · rename_i ra rb e1 e2
    cases e
    have key : ∃ n : String, TyX X.K H v (.type n) ∧ ∀ k r, isK k t h = some r → kitB n k.nm = some r := by
      cases q with
      | non => exact ⟨_, .base .non, fun k r e => by cases e; cases k <;> decide +kernel⟩
      | bl b => exact ⟨_, .base (.bl b), fun k r e => by cases e; cases k <;> decide +kernel⟩
      | int b => exact ⟨_, .base (.int b), fun k r e => by cases e; cases k <;> decide +kernel⟩
      | str b => exact ⟨_, .base (.str _), fun k r e => by cases e; cases k <;> decide +kernel⟩
      | @tup a vs ts hq _ =>
        refine ⟨"tuple", ?_, fun k r e => by cases e; cases k <;> decide +kernel⟩
        rcases hq with (z | ⟨ob, z⟩) | ⟨ob, its, n, hk, hc, _⟩
        · exact .base (.tup z)
        · exact .fTuple z
        · exact .kTuple hk hc
      | @fl a vs ts hq _ =>
        refine ⟨"list", ?_, fun k r e => by cases e; cases k <;> decide +kernel⟩
        rcases hq with ⟨ob, z⟩ | ⟨ob, its, n, hk, hc, _⟩
        · exact .base (.frz z)
        · exact .kList hk hc
      | @ref l a e3 =>
        have e' : (match h[l]? with
          | some (.lst _) => some (k1 == .list)
          | some (.dic _) => some (k1 == .dict)
          | some (.ins _ _) => none
          | none => none) = some ra := e1
        split at e'
        · rename_i ts q1
          obtain ⟨b, e4, vs, g, _⟩ := R.ob l _ q1
          rw [e3] at e4; cases e4
          refine ⟨"list", .base (.lst g), fun k r e => ?_⟩
          have e5 : (match h[l]? with
            | some (.lst _) => some (k == .list)
            | some (.dic _) => some (k == .dict)
            | some (.ins _ _) => none
            | none => none) = some r := e
          rw [q1] at e5
          cases e5; cases k <;> decide +kernel
        · rename_i ts q1
          obtain ⟨b, e4, _, g⟩ := R.ob l _ q1
          rw [e3] at e4; cases e4
          refine ⟨"dict", .base (.dK g), fun k r e => ?_⟩
          have e5 : (match h[l]? with
            | some (.lst _) => some (k == .list)
            | some (.dic _) => some (k == .dict)
            | some (.ins _ _) => none
            | none => none) = some r := e
          rw [q1] at e5
          cases e5; cases k <;> decide +kernel
        · cases e'
        · cases e'
      | cls _ => cases e1
    obtain ⟨n, ty, kk⟩ := key
    exact ⟨n, ty, ra, rb, kk _ _ e1, kk _ _ e2, rfl⟩
  · cases e
theorem de_isk2 (k1 k2 : Kd) {x1 x2 : Str} {q : Nat} (hx1 : bootBuiltins x1 = some (.type k1.nm)) (hx2 : bootBuiltins x2 = some (.type k2.nm)) (hg : Gl X "isinstance") (hm : X.mg "isinstance" = none) (hg1 : Gl X x1) (hm1 : X.mg x1 = none) (hg2 : Gl X x2) (hm2 : X.mg x2 = none) (ha : DE X P W a sa)
    (hn1 : x1 ≠ "__name__" := by decide) (hd1 : (x1 == ("__debug__" : Str)) = false := by decide) (hn2 : x2 ≠ "__name__" := by decide) (hd2 : (x2 == ("__debug__" : Str)) = false := by decide)
    (he : starEach [a, .Tuple [.Name x1 p2, .Name x2 p3] q tpos] X.env = (false, eval a X.env) :: starEach [.Tuple [.Name x1 p2, .Name x2 p3] q tpos] X.env := by rfl) (hpl : (backTo pos (starEach [.Tuple [.Name x1 p2, .Name x2 p3] q tpos] X.env)).any (·.1) = false := by rfl)
    (hs1 : starEach [.Tuple [.Name x1 p2, .Name x2 p3] q tpos] X.env = (false, eval (.Tuple [.Name x1 p2, .Name x2 p3] q tpos) X.env) :: starEach [] X.env := by rfl)
    (hs2 : starEach [.Name x1 p2, .Name x2 p3] X.env = (false, eval (.Name x1 p2) X.env) :: starEach [.Name x2 p3] X.env := by rfl) (hs3 : starEach [.Name x2 p3] X.env = (false, eval (.Name x2 p3) X.env) :: starEach [] X.env := by rfl) :
    DE X P W (.Call (.Name "isinstance" p) [a, .Tuple [.Name x1 p2, .Name x2 p3] q tpos] [] pos) (s1 (oIsK2 k1 k2) sa) :=
  PE.imp (pe_callB call_isiT hg hm boot_isinstance (pa_cons ha (pa_cons (pe_tup (pa_cons (pe_bltn (v := .ty k1.nm) hg1 hm1 hx1 rfl hn1 hd1) (pa_cons (pe_bltn (v := .ty k2.nm) hg2 hm2 hx2 rfl hn2 hd2) pa_nil hs3) hs2)) pa_nil hs1) he) (by decide) (by decide) he hpl) fun σV H Q h => by
    refine tG.mono (fun v H1 hq => ?_) (one (nx_isk2 k1 k2) h)
    obtain ⟨m, h, t, r, R, o⟩ := hq
    unfold oIsK2 at o
    split at o
    · rename_i b e
      obtain ⟨n, ty, r1, r2, kb1, kb2, rfl⟩ := ty_of2 R r e
      refine ⟨by show 2 ≤ sizeLine; decide, fun p hp => ?_⟩
      have E := Ext.garbage (p := p) (o := .tup [.ty k1.nm, .ty k2.nm]) R hp
      obtain ⟨n', ty', r1', r2', kb1', kb2', e'⟩ := ty_of2 (R.garbage (o := .tup [.ty k1.nm, .ty k2.nm]) hp) (r.ext E) e
      refine ⟨v, p, [.ty k1.nm, .ty k2.nm], .type n', [.type k1.nm, .type k2.nm], r1' || r2', rfl, upd_same, .cons (.ty _) (.cons (.ty _) .nil), ty', ?_, ?_⟩
      · exact kitAny_cons (kit_ty kb1') (fun z => kitAny_cons (kit_ty kb2') (fun z2 => by rw [z, z2]; exact kitAny_nil) (fun z2 => by rw [z2]; cases r1' <;> rfl)) (fun z => by rw [z]; rfl)
      · rw [← e']; exact o _ m _ E (.bl _) (R.garbage hp)
    · exact False.elim o
end
end W3
end

section
/-! PA: how the combinators run; loops with what they keep. No model here. -/
namespace W3
open PySem
theorem sz : sizeLine = 16777216 := by decide +kernel
@[simp] theorem sz_0 : 0 ≤ sizeLine := by decide +kernel
@[simp] theorem sz_1 : 1 ≤ sizeLine := by decide +kernel
@[simp] theorem sz_2 : 2 ≤ sizeLine := by decide +kernel
@[simp] theorem sz_3 : 3 ≤ sizeLine := by decide +kernel
@[simp] theorem sz_4 : 4 ≤ sizeLine := by decide +kernel
@[simp] theorem sz_5 : 5 ≤ sizeLine := by decide +kernel
@[simp] theorem sz_6 : 6 ≤ sizeLine := by decide +kernel
@[simp] theorem sz_7 : 7 ≤ sizeLine := by decide +kernel
@[simp] theorem sz_8 : 8 ≤ sizeLine := by decide +kernel
@[simp] theorem sz_9 : 9 ≤ sizeLine := by decide +kernel
@[simp] theorem sz_10 : 10 ≤ sizeLine := by decide +kernel
@[simp] theorem sz_11 : 11 ≤ sizeLine := by decide +kernel
@[simp] theorem sz_12 : 12 ≤ sizeLine := by decide +kernel
@[simp] theorem sz_13 : 13 ≤ sizeLine := by decide +kernel
@[simp] theorem sz_14 : 14 ≤ sizeLine := by decide +kernel
@[simp] theorem sz_15 : 15 ≤ sizeLine := by decide +kernel
@[simp] theorem sz_16 : 16 ≤ sizeLine := by decide +kernel
@[simp] theorem sz_17 : 17 ≤ sizeLine := by decide +kernel
@[simp] theorem sz_18 : 18 ≤ sizeLine := by decide +kernel
@[simp] theorem sz_19 : 19 ≤ sizeLine := by decide +kernel
@[simp] theorem sz_20 : 20 ≤ sizeLine := by decide +kernel
@[simp] theorem sz_21 : 21 ≤ sizeLine := by decide +kernel
@[simp] theorem sz_22 : 22 ≤ sizeLine := by decide +kernel
@[simp] theorem sz_23 : 23 ≤ sizeLine := by decide +kernel
@[simp] theorem sz_24 : 24 ≤ sizeLine := by decide +kernel
@[simp] theorem sz_25 : 25 ≤ sizeLine := by decide +kernel
@[simp] theorem sz_26 : 26 ≤ sizeLine := by decide +kernel
@[simp] theorem sz_ne : (sizeLine = 0) = False := by rw [sz]; simp
@[simp] theorem sz_lt1 : 0 < sizeLine := by decide +kernel
theorem szle {n : Nat} (h : n ≤ 16777216) : n ≤ sizeLine := by rw [sz]; exact h
theorem szlt {n : Nat} (h : n < 16777216) : n < sizeLine := by rw [sz]; exact h
/-- x is an instance of c, m its class's own -/
def mOk (c m : Str) (x : T) (h : Hh) : Bool := match x with
  | .ref l => match insAt h l with
    | some (d, fs) => decide (d = c ∧ fs.lookup m = none)
    | none => false
  | _ => false
/-- x.f = y -/
def fSet (cs : List (Str × List Str)) (x : T) (f : Str) (y : T) (σ : St3) (h2 : Hh) : Flo := match x with
  | .ref l => match insAt h2 l with
    | some (c, fs) => match cs.lookup c with
      | some as => if as.contains f && decide (fs.length < 1000) then .nx σ (h2.set l (.ins c (putT f y fs))) else .stk
      | none => .stk
    | none => .stk
  | _ => .stk
section
variable {σ : St3} {h : Hh}
@[simp] theorem e_sC (t : T) : sC t σ h = .ok t h := Eq.trans rfl rfl
@[simp] theorem e_s1 (f : T → Hh → Res T) (a : SE) : s1 f a σ h = (a σ h).bind f := Eq.trans rfl rfl
@[simp] theorem e_s2 (f : T → T → Hh → Res T) (a b : SE) : s2 f a b σ h = (a σ h).bind fun x h1 => (b σ h1).bind fun y h2 => f x y h2 := Eq.trans rfl rfl
@[simp] theorem e_sVar (i : Nat) : sVar i σ h = match σ[i]? with | some (some t) => .ok t h | _ => .stk := Eq.trans rfl rfl
@[simp] theorem e_sT (a : SE) : sT a σ h = (a σ h).bind fun x h1 => match x with | .bl b => .ok b h1 | _ => .stk := Eq.trans rfl rfl
@[simp] theorem e_stAnd (a b : ST) : stAnd a b σ h = (a σ h).bind fun x h1 => if x = true then b σ h1 else .ok false h1 := Eq.trans rfl rfl
@[simp] theorem e_stOr (a b : ST) : stOr a b σ h = (a σ h).bind fun x h1 => if x = true then .ok true h1 else b σ h1 := Eq.trans rfl rfl
@[simp] theorem e_stNot (a : ST) : stNot a σ h = (a σ h).bind fun x h1 => .ok (!x) h1 := Eq.trans rfl rfl
@[simp] theorem e_sB (a : ST) : sB a σ h = (a σ h).bind fun x h1 => .ok (.bl x) h1 := Eq.trans rfl rfl
@[simp] theorem e_sIf (c : ST) (a b : SE) : sIf c a b σ h = (c σ h).bind fun x h1 => if x = true then a σ h1 else b σ h1 := Eq.trans rfl rfl
@[simp] theorem e_sChain (f g : T → T → Hh → Res T) (a b c : SE) : sChain f g a b c σ h = (a σ h).bind fun x h1 => (b σ h1).bind fun y h2 => (f x y h2).bind fun z h3 => match z with
  | .bl k => if k = true then (c σ h3).bind fun w h4 => g y w h4 else .ok (.bl false) h3
  | _ => .stk := Eq.trans rfl rfl
@[simp] theorem e_saNil : saNil σ h = .ok [] h := Eq.trans rfl rfl
@[simp] theorem e_saCons (a : SE) (r : SA) : saCons a r σ h = (a σ h).bind fun x h1 => (r σ h1).bind fun xs h2 => .ok (x :: xs) h2 := Eq.trans rfl rfl
@[simp] theorem e_sTup (a : SA) : sTup a σ h = (a σ h).bind fun xs h1 => if xs.length ≤ sizeLine then .ok (.tup xs) h1 else .stk := Eq.trans rfl rfl
@[simp] theorem e_sLst (a : SA) : sLst a σ h = (a σ h).bind fun xs h1 => if xs.length ≤ sizeLine then alloc (.lst xs) h1 else .stk := Eq.trans rfl rfl
@[simp] theorem e_sCl (f : List T → Hh → Res T) (a : SA) : sCl f a σ h = (a σ h).bind f := Eq.trans rfl rfl
@[simp] theorem e_sOver (f : List T → Hh → Res T) (a : SA) : sOver f a σ h = (a σ h).bind f := Eq.trans rfl rfl
@[simp] theorem e_sLc (a : SA) : sLc a σ h = (a σ h).bind fun xs h1 => alloc (.lst xs) h1 := Eq.trans rfl rfl
@[simp] theorem e_sMt (f : T → List T → Hh → Res T) (o : SE) (a : SA) : sMt f o a σ h = (o σ h).bind fun x h1 => (a σ h1).bind fun xs h2 => f x xs h2 := Eq.trans rfl rfl
@[simp] theorem e_sMtL (f : T → List T → Hh → Res T) (o : SE) (a : SA) : sMtL f o a σ h = (o σ h).bind fun x h1 => if isL x h1 = true then (a σ h1).bind fun xs h2 => f x xs h2 else .stk := Eq.trans rfl rfl
@[simp] theorem e_soNone : soNone σ h = .ok none h := Eq.trans rfl rfl
@[simp] theorem e_soSome (a : SE) : soSome a σ h = (a σ h).bind fun x h1 => match x with | .int i => .ok (some i) h1 | _ => .stk := Eq.trans rfl rfl
@[simp] theorem e_sSl (a : SE) (lo hi : SO) : sSl a lo hi σ h = (a σ h).bind fun x h1 => (lo σ h1).bind fun l h2 => (hi σ h2).bind fun u h3 => oSl x l u h3 := Eq.trans rfl rfl
@[simp] theorem e_sDic0 : sDic0 σ h = alloc (.dic []) h := Eq.trans rfl rfl
@[simp] theorem e_alloc (o : Ob) : alloc o h = .ok (.ref h.length) (h ++ [o]) := Eq.trans rfl rfl
@[simp] theorem e_arN (n : Nat) (f : List T → Hh → Res T) (xs : List T) : arN n f xs h = if xs.length = n then f xs h else .stk := Eq.trans rfl rfl
@[simp] theorem e_siE (a : SE) : siE a σ h = (a σ h).bind srcOf := Eq.trans rfl rfl
@[simp] theorem e_siRange1 (a : SA) : siRange1 a σ h = (a σ h).bind rngOf := Eq.trans rfl rfl
@[simp] theorem e_rng {j : Int} (h0 : -1000000 ≤ j) (h2 : j ≤ 1000000) : rngOf [.int j] h = .ok (.its (rangeT 0 j.toNat)) h := by
  have a1 : RngOk j := by
    have : (2 ^ 62 : Int) = 4611686018427387904 := by decide +kernel
    unfold RngOk
    rw [this]; omega
  unfold rngOf
  simp only [a1, if_true]
@[simp] theorem e_stYes : stYes σ h = .ok true h := Eq.trans rfl rfl
@[simp] theorem e_sgName (i : Nat) (t : T) : sgName i t σ = some (σ.set i (some t)) := Eq.trans rfl rfl
@[simp] theorem e_sgsNil : sgsNil [] σ = some σ := Eq.trans rfl rfl
@[simp] theorem e_sgsCons (g : SG) (r : SGs) (t : T) (ts : List T) : sgsCons g r (t :: ts) σ = match g t σ with | some σ1 => r ts σ1 | none => none := Eq.trans rfl rfl
@[simp] theorem e_sgTup (n : Nat) (g : SGs) (ts : List T) : sgTup n g (.tup ts) σ = if ts.length = n then g ts σ else none := Eq.trans rfl rfl
@[simp] theorem e_saLc (si : SI) (g : SG) (tt : ST) (te : SE) (vs : List Nat) : saLc si g tt te vs σ h = (si σ h).bind fun s h1 => lcRun s g tt te (wipeT σ vs) (s.len h1) 0 [] h1 := Eq.trans rfl rfl
@[simp] theorem e_wipe0 : wipeT σ [] = σ := Eq.trans rfl rfl
@[simp] theorem e_wipe1 (v : Nat) (vs : List Nat) : wipeT σ (v :: vs) = (wipeT σ vs).set v none := Eq.trans rfl rfl
@[simp] theorem e_ssNil : ssNil σ h = .nx σ h := Eq.trans rfl rfl
@[simp] theorem e_ssCons (a b : SS) : ssCons a b σ h = (a σ h).seq b := Eq.trans rfl rfl
@[simp] theorem e_ssIf (c : ST) (a b : SS) : ssIf c a b σ h = (c σ h).flo σ fun x h1 => if x = true then a σ h1 else b σ h1 := Eq.trans rfl rfl
@[simp] theorem e_ssRet (a : SE) : ssRet a σ h = (a σ h).flo σ fun x h1 => .rt x h1 := Eq.trans rfl rfl
@[simp] theorem e_ssRetN : ssRetN σ h = .rt .non h := Eq.trans rfl rfl
@[simp] theorem e_ssExpr (a : SE) : ssExpr a σ h = (a σ h).flo σ fun _ h1 => .nx σ h1 := Eq.trans rfl rfl
@[simp] theorem e_ssAsg (a : SE) (g : SG) : ssAsg a g σ h = (a σ h).flo σ fun x h1 => match g x σ with | some σ1 => .nx σ1 h1 | none => .stk := Eq.trans rfl rfl
@[simp] theorem e_ssStk : ssStk σ h = .stk := Eq.trans rfl rfl
@[simp] theorem e_ssBreak : ssBreak σ h = .bk σ h := Eq.trans rfl rfl
@[simp] theorem e_ssCont : ssCont σ h = .ct σ h := Eq.trans rfl rfl
@[simp] theorem e_ssSub (o i v : SE) : ssSub o i v σ h = (v σ h).flo σ fun y h1 => (o σ h1).flo σ fun x h2 => (i σ h2).flo σ fun k h3 => match x, k with
  | .ref l, .int n => match lstAt h3 l with
    | some ts => match L2.ixN ts.length n with | some j => .nx σ (h3.set l (.lst (ts.set j y))) | none => .stk
    | none => .stk
  | _, _ => .stk := Eq.trans rfl rfl
@[simp] theorem e_ssFldC (cs : List (Str × List Str)) (o v : SE) (f : Str) : ssFldC cs o v f σ h = (v σ h).flo σ fun y h1 => (o σ h1).flo σ fun x h2 => fSet cs x f y σ h2 := Eq.trans rfl rfl
@[simp] theorem e_ssFor (si : SI) (g : SG) (b : SS) : ssFor si g b σ h = (si σ h).flo σ fun s h1 => forRun s g b (s.len h1) 0 σ h1 := Eq.trans rfl rfl
theorem e_sMeth0 (c m : Str) (n : Nat) (f : List T → Hh → Res T) (o : SE) (a : SA) : sMeth c m n f o a σ h = (o σ h).bind fun x h1 => if mOk c m x h1 = true then (a σ h1).bind fun xs h2 => arN n f (x :: xs) h2 else .stk := by
  have key : ∀ x h1, (match x with
      | .ref l => match insAt h1 l with
        | some (d, fs) => if d = c ∧ fs.lookup m = none then (a σ h1).bind fun xs h2 => arN n f (x :: xs) h2 else .stk
        | none => .stk
      | _ => .stk) = if mOk c m x h1 = true then (a σ h1).bind fun xs h2 => arN n f (x :: xs) h2 else .stk := by
    intro x h1
    cases x with
    | ref l =>
      cases hi : insAt h1 l with
      | none => simp only [mOk, hi]; rfl
      | some p =>
        obtain ⟨d, fs⟩ := p
        by_cases q : d = c ∧ fs.lookup m = none
        · simp only [mOk, hi]; rw [if_pos q, if_pos (by simp [q])]
        · simp only [mOk, hi]; rw [if_neg q, if_neg (by simpa using q)]
    | _ => rfl
  unfold sMeth
  congr 1
  funext x h1
  exact key x h1
@[simp] theorem e_sMeth (c m : Str) (n : Nat) (f : List T → Hh → Res T) (o : SE) (a : SA) : sMeth c m n f o a σ h = (o σ h).bind fun x h1 => if mOk c m x h1 = true then (a σ h1).bind fun xs h2 => arN n f (x :: xs) h2 else .stk := e_sMeth0 c m n f o a
@[simp] theorem e_sClK (n q : Nat) (pat : List Bool) (ds : List T) (f : List T → Hh → Res T) (a kw : SA) : sClK n q pat ds f a kw σ h = (a σ h).bind fun xs h1 => (kw σ h1).bind fun zs h2 => if xs.length = n ∧ zs.length = q then f (xs ++ weave pat ds zs) h2 else .stk := Eq.trans rfl rfl
@[simp] theorem e_bMakeK (c : Str) (q n : Nat) (pat : List Bool) (ds : List T) (f : List T → Hh → Res T) (a kw : SA) : bMakeK c q n pat ds f a kw σ h = (a σ h).bind fun xs h1 => (kw σ h1).bind fun zs h2 => if xs.length = n ∧ zs.length = q then bMake c (n + 1 + pat.length) f (xs ++ weave pat ds zs) h2 else .stk := Eq.trans rfl rfl
@[simp] theorem e_bMake (c : Str) (n : Nat) (f : List T → Hh → Res T) (xs : List T) : bMake c n f xs h = (arN n f (.ref h.length :: xs) (h ++ [.ins c []])).bind fun t h1 => match t with | .non => .ok (.ref h.length) h1 | _ => .stk := Eq.trans rfl rfl
/-! operations -/
@[simp] theorem e_add_ii (i j : Int) : oAdd (.int i) (.int j) h = .ok (.int (i + j)) h := Eq.trans rfl rfl
@[simp] theorem e_add_ss (i j : Str) : oAdd (.str i) (.str j) h = if i.length + j.length ≤ sizeLine then .ok (.str (i ++ j)) h else .stk := Eq.trans rfl rfl
@[simp] theorem e_add_tt (i j : List T) : oAdd (.tup i) (.tup j) h = if i.length + j.length ≤ sizeLine then .ok (.tup (i ++ j)) h else .stk := Eq.trans rfl rfl
@[simp] theorem e_sub_ii (i j : Int) : oSub (.int i) (.int j) h = .ok (.int (i - j)) h := Eq.trans rfl rfl
theorem mul_ok {i j : Int} (q : MulOk i j) : oMul (.int i) (.int j) h = .ok (.int (i * j)) h := by
  unfold oMul
  simp only [q, if_true]
theorem two64 : (2 ^ 64 : Int) = 18446744073709551616 := by decide +kernel
@[simp] theorem e_mul_l {i j : Int} (h0 : -18446744073709551616 < i) (h1 : i < 18446744073709551616) : oMul (.int i) (.int j) h = .ok (.int (i * j)) h := mul_ok (.inl (by rw [two64]; exact ⟨h0, h1⟩))
@[simp] theorem e_mul_r {i j : Int} (h0 : -18446744073709551616 < j) (h1 : j < 18446744073709551616) : oMul (.int i) (.int j) h = .ok (.int (i * j)) h := mul_ok (.inr (by rw [two64]; exact ⟨h0, h1⟩))
@[simp] theorem e_mod_ii (i j : Int) : oMod (.int i) (.int j) h = if 0 < j then .ok (.int (i % j)) h else .stk := Eq.trans rfl rfl
@[simp] theorem e_div_ii (i j : Int) : oDiv (.int i) (.int j) h = if 0 < j ∧ j < 1073741824 then .ok (.int (i / j)) h else .stk := Eq.trans rfl rfl
theorem pow_ok {i j : Int} (q : PowOk i j) : oPow (.int i) (.int j) h = .ok (.int (i ^ j.toNat)) h := by
  unfold oPow
  simp only [q, if_true]
@[simp] theorem e_pow_ii {i j : Int} (h0 : 0 ≤ j) (h1 : j ≤ 1000000) (h2 : i.natAbs < 18446744073709551616) : oPow (.int i) (.int j) h = .ok (.int (i ^ j.toNat)) h := pow_ok ⟨h0, h1, by
  have : (2 ^ 64 : Nat) = 18446744073709551616 := by decide +kernel
  rw [this]; exact h2⟩
@[simp] theorem e_lt_ii (i j : Int) : oLt (.int i) (.int j) h = .ok (.bl (decide (i < j))) h := Eq.trans rfl rfl
@[simp] theorem e_le_ii (i j : Int) : oLe (.int i) (.int j) h = .ok (.bl (decide (i ≤ j))) h := Eq.trans rfl rfl
@[simp] theorem e_gt_ii (i j : Int) : oGt (.int i) (.int j) h = .ok (.bl (decide (j < i))) h := Eq.trans rfl rfl
@[simp] theorem e_ge_ii (i j : Int) : oGe (.int i) (.int j) h = .ok (.bl (decide (j ≤ i))) h := Eq.trans rfl rfl
@[simp] theorem e_is_n (x : T) : oIs x .non h = .ok (.bl (isNonT x)) h := Eq.trans rfl rfl
@[simp] theorem e_is_b (a b : Bool) : oIs (.bl a) (.bl b) h = .ok (.bl (decide (a = b))) h := Eq.trans rfl rfl
@[simp] theorem e_isnot_n (x : T) : oIsNot x .non h = .ok (.bl (!isNonT x)) h := Eq.trans rfl rfl
@[simp] theorem e_isnot_b (a b : Bool) : oIsNot (.bl a) (.bl b) h = .ok (.bl (!decide (a = b))) h := Eq.trans rfl rfl
@[simp] theorem e_nonT0 : isNonT .non = true := Eq.trans rfl rfl
@[simp] theorem e_nonT1 (s : Str) : isNonT (.str s) = false := Eq.trans rfl rfl
@[simp] theorem e_nonT2 (s : List T) : isNonT (.tup s) = false := Eq.trans rfl rfl
@[simp] theorem e_nonT3 (s : Int) : isNonT (.int s) = false := Eq.trans rfl rfl
@[simp] theorem e_nonT4 (s : Bool) : isNonT (.bl s) = false := Eq.trans rfl rfl
@[simp] theorem e_eq_ii (i j : Int) : oEq (.int i) (.int j) h = .ok (.bl (decide (i = j))) h := by
  show Res.ok (T.bl (i == j)) h = _
  rw [show (i == j) = decide (i = j) from rfl]
@[simp] theorem e_eq_ss (i j : Str) : oEq (.str i) (.str j) h = .ok (.bl (decide (i = j))) h := by
  show Res.ok (T.bl (i == j)) h = _
  rw [show (i == j) = decide (i = j) from rfl]
@[simp] theorem e_ne_ii (i j : Int) : oNe (.int i) (.int j) h = .ok (.bl (!decide (i = j))) h := by
  show Res.ok (T.bl (!(i == j))) h = _
  rw [show (i == j) = decide (i = j) from rfl]
@[simp] theorem e_ne_ss (i j : Str) : oNe (.str i) (.str j) h = .ok (.bl (!decide (i = j))) h := by
  show Res.ok (T.bl (!(i == j))) h = _
  rw [show (i == j) = decide (i = j) from rfl]
@[simp] theorem e_ne_bb (i j : Bool) : oNe (.bl i) (.bl j) h = .ok (.bl (!decide (i = j))) h := by
  show Res.ok (T.bl (!(i == j))) h = _
  rw [show (i == j) = decide (i = j) by cases i <;> cases j <;> rfl]
@[simp] theorem e_eq_bb (i j : Bool) : oEq (.bl i) (.bl j) h = .ok (.bl (decide (i = j))) h := by
  show Res.ok (T.bl (i == j)) h = _
  rw [show (i == j) = decide (i = j) by cases i <;> cases j <;> rfl]
/-! indexes -/
@[simp] theorem e_ix_tup (ts : List T) (i : Int) : oIx (.tup ts) (.int i) h = match L2.atI ts i with | some t => .ok t h | none => .stk := Eq.trans rfl rfl
@[simp] theorem e_ix_fl (ts : List T) (i : Int) : oIx (.fl ts) (.int i) h = match L2.atI ts i with | some t => .ok t h | none => .stk := Eq.trans rfl rfl
@[simp] theorem e_ix_ref (l : Nat) (i : Int) : oIx (.ref l) (.int i) h = match lstAt h l with
      | some ts => match L2.atI ts i with | some t => .ok t h | none => .stk
      | none => .stk := Eq.trans rfl rfl
@[simp] theorem e_ix_str (z : Str) (i : Int) : oIx (.str z) (.int i) h = if z.length ≤ sizeLine then (match L2.atI z.cps.toList i with | some c => .ok (.str ⟨#[c]⟩) h | none => .stk) else .stk := Eq.trans rfl rfl
@[simp] theorem e_sl_tup (ts : List T) (lo hi : Option Int) : oSl (.tup ts) lo hi h = .ok (.tup (cutT ts lo hi)) h := Eq.trans rfl rfl
@[simp] theorem e_sl_fl (ts : List T) (lo hi : Option Int) : oSl (.fl ts) lo hi h = alloc (.lst (cutT ts lo hi)) h := Eq.trans rfl rfl
@[simp] theorem e_sl_ref (l : Nat) (lo hi : Option Int) : oSl (.ref l) lo hi h = match lstAt h l with | some ts => alloc (.lst (cutT ts lo hi)) h | none => .stk := Eq.trans rfl rfl
@[simp] theorem e_sl_str (z : Str) (lo hi : Option Int) : oSl (.str z) lo hi h = if z.length ≤ sizeLine then .ok (.str (L2.cutS z lo hi)) h else .stk := Eq.trans rfl rfl
@[simp] theorem e_len_tup (ts : List T) : bLen [.tup ts] h = .ok (.int ts.length) h := Eq.trans rfl rfl
@[simp] theorem e_len_fl (ts : List T) : bLen [.fl ts] h = .ok (.int ts.length) h := Eq.trans rfl rfl
@[simp] theorem e_len_str (z : Str) : bLen [.str z] h = if z.length ≤ sizeLine then .ok (.int z.length) h else .stk := Eq.trans rfl rfl
@[simp] theorem e_len_ref (l : Nat) : bLen [.ref l] h = match lstAt h l with | some ts => .ok (.int ts.length) h | none => .stk := Eq.trans rfl rfl
@[simp] theorem e_int (i : Int) : bInt [.int i] h = .ok (.int i) h := Eq.trans rfl rfl
@[simp] theorem e_bTup (ts : List T) : bTup ts h = .ok (.tup ts) h := Eq.trans rfl rfl
@[simp] theorem e_tuple_tup (ts : List T) : bTuple [.tup ts] h = .ok (.tup ts) h := Eq.trans rfl rfl
@[simp] theorem e_tuple_ref (l : Nat) : bTuple [.ref l] h = match lstAt h l with | some ts => .ok (.tup ts) h | none => .stk := Eq.trans rfl rfl
@[simp] theorem e_list_tup (ts : List T) : bList [.tup ts] h = alloc (.lst ts) h := Eq.trans rfl rfl
@[simp] theorem e_list_ref (l : Nat) : bList [.ref l] h = match lstAt h l with | some ts => alloc (.lst ts) h | none => .stk := Eq.trans rfl rfl
@[simp] theorem e_srcOf_tup (ts : List T) : srcOf (.tup ts) h = .ok (.its ts) h := Eq.trans rfl rfl
@[simp] theorem e_srcOf_fl (ts : List T) : srcOf (.fl ts) h = .ok (.its ts) h := Eq.trans rfl rfl
@[simp] theorem e_srcOf_str (z : Str) : srcOf (.str z) h = .ok (.its (z.cps.toList.map fun c => .str ⟨#[c]⟩)) h := Eq.trans rfl rfl
@[simp] theorem e_srcOf_ref (l : Nat) : srcOf (.ref l) h = match lstAt h l with | some _ => .ok (.live l) h | none => .stk := Eq.trans rfl rfl
theorem e_src_its (ts : List T) : Src.len (.its ts) h = ts.length := rfl
@[simp] theorem e_isL_ref (l : Nat) : isL (.ref l) h = (lstAt h l).isSome := Eq.trans rfl rfl
@[simp] theorem e_append (l : Nat) (y : T) : mAppend (.ref l) [y] h = match lstAt h l with
    | some ts => if ts.length < sizeLine then .ok .non (h.set l (.lst (ts ++ [y]))) else .stk
    | none => .stk := Eq.trans rfl rfl
@[simp] theorem e_isK_non (k : Kd) : oIsK k .non h = .ok (.bl false) h := Eq.trans rfl rfl
@[simp] theorem e_isK_str (k : Kd) (s : Str) : oIsK k (.str s) h = .ok (.bl (k == .str)) h := Eq.trans rfl rfl
@[simp] theorem e_isK_int (k : Kd) (s : Int) : oIsK k (.int s) h = .ok (.bl (k == .int)) h := Eq.trans rfl rfl
@[simp] theorem e_isK_bl (k : Kd) (s : Bool) : oIsK k (.bl s) h = .ok (.bl (k == .bool || k == .int)) h := Eq.trans rfl rfl
@[simp] theorem e_isK_tup (k : Kd) (s : List T) : oIsK k (.tup s) h = .ok (.bl (k == .tuple)) h := Eq.trans rfl rfl
theorem e_isK_lst {k : Kd} {l : Nat} {ts : List T} (e : lstAt h l = some ts) : oIsK k (.ref l) h = .ok (.bl (k == .list)) h := by
  unfold lstAt at e
  unfold oIsK isK
  split at e
  · rename_i q; simp only [q]
  · cases e
theorem e_defRun (n : Nat) (b : SS) (ts : List T) : defRun n b ts h = match b (startT n ts) h with
  | .nx _ h1 => .ok .non h1
  | .rt t h1 => .ok t h1
  | .exc c fs _ h1 => .exc c fs h1
  | _ => .stk := Eq.trans rfl rfl
end
@[simp] theorem lstAt_set_self {h : Hh} {l : Nat} {ts : List T} (hl : l < h.length) : lstAt (h.set l (.lst ts)) l = some ts := by
  unfold lstAt; rw [List.getElem?_set_self hl]
theorem lstAt_set_ne {h : Hh} {l k : Nat} {o : Ob} (hl : l ≠ k) : lstAt (h.set l o) k = lstAt h k := by
  unfold lstAt; rw [List.getElem?_set_ne hl]
theorem lstAt_of {h : Hh} {l : Nat} {ts : List T} (e : h[l]? = some (.lst ts)) : lstAt h l = some ts := by
  unfold lstAt; rw [e]
theorem of_lstAt {h : Hh} {l : Nat} {ts : List T} (e : lstAt h l = some ts) : h[l]? = some (.lst ts) := by
  unfold lstAt at e; split at e
  · rename_i q; cases e; exact q
  · cases e
theorem lstAt_lt {h : Hh} {l : Nat} {ts : List T} (e : lstAt h l = some ts) : l < h.length := by
  have := of_lstAt e
  exact (List.getElem?_eq_some_iff.mp this).1
theorem lstAt_app {h : Hh} {l : Nat} {ts : List T} (o : List Ob) (e : lstAt h l = some ts) : lstAt (h ++ o) l = some ts := by
  have := lstAt_lt e
  unfold lstAt at e ⊢
  rw [List.getElem?_append_left this]; exact e
@[simp] theorem lstAt_new {h : Hh} {ts : List T} : lstAt (h ++ [.lst ts]) h.length = some ts := by
  unfold lstAt; simp
@[simp] theorem ixN_of {n : Nat} {i : Int} (h0 : 0 ≤ i) (h1 : i < n) : L2.ixN n i = some i.toNat := by
  unfold L2.ixN; rw [if_pos h0, if_pos h1]
@[simp] theorem atI_z {α : Type} (a : α) (r : List α) : L2.atI (a :: r) 0 = some a := by
  unfold L2.atI L2.ixN; simp [show (0 : Int) < (r.length : Int) + 1 by omega]
@[simp] theorem atI_1 {α : Type} (a b : α) (r : List α) : L2.atI (a :: b :: r) 1 = some b := by
  unfold L2.atI L2.ixN; simp [show (1 : Int) < (r.length : Int) + 1 + 1 by omega]
@[simp] theorem atI_2 {α : Type} (a b c : α) (r : List α) : L2.atI (a :: b :: c :: r) 2 = some c := by
  unfold L2.atI L2.ixN; simp [show (2 : Int) < (r.length : Int) + 1 + 1 + 1 by omega]
@[simp] theorem atI_3 {α : Type} (a b c d : α) (r : List α) : L2.atI (a :: b :: c :: d :: r) 3 = some d := by
  unfold L2.atI L2.ixN; simp [show (3 : Int) < (r.length : Int) + 1 + 1 + 1 + 1 by omega]
@[simp] theorem atI_4 {α : Type} (a b c d e : α) (r : List α) : L2.atI (a :: b :: c :: d :: e :: r) 4 = some e := by
  unfold L2.atI L2.ixN; simp [show (4 : Int) < (r.length : Int) + 1 + 1 + 1 + 1 + 1 by omega]
theorem atI_nat {α : Type} {xs : List α} {i : Nat} {x : α} (e : xs[i]? = some x) : L2.atI xs (i : Int) = some x := by
  have hl := (List.getElem?_eq_some_iff.mp e).1
  unfold L2.atI L2.ixN
  rw [if_pos (by omega), if_pos (by omega)]
  simpa using e
theorem atI_int {α : Type} {xs : List α} {i : Int} (h0 : 0 ≤ i) (h1 : i < xs.length) : ∃ x, L2.atI xs i = some x ∧ xs[i.toNat]? = some x := by
  have hl : i.toNat < xs.length := by omega
  refine ⟨xs[i.toNat], ?_, by simp [hl]⟩
  unfold L2.atI L2.ixN
  rw [if_pos h0, if_pos h1]
  simp [hl]
theorem atI_mem {α : Type} {xs : List α} {i : Int} (h0 : 0 ≤ i) (h1 : i < xs.length) : ∃ x, L2.atI xs i = some x ∧ x ∈ xs := by
  obtain ⟨x, e, q⟩ := atI_int h0 h1
  exact ⟨x, e, List.mem_of_getElem? q⟩
/-! ### loops -/
def Src.Is (s : Src) (ts : List T) (h : Hh) : Prop := match s with | .its us => us = ts | .live l => lstAt h l = some ts
theorem Src.Is.at {s : Src} {ts : List T} {h : Hh} (q : s.Is ts h) (i : Nat) : s.at h i = some ts[i]? := by
  cases s with
  | its us => obtain rfl : us = ts := q; rfl
  | live l => have e : lstAt h l = some ts := q; unfold Src.at; simp only [e]
theorem Src.Is.len {s : Src} {ts : List T} {h : Hh} (q : s.Is ts h) : s.len h = ts.length := by
  cases s with
  | its us => obtain rfl : us = ts := q; rfl
  | live l => have e : lstAt h l = some ts := q; unfold Src.len; simp only [e]
theorem for_ind {s : Src} {ts : List T} {g : SG} {b : SS} (I : Nat → St3 → Hh → Prop) (hI : ∀ i σ h, I i σ h → s.Is ts h)
    (hs : ∀ i x σ h, ts[i]? = some x → I i σ h → ∃ σ1, g x σ = some σ1 ∧ ∃ σ2 h2, (b σ1 h = .nx σ2 h2 ∨ b σ1 h = .ct σ2 h2) ∧ I (i + 1) σ2 h2) :
    ∀ k i σ h, i + k = ts.length → I i σ h → ∃ σ' h', forRun s g b k i σ h = .nx σ' h' ∧ I ts.length σ' h'
  | 0, i, σ, h, e, q => by
    have e1 : i = ts.length := by omega
    refine ⟨σ, h, ?_, e1 ▸ q⟩
    unfold forRun
    rw [(hI _ _ _ q).at, List.getElem?_eq_none (by omega)]
  | k + 1, i, σ, h, e, q => by
    have hl : i < ts.length := by omega
    have ex : ts[i]? = some ts[i] := by simp [hl]
    obtain ⟨σ1, e1, σ2, h2, e2, q2⟩ := hs i _ σ h ex q
    obtain ⟨σ', h', e3, q3⟩ := for_ind I hI hs k (i + 1) σ2 h2 (by omega) q2
    refine ⟨σ', h', ?_, q3⟩
    unfold forRun
    rw [(hI _ _ _ q).at, ex]
    simp only [e1]
    rcases e2 with e2 | e2 <;> rw [e2] <;> exact e3
/-- a for loop with what it keeps -/
theorem for_run {s : Src} {ts : List T} {g : SG} {b : SS} {σ : St3} {h : Hh} (I : Nat → St3 → Hh → Prop) (hI : ∀ i σ h, I i σ h → s.Is ts h) (h0 : I 0 σ h)
    (hs : ∀ i x σ h, ts[i]? = some x → I i σ h → ∃ σ1, g x σ = some σ1 ∧ ∃ σ2 h2, (b σ1 h = .nx σ2 h2 ∨ b σ1 h = .ct σ2 h2) ∧ I (i + 1) σ2 h2) :
    ∃ σ' h', forRun s g b (s.len h) 0 σ h = .nx σ' h' ∧ I ts.length σ' h' := by
  rw [(hI _ _ _ h0).len]
  exact for_ind I hI hs _ _ _ _ (by omega) h0
theorem lc_ind {s : Src} {ts : List T} {g : SG} {tt : ST} {te : SE} {σ : St3} (hz : ts.length ≤ sizeLine) (I : Nat → List T → Hh → Prop) (hI : ∀ i acc h, I i acc h → s.Is ts h)
    (hs : ∀ i x acc h, ts[i]? = some x → I i acc h → ∃ σ1, g x σ = some σ1 ∧ ((∃ h1, tt σ1 h = .ok false h1 ∧ I (i + 1) acc h1) ∨ ∃ h1 t h2, tt σ1 h = .ok true h1 ∧ te σ1 h1 = .ok t h2 ∧ I (i + 1) (acc ++ [t]) h2)) :
    ∀ k i acc h, i + k = ts.length → acc.length ≤ i → I i acc h → ∃ acc' h', lcRun s g tt te σ k i acc h = .ok acc' h' ∧ I ts.length acc' h' ∧ acc'.length ≤ ts.length
  | 0, i, acc, h, e, ha, q => by
    have e1 : i = ts.length := by omega
    refine ⟨acc, h, ?_, e1 ▸ q, by omega⟩
    unfold lcRun
    rw [(hI _ _ _ q).at, List.getElem?_eq_none (by omega)]
  | k + 1, i, acc, h, e, ha, q => by
    have hl : i < ts.length := by omega
    have ex : ts[i]? = some ts[i] := by simp [hl]
    obtain ⟨σ1, e1, q1⟩ := hs i _ acc h ex q
    unfold lcRun
    rw [(hI _ _ _ q).at, ex]
    simp only [e1]
    rcases q1 with ⟨h1, e2, q2⟩ | ⟨h1, t, h2, e2, e3, q2⟩
    · simp only [e2]
      exact lc_ind hz I hI hs k (i + 1) acc h1 (by omega) (by omega) q2
    · simp only [e2, e3, if_true]
      rw [if_pos (by omega)]
      exact lc_ind hz I hI hs k (i + 1) _ h2 (by omega) (by simp; omega) q2
theorem lc_run {s : Src} {ts : List T} {g : SG} {tt : ST} {te : SE} {σ : St3} {h : Hh} (hz : ts.length ≤ sizeLine) (I : Nat → List T → Hh → Prop) (hI : ∀ i acc h, I i acc h → s.Is ts h) (h0 : I 0 [] h)
    (hs : ∀ i x acc h, ts[i]? = some x → I i acc h → ∃ σ1, g x σ = some σ1 ∧ ((∃ h1, tt σ1 h = .ok false h1 ∧ I (i + 1) acc h1) ∨ ∃ h1 t h2, tt σ1 h = .ok true h1 ∧ te σ1 h1 = .ok t h2 ∧ I (i + 1) (acc ++ [t]) h2)) :
    ∃ acc' h', lcRun s g tt te σ (s.len h) 0 [] h = .ok acc' h' ∧ I ts.length acc' h' ∧ acc'.length ≤ ts.length := by
  rw [(hI _ _ _ h0).len]
  exact lc_ind hz I hI hs _ _ _ _ (by omega) (Nat.le_refl _) h0
/-- [f x for x in ts], nothing changed -/
theorem lc_map {s : Src} {ts : List T} {g : SG} {te : SE} {σ : St3} {h : Hh} (f : T → T) (hz : ts.length ≤ sizeLine) (hI : s.Is ts h) (hs : ∀ x ∈ ts, ∃ σ1, g x σ = some σ1 ∧ te σ1 h = .ok (f x) h) :
    lcRun s g stYes te σ (s.len h) 0 [] h = .ok (ts.map f) h := by
  obtain ⟨acc, h', e, ⟨rfl, rfl⟩, _⟩ := lc_run (s := s) (ts := ts) (g := g) (tt := stYes) (te := te) (σ := σ) (h := h) hz (fun i acc h1 => acc = (ts.take i).map f ∧ h1 = h) (fun i acc h1 q => q.2 ▸ hI) ⟨by simp, rfl⟩ fun i x acc h1 ex ⟨q1, q2⟩ => by
    obtain ⟨σ1, e1, e2⟩ := hs x (List.mem_of_getElem? ex)
    subst q2
    refine ⟨σ1, e1, .inr ⟨h1, f x, h1, rfl, e2, ?_, rfl⟩⟩
    rw [q1, List.take_add_one, ex]
    simp
  rw [e, List.take_length]
/-- [x for x in ts if p x], nothing changed -/
theorem lc_filter {s : Src} {ts : List T} {g : SG} {tt : ST} {te : SE} {σ : St3} {h : Hh} (p : T → Bool) (f : T → T) (hz : ts.length ≤ sizeLine) (hI : s.Is ts h) (hs : ∀ x ∈ ts, ∃ σ1, g x σ = some σ1 ∧ tt σ1 h = .ok (p x) h ∧ te σ1 h = .ok (f x) h) :
    lcRun s g tt te σ (s.len h) 0 [] h = .ok ((ts.filter p).map f) h := by
  obtain ⟨acc, h', e, ⟨rfl, rfl⟩, _⟩ := lc_run (s := s) (ts := ts) (g := g) (tt := tt) (te := te) (σ := σ) (h := h) hz (fun i acc h1 => acc = ((ts.take i).filter p).map f ∧ h1 = h) (fun i acc h1 q => q.2 ▸ hI) ⟨by simp, rfl⟩ fun i x acc h1 ex ⟨q1, q2⟩ => by
    obtain ⟨σ1, e1, e2, e3⟩ := hs x (List.mem_of_getElem? ex)
    subst q2
    refine ⟨σ1, e1, ?_⟩
    have et : ts.take (i + 1) = ts.take i ++ [x] := by rw [List.take_add_one, ex]; rfl
    cases hp : p x with
    | false => exact .inl ⟨h1, by rw [e2, hp], by rw [q1, et, List.filter_append]; simp [hp], rfl⟩
    | true => exact .inr ⟨h1, f x, h1, by rw [e2, hp], e3, by rw [q1, et, List.filter_append]; simp [hp], rfl⟩
  rw [e, List.take_length]
theorem range_get : ∀ (n : Nat) (lo : Int) (i : Nat), i < n → (rangeT lo n)[i]? = some (.int (lo + i))
  | n + 1, lo, 0, _ => by simp [rangeT]
  | n + 1, lo, i + 1, hi => by
    unfold rangeT
    rw [List.getElem?_cons_succ, range_get n (lo + 1) i (by omega)]
    congr 2; omega
@[simp] theorem range_length : ∀ (n : Nat) (lo : Int), (rangeT lo n).length = n
  | 0, _ => rfl
  | n + 1, lo => by unfold rangeT; rw [List.length_cons, range_length n]
theorem range_at {n : Nat} {i : Nat} {x : T} (e : (rangeT 0 n)[i]? = some x) : x = .int i ∧ i < n := by
  have hl := (List.getElem?_eq_some_iff.mp e).1
  rw [range_length] at hl
  rw [range_get n 0 i hl] at e
  cases e
  exact ⟨by simp, hl⟩
end W3
end

section
/-! PB: the law's box of draws, names of letters: what the helpers keep. -/
namespace W3
open PySem
def BoxL (c : Nat) (i d s n : Int) : List T := [.ref c, .int i, .int d, .int s, .int n]
/-- a box of draws at l -/
def IsBox (h : Hh) (l : Nat) : Prop := ∃ (c : Nat) (cells : List Int) (i d s n : Int), lstAt h l = some (BoxL c i d s n) ∧ lstAt h c = some (cells.map T.int) ∧ 0 ≤ i ∧ 0 ≤ d
/-- the place where the box at l keeps its cells -/
def BoxC (h : Hh) (l : Nat) : Option Nat := match lstAt h l with | some (.ref c :: _) => some c | _ => none
/-- of the first n places nothing but the box at l has changed -/
structure Kp (l n : Nat) (h h' : Hh) : Prop where
  le : n ≤ h'.length
  keep : ∀ k, k < n → k ≠ l → h'[k]? = h[k]?
  box : IsBox h' l
  bc : BoxC h' l = BoxC h l
abbrev Up (l : Nat) (h h' : Hh) : Prop := Kp l h.length h h'
theorem IsBox.ne {h : Hh} {l : Nat} {c : Nat} {cells : List Int} {i d s n : Int} (e : lstAt h l = some (BoxL c i d s n)) (e2 : lstAt h c = some (cells.map T.int)) : l ≠ c := by
  intro q
  subst q
  rw [e] at e2
  cases cells with
  | nil => cases e2
  | cons a r => injection e2 with e2; injection e2 with e2 _; cases e2
theorem IsBox.lt {h : Hh} {l : Nat} (b : IsBox h l) : l < h.length := by
  obtain ⟨c, cells, i, d, s, n, e, _⟩ := b
  exact lstAt_lt e
theorem IsBox.clt {h : Hh} {l c : Nat} (b : IsBox h l) (hc : BoxC h l = some c) : c < h.length := by
  obtain ⟨c, cells, i, d, s, n, e, e2, _⟩ := b
  unfold BoxC at hc
  rw [e] at hc
  cases hc
  exact lstAt_lt e2
theorem Up.refl {l : Nat} {h : Hh} (b : IsBox h l) : Up l h h := ⟨Nat.le_refl _, fun _ _ _ => rfl, b, rfl⟩
theorem Kp.refl {l n : Nat} {h : Hh} (b : IsBox h l) (hn : n ≤ h.length) : Kp l n h h := ⟨hn, fun _ _ _ => rfl, b, rfl⟩
theorem Kp.trans {l n m : Nat} {h h1 h2 : Hh} (a : Kp l n h h1) (b : Kp l m h1 h2) (hm : n ≤ m) : Kp l n h h2 :=
  ⟨Nat.le_trans hm b.le, fun k hk hne => (b.keep k (Nat.lt_of_lt_of_le hk hm) hne).trans (a.keep k hk hne), b.box, b.bc.trans a.bc⟩
theorem Kp.up {l n : Nat} {h h1 h2 : Hh} (a : Kp l n h h1) (b : Up l h1 h2) : Kp l n h h2 := a.trans b a.le
theorem IsBox.app {l : Nat} {h : Hh} (b : IsBox h l) (o : List Ob) : IsBox (h ++ o) l := by
  obtain ⟨c, cells, i, d, s, n, e, e2, h1, h2⟩ := b
  exact ⟨c, cells, i, d, s, n, lstAt_app o e, lstAt_app o e2, h1, h2⟩
theorem Up.app {l : Nat} {h : Hh} (b : IsBox h l) (o : List Ob) : Up l h (h ++ o) := by
  refine ⟨by simp, fun k hk _ => List.getElem?_append_left hk, b.app o, ?_⟩
  obtain ⟨c, cells, i, d, s, n, e, e2, h1, h2⟩ := b
  unfold BoxC
  rw [e, lstAt_app o e]
theorem Kp.app {l n : Nat} {h h1 : Hh} (a : Kp l n h h1) (o : List Ob) : Kp l n h (h1 ++ o) := a.up (Up.app a.box o)
theorem Kp.lst {l n : Nat} {h h' : Hh} (u : Kp l n h h') {k : Nat} {ts : List T} (e : lstAt h k = some ts) (hk : k < n) (hne : k ≠ l) : lstAt h' k = some ts := by
  have := of_lstAt e
  exact lstAt_of ((u.keep k hk hne).trans this)
theorem Up.lst {l : Nat} {h h' : Hh} (u : Up l h h') {k : Nat} {ts : List T} (e : lstAt h k = some ts) (hne : k ≠ l) : lstAt h' k = some ts := Kp.lst u e (lstAt_lt e) hne
/-- a place that is not the box and not its cells is set anew -/
theorem IsBox.set {l : Nat} {h : Hh} (b : IsBox h l) {k : Nat} (o : Ob) (hk : k ≠ l) (hc : BoxC h l ≠ some k) : IsBox (h.set k o) l ∧ BoxC (h.set k o) l = BoxC h l := by
  obtain ⟨c, cells, i, d, s, n, e, e2, h1, h2⟩ := b
  have hkc : k ≠ c := by
    intro q
    apply hc
    unfold BoxC
    rw [e]
    simp [BoxL, q]
  refine ⟨⟨c, cells, i, d, s, n, by rw [lstAt_set_ne hk]; exact e, by rw [lstAt_set_ne hkc]; exact e2, h1, h2⟩, ?_⟩
  unfold BoxC
  rw [lstAt_set_ne hk]
theorem Kp.set {l n : Nat} {h h1 : Hh} (a : Kp l n h h1) {k : Nat} (o : Ob) (hb : IsBox h l) (hl : h.length ≤ n) (hn : n ≤ k) : Kp l n h (h1.set k o) := by
  have h0 := hb.lt
  have q := a.box.set (k := k) o (by omega) (by rw [a.bc]; intro z; have := hb.clt z; omega)
  exact ⟨by rw [List.length_set]; exact a.le, fun j hj hne => by rw [List.getElem?_set_ne (by omega)]; exact a.keep j hj hne, q.1, q.2.trans a.bc⟩
theorem cut_ints (ns : List Int) (lo hi : Option Int) : ∃ ms : List Int, cutT (ns.map T.int) lo hi = ms.map T.int ∧ ms.length ≤ ns.length := by
  refine ⟨cutT ns lo hi, ?_, ?_⟩
  · unfold cutT
    rw [List.length_map, List.map_take, List.map_drop]
  · unfold cutT
    rw [List.length_take, List.length_drop]
    omega
theorem map_int_get {ns : List Int} {i : Nat} {x : T} (e : (ns.map T.int)[i]? = some x) : ∃ n, x = .int n := by
  rw [List.getElem?_map] at e
  cases q : ns[i]? with
  | none => rw [q] at e; cases e
  | some n => rw [q] at e; cases e; exact ⟨n, rfl⟩
/-! ### names -/
theorem Str.ext3 {a b : Str} (h : a.cps.toList = b.cps.toList) : a = b := by
  obtain ⟨⟨x⟩⟩ := a
  obtain ⟨⟨y⟩⟩ := b
  simp at h
  rw [h]
theorem str_app (a b : Str) : (a ++ b).cps.toList = a.cps.toList ++ b.cps.toList := by
  show (a.cps ++ b.cps).toList = _
  simp
theorem str_len (a : Str) : a.length = a.cps.toList.length := by simp [Str.length]
@[simp] theorem str_len_app (a b : Str) : (a ++ b).length = a.length + b.length := by
  rw [str_len, str_app, List.length_append, ← str_len, ← str_len]
@[simp] theorem str_len_one (c : Nat) : Str.length ⟨#[c]⟩ = 1 := Eq.trans rfl rfl
def LETS : Str := "abcdefghijklmnopqrstuvwxyz"
theorem lets_len : LETS.cps.toList.length = 26 := by decide +kernel
theorem lets_nd : LETS.cps.toList.Nodup := by decide +kernel
def Lt (s : Str) : Prop := ∀ c ∈ s.cps.toList, c ∈ LETS.cps.toList
theorem Lt.app {a b : Str} (ha : Lt a) (hb : Lt b) : Lt (a ++ b) := by
  intro c hc
  rw [str_app, List.mem_append] at hc
  exact hc.elim (ha c) (hb c)
theorem Lt.one {c : Nat} (h : c ∈ LETS.cps.toList) : Lt ⟨#[c]⟩ := by
  intro x hx
  simp at hx
  rw [hx]; exact h
theorem Lt.nil : Lt "" := by
  intro c hc
  have : (Str.ofString "").cps.toList = [] := by decide +kernel
  rw [this] at hc
  cases hc
def Nm (s : Str) : Prop := 1 ≤ s.length ∧ s.length ≤ 8 ∧ Lt s
structure NmL (ss : List Str) : Prop where
  nd : ss.Nodup
  nm : ∀ s ∈ ss, Nm s
theorem NmL.snoc {ss : List Str} (h : NmL ss) {s : Str} (hs : Nm s) (hn : s ∉ ss) : NmL (ss ++ [s]) := by
  refine ⟨List.nodup_append.mpr ⟨h.nd, by simp, fun a ha b hb => ?_⟩, fun x hx => ?_⟩
  · simp at hb
    intro e
    subst hb
    exact hn (e ▸ ha)
  · rw [List.mem_append] at hx
    rcases hx with hx | hx
    · exact h.nm x hx
    · simp at hx; rw [hx]; exact hs
/-- w[:7] -/
theorem cut7 (w : Str) : (L2.cutS w none (some 7)).cps.toList = w.cps.toList.take 7 := by
  unfold L2.cutS HT.sIx
  simp [str_len]
theorem cut7_len (w : Str) : (L2.cutS w none (some 7)).length = min 7 w.length := by
  rw [str_len, cut7, List.length_take, str_len]
theorem cut7_lt {w : Str} (h : Lt w) : Lt (L2.cutS w none (some 7)) := by
  intro c hc
  rw [cut7] at hc
  exact h c (List.mem_of_mem_take hc)
theorem free_name (w : Str) (ss : List Str) (hs : ss.length ≤ 25) : ∃ c ∈ LETS.cps.toList, w ++ ⟨#[c]⟩ ∉ ss := by
  by_cases h : ∃ c ∈ LETS.cps.toList, w ++ ⟨#[c]⟩ ∉ ss
  · exact h
  · exfalso
    have hall : (LETS.cps.toList.map fun c => w ++ (⟨#[c]⟩ : Str)) ⊆ ss := by
      intro x hx
      obtain ⟨c, hc, rfl⟩ := List.mem_map.mp hx
      by_cases q : w ++ (⟨#[c]⟩ : Str) ∈ ss
      · exact q
      · exact absurd ⟨c, hc, q⟩ h
    have hnd : (LETS.cps.toList.map fun c => w ++ (⟨#[c]⟩ : Str)).Nodup := by
      refine List.Pairwise.map _ (fun a b hab e => ?_) lets_nd
      have := congrArg (fun s : Str => s.cps.toList) e
      simp only [str_app] at this
      simp at this
      exact hab this
    have := List.Nodup.length_le_of_subset hnd hall
    rw [List.length_map, lets_len] at this
    omega
abbrev tSs (ss : List Str) : List T := ss.map T.str
theorem optL_strs (h : Hh) (n : Nat) : ∀ ss : List Str, optL (toD h (n + 1)) (tSs ss) = some (ss.map PyData.str)
  | [] => rfl
  | s :: ss => by
    have e1 : toD h (n + 1) (.str s) = some (.str s) := rfl
    show optL (toD h (n + 1)) (.str s :: tSs ss) = _
    unfold optL
    rw [optL_strs h n ss, e1]
    rfl
theorem any_strs (s : Str) : ∀ ss : List Str, ((ss.map PyData.str).any fun z => PyData.eqv z (.str s)) = decide (s ∈ ss)
  | [] => by simp
  | t :: ss => by
    rw [List.map_cons, List.any_cons, any_strs s ss]
    have : PyData.eqv (.str t) (.str s) = decide (t = s) := by rw [PyData.eqv]; rfl
    rw [this]
    by_cases q : t = s
    · simp [q]
    · have q' : ¬ s = t := fun e => q e.symm
      simp [q, q']
theorem e_in_tup {s : Str} {ss : List Str} {h : Hh} : inT (.str s) (.tup (tSs ss)) h = some (decide (s ∈ ss)) := by
  show (match toD h 24 (.str s), (optL (toD h 23) (tSs ss)).map PyData.tuple with
    | some d, some (.list ds) => some (ds.any fun z => PyData.eqv z d)
    | some d, some (.tuple ds) => some (ds.any fun z => PyData.eqv z d)
    | _, _ => none) = _
  rw [optL_strs h 22]
  show some ((ss.map PyData.str).any fun z => PyData.eqv z (.str s)) = _
  rw [any_strs]
theorem e_in_ref {s : Str} {ss : List Str} {h : Hh} {r : Nat} (e : lstAt h r = some (tSs ss)) : inT (.str s) (.ref r) h = some (decide (s ∈ ss)) := by
  have e1 : toD h 24 (.ref r) = some (.list (ss.map PyData.str)) := by
    show (match h[r]? with | some (.lst ts) => (optL (toD h 23) ts).map PyData.list | _ => none) = _
    rw [of_lstAt e]
    show (optL (toD h 23) (tSs ss)).map PyData.list = _
    rw [optL_strs h 22]
    rfl
  show (match toD h 24 (.str s), toD h 24 (.ref r) with
    | some d, some (.list ds) => some (ds.any fun z => PyData.eqv z d)
    | some d, some (.tuple ds) => some (ds.any fun z => PyData.eqv z d)
    | _, _ => none) = _
  rw [e1]
  show some ((ss.map PyData.str).any fun z => PyData.eqv z (.str s)) = _
  rw [any_strs]
theorem oIn_ref {s : Str} {ss : List Str} {h : Hh} {r : Nat} (e : lstAt h r = some (tSs ss)) : oIn (.str s) (.ref r) h = .ok (.bl (decide (s ∈ ss))) h := by
  unfold oIn; rw [e_in_ref e]
theorem oNotIn_ref {s : Str} {ss : List Str} {h : Hh} {r : Nat} (e : lstAt h r = some (tSs ss)) : oNotIn (.str s) (.ref r) h = .ok (.bl (!decide (s ∈ ss))) h := by
  unfold oNotIn; rw [e_in_ref e]
@[simp] theorem oIn_tup {s : Str} {ss : List Str} {h : Hh} : oIn (.str s) (.tup (tSs ss)) h = .ok (.bl (decide (s ∈ ss))) h := by
  unfold oIn; rw [e_in_tup]
@[simp] theorem oNotIn_tup {s : Str} {ss : List Str} {h : Hh} : oNotIn (.str s) (.tup (tSs ss)) h = .ok (.bl (!decide (s ∈ ss))) h := by
  unfold oNotIn; rw [e_in_tup]
/-! ### what the helpers do -/
abbrev Fn := List T → Hh → Res T
def MixOk (f : Fn) : Prop := ∀ v k h, ∃ z, f [.int v, .int k] h = .ok (.int z) h
def DrawOk (f : Fn) : Prop := ∀ h l m, IsBox h l → 0 < m → m < 1073741824 → ∃ d h', f [.ref l, .int m] h = .ok (.int d) h' ∧ 0 ≤ d ∧ d < m ∧ Up l h h'
def BoxOk (f : Fn) : Prop := ∀ (ns : List Int) (h : Hh), ns.length ≤ 63 → ∃ l h', f [.fl (ns.map T.int)] h = .ok (.ref l) h' ∧ IsBox h' l ∧ h.length ≤ l ∧ (∀ k, k < h.length → h'[k]? = h[k]?) ∧ ∀ c, BoxC h' l = some c → h.length ≤ c
/-- a new list of many different names -/
def NamesOk (f : Fn) : Prop := ∀ h l (m : Nat), IsBox h l → m ≤ 25 → ∃ r ss h', f [.ref l, .int m] h = .ok (.ref r) h' ∧ lstAt h' r = some (tSs ss) ∧ ss.length = m ∧ NmL ss ∧ Up l h h' ∧ h.length ≤ r
end W3
end

section
/-! PC: what a run must give: wp over the tree semantics. -/
namespace W3
open PySem
abbrev EQ := Str → List (Str × T) → Hh → Prop
def Res.wp {α : Type} (r : Res α) (Q : α → Hh → Prop) (E : EQ) : Prop :=
  match r with | .ok a h => Q a h | .exc c fs h => E c fs h | .stk => False
structure FQ where
  n : St3 → Hh → Prop
  r : T → Hh → Prop
  b : St3 → Hh → Prop
  c : St3 → Hh → Prop
  e : Str → List (Str × T) → St3 → Hh → Prop
def Flo.wp (r : Flo) (Q : FQ) : Prop :=
  match r with | .nx σ h => Q.n σ h | .rt t h => Q.r t h | .bk σ h => Q.b σ h | .ct σ h => Q.c σ h | .exc c fs σ h => Q.e c fs σ h | .stk => False
section
variable {α β : Type} {Q : α → Hh → Prop} {E : EQ}
@[simp] theorem wp_ok (a : α) (h : Hh) : (Res.ok a h).wp Q E = Q a h := Eq.trans rfl rfl
@[simp] theorem wp_exc (c : Str) (fs : List (Str × T)) (h : Hh) : (Res.exc c fs h : Res α).wp Q E = E c fs h := Eq.trans rfl rfl
@[simp] theorem wp_stk : (Res.stk : Res α).wp Q E = False := Eq.trans rfl rfl
def kQ (f : α → Hh → Res β) (Q : β → Hh → Prop) (E : EQ) : α → Hh → Prop := fun a h => (f a h).wp Q E
@[simp] theorem kQ_app {Q : β → Hh → Prop} (f : α → Hh → Res β) (a : α) (h : Hh) : kQ f Q E a h = (f a h).wp Q E := Eq.trans rfl rfl
@[simp] theorem wp_bind {Q : β → Hh → Prop} (r : Res α) (f : α → Hh → Res β) : (r.bind f).wp Q E = r.wp (kQ f Q E) E := by
  cases r <;> rfl
@[simp] theorem wp_if (c : Prop) [Decidable c] (a b : Res α) : (if c then a else b).wp Q E = ((c → a.wp Q E) ∧ (¬ c → b.wp Q E)) := by
  by_cases q : c <;> simp [q]
theorem Res.wp.mono {r : Res α} {Q Q' : α → Hh → Prop} {E E' : EQ} (w : r.wp Q E) (hq : ∀ a h, Q a h → Q' a h) (he : ∀ c fs h, E c fs h → E' c fs h) : r.wp Q' E' := by
  cases r with
  | ok a h => exact hq a h w
  | exc c fs h => exact he c fs h w
  | stk => exact w
theorem Res.wp.imp {r : Res α} {Q Q' : α → Hh → Prop} {E : EQ} (w : r.wp Q E) (hq : ∀ a h, Q a h → Q' a h) : r.wp Q' E := w.mono hq fun _ _ _ h => h
/-- nothing is raised -/
abbrev noE : EQ := fun _ _ _ => False
theorem Res.wp.ok {r : Res α} (w : r.wp Q noE) : ∃ a h, r = .ok a h ∧ Q a h := by
  cases r with
  | ok a h => exact ⟨a, h, rfl, w⟩
  | exc c fs h => exact w.elim
  | stk => exact w.elim
end
section
variable {Q : FQ}
@[simp] theorem fp_nx (σ : St3) (h : Hh) : (Flo.nx σ h).wp Q = Q.n σ h := Eq.trans rfl rfl
@[simp] theorem fp_rt (t : T) (h : Hh) : (Flo.rt t h).wp Q = Q.r t h := Eq.trans rfl rfl
@[simp] theorem fp_bk (σ : St3) (h : Hh) : (Flo.bk σ h).wp Q = Q.b σ h := Eq.trans rfl rfl
@[simp] theorem fp_ct (σ : St3) (h : Hh) : (Flo.ct σ h).wp Q = Q.c σ h := Eq.trans rfl rfl
@[simp] theorem fp_exc (c : Str) (fs : List (Str × T)) (σ : St3) (h : Hh) : (Flo.exc c fs σ h).wp Q = Q.e c fs σ h := Eq.trans rfl rfl
@[simp] theorem fp_stk : (Flo.stk).wp Q = False := Eq.trans rfl rfl
def FQ.seq (Q : FQ) (k : SS) : FQ := ⟨fun σ h => (k σ h).wp Q, Q.r, Q.b, Q.c, Q.e⟩
@[simp] theorem fs_n (k : SS) (σ : St3) (h : Hh) : (Q.seq k).n σ h = (k σ h).wp Q := Eq.trans rfl rfl
@[simp] theorem fs_r (k : SS) : (Q.seq k).r = Q.r := Eq.trans rfl rfl
@[simp] theorem fs_b (k : SS) : (Q.seq k).b = Q.b := Eq.trans rfl rfl
@[simp] theorem fs_c (k : SS) : (Q.seq k).c = Q.c := Eq.trans rfl rfl
@[simp] theorem fs_e (k : SS) : (Q.seq k).e = Q.e := Eq.trans rfl rfl
def FQ.loop (Q : FQ) (J : St3 → Hh → Prop) : FQ := ⟨J, Q.r, Q.n, J, Q.e⟩
@[simp] theorem fl_n (J : St3 → Hh → Prop) : (Q.loop J).n = J := Eq.trans rfl rfl
@[simp] theorem fl_r (J : St3 → Hh → Prop) : (Q.loop J).r = Q.r := Eq.trans rfl rfl
@[simp] theorem fl_b (J : St3 → Hh → Prop) : (Q.loop J).b = Q.n := Eq.trans rfl rfl
@[simp] theorem fl_c (J : St3 → Hh → Prop) : (Q.loop J).c = J := Eq.trans rfl rfl
@[simp] theorem fl_e (J : St3 → Hh → Prop) : (Q.loop J).e = Q.e := Eq.trans rfl rfl
def FQ.df (Q : T → Hh → Prop) (E : EQ) : FQ := ⟨fun _ h => Q .non h, Q, fun _ _ => False, fun _ _ => False, fun c fs _ h => E c fs h⟩
@[simp] theorem fd_n (Q : T → Hh → Prop) (E : EQ) (σ : St3) (h : Hh) : (FQ.df Q E).n σ h = Q .non h := Eq.trans rfl rfl
@[simp] theorem fd_r (Q : T → Hh → Prop) (E : EQ) : (FQ.df Q E).r = Q := Eq.trans rfl rfl
@[simp] theorem fd_e (Q : T → Hh → Prop) (E : EQ) (c : Str) (fs : List (Str × T)) (σ : St3) (h : Hh) : (FQ.df Q E).e c fs σ h = E c fs h := Eq.trans rfl rfl
def fQ {α : Type} (k : α → Hh → Flo) (Q : FQ) : α → Hh → Prop := fun a h => (k a h).wp Q
@[simp] theorem fQ_app {α : Type} (k : α → Hh → Flo) (a : α) (h : Hh) : fQ k Q a h = (k a h).wp Q := Eq.trans rfl rfl
def eQ (Q : FQ) (σ : St3) : EQ := fun c fs h => Q.e c fs σ h
@[simp] theorem eQ_app (σ : St3) (c : Str) (fs : List (Str × T)) (h : Hh) : eQ Q σ c fs h = Q.e c fs σ h := Eq.trans rfl rfl
@[simp] theorem eQ_seq (σ : St3) (k : SS) : eQ (Q.seq k) σ = eQ Q σ := Eq.trans rfl rfl
@[simp] theorem eQ_loop (σ : St3) (J : St3 → Hh → Prop) : eQ (Q.loop J) σ = eQ Q σ := Eq.trans rfl rfl
@[simp] theorem eQ_df (σ : St3) (Q : T → Hh → Prop) (E : EQ) : eQ (FQ.df Q E) σ = E := Eq.trans rfl rfl
@[simp] theorem fp_flo {α : Type} (r : Res α) (σ : St3) (k : α → Hh → Flo) : (r.flo σ k).wp Q = r.wp (fQ k Q) (eQ Q σ) := by
  cases r <;> rfl
@[simp] theorem fp_seq (r : Flo) (k : SS) : (r.seq k).wp Q = r.wp (Q.seq k) := by
  cases r <;> rfl
@[simp] theorem fp_if (c : Prop) [Decidable c] (a b : Flo) : (if c then a else b).wp Q = ((c → a.wp Q) ∧ (¬ c → b.wp Q)) := by
  by_cases q : c <;> simp [q]
theorem Flo.wp.mono {r : Flo} {Q Q' : FQ} (w : r.wp Q) (hn : ∀ σ h, Q.n σ h → Q'.n σ h) (hr : ∀ t h, Q.r t h → Q'.r t h) (hb : ∀ σ h, Q.b σ h → Q'.b σ h) (hc : ∀ σ h, Q.c σ h → Q'.c σ h) (he : ∀ c fs σ h, Q.e c fs σ h → Q'.e c fs σ h) : r.wp Q' := by
  cases r with
  | nx σ h => exact hn σ h w
  | rt t h => exact hr t h w
  | bk σ h => exact hb σ h w
  | ct σ h => exact hc σ h w
  | exc c fs σ h => exact he c fs σ h w
  | stk => exact w
end
@[simp] theorem wp_defRun (n : Nat) (b : SS) (ts : List T) (h : Hh) (Q : T → Hh → Prop) (E : EQ) : (defRun n b ts h).wp Q E = (b (startT n ts) h).wp (FQ.df Q E) := by
  unfold defRun
  cases b (startT n ts) h <;> rfl
/-- a for loop: what it keeps -/
theorem wp_for {s : Src} {ts : List T} {g : SG} {b : SS} {σ : St3} {h : Hh} {Q : FQ} (I : Nat → St3 → Hh → Prop) (hI : ∀ i σ h, I i σ h → s.Is ts h) (h0 : I 0 σ h)
    (hs : ∀ i x σ h, ts[i]? = some x → I i σ h → ∃ σ1, g x σ = some σ1 ∧ (b σ1 h).wp (Q.loop (I (i + 1))))
    (he : ∀ σ h, I ts.length σ h → Q.n σ h) : (forRun s g b (s.len h) 0 σ h).wp Q := by
  rw [(hI _ _ _ h0).len]
  suffices H : ∀ k i σ h, i + k = ts.length → I i σ h → (forRun s g b k i σ h).wp Q from H _ _ _ _ (by omega) h0
  intro k
  induction k with
  | zero =>
    intro i σ h e q
    have e1 : i = ts.length := by omega
    unfold forRun
    rw [(hI _ _ _ q).at, List.getElem?_eq_none (by omega)]
    exact he σ h (e1 ▸ q)
  | succ k ih =>
    intro i σ h e q
    have ex : ts[i]? = some ts[i] := by simp [show i < ts.length by omega]
    obtain ⟨σ1, e1, w⟩ := hs i _ σ h ex q
    unfold forRun
    rw [(hI _ _ _ q).at, ex]
    simp only [e1]
    revert w
    cases b σ1 h with
    | nx σ2 h2 => exact fun w => ih (i + 1) σ2 h2 (by omega) w
    | ct σ2 h2 => exact fun w => ih (i + 1) σ2 h2 (by omega) w
    | bk σ2 h2 => exact fun w => w
    | rt t h2 => exact fun w => w
    | exc c fs σ2 h2 => exact fun w => w
    | stk => exact fun w => w
/-- a list comprehension that changes things -/
theorem wp_lc {s : Src} {ts : List T} {g : SG} {tt : ST} {te : SE} {σ : St3} {h : Hh} {Q : List T → Hh → Prop} {E : EQ} (hz : ts.length ≤ sizeLine) (I : Nat → List T → Hh → Prop) (hI : ∀ i acc h, I i acc h → s.Is ts h) (h0 : I 0 [] h)
    (hs : ∀ i x acc h, ts[i]? = some x → I i acc h → ∃ σ1, g x σ = some σ1 ∧ (tt σ1 h).wp (fun b h1 => if b = true then (te σ1 h1).wp (fun t h2 => I (i + 1) (acc ++ [t]) h2) noE else I (i + 1) acc h1) noE)
    (he : ∀ acc h, I ts.length acc h → Q acc h) : (lcRun s g tt te σ (s.len h) 0 [] h).wp Q E := by
  obtain ⟨acc', h', e, q, _⟩ := lc_run (s := s) (ts := ts) (g := g) (tt := tt) (te := te) (σ := σ) (h := h) hz I hI h0 fun i x acc h ex q => by
    obtain ⟨σ1, e1, w⟩ := hs i x acc h ex q
    refine ⟨σ1, e1, ?_⟩
    obtain ⟨b, h1, e2, w2⟩ := w.ok
    cases b with
    | false => exact .inl ⟨h1, e2, by simpa using w2⟩
    | true =>
      have w2 : (te σ1 h1).wp (fun t h2 => I (i + 1) (acc ++ [t]) h2) noE := by simpa using w2
      obtain ⟨t, h2, e3, w3⟩ := w2.ok
      exact .inr ⟨h1, t, h2, e2, e3, w3⟩
  rw [e]
  exact he _ _ q
/-- [f x for x in ts], nothing changed -/
theorem wp_lcm {s : Src} {ts : List T} {g : SG} {te : SE} {σ : St3} {h : Hh} {Q : List T → Hh → Prop} {E : EQ} (f : T → T) (hz : ts.length ≤ sizeLine) (hI : s.Is ts h) (hs : ∀ x ∈ ts, ∃ σ1, g x σ = some σ1 ∧ te σ1 h = .ok (f x) h) (k : Q (ts.map f) h) :
    (lcRun s g stYes te σ (s.len h) 0 [] h).wp Q E := by
  rw [lc_map f hz hI hs]; exact k
theorem wp_lcf {s : Src} {ts : List T} {g : SG} {tt : ST} {te : SE} {σ : St3} {h : Hh} {Q : List T → Hh → Prop} {E : EQ} (p : T → Bool) (f : T → T) (hz : ts.length ≤ sizeLine) (hI : s.Is ts h) (hs : ∀ x ∈ ts, ∃ σ1, g x σ = some σ1 ∧ tt σ1 h = .ok (p x) h ∧ te σ1 h = .ok (f x) h) (k : Q ((ts.filter p).map f) h) :
    (lcRun s g tt te σ (s.len h) 0 [] h).wp Q E := by
  rw [lc_filter p f hz hI hs]; exact k
/-! ### the heap: nothing but some places changes -/
/-- h' has all of h but at the places of S -/
structure Fr (S : Nat → Prop) (h h' : Hh) : Prop where
  le : h.length ≤ h'.length
  keep : ∀ k, k < h.length → ¬ S k → h'[k]? = h[k]?
theorem Fr.refl {S : Nat → Prop} {h : Hh} : Fr S h h := ⟨Nat.le_refl _, fun _ _ _ => rfl⟩
theorem Fr.trans {S : Nat → Prop} {h h1 h2 : Hh} (a : Fr S h h1) (b : Fr S h1 h2) : Fr S h h2 :=
  ⟨Nat.le_trans a.le b.le, fun k hk hs => (b.keep k (Nat.lt_of_lt_of_le hk a.le) hs).trans (a.keep k hk hs)⟩
end W3
end

section
/-! PD: the helpers' promises as wp. -/
namespace W3
open PySem
def MixW (f : Fn) : Prop := ∀ {v k : Int} {h : Hh} {Q : T → Hh → Prop} {E : EQ}, (∀ z, Q (.int z) h) → (f [.int v, .int k] h).wp Q E
def DrawW (f : Fn) : Prop := ∀ {h : Hh} {l : Nat} {m : Int} {Q : T → Hh → Prop} {E : EQ}, IsBox h l → 0 < m → m < 1073741824 → (∀ d h', 0 ≤ d → d < m → Up l h h' → Q (.int d) h') → (f [.ref l, .int m] h).wp Q E
def BoxW (f : Fn) : Prop := ∀ {ns : List Int} {h : Hh} {Q : T → Hh → Prop} {E : EQ}, ns.length ≤ 63 → (∀ l h', IsBox h' l → h.length ≤ l → (∀ k, k < h.length → h'[k]? = h[k]?) → (∀ c, BoxC h' l = some c → h.length ≤ c) → Q (.ref l) h') → (f [.fl (ns.map T.int)] h).wp Q E
def NamesW (f : Fn) : Prop := ∀ {h : Hh} {l : Nat} {m : Int} {Q : T → Hh → Prop} {E : EQ}, IsBox h l → 0 ≤ m → m ≤ 25 → (∀ r ss h', lstAt h' r = some (tSs ss) → (ss.length : Int) = m → NmL ss → Up l h h' → h.length ≤ r → Q (.ref r) h') → (f [.ref l, .int m] h).wp Q E
@[simp] theorem e_startT (n : Nat) (ts : List T) : startT n ts = ts.map some ++ List.replicate (n - ts.length) none := Eq.trans rfl rfl
theorem lstAt_app_ge {h o : Hh} {k : Nat} : lstAt (h ++ o) (h.length + k) = lstAt o k := by
  unfold lstAt; rw [List.getElem?_append_right (by omega)]; simp
@[simp] theorem lstAt_app_k {h o : Hh} {k : Nat} : lstAt (h ++ o) (h.length + k) = lstAt o k := lstAt_app_ge
@[simp] theorem lstAt_app_z {h o : Hh} : lstAt (h ++ o) h.length = lstAt o 0 := by
  have := @lstAt_app_ge h o 0; simpa using this
@[simp] theorem lstAt_0 (o : Ob) (r : Hh) : lstAt (o :: r) 0 = match o with | .lst ts => some ts | _ => none := by
  unfold lstAt; cases o <;> rfl
@[simp] theorem lstAt_s (o : Ob) (r : Hh) (k : Nat) : lstAt (o :: r) (k + 1) = lstAt r k := by
  unfold lstAt; simp
@[simp] theorem e_neg (i : Int) (h : Hh) : oNeg (.int i) h = .ok (.int (-i)) h := Eq.trans rfl rfl
@[simp] theorem e_set_ap {h o : Hh} {k : Nat} {x : Ob} : (h ++ o).set (h.length + k) x = h ++ o.set k x := by
  rw [List.set_append_right _ _ (by omega)]; simp
@[simp] theorem e_set_ap0 {h o : Hh} {x : Ob} : (h ++ o).set h.length x = h ++ o.set 0 x := by
  rw [List.set_append_right _ _ (by omega)]; simp
theorem isK_ok {k : Kd} {x : T} {h : Hh} {b : Bool} (e : isK k x h = some b) : oIsK k x h = .ok (.bl b) h := by
  unfold oIsK; rw [e]
theorem lets_at {d : Int} (d0 : 0 ≤ d) (d1 : d < 26) : ∃ c, c ∈ LETS.cps.toList ∧ L2.atI (Str.ofString "abcdefghijklmnopqrstuvwxyz").cps.toList d = some c := by
  have hl : (Str.ofString "abcdefghijklmnopqrstuvwxyz").cps.toList.length = 26 := by decide +kernel
  obtain ⟨c, e, q⟩ := atI_mem (xs := (Str.ofString "abcdefghijklmnopqrstuvwxyz").cps.toList) d0 (by rw [hl]; omega)
  exact ⟨c, q, e⟩
@[simp] theorem lets_len2 : (Str.ofString "abcdefghijklmnopqrstuvwxyz").length = 26 := by decide +kernel
theorem atI_nil0 {α : Type} : L2.atI ([] : List α) 0 = none := by
  unfold L2.atI L2.ixN; simp
theorem Lt.ofs (s : Str) (h : s.cps.toList.all (fun c => LETS.cps.toList.contains c) = true) : Lt s := by
  intro c hc
  have := List.all_eq_true.mp h c hc
  simpa using this
end W3
end

section
/-! PE: forms as plain data; what the drawn parts are. -/
namespace W3
open PySem
abbrev Ent := Option Str
def tE : Ent → T | none => .non | some s => .str s
@[simp] theorem tE_n : tE none = .non := Eq.trans rfl rfl
@[simp] theorem tE_s (s : Str) : tE (some s) = .str s := Eq.trans rfl rfl
def tRow (r : List Ent) : T := .tup (r.map tE)
inductive Nr where | alone (r : List Ent) | looks (g : Str) (rs : List (List Ent))
def Nr.tLooks : Nr → T | .alone _ => .non | .looks g _ => .str g
def Nr.tNear : Nr → T | .alone r => tRow r | .looks _ rs => .tup (rs.map tRow)
structure Fd where
  first : Str
  nr : Nr
  far : Option (List Ent)
def tFar : Option (List Ent) → T | none => .non | some r => tRow r
def Fd.ts (f : Fd) : List T := [.str f.first, f.nr.tLooks, f.nr.tNear, tFar f.far]
def Fd.t (f : Fd) : T := .tup f.ts
def tPair (p : Str × Fd) : T := .tup [.str p.1, p.2.t]
structure Fm where
  words : List Str
  fields : List (Str × Fd)
  room : Int
def Fm.names (f : Fm) : List Str := f.fields.map Prod.fst
def Fm.tW (f : Fm) : T := .tup (tSs f.words)
def Fm.tF (f : Fm) : T := .tup (f.fields.map tPair)
structure RowOk (n : Nat) (r : List Ent) : Prop where
  len : r.length = n
  nm : ∀ s, some s ∈ r → Nm s
def NrOk (n : Nat) (ns : List Str) (nm : Str) : Nr → Prop
  | .alone r => RowOk n r
  | .looks g rs => g ∈ ns ∧ g ≠ nm ∧ rs.length = n ∧ ∀ r ∈ rs, RowOk n r
structure FdOk (ws ns : List Str) (nm : Str) (f : Fd) : Prop where
  first : f.first ∈ ws
  nr : NrOk ws.length ns nm f.nr
  far : ∀ r, f.far = some r → RowOk ws.length r
structure FmOk (f : Fm) : Prop where
  w2 : 2 ≤ f.words.length
  w3 : f.words.length ≤ 3
  wn : NmL f.words
  f1 : 1 ≤ f.fields.length
  f3 : f.fields.length ≤ 3
  fn : NmL f.names
  fs : ∀ p ∈ f.fields, FdOk f.words f.names p.1 p.2
  r1 : 1 ≤ f.room
  r3 : f.room ≤ 3
theorem box_ne {h : Hh} {l r : Nat} {ss : List Str} (b : IsBox h l) (e : lstAt h r = some (tSs ss)) : r ≠ l := by
  obtain ⟨c, cells, i, d, s, n, e1, _⟩ := b
  intro q
  subst q
  rw [e1] at e
  cases ss with
  | nil => cases e
  | cons a t => injection e with e; injection e with e _; cases e
theorem box_ne_c {h : Hh} {l r : Nat} {ss : List Str} (b : IsBox h l) (e : lstAt h r = some (tSs ss)) (hn : ss ≠ []) : BoxC h l ≠ some r := by
  obtain ⟨c, cells, i, d, s, n, e1, e2, _⟩ := b
  intro q
  unfold BoxC at q
  rw [e1] at q
  simp [BoxL] at q
  subst q
  rw [e2] at e
  cases ss with
  | nil => exact hn rfl
  | cons a t =>
    cases cells with
    | nil => cases e
    | cons a t => injection e with e; injection e with e _; cases e
def EntriesW (f : Fn) : Prop := ∀ {h : Hh} {l r : Nat} {a b : Str} {n : Nat} {Q : T → Hh → Prop} {E : EQ}, IsBox h l → lstAt h r = some [.str a, .str b] → Nm a → Nm b → n ≤ 25 → (∀ row h', RowOk n row → Up l h h' → Q (tRow row) h') → (f [.ref l, .ref r, .int n] h).wp Q E
def FieldW (f : Fn) : Prop := ∀ {h : Hh} {l rn rt : Nat} {ws ns : List Str} {nm a b : Str} {Q : T → Hh → Prop} {E : EQ}, IsBox h l → lstAt h rn = some (tSs ns) → lstAt h rt = some [.str a, .str b] → Nm a → Nm b → 2 ≤ ws.length → ws.length ≤ 25 → ns.length ≤ 25 →
  (∀ fd h', FdOk ws ns nm fd → Up l h h' → Q fd.t h') → (f [.ref l, .tup (tSs ws), .ref rn, .str nm, .ref rt] h).wp Q E
def PartsW (f : Fn) : Prop := ∀ {h : Hh} {l : Nat} {Q : T → Hh → Prop} {E : EQ}, IsBox h l → (∀ fm h', FmOk fm → Up l h h' → Q (.tup [fm.tW, fm.tF, .int fm.room]) h') → (f [.ref l] h).wp Q E
theorem lstAt_two {h : Hh} {r : Nat} {a b : Str} (e : lstAt h r = some [.str a, .str b]) : lstAt h r = some (tSs [a, b]) := e
theorem atI_map {α β : Type} (f : α → β) {xs : List α} {i : Int} (h0 : 0 ≤ i) (h1 : i < xs.length) : ∃ x, L2.atI (xs.map f) i = some (f x) ∧ x ∈ xs := by
  obtain ⟨y, e, q⟩ := atI_int (xs := xs.map f) h0 (by simpa using h1)
  rw [List.getElem?_map] at q
  cases z : xs[i.toNat]? with
  | none => rw [z] at q; cases q
  | some x => rw [z] at q; cases q; exact ⟨x, e, List.mem_of_getElem? z⟩
end W3
end

section
/-! PF: any values that are judged; names, rows, tables as Bools. -/
namespace W3
open PySem
theorem eq_of_wp {r : Res T} {v : T} {h : Hh} (w : r.wp (fun a h' => a = v ∧ h' = h) noE) : r = .ok v h := by
  obtain ⟨a, h', e, rfl, rfl⟩ := w.ok
  exact e
/-- a value whose kind can be asked for: no instance, no class -/
def Jd (v : T) (h : Hh) : Prop := match v with
  | .ref l => (∃ ts, h[l]? = some (.lst ts)) ∨ ∃ d, h[l]? = some (.dic d)
  | .cls _ => False
  | .str s => s.length ≤ 1000
  | .tup ts => ts.length ≤ 1000
  | _ => True
@[simp] theorem Jd_non (h : Hh) : Jd .non h := trivial
@[simp] theorem Jd_bl (b : Bool) (h : Hh) : Jd (.bl b) h := trivial
@[simp] theorem Jd_int (b : Int) (h : Hh) : Jd (.int b) h := trivial
@[simp] theorem Jd_str (b : Str) (h : Hh) : Jd (.str b) h = (b.length ≤ 1000) := Eq.trans rfl rfl
@[simp] theorem Jd_tup (b : List T) (h : Hh) : Jd (.tup b) h = (b.length ≤ 1000) := Eq.trans rfl rfl
@[simp] theorem Jd_fl (b : List T) (h : Hh) : Jd (.fl b) h := trivial
theorem Jd_lst {l : Nat} {ts : List T} {h : Hh} (e : lstAt h l = some ts) : Jd (.ref l) h := .inl ⟨ts, of_lstAt e⟩
def isStr : T → Bool | .str _ => true | _ => false
def isTup : T → Bool | .tup _ => true | _ => false
def isInt : T → Bool | .int _ => true | .bl _ => true | _ => false
def isBl : T → Bool | .bl _ => true | _ => false
theorem j_str {v : T} {h : Hh} (j : Jd v h) : oIsK .str v h = .ok (.bl (isStr v)) h := by
  apply isK_ok
  cases v with
  | ref l => rcases j with ⟨ts, e⟩ | ⟨d, e⟩ <;> simp only [isK, e] <;> rfl
  | cls c => exact j.elim
  | _ => rfl
theorem j_tup {v : T} {h : Hh} (j : Jd v h) : oIsK .tuple v h = .ok (.bl (isTup v)) h := by
  apply isK_ok
  cases v with
  | ref l => rcases j with ⟨ts, e⟩ | ⟨d, e⟩ <;> simp only [isK, e] <;> rfl
  | cls c => exact j.elim
  | _ => rfl
theorem j_int {v : T} {h : Hh} (j : Jd v h) : oIsK .int v h = .ok (.bl (isInt v)) h := by
  apply isK_ok
  cases v with
  | ref l => rcases j with ⟨ts, e⟩ | ⟨d, e⟩ <;> simp only [isK, e] <;> rfl
  | cls c => exact j.elim
  | _ => rfl
theorem j_bl {v : T} {h : Hh} (j : Jd v h) : oIsK .bool v h = .ok (.bl (isBl v)) h := by
  apply isK_ok
  cases v with
  | ref l => rcases j with ⟨ts, e⟩ | ⟨d, e⟩ <;> simp only [isK, e] <;> rfl
  | cls c => exact j.elim
  | _ => rfl
def ltB (s : Str) : Bool := s.cps.toList.all fun c => decide (c ∈ LETS.cps.toList)
def nmB (s : Str) : Bool := decide (1 ≤ s.length ∧ s.length ≤ 8) && ltB s
def nameB : T → Bool | .str s => nmB s | _ => false
theorem nmB_iff {s : Str} : nmB s = true ↔ Nm s := by
  unfold nmB ltB Nm Lt
  rw [Bool.and_eq_true, decide_eq_true_eq, List.all_eq_true, and_assoc]
  simp only [decide_eq_true_eq]
def integerB : T → Bool | .int _ => true | _ => false
def oneB (v : T) (ss : List Str) : Bool := match v with | .str s => decide (s ∈ ss) | _ => false
@[simp] theorem blsOf_map {α : Type} (p : α → Bool) : ∀ xs : List α, blsOf (xs.map fun x => T.bl (p x)) = some (xs.map p)
  | [] => rfl
  | x :: xs => by
    show (blsOf (xs.map fun x => T.bl (p x))).map (p x :: ·) = _
    rw [blsOf_map p xs]; rfl
@[simp] theorem bAll_map {α : Type} (p : α → Bool) (xs : List α) (h : Hh) : bAll (xs.map fun x => T.bl (p x)) h = .ok (.bl (xs.all p)) h := by
  unfold bAll; rw [blsOf_map]; simp
@[simp] theorem bAny_map {α : Type} (p : α → Bool) (xs : List α) (h : Hh) : bAny (xs.map fun x => T.bl (p x)) h = .ok (.bl (xs.any p)) h := by
  unfold bAny; rw [blsOf_map]; simp
theorem oIn_ch (c : Nat) (s : Str) (h : Hh) : oIn (.str ⟨#[c]⟩) (.str s) h = .ok (.bl (decide (c ∈ s.cps.toList))) h := by
  unfold oIn inT
  simp only [StrLaws.found_one]
abbrev keyS (s : Str) : L2.Key := .inr s
theorem keysT_strs : ∀ ss : List Str, keysT (tSs ss) = some (ss.map keyS)
  | [] => rfl
  | s :: ss => by
    show (match keyT (.str s), keysT (tSs ss) with | some k, some ks => some (k :: ks) | _, _ => none) = _
    rw [keysT_strs ss]; rfl
theorem list_snoc {α : Type} {P : List α → Prop} (h0 : P []) (h1 : ∀ l x, P l → P (l ++ [x])) (l : List α) : P l := by
  have : ∀ r : List α, P r.reverse := fun r => by
    induction r with
    | nil => exact h0
    | cons x r ih => rw [List.reverse_cons]; exact h1 _ _ ih
  have q := this l.reverse
  rwa [List.reverse_reverse] at q
theorem uq_nodup (ks : List L2.Key) : (uq ks).length = ks.length ↔ ks.Nodup := by
  refine list_snoc (P := fun ks => (uq ks).length = ks.length ↔ ks.Nodup) (by simp [uq]) (fun l x ih => ?_) ks
  rw [uq_snoc, List.nodup_append]
  have hm := uq_mem l x
  have hl := uq_len l
  by_cases hx : x ∈ uq l
  · rw [if_pos hx]
    constructor
    · intro e; rw [List.length_append] at e; simp at e; omega
    · intro ⟨_, _, q⟩; exact absurd rfl (q x (hm.mp hx) x (by simp))
  · rw [if_neg hx]
    rw [List.length_append, List.length_append]
    constructor
    · intro e
      refine ⟨ih.mp (by omega), by simp, fun a ha b hb => ?_⟩
      simp at hb
      intro q
      exact hx (hm.mpr (hb ▸ q ▸ ha))
    · intro ⟨q, _⟩; have := ih.mpr q; omega
theorem lenSet_strs {ss : List Str} {h : Hh} (hz : ss.length ≤ 4000) : ∃ n : Int, bLenSet (tSs ss) h = .ok (.int n) h ∧ (n = ss.length ↔ ss.Nodup) := by
  refine ⟨(uq (ss.map keyS)).length, ?_, ?_⟩
  · unfold bLenSet
    rw [keysT_strs]
    have : scanBound = 4096 := rfl
    simp only [List.length_map]
    rw [if_pos (by omega)]
  · have q := uq_nodup (ss.map keyS)
    rw [List.length_map] at q
    have q2 : (ss.map keyS).Nodup ↔ ss.Nodup := by
      unfold List.Nodup
      rw [List.pairwise_map]
      simp [keyS]
    rw [← q2, ← q]
    omega
/-- judged, n tuples deep -/
def JdN : Nat → T → Hh → Prop
  | 0, v, h => Jd v h
  | n + 1, v, h => Jd v h ∧ ∀ ts, v = .tup ts → ∀ t ∈ ts, JdN n t h
theorem JdN.jd {n : Nat} {v : T} {h : Hh} (j : JdN n v h) : Jd v h := by
  cases n with
  | zero => exact j
  | succ n => exact j.1
theorem JdN.tup {n : Nat} {ts : List T} {h : Hh} (j : JdN (n + 1) (.tup ts) h) {t : T} (ht : t ∈ ts) : JdN n t h := j.2 ts rfl t ht
def entB (t : T) : Bool := isNonT t || nameB t
def rowB (v : T) (n : Int) : Bool := match v with | .tup ts => decide ((ts.length : Int) = n) && ts.all entB | _ => false
def nearB (v looks : T) (n : Int) : Bool := if isNonT looks then rowB v n else match v with | .tup ts => decide ((ts.length : Int) = n) && ts.all (fun t => rowB t n) | _ => false
def strOf : T → Str | .str s => s | _ => ⟨#[]⟩
def namesB (v : T) (lo hi : Int) : Bool := match v with | .tup ts => decide (lo ≤ ts.length ∧ (ts.length : Int) ≤ hi) && (ts.all nameB && decide ((ts.map strOf).Nodup)) | _ => false
def pairB (v : T) : Bool := match v with | .tup [a, .tup b] => nameB a && decide (b.length = 4) | _ => false
def fstOf : T → T | .tup (a :: _) => a | t => t
def fieldsB (v : T) : Bool := match v with | .tup ts => decide (1 ≤ ts.length ∧ ts.length ≤ 3) && (ts.all pairB && decide ((ts.map fun t => strOf (fstOf t)).Nodup)) | _ => false
theorem names_strs : ∀ {ts : List T}, ts.all nameB = true → ts = tSs (ts.map strOf)
  | [], _ => rfl
  | t :: ts, q => by
    rw [List.all_cons, Bool.and_eq_true] at q
    rw [List.map_cons, show tSs (strOf t :: ts.map strOf) = .str (strOf t) :: tSs (ts.map strOf) from rfl, ← names_strs q.2]
    cases t with
    | str s => rfl
    | _ => exact absurd q.1 (by simp [nameB])
abbrev IsB (f : Fn) (n : Nat) (p : T → Bool) : Prop := ∀ {v : T} {h : Hh}, JdN n v h → f [v] h = .ok (.bl (p v)) h
def RowE (f : Fn) : Prop := ∀ {v : T} {n : Int} {h : Hh}, JdN 1 v h → f [v, .int n] h = .ok (.bl (rowB v n)) h
def NearE (f : Fn) : Prop := ∀ {v looks : T} {n : Int} {h : Hh}, JdN 2 v h → f [v, looks, .int n] h = .ok (.bl (nearB v looks n)) h
def NamesE (f : Fn) : Prop := ∀ {v : T} {a b : Int} {h : Hh}, JdN 1 v h → b ≤ 4000 → f [v, .int a, .int b] h = .ok (.bl (namesB v a b)) h
def OneE (f : Fn) : Prop := (∀ {v : T} {ss : List Str} {h : Hh}, Jd v h → f [v, .tup (tSs ss)] h = .ok (.bl (oneB v ss)) h) ∧ ∀ {v : T} {r : Nat} {ss : List Str} {h : Hh}, Jd v h → lstAt h r = some (tSs ss) → f [v, .ref r] h = .ok (.bl (oneB v ss)) h
@[simp] theorem isStr_s (s : Str) : isStr (.str s) = true := Eq.trans rfl rfl
@[simp] theorem isTup_s (s : List T) : isTup (.tup s) = true := Eq.trans rfl rfl
theorem of_isStr {v : T} (h : isStr v = true) : ∃ s, v = .str s := by cases v <;> first | exact ⟨_, rfl⟩ | cases h
theorem of_isTup {v : T} (h : isTup v = true) : ∃ s, v = .tup s := by cases v <;> first | exact ⟨_, rfl⟩ | cases h
theorem nameB_not {v : T} (h : ¬ isStr v = true) : nameB v = false := by cases v <;> first | rfl | exact absurd rfl h
theorem lcm_all {p : T → Bool} {s : Src} {ts : List T} {g : SG} {te : SE} {σ : St3} {h : Hh} {Q : T → Hh → Prop} {E E' : EQ} (hz : ts.length ≤ sizeLine) (hI : s.Is ts h) (hs : ∀ x ∈ ts, ∃ σ1, g x σ = some σ1 ∧ te σ1 h = .ok (.bl (p x)) h) (k : Q (.bl (ts.all p)) h) :
    (lcRun s g stYes te σ (s.len h) 0 [] h).wp (kQ bAll Q E') E := by
  refine wp_lcm (fun x => T.bl (p x)) hz hI hs ?_
  simp
  exact k
theorem lcm_any {p : T → Bool} {s : Src} {ts : List T} {g : SG} {te : SE} {σ : St3} {h : Hh} {Q : T → Hh → Prop} {E E' : EQ} (hz : ts.length ≤ sizeLine) (hI : s.Is ts h) (hs : ∀ x ∈ ts, ∃ σ1, g x σ = some σ1 ∧ te σ1 h = .ok (.bl (p x)) h) (k : Q (.bl (ts.any p)) h) :
    (lcRun s g stYes te σ (s.len h) 0 [] h).wp (kQ bAny Q E') E := by
  refine wp_lcm (fun x => T.bl (p x)) hz hI hs ?_
  simp
  exact k
end W3
end

section
/-! PG: forms in the heap. -/
namespace W3
open PySem
def Fm.ins (fm : Fm) : List (Str × T) := [("words", fm.tW), ("fields", fm.tF), ("room", .int fm.room)]
def FormAt (h : Hh) (l : Nat) (fm : Fm) : Prop := h[l]? = some (.ins "Form" fm.ins)
theorem insAt_of {h : Hh} {l : Nat} {c : Str} {fs : List (Str × T)} (e : h[l]? = some (.ins c fs)) : insAt h l = some (c, fs) := by unfold insAt; rw [e]
theorem FormAt.ins {h : Hh} {l : Nat} {fm : Fm} (e : FormAt h l fm) : insAt h l = some (("Form" : Str), fm.ins) := insAt_of e
theorem mOk_of {h : Hh} {l : Nat} {c m : Str} {fs : List (Str × T)} (e : insAt h l = some (c, fs)) (hm : fs.lookup m = none) : mOk c m (.ref l) h = true := by
  unfold mOk; simp only [e]; simp [hm]
theorem FormAt.m {h : Hh} {l : Nat} {fm : Fm} {m : Str} (e : FormAt h l fm) (hm : fm.ins.lookup m = none) : mOk "Form" m (.ref l) h = true := mOk_of e.ins hm
theorem fld_of {cs : List (Str × List Str)} {h : Hh} {l : Nat} {c : Str} {fs : List (Str × T)} {as : List Str} {f : Str} {t : T} (e : insAt h l = some (c, fs)) (hc : cs.lookup c = some as) (ha : as.contains f = true) (hf : fs.lookup f = some t) : oFldC cs f (.ref l) h = .ok t h := by
  simp only [oFldC, e, hc, ha, hf, if_true]
/-- .. set -/
theorem sfld_of {cs : List (Str × List Str)} {h : Hh} {l : Nat} {c : Str} {fs : List (Str × T)} {as : List Str} {f : Str} {y : T} {σ : St3} (e : insAt h l = some (c, fs)) (hc : cs.lookup c = some as) (ha : as.contains f = true) (hl : fs.length < 1000) :
    fSet cs (.ref l) f y σ h = .nx σ (h.set l (.ins c (putT f y fs))) := by
  simp only [fSet, e, hc, ha, hl, decide_true, Bool.and_true, if_true]
theorem jdN_str {n : Nat} {s : Str} {h : Hh} (hs : s.length ≤ 1000) : JdN n (.str s) h := by
  cases n with
  | zero => exact hs
  | succ n => exact ⟨hs, fun ts e => by cases e⟩
theorem jdN_non {n : Nat} {h : Hh} : JdN n .non h := by
  cases n with
  | zero => trivial
  | succ n => exact ⟨trivial, fun ts e => by cases e⟩
theorem jdN_int {n : Nat} {i : Int} {h : Hh} : JdN n (.int i) h := by
  cases n with
  | zero => trivial
  | succ n => exact ⟨trivial, fun ts e => by cases e⟩
theorem jdN_bl {n : Nat} {i : Bool} {h : Hh} : JdN n (.bl i) h := by
  cases n with
  | zero => trivial
  | succ n => exact ⟨trivial, fun ts e => by cases e⟩
theorem jdN_tup {n : Nat} {ts : List T} {h : Hh} (hl : ts.length ≤ 1000) (ht : ∀ t ∈ ts, JdN n t h) : JdN (n + 1) (.tup ts) h := ⟨hl, fun us e t q => by cases e; exact ht t q⟩
theorem jdN_ref {n : Nat} {l : Nat} {h : Hh} (j : Jd (.ref l) h) : JdN n (.ref l) h := by
  cases n with
  | zero => exact j
  | succ n => exact ⟨j, fun ts e => by cases e⟩
theorem Nm.short {s : Str} (h : Nm s) : s.length ≤ 1000 := by have := h.2.1; omega
theorem jdN_ent {n k : Nat} {r : List Ent} {e : Ent} {h : Hh} (ro : RowOk k r) (he : e ∈ r) : JdN n (tE e) h := by
  cases e with
  | none => exact jdN_non
  | some s => exact jdN_str (ro.nm s he).short
theorem jdN_row {n k : Nat} {r : List Ent} {h : Hh} (ro : RowOk k r) (hk : k ≤ 1000) : JdN (n + 1) (tRow r) h :=
  jdN_tup (by rw [List.length_map, ro.len]; exact hk) fun t ht => by
    obtain ⟨e, he, rfl⟩ := List.mem_map.mp ht
    exact jdN_ent ro he
theorem rowB_row {k : Nat} {r : List Ent} (ro : RowOk k r) : rowB (tRow r) k = true := by
  simp only [rowB, tRow, List.length_map, ro.len, decide_true, Bool.true_and, List.all_map, List.all_eq_true]
  intro e he
  cases e with
  | none => rfl
  | some s => simp [entB, nameB, nmB_iff.mpr (ro.nm s he)]
theorem nearB_nr {k : Nat} {ns : List Str} {nm : Str} {nr : Nr} (o : NrOk k ns nm nr) : nearB nr.tNear nr.tLooks k = true := by
  cases nr with
  | alone r => simp [Nr.tNear, Nr.tLooks, nearB, rowB_row o]
  | looks g rs =>
    obtain ⟨_, _, hl, hr⟩ := o
    simp [Nr.tNear, Nr.tLooks, nearB, hl]
    intro r hr'
    exact rowB_row (hr r hr')
theorem jdN_near {k : Nat} {ns : List Str} {nm : Str} {nr : Nr} {h : Hh} (o : NrOk k ns nm nr) (hk : k ≤ 1000) : JdN 2 nr.tNear h := by
  cases nr with
  | alone r => exact jdN_row o hk
  | looks g rs =>
    obtain ⟨_, _, hl, hr⟩ := o
    refine jdN_tup (by rw [List.length_map, hl]; exact hk) fun t ht => ?_
    obtain ⟨r, hr', rfl⟩ := List.mem_map.mp ht
    exact jdN_row (hr r hr') hk
theorem jdN_names {n : Nat} {ss : List Str} {h : Hh} (o : NmL ss) (hk : ss.length ≤ 1000) : JdN (n + 1) (.tup (tSs ss)) h :=
  jdN_tup (by rw [List.length_map]; exact hk) fun t ht => by
    obtain ⟨s, hs, rfl⟩ := List.mem_map.mp ht
    exact jdN_str (o.nm s hs).short
theorem strOf_tSs (ss : List Str) : (tSs ss).map strOf = ss := by
  rw [List.map_map]
  exact List.map_id' ss
theorem namesB_names {ss : List Str} {a b : Int} (o : NmL ss) (h1 : a ≤ ss.length) (h2 : (ss.length : Int) ≤ b) : namesB (.tup (tSs ss)) a b = true := by
  show (decide (a ≤ (tSs ss).length ∧ ((tSs ss).length : Int) ≤ b) && ((tSs ss).all nameB && decide (((tSs ss).map strOf).Nodup))) = true
  rw [strOf_tSs]
  simp [h1, h2, o.nd]
  intro s hs
  simp [nameB, nmB_iff.mpr (o.nm s hs)]
theorem fieldsB_fm {fm : Fm} (o : FmOk fm) : fieldsB fm.tF = true := by
  have e : (fm.fields.map tPair).map (fun t => strOf (fstOf t)) = fm.names := by rw [List.map_map]; rfl
  simp only [fieldsB, Fm.tF, List.length_map, o.f1, o.f3, e, o.fn.nd, and_self, decide_true, Bool.true_and, Bool.and_true, List.all_eq_true]
  intro t ht
  obtain ⟨p, hp, rfl⟩ := List.mem_map.mp ht
  simp [tPair, pairB, Fd.t, nameB, Fd.ts, nmB_iff.mpr (o.fn.nm p.1 (List.mem_map.mpr ⟨p, hp, rfl⟩))]
theorem jdN_fields {fm : Fm} {h : Hh} (o : FmOk fm) : JdN 2 fm.tF h := by
  refine jdN_tup (by rw [List.length_map]; have := o.f3; omega) fun t ht => ?_
  obtain ⟨p, hp, rfl⟩ := List.mem_map.mp ht
  refine jdN_tup (by simp) fun t ht => ?_
  simp at ht
  rcases ht with rfl | rfl
  · exact jdN_str (o.fn.nm p.1 (List.mem_map.mpr ⟨p, hp, rfl⟩)).short
  · show Jd _ _
    simp [Fd.t, Fd.ts]
def FieldsE (f : Fn) : Prop := IsB f 2 fieldsB
/-- a field of the form is right -/
def CheckW (f : Fn) : Prop := ∀ {fm : Fm} {p : Str × Fd} {r : Nat} {h : Hh}, FmOk fm → p ∈ fm.fields → lstAt h r = some (tSs fm.names) → f [.str p.1, p.2.t, fm.tW, .ref r] h = .ok .non h
def InitW (f : Fn) : Prop := ∀ {fm : Fm} {l : Nat} {h : Hh} {Q : T → Hh → Prop} {E : EQ}, FmOk fm → h[l]? = some (.ins "Form" []) → (∀ h', FormAt h' l fm → h'.length = h.length + 1 → (∀ k, k < h.length → k ≠ l → h'[k]? = h[k]?) → Q .non h') → (f [.ref l, fm.tW, fm.tF, .int fm.room] h).wp Q E
def FNamesE (f : Fn) : Prop := ∀ {fm : Fm} {l : Nat} {h : Hh}, FormAt h l fm → fm.fields.length ≤ 1000 → f [.ref l] h = .ok (.tup (tSs fm.names)) h
def enterB (ws ns : List Str) : List T → Bool | [a, b] => oneB a ns && oneB b ws | _ => false
def leaveB (ns : List Str) : List T → Bool | [a] => oneB a ns | _ => false
def answerB : List T → Bool | [.int k] => decide (0 ≤ k ∧ k < 3) | _ => false
def deedB (ws ns : List Str) (v : T) : Bool := match v with
  | .tup (.str w :: r) =>
    if w = "send" ∨ w = "reset" then r.isEmpty
    else if w = "enter" then enterB ws ns r
    else if w = "leave" then leaveB ns r
    else decide (w = "answer") && answerB r
  | _ => false
/-- five different words -/
theorem five (w : Str) : (w = "send" ∧ ¬ w = "reset" ∧ ¬ w = "enter" ∧ ¬ w = "leave" ∧ ¬ w = "answer") ∨ (¬ w = "send" ∧ w = "reset" ∧ ¬ w = "enter" ∧ ¬ w = "leave" ∧ ¬ w = "answer") ∨ (¬ w = "send" ∧ ¬ w = "reset" ∧ w = "enter" ∧ ¬ w = "leave" ∧ ¬ w = "answer") ∨
    (¬ w = "send" ∧ ¬ w = "reset" ∧ ¬ w = "enter" ∧ w = "leave" ∧ ¬ w = "answer") ∨ (¬ w = "send" ∧ ¬ w = "reset" ∧ ¬ w = "enter" ∧ ¬ w = "leave" ∧ w = "answer") ∨ (¬ w = "send" ∧ ¬ w = "reset" ∧ ¬ w = "enter" ∧ ¬ w = "leave" ∧ ¬ w = "answer") := by
  have key : ∀ {a b : Str}, w = a → a ≠ b → ¬ w = b := fun e n q => n (e.symm.trans q)
  by_cases h1 : w = "send"
  · exact .inl ⟨h1, key h1 (by decide +kernel), key h1 (by decide +kernel), key h1 (by decide +kernel), key h1 (by decide +kernel)⟩
  by_cases h2 : w = "reset"
  · exact .inr (.inl ⟨h1, h2, key h2 (by decide +kernel), key h2 (by decide +kernel), key h2 (by decide +kernel)⟩)
  by_cases h3 : w = "enter"
  · exact .inr (.inr (.inl ⟨h1, h2, h3, key h3 (by decide +kernel), key h3 (by decide +kernel)⟩))
  by_cases h4 : w = "leave"
  · exact .inr (.inr (.inr (.inl ⟨h1, h2, h3, h4, key h4 (by decide +kernel)⟩)))
  by_cases h5 : w = "answer"
  · exact .inr (.inr (.inr (.inr (.inl ⟨h1, h2, h3, h4, h5⟩))))
  · exact .inr (.inr (.inr (.inr (.inr ⟨h1, h2, h3, h4, h5⟩))))
theorem deedB_leave (ws ns : List Str) (r : List T) : deedB ws ns (.tup (.str "leave" :: r)) = leaveB ns r := by
  show (if ("leave" : Str) = "send" ∨ ("leave" : Str) = "reset" then r.isEmpty else if ("leave" : Str) = "enter" then enterB ws ns r else if ("leave" : Str) = "leave" then leaveB ns r else decide (("leave" : Str) = "answer") && answerB r) = _
  rw [if_neg (by decide +kernel), if_neg (by decide +kernel), if_pos rfl]
def DeedE (f : Fn) : Prop := ∀ {fm : Fm} {l : Nat} {v : T} {h : Hh}, FormAt h l fm → FmOk fm → JdN 1 v h → f [.ref l, v] h = .ok (.bl (deedB fm.words fm.names v)) h
end W3
end

section
/-! PH: values that are the same, by the law's own comparison; more comprehensions. -/
namespace W3
open PySem
def flatT : T → Bool | .non => true | .bl _ => true | .int _ => true | .str _ => true | _ => false
def LstT (h : Hh) (t : T) (ts : List T) : Prop := (∃ l, t = .ref l ∧ lstAt h l = some ts) ∨ t = .fl ts
def SameV (h : Hh) : Nat → T → T → Prop
  | 0, t, u => t = u ∧ flatT t = true
  | n + 1, t, u => (t = u ∧ flatT t = true) ∨ ∃ ts us, ((t = .tup ts ∧ u = .tup us) ∨ (LstT h t ts ∧ LstT h u us)) ∧ ts.length = us.length ∧ ts.length ≤ 100000 ∧ ∀ (i : Nat) (x y : T), ts[i]? = some x → us[i]? = some y → SameV h n x y
def PureT : Nat → T → Prop
  | 0, t => flatT t = true
  | n + 1, t => flatT t = true ∨ ∃ ts, t = .tup ts ∧ ts.length ≤ 100000 ∧ ∀ x ∈ ts, PureT n x
theorem PureT.same {h : Hh} : ∀ {n : Nat} {t : T}, PureT n t → SameV h n t t
  | 0, t, p => ⟨rfl, p⟩
  | n + 1, t, p => by
    rcases p with p | ⟨ts, rfl, hl, p⟩
    · exact .inl ⟨rfl, p⟩
    · refine .inr ⟨ts, ts, .inl ⟨rfl, rfl⟩, rfl, hl, fun i x y ex ey => ?_⟩
      rw [ex] at ey; cases ey
      exact (p x (List.mem_of_getElem? ex)).same
theorem SameV.lists {h : Hh} {n a b : Nat} {ts : List T} (ea : lstAt h a = some ts) (eb : lstAt h b = some ts) (hl : ts.length ≤ 100000) (p : ∀ x ∈ ts, PureT n x) : SameV h (n + 1) (.ref a) (.ref b) := by
  refine .inr ⟨ts, ts, .inr ⟨.inl ⟨a, rfl, ea⟩, .inl ⟨b, rfl, eb⟩⟩, rfl, hl, fun i x y ex ey => ?_⟩
  rw [ex] at ey; cases ey
  exact (p x (List.mem_of_getElem? ex)).same
def SameW (n : Nat) (f : Fn) : Prop := ∀ {t u : T} {h : Hh}, SameV h n t u → f [t, u] h = .ok (.bl true) h
@[simp] theorem e_isK_fl (k : Kd) (s : List T) (h : Hh) : oIsK k (.fl s) h = .ok (.bl (k == .list)) h := Eq.trans rfl rfl
theorem LstT.isK {h : Hh} {t : T} {ts : List T} (e : LstT h t ts) (k : Kd) : oIsK k t h = .ok (.bl (k == .list)) h := by
  rcases e with ⟨l, rfl, e⟩ | rfl
  · exact e_isK_lst e
  · rfl
theorem LstT.len {h : Hh} {t : T} {ts : List T} (e : LstT h t ts) : bLen [t] h = .ok (.int ts.length) h := by
  rcases e with ⟨l, rfl, e⟩ | rfl
  · simp [e]
  · rfl
theorem LstT.ix {h : Hh} {t : T} {ts : List T} (e : LstT h t ts) (i : Int) : oIx t (.int i) h = match L2.atI ts i with | some t => .ok t h | none => .stk := by
  rcases e with ⟨l, rfl, e⟩ | rfl
  · rw [e_ix_ref]; simp only [e] <;> rfl
  · rfl
@[simp] theorem e_saLc2 (si : SI) (g : SG) (tt : ST) (si1 : SI) (g1 : SG) (tt1 : ST) (te : SE) (vs vs1 : List Nat) {σ : St3} {h : Hh} : saLc2 si g tt si1 g1 tt1 te vs vs1 σ h = (si σ h).bind fun s h1 => lc2Run s g tt si1 g1 tt1 te vs1 (wipeT σ vs) (s.len h1) 0 [] h1 := Eq.trans rfl rfl
/-- [te for x in ts for y in us x], nothing changed -/
theorem wp_lc2m {s : Src} {ts : List T} {g : SG} {si1 : SI} {g1 : SG} {te : SE} {vs1 : List Nat} {σ : St3} {h : Hh} {Q : List T → Hh → Prop} {E : EQ} (us : T → List T) (f : T → T → T) (hz : (ts.flatMap us).length ≤ sizeLine) (hI : s.Is ts h)
    (hs : ∀ x ∈ ts, ∃ σ1 s1, g x σ = some σ1 ∧ si1 σ1 h = .ok s1 h ∧ s1.Is (us x) h ∧ ∀ y ∈ us x, ∃ σ2, g1 y (wipeT σ1 vs1) = some σ2 ∧ te σ2 h = .ok (f x y) h) (k : Q (ts.flatMap fun x => (us x).map (f x)) h) :
    (lc2Run s g stYes si1 g1 stYes te vs1 σ (s.len h) 0 [] h).wp Q E := by
  have inner : ∀ (x : T) (s1 : Src) (σ1 : St3) (ys : List T), s1.Is ys h → (∀ y ∈ ys, ∃ σ2, g1 y (wipeT σ1 vs1) = some σ2 ∧ te σ2 h = .ok (f x y) h) → ∀ k i acc, i + k = ys.length → acc.length + k ≤ sizeLine →
      lcRun s1 g1 stYes te (wipeT σ1 vs1) k i acc h = .ok (acc ++ (ys.drop i).map (f x)) h := by
    intro x s1 σ1 ys hI hy k
    induction k with
    | zero =>
      intro i acc e _
      unfold lcRun
      rw [hI.at, List.getElem?_eq_none (by omega), List.drop_eq_nil_of_le (by omega)]
      simp
    | succ k ih =>
      intro i acc e hz
      have hl : i < ys.length := by omega
      have ex : ys[i]? = some ys[i] := by simp [hl]
      obtain ⟨σ2, e1, e2⟩ := hy _ (List.mem_of_getElem? ex)
      unfold lcRun
      rw [hI.at, ex]
      simp only [e1, e_stYes, if_true, e2]
      rw [if_pos (by omega), ih (i + 1) _ (by omega) (by simp; omega), List.drop_eq_getElem_cons hl, List.map_cons, List.append_assoc]
      rfl
  have outer : ∀ k i acc, i + k = ts.length → acc.length + ((ts.drop i).flatMap us).length ≤ sizeLine → lc2Run s g stYes si1 g1 stYes te vs1 σ k i acc h = .ok (acc ++ (ts.drop i).flatMap fun x => (us x).map (f x)) h := by
    intro k
    induction k with
    | zero =>
      intro i acc e _
      unfold lc2Run
      rw [hI.at, List.getElem?_eq_none (by omega), List.drop_eq_nil_of_le (by omega)]
      simp
    | succ k ih =>
      intro i acc e hz
      have hl : i < ts.length := by omega
      have ex : ts[i]? = some ts[i] := by simp [hl]
      obtain ⟨σ1, s1, e1, e2, e3, e4⟩ := hs _ (List.mem_of_getElem? ex)
      rw [List.drop_eq_getElem_cons hl, List.flatMap_cons, List.length_append] at hz
      unfold lc2Run
      rw [hI.at, ex]
      simp only [e1, e_stYes, if_true, e2]
      rw [e3.len, inner ts[i] s1 σ1 _ e3 e4 _ 0 acc (by omega) (by omega)]
      simp only []
      rw [ih (i + 1) _ (by omega) (by rw [List.length_append, List.length_map, List.drop_zero]; omega), List.drop_eq_getElem_cons hl, List.flatMap_cons, List.append_assoc, List.drop_zero]
  rw [hI.len, outer _ 0 [] (by omega) (by simpa using hz)]
  simpa using k
def enterL (fm : Fm) : List T := fm.names.flatMap fun n => fm.words.map fun w => .tup [.str "enter", .str n, .str w]
def leaveL (fm : Fm) : List T := fm.names.map fun n => .tup [.str "leave", .str n]
def plainL (fm : Fm) : List T := enterL fm ++ leaveL fm ++ [.tup [.str "send"], .tup [.str "answer", .int 0], .tup [.str "answer", .int 1], .tup [.str "answer", .int 2]]
def wholeL (fm : Fm) : List T := plainL fm ++ [.tup [.str "reset"]]
theorem enterL_len (fm : Fm) : (enterL fm).length = fm.names.length * fm.words.length := by
  unfold enterL
  rw [List.length_flatMap]
  simp only [List.length_map]
  rw [List.map_const', List.sum_replicate_nat]
@[simp] theorem e_extend (l b : Nat) (h : Hh) : mExtend (.ref l) [.ref b] h = match lstAt h l, lstAt h b with
    | some ts, some zs => if ts.length + zs.length ≤ sizeLine then .ok .non (h.set l (.lst (ts ++ zs))) else .stk
    | _, _ => .stk := Eq.trans rfl rfl
@[simp] theorem e_clear (l : Nat) (h : Hh) : mClear (.ref l) [] h = match lstAt h l with
    | some _ => .ok .non (h.set l (.lst []))
    | none => .stk := Eq.trans rfl rfl
def enterP (fm : Fm) (ns : List Str) : List T := ns.flatMap fun n => fm.words.map fun w => .tup [.str "enter", .str n, .str w]
theorem enterP_all (fm : Fm) : enterP fm fm.names = enterL fm := rfl
theorem enterP_len (fm : Fm) (ns : List Str) : (enterP fm ns).length = ns.length * fm.words.length := by
  unfold enterP
  rw [List.length_flatMap]
  simp only [List.length_map]
  rw [List.map_const', List.sum_replicate_nat]
@[simp] theorem e_add_rr (l b : Nat) (h : Hh) : oAdd (.ref l) (.ref b) h = match lstAt h l, lstAt h b with
    | some xs, some zs => if xs.length + zs.length ≤ sizeLine then alloc (.lst (xs ++ zs)) h else .stk
    | _, _ => .stk := Eq.trans rfl rfl
theorem five_pure : True := trivial
theorem pure_strs {n : Nat} {ss : List T} (h : ∀ t ∈ ss, flatT t = true) (hl : ss.length ≤ 100000) : PureT (n + 1) (.tup ss) := .inr ⟨ss, rfl, hl, fun x hx => by
  cases n with
  | zero => exact h x hx
  | succ n => exact .inl (h x hx)⟩
theorem wholeL_mem {fm : Fm} {d : T} (hd : d ∈ wholeL fm) : (∃ n ∈ fm.names, ∃ w ∈ fm.words, d = .tup [.str "enter", .str n, .str w]) ∨ (∃ n ∈ fm.names, d = .tup [.str "leave", .str n]) ∨ d = .tup [.str "send"] ∨ (∃ k : Int, 0 ≤ k ∧ k < 3 ∧ d = .tup [.str "answer", .int k]) ∨ d = .tup [.str "reset"] := by
  unfold wholeL plainL enterL leaveL at hd
  simp only [List.mem_append, List.mem_flatMap, List.mem_map, List.mem_cons, List.not_mem_nil, or_false] at hd
  rcases hd with ((⟨n, hn, w, hw, rfl⟩ | ⟨n, hn, rfl⟩) | rfl | rfl | rfl | rfl) | rfl
  · exact .inl ⟨n, hn, w, hw, rfl⟩
  · exact .inr (.inl ⟨n, hn, rfl⟩)
  · exact .inr (.inr (.inl rfl))
  · exact .inr (.inr (.inr (.inl ⟨0, by omega, by omega, rfl⟩)))
  · exact .inr (.inr (.inr (.inl ⟨1, by omega, by omega, rfl⟩)))
  · exact .inr (.inr (.inr (.inl ⟨2, by omega, by omega, rfl⟩)))
  · exact .inr (.inr (.inr (.inr rfl)))
theorem wholeL_pure {fm : Fm} {d : T} (hd : d ∈ wholeL fm) : PureT 1 d := by
  rcases wholeL_mem hd with ⟨n, _, w, _, rfl⟩ | ⟨n, _, rfl⟩ | rfl | ⟨k, _, _, rfl⟩ | rfl <;> exact pure_strs (by simp [flatT]) (by simp)
theorem deedB_lit {ws ns : List Str} {w : Str} {r : List T} : deedB ws ns (.tup (.str w :: r)) = if w = "send" ∨ w = "reset" then r.isEmpty else if w = "enter" then enterB ws ns r else if w = "leave" then leaveB ns r else decide (w = "answer") && answerB r := rfl
theorem wholeL_deed {fm : Fm} {d : T} (hd : d ∈ wholeL fm) : deedB fm.words fm.names d = true := by
  rcases wholeL_mem hd with ⟨n, hn, w, hw, rfl⟩ | ⟨n, hn, rfl⟩ | rfl | ⟨k, h0, h3, rfl⟩ | rfl
  · rw [deedB_lit, if_neg (by decide +kernel), if_pos rfl]; simp [enterB, oneB, hn, hw]
  · rw [deedB_leave]; simp [leaveB, oneB, hn]
  · rw [deedB_lit, if_pos (by decide +kernel)]; rfl
  · rw [deedB_lit, if_neg (by decide +kernel), if_neg (by decide +kernel), if_neg (by decide +kernel)]; simp [answerB, h0, h3]
  · rw [deedB_lit, if_pos (by decide +kernel)]; rfl
theorem wholeL_jd {fm : Fm} {d : T} {h : Hh} (o : FmOk fm) (hd : d ∈ wholeL fm) : JdN 1 d h := by
  have k1 : (Str.ofString "enter").length ≤ 1000 := by decide +kernel
  have k2 : (Str.ofString "leave").length ≤ 1000 := by decide +kernel
  have k3 : (Str.ofString "send").length ≤ 1000 := by decide +kernel
  have k4 : (Str.ofString "answer").length ≤ 1000 := by decide +kernel
  have k5 : (Str.ofString "reset").length ≤ 1000 := by decide +kernel
  rcases wholeL_mem hd with ⟨n, hn, w, hw, rfl⟩ | ⟨n, hn, rfl⟩ | rfl | ⟨k, h0, h3, rfl⟩ | rfl
  · have s1 := (o.fn.nm n hn).short
    have s2 := (o.wn.nm w hw).short
    exact jdN_tup (by simp) (by simp [JdN, *])
  · have s1 := (o.fn.nm n hn).short
    exact jdN_tup (by simp) (by simp [JdN, *])
  · exact jdN_tup (by simp) (by simp [JdN, *])
  · exact jdN_tup (by simp) (by simp [JdN, *])
  · exact jdN_tup (by simp) (by simp [JdN, *])
/-- one turn of a loop over given items -/
theorem fp_turn {ts : List T} {g : SG} {b : SS} {k i : Nat} {σ σ1 : St3} {h : Hh} {Q : FQ} {x : T} (hx : ts[i]? = some x) (hg : g x σ = some σ1) (w : (b σ1 h).wp (Q.loop fun σ h => (forRun (.its ts) g b k (i + 1) σ h).wp Q)) : (forRun (.its ts) g b (k + 1) i σ h).wp Q := by
  unfold forRun
  simp only [Src.at, hx, hg]
  revert w
  cases b σ1 h <;> exact fun w => w
theorem fp_end {ts : List T} {g : SG} {b : SS} {k i : Nat} {σ : St3} {h : Hh} {Q : FQ} (hx : ts.length ≤ i) (w : Q.n σ h) : (forRun (.its ts) g b k i σ h).wp Q := by
  unfold forRun
  simp only [Src.at, List.getElem?_eq_none hx]
  exact w
theorem FormAt.app {h : Hh} {l : Nat} {fm : Fm} (e : FormAt h l fm) (o : Hh) : FormAt (h ++ o) l fm := by
  unfold FormAt
  rw [List.getElem?_append_left (List.getElem?_eq_some_iff.mp e).1]; exact e
theorem FormAt.set {h : Hh} {l k : Nat} {fm : Fm} (e : FormAt h l fm) (o : Ob) (hk : k ≠ l) : FormAt (h.set k o) l fm := by
  unfold FormAt
  rw [List.getElem?_set_ne hk]; exact e
theorem FormAt.lt {h : Hh} {l : Nat} {fm : Fm} (e : FormAt h l fm) : l < h.length := (List.getElem?_eq_some_iff.mp e).1
theorem FormAt.ne {h : Hh} {l r : Nat} {fm : Fm} {ts : List T} (e : FormAt h l fm) (q : lstAt h r = some ts) : r ≠ l := by
  intro z
  subst z
  have := of_lstAt q
  unfold FormAt at e
  rw [e] at this
  cases this
def DeedsW (f : Fn) : Prop := ∀ {fm : Fm} {l : Nat} {r : Bool} {h : Hh} {Q : T → Hh → Prop} {E : EQ}, FormAt h l fm → FmOk fm → (∀ a o, lstAt (h ++ o) a = some (if r = true then wholeL fm else plainL fm) → h.length ≤ a → Q (.ref a) (h ++ o)) → (f [.ref l, .bl r] h).wp Q E
end W3
end

section
/-! the semantic of the defs -/
namespace LW
open PySem W3
noncomputable section
def CS : List (Str × List Str) := [("Form", ["words", "fields", "room"])]
structure FF where
  is_integer : List T → Hh → Res T
  is_name : List T → Hh → Res T
  is_one_of : List T → Hh → Res T
  are_names : List T → Hh → Res T
  is_pair : List T → Hh → Res T
  are_fields : List T → Hh → Res T
  is_row : List T → Hh → Res T
  is_near : List T → Hh → Res T
  check_field : List T → Hh → Res T
  Form_init : List T → Hh → Res T
  Form_field_names : List T → Hh → Res T
  is_deed : List T → Hh → Res T
  deeds : List T → Hh → Res T
  _law_mix : List T → Hh → Res T
  _law_box : List T → Hh → Res T
  _law_draw : List T → Hh → Res T
  _law_same : List T → Hh → Res T
  _law_names : List T → Hh → Res T
  _law_entries : List T → Hh → Res T
  _law_field : List T → Hh → Res T
  _law_parts : List T → Hh → Res T
  law : List T → Hh → Res T
def b_is_integer (F : FF) : SS :=
  ssCons (ssRet (sIf (sT (s1 (oIsK .int) (sVar 0))) (sB (stNot (sT (s1 (oIsK .bool) (sVar 0))))) (sC (.bl false))))
  (ssNil)
def b_is_name_1 (F : FF) : SS :=
  ssCons (ssRet (sC (.bl false)))
  (ssNil)
def b_is_name_2 (F : FF) : SS :=
  ssCons (ssRet (sOver bAll (saLc (siE (sVar 0)) (sgName 1) (stYes) (s2 oIn (sVar 1) (sC (.str "abcdefghijklmnopqrstuvwxyz"))) [1])))
  (ssNil)
def b_is_name (F : FF) : SS :=
  ssCons (ssIf (stOr (stNot (sT (s1 (oIsK .str) (sVar 0)))) (stNot (sT (sChain oLe oLe (sC (.int 1)) (sCl bLen (saCons (sVar 0) (saNil))) (sC (.int 8))))))
  (b_is_name_1 F)
  (ssNil))
  (b_is_name_2 F)
def b_is_one_of (F : FF) : SS :=
  ssCons (ssRet (sIf (sT (s1 (oIsK .str) (sVar 0))) (s2 oIn (sVar 0) (sVar 1)) (sC (.bl false))))
  (ssNil)
def b_are_names_1 (F : FF) : SS :=
  ssCons (ssRet (sC (.bl false)))
  (ssNil)
def b_are_names_2 (F : FF) : SS :=
  ssCons (ssRet (sIf (sT (sOver bAll (saLc (siE (sVar 0)) (sgName 3) (stYes) (sCl (arN 1 F.is_name) (saCons (sVar 3) (saNil))) [3]))) (s2 oEq (s1 oLenSet (sVar 0)) (sCl bLen (saCons (sVar 0) (saNil)))) (sC (.bl false))))
  (ssNil)
def b_are_names (F : FF) : SS :=
  ssCons (ssIf (stOr (stNot (sT (s1 (oIsK .tuple) (sVar 0)))) (stNot (sT (sChain oLe oLe (sVar 1) (sCl bLen (saCons (sVar 0) (saNil))) (sVar 2)))))
  (b_are_names_1 F)
  (ssNil))
  (b_are_names_2 F)
def b_is_pair_1 (F : FF) : SS :=
  ssCons (ssRet (sC (.bl false)))
  (ssNil)
def b_is_pair_2 (F : FF) : SS :=
  ssCons (ssRet (sIf (sT (s1 (oIsK .tuple) (s2 oIx (sVar 0) (sC (.int 1))))) (s2 oEq (sCl bLen (saCons (s2 oIx (sVar 0) (sC (.int 1))) (saNil))) (sC (.int 4))) (sC (.bl false))))
  (ssNil)
def b_is_pair (F : FF) : SS :=
  ssCons (ssIf (stOr (stNot (sT (s1 (oIsK .tuple) (sVar 0)))) (stOr (sT (s2 oNe (sCl bLen (saCons (sVar 0) (saNil))) (sC (.int 2)))) (stNot (sT (sCl (arN 1 F.is_name) (saCons (s2 oIx (sVar 0) (sC (.int 0))) (saNil)))))))
  (b_is_pair_1 F)
  (ssNil))
  (b_is_pair_2 F)
def b_are_fields_1 (F : FF) : SS :=
  ssCons (ssRet (sC (.bl false)))
  (ssNil)
def b_are_fields_3 (F : FF) : SS :=
  ssCons (ssRet (sC (.bl false)))
  (ssNil)
def b_are_fields_4 (F : FF) : SS :=
  ssCons (ssRet (s2 oEq (sOver bLenSet (saLc (siE (sVar 0)) (sgName 1) (stYes) (s2 oIx (sVar 1) (sC (.int 0))) [1])) (sCl bLen (saCons (sVar 0) (saNil)))))
  (ssNil)
def b_are_fields_2 (F : FF) : SS :=
  ssCons (ssIf (stNot (sT (sOver bAll (saLc (siE (sVar 0)) (sgName 1) (stYes) (sCl (arN 1 F.is_pair) (saCons (sVar 1) (saNil))) [1]))))
  (b_are_fields_3 F)
  (ssNil))
  (b_are_fields_4 F)
def b_are_fields (F : FF) : SS :=
  ssCons (ssIf (stOr (stNot (sT (s1 (oIsK .tuple) (sVar 0)))) (stNot (sT (sChain oLe oLe (sC (.int 1)) (sCl bLen (saCons (sVar 0) (saNil))) (sC (.int 3))))))
  (b_are_fields_1 F)
  (ssNil))
  (b_are_fields_2 F)
def b_is_row_1 (F : FF) : SS :=
  ssCons (ssRet (sC (.bl false)))
  (ssNil)
def b_is_row_2 (F : FF) : SS :=
  ssCons (ssRet (sOver bAll (saLc (siE (sVar 0)) (sgName 2) (stYes) (sIf (sT (s2 oIs (sVar 2) (sC .non))) (sC (.bl true)) (sCl (arN 1 F.is_name) (saCons (sVar 2) (saNil)))) [2])))
  (ssNil)
def b_is_row (F : FF) : SS :=
  ssCons (ssIf (stOr (stNot (sT (s1 (oIsK .tuple) (sVar 0)))) (sT (s2 oNe (sCl bLen (saCons (sVar 0) (saNil))) (sVar 1))))
  (b_is_row_1 F)
  (ssNil))
  (b_is_row_2 F)
def b_is_near_1 (F : FF) : SS :=
  ssCons (ssRet (sCl (arN 2 F.is_row) (saCons (sVar 0) (saCons (sVar 2) (saNil)))))
  (ssNil)
def b_is_near_3 (F : FF) : SS :=
  ssCons (ssRet (sC (.bl false)))
  (ssNil)
def b_is_near_4 (F : FF) : SS :=
  ssCons (ssRet (sOver bAll (saLc (siE (sVar 0)) (sgName 3) (stYes) (sCl (arN 2 F.is_row) (saCons (sVar 3) (saCons (sVar 2) (saNil)))) [3])))
  (ssNil)
def b_is_near_2 (F : FF) : SS :=
  ssCons (ssIf (stOr (stNot (sT (s1 (oIsK .tuple) (sVar 0)))) (sT (s2 oNe (sCl bLen (saCons (sVar 0) (saNil))) (sVar 2))))
  (b_is_near_3 F)
  (ssNil))
  (b_is_near_4 F)
def b_is_near (F : FF) : SS :=
  ssCons (ssIf (sT (s2 oIs (sVar 1) (sC .non)))
  (b_is_near_1 F)
  (ssNil))
  (b_is_near_2 F)
def b_check_field_2 (F : FF) : SS :=
  ssCons (ssStk)
  (ssNil)
def b_check_field_4 (F : FF) : SS :=
  ssCons (ssStk)
  (ssNil)
def b_check_field_6 (F : FF) : SS :=
  ssCons (ssStk)
  (ssNil)
def b_check_field_8 (F : FF) : SS :=
  ssCons (ssStk)
  (ssNil)
def b_check_field_7 (F : FF) : SS :=
  ssCons (ssIf (stAnd (sT (s2 oIsNot (sVar 7) (sC .non))) (stNot (sT (sCl (arN 2 F.is_row) (saCons (sVar 7) (saCons (sCl bLen (saCons (sVar 2) (saNil))) (saNil)))))))
  (b_check_field_8 F)
  (ssNil))
  (ssNil)
def b_check_field_5 (F : FF) : SS :=
  ssCons (ssIf (stNot (sT (sCl (arN 3 F.is_near) (saCons (sVar 6) (saCons (sVar 5) (saCons (sCl bLen (saCons (sVar 2) (saNil))) (saNil)))))))
  (b_check_field_6 F)
  (ssNil))
  (b_check_field_7 F)
def b_check_field_3 (F : FF) : SS :=
  ssCons (ssIf (stAnd (sT (s2 oIsNot (sVar 5) (sC .non))) (stOr (stNot (sT (sCl (arN 2 F.is_one_of) (saCons (sVar 5) (saCons (sVar 3) (saNil)))))) (sT (s2 oEq (sVar 5) (sVar 0)))))
  (b_check_field_4 F)
  (ssNil))
  (b_check_field_5 F)
def b_check_field_1 (F : FF) : SS :=
  ssCons (ssIf (stNot (sT (sCl (arN 2 F.is_one_of) (saCons (sVar 4) (saCons (sVar 2) (saNil))))))
  (b_check_field_2 F)
  (ssNil))
  (b_check_field_3 F)
def b_check_field (F : FF) : SS :=
  ssCons (ssAsg (sVar 1) (sgTup 4 (sgsCons (sgName 4) (sgsCons (sgName 5) (sgsCons (sgName 6) (sgsCons (sgName 7) (sgsNil)))))))
  (b_check_field_1 F)
def b_Form_init_1 (F : FF) : SS :=
  ssCons (ssStk)
  (ssNil)
def b_Form_init_3 (F : FF) : SS :=
  ssCons (ssStk)
  (ssNil)
def b_Form_init_6 (F : FF) : SS :=
  ssCons (ssExpr (sCl (arN 4 F.check_field) (saCons (sVar 6) (saCons (sVar 7) (saCons (sVar 1) (saCons (sVar 4) (saNil)))))))
  (ssNil)
def b_Form_init_8 (F : FF) : SS :=
  ssCons (ssStk)
  (ssNil)
def b_Form_init_11 (F : FF) : SS :=
  ssCons (ssFldC CS (sVar 0) (sVar 3) "room")
  (ssNil)
def b_Form_init_10 (F : FF) : SS :=
  ssCons (ssFldC CS (sVar 0) (sVar 2) "fields")
  (b_Form_init_11 F)
def b_Form_init_9 (F : FF) : SS :=
  ssCons (ssFldC CS (sVar 0) (sVar 1) "words")
  (b_Form_init_10 F)
def b_Form_init_7 (F : FF) : SS :=
  ssCons (ssIf (stOr (stNot (sT (sCl (arN 1 F.is_integer) (saCons (sVar 3) (saNil))))) (stNot (sT (sChain oLe oLe (sC (.int 1)) (sVar 3) (sC (.int 3))))))
  (b_Form_init_8 F)
  (ssNil))
  (b_Form_init_9 F)
def b_Form_init_5 (F : FF) : SS :=
  ssCons (ssFor (siE (sVar 2)) (sgTup 2 (sgsCons (sgName 6) (sgsCons (sgName 7) (sgsNil))))
  (b_Form_init_6 F))
  (b_Form_init_7 F)
def b_Form_init_4 (F : FF) : SS :=
  ssCons (ssAsg (sLc (saLc (siE (sVar 2)) (sgName 5) (stYes) (s2 oIx (sVar 5) (sC (.int 0))) [5])) (sgName 4))
  (b_Form_init_5 F)
def b_Form_init_2 (F : FF) : SS :=
  ssCons (ssIf (stNot (sT (sCl (arN 1 F.are_fields) (saCons (sVar 2) (saNil)))))
  (b_Form_init_3 F)
  (ssNil))
  (b_Form_init_4 F)
def b_Form_init (F : FF) : SS :=
  ssCons (ssIf (stNot (sT (sCl (arN 3 F.are_names) (saCons (sVar 1) (saCons (sC (.int 2)) (saCons (sC (.int 3)) (saNil)))))))
  (b_Form_init_1 F)
  (ssNil))
  (b_Form_init_2 F)
def b_Form_field_names (F : FF) : SS :=
  ssCons (ssRet (sOver bTup (saLc (siE (s1 (oFldC CS "fields") (sVar 0))) (sgName 1) (stYes) (s2 oIx (sVar 1) (sC (.int 0))) [1])))
  (ssNil)
def b_is_deed_1 (F : FF) : SS :=
  ssCons (ssRet (sC (.bl false)))
  (ssNil)
def b_is_deed_5 (F : FF) : SS :=
  ssCons (ssRet (s2 oEq (sCl bLen (saCons (sVar 3) (saNil))) (sC (.int 0))))
  (ssNil)
def b_is_deed_7 (F : FF) : SS :=
  ssCons (ssRet (sIf (sT (s2 oEq (sCl bLen (saCons (sVar 3) (saNil))) (sC (.int 2)))) (sIf (sT (sCl (arN 2 F.is_one_of) (saCons (s2 oIx (sVar 3) (sC (.int 0))) (saCons (sMeth "Form" "field_names" 1 F.Form_field_names (sVar 0) saNil) (saNil))))) (sCl (arN 2 F.is_one_of) (saCons (s2 oIx (sVar 3) (sC (.int 1))) (saCons (s1 (oFldC CS "words") (sVar 0)) (saNil)))) (sC (.bl false))) (sC (.bl false))))
  (ssNil)
def b_is_deed_9 (F : FF) : SS :=
  ssCons (ssRet (sIf (sT (s2 oEq (sCl bLen (saCons (sVar 3) (saNil))) (sC (.int 1)))) (sCl (arN 2 F.is_one_of) (saCons (s2 oIx (sVar 3) (sC (.int 0))) (saCons (sMeth "Form" "field_names" 1 F.Form_field_names (sVar 0) saNil) (saNil)))) (sC (.bl false))))
  (ssNil)
def b_is_deed_10 (F : FF) : SS :=
  ssCons (ssRet (sIf (sT (s2 oEq (sVar 2) (sC (.str "answer")))) (sIf (sT (s2 oEq (sCl bLen (saCons (sVar 3) (saNil))) (sC (.int 1)))) (sIf (sT (sCl (arN 1 F.is_integer) (saCons (s2 oIx (sVar 3) (sC (.int 0))) (saNil)))) (sChain oLe oLt (sC (.int 0)) (s2 oIx (sVar 3) (sC (.int 0))) (sC (.int 3))) (sC (.bl false))) (sC (.bl false))) (sC (.bl false))))
  (ssNil)
def b_is_deed_8 (F : FF) : SS :=
  ssCons (ssIf (sT (s2 oEq (sVar 2) (sC (.str "leave"))))
  (b_is_deed_9 F)
  (ssNil))
  (b_is_deed_10 F)
def b_is_deed_6 (F : FF) : SS :=
  ssCons (ssIf (sT (s2 oEq (sVar 2) (sC (.str "enter"))))
  (b_is_deed_7 F)
  (ssNil))
  (b_is_deed_8 F)
def b_is_deed_4 (F : FF) : SS :=
  ssCons (ssIf (stOr (sT (s2 oEq (sVar 2) (sC (.str "send")))) (sT (s2 oEq (sVar 2) (sC (.str "reset")))))
  (b_is_deed_5 F)
  (ssNil))
  (b_is_deed_6 F)
def b_is_deed_3 (F : FF) : SS :=
  ssCons (ssAsg (sSl (sVar 1) (soSome (sC (.int 1))) (soNone)) (sgName 3))
  (b_is_deed_4 F)
def b_is_deed_2 (F : FF) : SS :=
  ssCons (ssAsg (s2 oIx (sVar 1) (sC (.int 0))) (sgName 2))
  (b_is_deed_3 F)
def b_is_deed (F : FF) : SS :=
  ssCons (ssIf (stOr (stNot (sT (s1 (oIsK .tuple) (sVar 1)))) (stOr (sT (s2 oEq (sCl bLen (saCons (sVar 1) (saNil))) (sC (.int 0)))) (stNot (sT (s1 (oIsK .str) (s2 oIx (sVar 1) (sC (.int 0))))))))
  (b_is_deed_1 F)
  (ssNil))
  (b_is_deed_2 F)
def b_deeds_5 (F : FF) : SS :=
  ssCons (ssExpr (sMtL mAppend (sVar 2) (saCons (sTup (saCons (sC (.str "reset")) (saNil))) (saNil))))
  (ssNil)
def b_deeds_6 (F : FF) : SS :=
  ssCons (ssRet (sVar 2))
  (ssNil)
def b_deeds_4 (F : FF) : SS :=
  ssCons (ssIf (sT (sVar 1))
  (b_deeds_5 F)
  (ssNil))
  (b_deeds_6 F)
def b_deeds_3 (F : FF) : SS :=
  ssCons (ssExpr (sMtL mExtend (sVar 2) (saCons (sLc (saLc (siRange1 (saCons (sC (.int 3)) (saNil))) (sgName 5) (stYes) (sTup (saCons (sC (.str "answer")) (saCons (sVar 5) (saNil)))) [5])) (saNil))))
  (b_deeds_4 F)
def b_deeds_2 (F : FF) : SS :=
  ssCons (ssExpr (sMtL mAppend (sVar 2) (saCons (sTup (saCons (sC (.str "send")) (saNil))) (saNil))))
  (b_deeds_3 F)
def b_deeds_1 (F : FF) : SS :=
  ssCons (ssExpr (sMtL mExtend (sVar 2) (saCons (sLc (saLc (siE (sMeth "Form" "field_names" 1 F.Form_field_names (sVar 0) saNil)) (sgName 3) (stYes) (sTup (saCons (sC (.str "leave")) (saCons (sVar 3) (saNil)))) [3])) (saNil))))
  (b_deeds_2 F)
def b_deeds (F : FF) : SS :=
  ssCons (ssAsg (sLc (saLc2 (siE (sMeth "Form" "field_names" 1 F.Form_field_names (sVar 0) saNil)) (sgName 3) (stYes) (siE (s1 (oFldC CS "words") (sVar 0))) (sgName 4) (stYes) (sTup (saCons (sC (.str "enter")) (saCons (sVar 3) (saCons (sVar 4) (saNil))))) [3, 4] [4])) (sgName 2))
  (b_deeds_1 F)
def b__law_mix_2 (F : FF) : SS :=
  ssCons (ssRet (s2 oMod (s2 oMul (sVar 2) (s2 oAdd (s2 oDiv (sVar 2) (sC (.int 2003))) (sC (.int 40692)))) (sC (.int 2147483399))))
  (ssNil)
def b__law_mix_1 (F : FF) : SS :=
  ssCons (ssAsg (s2 oMod (s2 oMul (sVar 2) (s2 oAdd (s2 oDiv (sVar 2) (sC (.int 1009))) (sC (.int 69621)))) (sC (.int 2147483647))) (sgName 2))
  (b__law_mix_2 F)
def b__law_mix (F : FF) : SS :=
  ssCons (ssAsg (s2 oMod (s2 oMul (s2 oAdd (s2 oAdd (sCl bInt (saCons (sVar 0) (saNil))) (s2 oMul (sC (.int 7919)) (sVar 1))) (sC (.int 1))) (sC (.int 48271))) (sC (.int 2147483647))) (sgName 2))
  (b__law_mix_1 F)
def b__law_box_3 (F : FF) : SS :=
  ssCons (ssAsg (sCl (arN 2 F._law_mix) (saCons (s2 oAdd (sVar 3) (sVar 2)) (saCons (sC (.int 3)) (saNil)))) (sgName 3))
  (ssNil)
def b__law_box_4 (F : FF) : SS :=
  ssCons (ssRet (sLst (saCons (sVar 1) (saCons (sC (.int 0)) (saCons (sC (.int 0)) (saCons (sVar 3) (saCons (sC (.int 0)) (saNil))))))))
  (ssNil)
def b__law_box_2 (F : FF) : SS :=
  ssCons (ssFor (siE (sVar 1)) (sgName 2)
  (b__law_box_3 F))
  (b__law_box_4 F)
def b__law_box_1 (F : FF) : SS :=
  ssCons (ssAsg (sC (.int 11)) (sgName 3))
  (b__law_box_2 F)
def b__law_box (F : FF) : SS :=
  ssCons (ssAsg (sLc (saLc (siE (sSl (sVar 0) (soNone) (soSome (sC (.int 63))))) (sgName 2) (stYes) (sCl bInt (saCons (sVar 2) (saNil))) [2])) (sgName 1))
  (b__law_box_1 F)
def b__law_draw_5 (F : FF) : SS :=
  ssCons (ssRet (s2 oMod (sCl bInt (saCons (sCl (arN 2 F._law_mix) (saCons (sVar 2) (saCons (s2 oIx (sVar 0) (sC (.int 4))) (saNil)))) (saNil))) (sVar 1)))
  (ssNil)
def b__law_draw_6 (F : FF) : SS :=
  ssCons (ssSub (sVar 0) (sC (.int 2)) (sVar 2))
  (ssNil)
def b__law_draw_4 (F : FF) : SS :=
  ssCons (ssIf (sT (s2 oLt (sVar 2) (s2 oPow (sC (.int 10)) (sC (.int 18)))))
   (b__law_draw_5 F)
   (ssNil))
  (b__law_draw_6 F)
def b__law_draw_3 (F : FF) : SS :=
  ssCons (ssSub (sVar 0) (sC (.int 1)) (s2 oAdd (s2 oIx (sVar 0) (sC (.int 1))) (sC (.int 1))))
  (b__law_draw_4 F)
def b__law_draw_2 (F : FF) : SS :=
  ssCons (ssAsg (s2 oIx (s2 oIx (sVar 0) (sC (.int 0))) (s2 oIx (sVar 0) (sC (.int 1)))) (sgName 2))
  (b__law_draw_3 F)
def b__law_draw_8 (F : FF) : SS :=
  ssCons (ssRet (s2 oMod (sCl bInt (saCons (sCl (arN 2 F._law_mix) (saCons (s2 oIx (sVar 0) (sC (.int 3))) (saCons (s2 oIx (sVar 0) (sC (.int 4))) (saNil)))) (saNil))) (sVar 1)))
  (ssNil)
def b__law_draw_11 (F : FF) : SS :=
  ssCons (ssRet (sVar 3))
  (ssNil)
def b__law_draw_10 (F : FF) : SS :=
  ssCons (ssSub (sVar 0) (sC (.int 2)) (s2 oDiv (sCl bInt (saCons (s2 oIx (sVar 0) (sC (.int 2))) (saNil))) (sVar 1)))
  (b__law_draw_11 F)
def b__law_draw_9 (F : FF) : SS :=
  ssCons (ssAsg (s2 oMod (sCl bInt (saCons (s2 oIx (sVar 0) (sC (.int 2))) (saNil))) (sVar 1)) (sgName 3))
  (b__law_draw_10 F)
def b__law_draw_7 (F : FF) : SS :=
  ssCons (ssIf (sT (s2 oEq (s2 oIx (sVar 0) (sC (.int 2))) (sC (.int 0))))
  (b__law_draw_8 F)
  (ssNil))
  (b__law_draw_9 F)
def b__law_draw_1 (F : FF) : SS :=
  ssCons (ssIf (stAnd (sT (s2 oEq (s2 oIx (sVar 0) (sC (.int 2))) (sC (.int 0)))) (sT (s2 oLt (s2 oIx (sVar 0) (sC (.int 1))) (sCl bLen (saCons (s2 oIx (sVar 0) (sC (.int 0))) (saNil))))))
  (b__law_draw_2 F)
  (ssNil))
  (b__law_draw_7 F)
def b__law_draw (F : FF) : SS :=
  ssCons (ssSub (sVar 0) (sC (.int 4)) (s2 oAdd (s2 oIx (sVar 0) (sC (.int 4))) (sC (.int 1))))
  (b__law_draw_1 F)
def b__law_same_2 (F : FF) : SS :=
  ssCons (ssRet (sC (.bl false)))
  (ssNil)
def b__law_same_4 (F : FF) : SS :=
  ssCons (ssRet (sC (.bl false)))
  (ssNil)
def b__law_same_5 (F : FF) : SS :=
  ssCons (ssRet (sOver bAll (saLc (siRange1 (saCons (sCl bLen (saCons (sVar 1) (saNil))) (saNil))) (sgName 2) (stYes) (sCl (arN 2 F._law_same) (saCons (s2 oIx (sVar 0) (sVar 2)) (saCons (s2 oIx (sVar 1) (sVar 2)) (saNil)))) [2])))
  (ssNil)
def b__law_same_3 (F : FF) : SS :=
  ssCons (ssIf (sT (s2 oNe (sCl bLen (saCons (sVar 0) (saNil))) (sCl bLen (saCons (sVar 1) (saNil)))))
   (b__law_same_4 F)
   (ssNil))
  (b__law_same_5 F)
def b__law_same_1 (F : FF) : SS :=
  ssCons (ssIf (stOr (sT (s2 oNe (s1 (oIsK .tuple) (sVar 1)) (s1 (oIsK .tuple) (sVar 0)))) (sT (s2 oNe (s1 (oIsK .list) (sVar 1)) (s1 (oIsK .list) (sVar 0)))))
   (b__law_same_2 F)
   (ssNil))
  (b__law_same_3 F)
def b__law_same_7 (F : FF) : SS :=
  ssCons (ssRet (s2 oIs (sVar 0) (sC .non)))
  (ssNil)
def b__law_same_9 (F : FF) : SS :=
  ssCons (ssRet (sIf (sT (s1 (oIsK .bool) (sVar 1))) (sIf (sT (s1 (oIsK .bool) (sVar 0))) (s2 oEq (sVar 1) (sVar 0)) (sC (.bl false))) (sC (.bl false))))
  (ssNil)
def b__law_same_11 (F : FF) : SS :=
  ssCons (ssRet (sIf (sT (s1 (oIsK .int) (sVar 0))) (s2 oEq (sVar 0) (sVar 1)) (sC (.bl false))))
  (ssNil)
def b__law_same_12 (F : FF) : SS :=
  ssCons (ssRet (sIf (sT (s1 (oIsK .str) (sVar 0))) (s2 oEq (sVar 0) (sVar 1)) (sC (.bl false))))
  (ssNil)
def b__law_same_10 (F : FF) : SS :=
  ssCons (ssIf (sT (s1 (oIsK .int) (sVar 1)))
  (b__law_same_11 F)
  (ssNil))
  (b__law_same_12 F)
def b__law_same_8 (F : FF) : SS :=
  ssCons (ssIf (stOr (sT (s1 (oIsK .bool) (sVar 1))) (sT (s1 (oIsK .bool) (sVar 0))))
  (b__law_same_9 F)
  (ssNil))
  (b__law_same_10 F)
def b__law_same_6 (F : FF) : SS :=
  ssCons (ssIf (sT (s2 oIs (sVar 1) (sC .non)))
  (b__law_same_7 F)
  (ssNil))
  (b__law_same_8 F)
def b__law_same (F : FF) : SS :=
  ssCons (ssIf (stOr (sT (s1 (oIsK .tuple) (sVar 1))) (sT (s1 (oIsK .list) (sVar 1))))
  (b__law_same_1 F)
  (ssNil))
  (b__law_same_6 F)
def b__law_names_4 (F : FF) : SS :=
  ssCons (ssAsg (s2 oAdd (sVar 4) (s2 oIx (sC (.str "abcdefghijklmnopqrstuvwxyz")) (sCl (arN 2 F._law_draw) (saCons (sVar 0) (saCons (sC (.int 26)) (saNil)))))) (sgName 4))
  (ssNil)
def b__law_names_7 (F : FF) : SS :=
  ssCons (ssAsg (s2 oIx (sVar 6) (sC (.int 0))) (sgName 4))
  (ssNil)
def b__law_names_6 (F : FF) : SS :=
  ssCons (ssAsg (sLc (saLc (siE (sC (.str "abcdefghijklmnopqrstuvwxyz"))) (sgName 7) (sT (s2 oNotIn (s2 oAdd (sSl (sVar 4) (soNone) (soSome (sC (.int 7)))) (sVar 7)) (sVar 2))) (s2 oAdd (sSl (sVar 4) (soNone) (soSome (sC (.int 7)))) (sVar 7)) [7])) (sgName 6))
  (b__law_names_7 F)
def b__law_names_8 (F : FF) : SS :=
  ssCons (ssExpr (sMtL mAppend (sVar 2) (saCons (sVar 4) (saNil))))
  (ssNil)
def b__law_names_5 (F : FF) : SS :=
  ssCons (ssIf (sT (s2 oIn (sVar 4) (sVar 2)))
   (b__law_names_6 F)
   (ssNil))
  (b__law_names_8 F)
def b__law_names_3 (F : FF) : SS :=
  ssCons (ssFor (siRange1 (saCons (s2 oAdd (sC (.int 1)) (sCl (arN 2 F._law_draw) (saCons (sVar 0) (saCons (sC (.int 8)) (saNil))))) (saNil))) (sgName 5)
   (b__law_names_4 F))
  (b__law_names_5 F)
def b__law_names_2 (F : FF) : SS :=
  ssCons (ssAsg (sC (.str "")) (sgName 4))
  (b__law_names_3 F)
def b__law_names_9 (F : FF) : SS :=
  ssCons (ssRet (sVar 2))
  (ssNil)
def b__law_names_1 (F : FF) : SS :=
  ssCons (ssFor (siRange1 (saCons (sVar 1) (saNil))) (sgName 3)
  (b__law_names_2 F))
  (b__law_names_9 F)
def b__law_names (F : FF) : SS :=
  ssCons (ssAsg (sLst (saNil)) (sgName 2))
  (b__law_names_1 F)
def b__law_entries_1 (F : FF) : SS :=
  ssCons (ssRet (sOver bTup (saLc (siRange1 (saCons (sVar 2) (saNil))) (sgName 4) (stYes) (s2 oIx (sVar 3) (sCl (arN 2 F._law_draw) (saCons (sVar 0) (saCons (sC (.int 4)) (saNil))))) [4])))
  (ssNil)
def b__law_entries (F : FF) : SS :=
  ssCons (ssAsg (sLst (saCons (sC .non) (saCons (sC .non) (saCons (s2 oIx (sVar 1) (sC (.int 0))) (saCons (s2 oIx (sVar 1) (sC (.int 1))) (saNil)))))) (sgName 3))
  (b__law_entries_1 F)
def b__law_field_6 (F : FF) : SS :=
  ssCons (ssAsg (sOver bTup (saLc (siE (sVar 1)) (sgName 10) (stYes) (sCl (arN 3 F._law_entries) (saCons (sVar 0) (saCons (sVar 4) (saCons (sCl bLen (saCons (sVar 1) (saNil))) (saNil))))) [10])) (sgName 9))
  (ssNil)
def b__law_field_5 (F : FF) : SS :=
  ssCons (ssAsg (s2 oIx (sVar 6) (sCl (arN 2 F._law_draw) (saCons (sVar 0) (saCons (sCl bLen (saCons (sVar 6) (saNil))) (saNil))))) (sgName 8))
  (b__law_field_6 F)
def b__law_field_9 (F : FF) : SS :=
  ssCons (ssAsg (sCl (arN 3 F._law_entries) (saCons (sVar 0) (saCons (sVar 4) (saCons (sCl bLen (saCons (sVar 1) (saNil))) (saNil))))) (sgName 11))
  (ssNil)
def b__law_field_10 (F : FF) : SS :=
  ssCons (ssRet (sTup (saCons (sVar 5) (saCons (sVar 8) (saCons (sVar 9) (saCons (sVar 11) (saNil)))))))
  (ssNil)
def b__law_field_8 (F : FF) : SS :=
  ssCons (ssIf (sT (s2 oEq (sCl (arN 2 F._law_draw) (saCons (sVar 0) (saCons (sC (.int 2)) (saNil)))) (sC (.int 1))))
  (b__law_field_9 F)
  (ssNil))
  (b__law_field_10 F)
def b__law_field_7 (F : FF) : SS :=
  ssCons (ssAsg (sC .non) (sgName 11))
  (b__law_field_8 F)
def b__law_field_4 (F : FF) : SS :=
  ssCons (ssIf (stAnd (sT (s2 oGt (sCl bLen (saCons (sVar 6) (saNil))) (sC (.int 0)))) (sT (s2 oEq (sCl (arN 2 F._law_draw) (saCons (sVar 0) (saCons (sC (.int 2)) (saNil)))) (sC (.int 1)))))
  (b__law_field_5 F)
  (ssNil))
  (b__law_field_7 F)
def b__law_field_3 (F : FF) : SS :=
  ssCons (ssAsg (sCl (arN 3 F._law_entries) (saCons (sVar 0) (saCons (sVar 4) (saCons (sCl bLen (saCons (sVar 1) (saNil))) (saNil))))) (sgName 9))
  (b__law_field_4 F)
def b__law_field_2 (F : FF) : SS :=
  ssCons (ssAsg (sC .non) (sgName 8))
  (b__law_field_3 F)
def b__law_field_1 (F : FF) : SS :=
  ssCons (ssAsg (sLc (saLc (siE (sVar 2)) (sgName 7) (sT (s2 oNe (sVar 7) (sVar 3))) (sVar 7) [7])) (sgName 6))
  (b__law_field_2 F)
def b__law_field (F : FF) : SS :=
  ssCons (ssAsg (s2 oIx (sVar 1) (sCl (arN 2 F._law_draw) (saCons (sVar 0) (saCons (sCl bLen (saCons (sVar 1) (saNil))) (saNil))))) (sgName 5))
  (b__law_field_1 F)
def b__law_parts_5 (F : FF) : SS :=
  ssCons (ssSub (sVar 3) (sC (.int 0)) (s2 oIx (sVar 2) (sC (.int 0))))
  (ssNil)
def b__law_parts_7 (F : FF) : SS :=
  ssCons (ssRet (sTup (saCons (sVar 2) (saCons (sVar 5) (saCons (sVar 1) (saNil))))))
  (ssNil)
def b__law_parts_6 (F : FF) : SS :=
  ssCons (ssAsg (sOver bTup (saLc (siE (sVar 3)) (sgName 6) (stYes) (sTup (saCons (sVar 6) (saCons (sCl (arN 5 F._law_field) (saCons (sVar 0) (saCons (sVar 2) (saCons (sVar 3) (saCons (sVar 6) (saCons (sVar 4) (saNil))))))) (saNil)))) [6])) (sgName 5))
  (b__law_parts_7 F)
def b__law_parts_4 (F : FF) : SS :=
  ssCons (ssIf (stAnd (sT (s2 oEq (sCl (arN 2 F._law_draw) (saCons (sVar 0) (saCons (sC (.int 4)) (saNil)))) (sC (.int 0)))) (sT (s2 oNotIn (s2 oIx (sVar 2) (sC (.int 0))) (sVar 3))))
  (b__law_parts_5 F)
  (ssNil))
  (b__law_parts_6 F)
def b__law_parts_3 (F : FF) : SS :=
  ssCons (ssAsg (sCl (arN 2 F._law_names) (saCons (sVar 0) (saCons (sC (.int 2)) (saNil)))) (sgName 4))
  (b__law_parts_4 F)
def b__law_parts_2 (F : FF) : SS :=
  ssCons (ssAsg (sCl (arN 2 F._law_names) (saCons (sVar 0) (saCons (s2 oAdd (sC (.int 1)) (sCl (arN 2 F._law_draw) (saCons (sVar 0) (saCons (sC (.int 3)) (saNil))))) (saNil)))) (sgName 3))
  (b__law_parts_3 F)
def b__law_parts_1 (F : FF) : SS :=
  ssCons (ssAsg (sCl bTuple (saCons (sCl (arN 2 F._law_names) (saCons (sVar 0) (saCons (s2 oAdd (sC (.int 2)) (sCl (arN 2 F._law_draw) (saCons (sVar 0) (saCons (sC (.int 2)) (saNil))))) (saNil)))) (saNil))) (sgName 2))
  (b__law_parts_2 F)
def b__law_parts (F : FF) : SS :=
  ssCons (ssAsg (s2 oAdd (sC (.int 1)) (sCl (arN 2 F._law_draw) (saCons (sVar 0) (saCons (sC (.int 3)) (saNil))))) (sgName 1))
  (b__law_parts_1 F)
def b_law_6 (F : FF) : SS :=
  ssCons (ssExpr (sMtL mExtend (sVar 6) (saCons (sLc (saLc (siE (s2 oIx (sVar 2) (sC (.int 0)))) (sgName 8) (stYes) (sTup (saCons (sC (.str "enter")) (saCons (sVar 7) (saCons (sVar 8) (saNil))))) [8])) (saNil))))
  (ssNil)
def b_law_12 (F : FF) : SS :=
  ssCons (ssRet (sC (.bl false)))
  (ssNil)
def b_law_13 (F : FF) : SS :=
  ssCons (ssExpr (sMtL mClear (sVar 10) saNil))
  (ssNil)
def b_law_11 (F : FF) : SS :=
  ssCons (ssIf (stNot (sT (sCl (arN 2 F._law_same) (saCons (sVar 10) (saCons (sVar 11) (saNil))))))
   (b_law_12 F)
   (ssNil))
  (b_law_13 F)
def b_law_16 (F : FF) : SS :=
  ssCons (ssRet (sC (.bl false)))
  (ssNil)
def b_law_15 (F : FF) : SS :=
  ssCons (ssIf (sT (s2 oIsNot (sCl (arN 2 F.is_deed) (saCons (sVar 3) (saCons (sVar 12) (saNil)))) (sC (.bl true))))
   (b_law_16 F)
   (ssNil))
  (ssNil)
def b_law_17 (F : FF) : SS :=
  ssCons (ssRet (sCl (arN 2 F._law_same) (saCons (sClK 1 0 [false] [(.bl true)] F.deeds (saCons (sVar 3) (saNil)) (saNil)) (saCons (sVar 9) (saNil)))))
  (ssNil)
def b_law_14 (F : FF) : SS :=
  ssCons (ssFor (siE (sVar 9)) (sgName 12)
  (b_law_15 F))
  (b_law_17 F)
def b_law_10 (F : FF) : SS :=
  ssCons (ssFor (siE (sTup (saCons (sTup (saCons (sClK 1 0 [false] [(.bl true)] F.deeds (saCons (sVar 3) (saNil)) (saNil)) (saCons (sVar 9) (saNil)))) (saCons (sTup (saCons (sClK 1 1 [true] [] F.deeds (saCons (sVar 3) (saNil)) (saCons (sC (.bl true)) (saNil))) (saCons (sVar 9) (saNil)))) (saCons (sTup (saCons (sClK 1 1 [true] [] F.deeds (saCons (sVar 3) (saNil)) (saCons (sC (.bl false)) (saNil))) (saCons (sVar 6) (saNil)))) (saNil)))))) (sgTup 2 (sgsCons (sgName 10) (sgsCons (sgName 11) (sgsNil))))
  (b_law_11 F))
  (b_law_14 F)
def b_law_9 (F : FF) : SS :=
  ssCons (ssAsg (s2 oAdd (sVar 6) (sLst (saCons (sTup (saCons (sC (.str "reset")) (saNil))) (saNil)))) (sgName 9))
  (b_law_10 F)
def b_law_8 (F : FF) : SS :=
  ssCons (ssExpr (sMtL mExtend (sVar 6) (saCons (sLst (saCons (sTup (saCons (sC (.str "send")) (saNil))) (saCons (sTup (saCons (sC (.str "answer")) (saCons (sC (.int 0)) (saNil)))) (saCons (sTup (saCons (sC (.str "answer")) (saCons (sC (.int 1)) (saNil)))) (saCons (sTup (saCons (sC (.str "answer")) (saCons (sC (.int 2)) (saNil)))) (saNil)))))) (saNil))))
  (b_law_9 F)
def b_law_7 (F : FF) : SS :=
  ssCons (ssExpr (sMtL mExtend (sVar 6) (saCons (sLc (saLc (siE (sVar 4)) (sgName 7) (stYes) (sTup (saCons (sC (.str "leave")) (saCons (sVar 7) (saNil)))) [7])) (saNil))))
  (b_law_8 F)
def b_law_5 (F : FF) : SS :=
  ssCons (ssFor (siE (sVar 4)) (sgName 7)
  (b_law_6 F))
  (b_law_7 F)
def b_law_4 (F : FF) : SS :=
  ssCons (ssAsg (sLst (saNil)) (sgName 6))
  (b_law_5 F)
def b_law_3 (F : FF) : SS :=
  ssCons (ssAsg (sLc (saLc (siE (s2 oIx (sVar 2) (sC (.int 1)))) (sgName 5) (stYes) (s2 oIx (sVar 5) (sC (.int 0))) [5])) (sgName 4))
  (b_law_4 F)
def b_law_2 (F : FF) : SS :=
  ssCons (ssAsg (bMakeK "Form" 1 2 [true] [] F.Form_init (saCons (s2 oIx (sVar 2) (sC (.int 0))) (saCons (s2 oIx (sVar 2) (sC (.int 1))) (saNil))) (saCons (s2 oIx (sVar 2) (sC (.int 2))) (saNil))) (sgName 3))
  (b_law_3 F)
def b_law_1 (F : FF) : SS :=
  ssCons (ssAsg (sCl (arN 1 F._law_parts) (saCons (sVar 1) (saNil))) (sgName 2))
  (b_law_2 F)
def b_law (F : FF) : SS :=
  ssCons (ssAsg (sCl (arN 1 F._law_box) (saCons (sVar 0) (saNil))) (sgName 1))
  (b_law_1 F)
def FF.stk : FF := ⟨fun _ _ => .stk, fun _ _ => .stk, fun _ _ => .stk, fun _ _ => .stk, fun _ _ => .stk, fun _ _ => .stk, fun _ _ => .stk, fun _ _ => .stk, fun _ _ => .stk, fun _ _ => .stk, fun _ _ => .stk, fun _ _ => .stk, fun _ _ => .stk, fun _ _ => .stk, fun _ _ => .stk, fun _ _ => .stk, fun _ _ => .stk, fun _ _ => .stk, fun _ _ => .stk, fun _ _ => .stk, fun _ _ => .stk, fun _ _ => .stk⟩
def stepF (F : FF) : FF where
  is_integer := defRun 1 (b_is_integer F)
  is_name := defRun 2 (b_is_name F)
  is_one_of := defRun 2 (b_is_one_of F)
  are_names := defRun 4 (b_are_names F)
  is_pair := defRun 1 (b_is_pair F)
  are_fields := defRun 2 (b_are_fields F)
  is_row := defRun 3 (b_is_row F)
  is_near := defRun 4 (b_is_near F)
  check_field := defRun 8 (b_check_field F)
  Form_init := defRun 8 (b_Form_init F)
  Form_field_names := defRun 2 (b_Form_field_names F)
  is_deed := defRun 4 (b_is_deed F)
  deeds := defRun 6 (b_deeds F)
  _law_mix := defRun 3 (b__law_mix F)
  _law_box := defRun 4 (b__law_box F)
  _law_draw := defRun 4 (b__law_draw F)
  _law_same := defRun 3 (b__law_same F)
  _law_names := defRun 8 (b__law_names F)
  _law_entries := defRun 5 (b__law_entries F)
  _law_field := defRun 12 (b__law_field F)
  _law_parts := defRun 7 (b__law_parts F)
  law := defRun 13 (b_law F)
def runF : Nat → FF
  | 0 => FF.stk
  | k + 1 => stepF (runF k)
end
end LW
end

section
namespace LW
open PySem W3
theorem ok_mix (F : FF) : MixW (defRun 3 (b__law_mix F)) := by
  intro v k h Q E hq
  have e1 : ∀ x : Int, 0 ≤ x % 2147483647 ∧ x % 2147483647 < 2147483647 := fun x => by omega
  have q := e1 ((v + 7919 * k + 1) * 48271)
  simp [b__law_mix, b__law_mix_1, b__law_mix_2]
  rw [e_mul_l (by omega) (by omega)]
  simp
  have q := e1 (((v + 7919 * k + 1) * 48271 % 2147483647 * ((v + 7919 * k + 1) * 48271 % 2147483647 / 1009 + 69621)))
  rw [e_mul_l (by omega) (by omega)]
  simp [hq]
theorem ok_box {F : FF} (m : MixW F._law_mix) : BoxW (defRun 4 (b__law_box F)) := by
  intro ns h Q E hns hq
  obtain ⟨ms, em, hm⟩ := cut_ints ns none (some 63)
  simp [b__law_box, b__law_box_1, em]
  refine wp_lcm (ts := ms.map T.int) id (szle (by simp; omega)) lstAt_new (fun x hx => ?_) ?_
  · obtain ⟨n, _, rfl⟩ := List.mem_map.mp hx
    simp
  simp [b__law_box_1, b__law_box_2]
  refine wp_for (ts := ms.map T.int) (fun i σ h1 => (∃ a z, σ = [some (T.fl (List.map T.int ns)), some (T.ref (List.length h + 1)), a, some (T.int z)]) ∧ h1 = h ++ [Ob.lst (List.map T.int ms), Ob.lst (List.map T.int ms)])
    (fun i σ h1 q => by rw [q.2]; simp [Src.Is]) ⟨⟨_, _, rfl⟩, rfl⟩ (fun i x σ h1 ex q => ?_) (fun σ h1 q => ?_)
  · obtain ⟨⟨a, z, rfl⟩, rfl⟩ := q
    obtain ⟨n, rfl⟩ := map_int_get ex
    refine ⟨_, rfl, ?_⟩
    simp [b__law_box_3]
    refine m fun y => ?_
    simp
  · obtain ⟨⟨a, z, rfl⟩, rfl⟩ := q
    simp [sizeLine, b__law_box_4]
    refine hq _ _ ⟨h.length + 1, ms, 0, 0, z, 0, ?_, ?_, by omega, by omega⟩ (by simp) (fun k hk => ?_) (fun c hc => ?_)
    · simp [BoxL]
    · simp
    · rw [List.getElem?_append_left hk]
    · unfold BoxC at hc
      simp at hc
      omega
theorem ok_draw {F : FF} (M : MixW F._law_mix) : DrawW (defRun 4 (b__law_draw F)) := by
  intro h l m Q E hb h0 h1 hq
  obtain ⟨c, cells, i, d, s, n, e, e2, hi, hd⟩ := hb
  have hne := IsBox.ne e e2
  have hlt := lstAt_lt e
  unfold BoxL at e
  have ec : ∀ o, lstAt (List.set h l o) c = some (cells.map T.int) := fun o => by rw [lstAt_set_ne hne]; exact e2
  have key : ∀ i' d' s' n', 0 ≤ i' → 0 ≤ d' → Up l h (List.set h l (.lst [T.ref c, T.int i', T.int d', T.int s', T.int n'])) := fun i' d' s' n' q1 q2 =>
    ⟨by simp, fun k _ hk => List.getElem?_set_ne (Ne.symm hk), ⟨c, cells, i', d', s', n', lstAt_set_self hlt, ec _, q1, q2⟩, by unfold BoxC; rw [lstAt_set_self hlt, e]⟩
  have hmod : ∀ x : Int, 0 ≤ x % m ∧ x % m < m := fun x => ⟨Int.emod_nonneg _ (by omega), Int.emod_lt_of_pos _ h0⟩
  simp [b__law_draw, b__law_draw_1, b__law_draw_2, b__law_draw_3, b__law_draw_4, b__law_draw_5, b__law_draw_6, b__law_draw_7, b__law_draw_8, b__law_draw_9, b__law_draw_10, b__law_draw_11, e, hlt]
  by_cases hd0 : d = 0
  · subst hd0
    by_cases hi2 : i < cells.length
    · obtain ⟨x, ex, qx⟩ := atI_int (xs := cells.map T.int) hi (by simpa using hi2)
      obtain ⟨z, rfl⟩ := map_int_get qx
      simp [ec, hlt, hi2, ex, h0, h1]
      refine ⟨fun hz => M fun y => ?_, fun hz => ⟨fun hz0 => by omega, fun hz0 => ?_⟩⟩
      · simp [h0]
        exact hq _ _ (hmod _).1 (hmod _).2 (key _ _ _ _ (by omega) (by omega))
      · exact hq _ _ (hmod _).1 (hmod _).2 (key _ _ _ _ (by omega) (Int.ediv_nonneg (by omega) (by omega)))
    · simp [ec, hlt, hi2, h0]
      refine M fun y => ?_
      simp [h0]
      exact hq _ _ (hmod _).1 (hmod _).2 (key _ _ _ _ (by omega) (by omega))
  · simp [hd0, hlt, h0, h1]
    exact hq _ _ (hmod _).1 (hmod _).2 (key _ _ _ _ (by omega) (Int.ediv_nonneg (by omega) (by omega)))
theorem ok_names {F : FF} (D : DrawW F._law_draw) : NamesW (defRun 8 (b__law_names F)) := by
  intro h l m Q E hb h0 h1 hq
  have hsz := sz
  simp [b__law_names, b__law_names_1]
  rw [e_rng (by omega) (by omega)]
  simp
  refine wp_for (ts := rangeT 0 m.toNat) (fun i σ h1 => ∃ ss a3 a4 a5 a6 a7, σ = [some (T.ref l), some (T.int m), some (T.ref h.length), a3, a4, a5, a6, a7] ∧ lstAt h1 h.length = some (tSs ss) ∧ ss.length = i ∧ NmL ss ∧ Kp l h.length h h1)
    (fun i σ h1 q => rfl) ⟨[], _, _, _, _, _, rfl, by simp, rfl, ⟨List.nodup_nil, by simp⟩, Up.app hb _⟩ (fun i x σ h1 ex q => ?_) (fun σ h1 q => ?_)
  · obtain ⟨ss, a3, a4, a5, a6, a7, rfl, hl, hn, hs, kp⟩ := q
    obtain ⟨rfl, hi⟩ := range_at ex
    refine ⟨_, rfl, ?_⟩
    simp [b__law_names_2, b__law_names_3]
    refine D kp.box (by omega) (by omega) fun d h2 d0 d1 u => ?_
    simp
    rw [e_rng (by omega) (by omega)]
    simp
    refine wp_for (ts := rangeT 0 (1 + d).toNat) (fun j σ h1 => ∃ w a5 a6 a7, σ = [some (T.ref l), some (T.int m), some (T.ref h.length), some (T.int i), some (T.str w), a5, a6, a7] ∧ lstAt h1 h.length = some (tSs ss) ∧ w.length = j ∧ Lt w ∧ Kp l h.length h h1)
      (fun i σ h1 q => rfl) ⟨_, _, _, _, rfl, u.lst hl (by have := hb.lt; omega), rfl, Lt.nil, kp.up u⟩ (fun j x σ h1 ex q => ?_) (fun σ h1 q => ?_)
    · obtain ⟨w, a5, a6, a7, rfl, hl, hw, lw, kp⟩ := q
      obtain ⟨rfl, hj⟩ := range_at ex
      refine ⟨_, rfl, ?_⟩
      simp [b__law_names_4]
      refine D kp.box (by omega) (by omega) fun d2 h3 d20 d21 u2 => ?_
      obtain ⟨c, hc, ec⟩ := lets_at d20 (by omega)
      simp [ec, show 26 ≤ sizeLine by omega, show w.length + 1 ≤ sizeLine by omega]
      exact ⟨u2.lst hl (by have := hb.lt; omega), by omega, lw.app (Lt.one hc), kp.up u2⟩
    · obtain ⟨w, a5, a6, a7, rfl, hl, hw, lw, kp⟩ := q
      rw [range_length] at hw
      have hbl := hb.lt
      simp [oIn_ref hl, b__law_names_5, b__law_names_6]
      have fin : ∀ (w' : Str) (h3 : Hh), Nm w' → w' ∉ ss → Kp l h.length h h3 → lstAt h3 h.length = some (tSs ss) → ∃ ss', lstAt (h3.set h.length (.lst (tSs ss ++ [.str w']))) h.length = some (tSs ss') ∧ ss'.length = i + 1 ∧ NmL ss' ∧ Kp l h.length h (h3.set h.length (.lst (tSs ss ++ [.str w']))) := by
        intro w' h3 nw nn kp hl
        refine ⟨ss ++ [w'], ?_, by simp; omega, hs.snoc nw nn, kp.set _ hb (Nat.le_refl _) (Nat.le_refl _)⟩
        rw [lstAt_set_self (lstAt_lt hl)]
        simp
      refine ⟨fun hin => ?_, fun hin => ?_⟩
      · refine wp_lcf (ts := (Str.ofString "abcdefghijklmnopqrstuvwxyz").cps.toList.map fun c => .str ⟨#[c]⟩)
          (fun x => match x with | .str s => !decide (L2.cutS w none (some 7) ++ s ∈ ss) | _ => false) (fun x => match x with | .str s => .str (L2.cutS w none (some 7) ++ s) | _ => x)
          (szle (by decide +kernel)) rfl (fun x hx => ?_) ?_
        · obtain ⟨c, hc, rfl⟩ := List.mem_map.mp hx
          have := cut7_len w
          simp [oNotIn_ref hl, show w.length ≤ sizeLine by omega, show (L2.cutS w none (some 7)).length + 1 ≤ sizeLine by omega]
        · obtain ⟨c, hc, hf⟩ := free_name (L2.cutS w none (some 7)) ss (by omega)
          have hne : ∃ c r, c ∈ LETS.cps.toList ∧ L2.cutS w none (some 7) ++ (⟨#[c]⟩ : Str) ∉ ss ∧ ((List.filter (fun x => match x with | .str s => !decide (L2.cutS w none (some 7) ++ s ∈ ss) | _ => false) ((Str.ofString "abcdefghijklmnopqrstuvwxyz").cps.toList.map fun c => T.str ⟨#[c]⟩)).map (fun x => match x with | .str s => .str (L2.cutS w none (some 7) ++ s) | _ => x)) = T.str (L2.cutS w none (some 7) ++ (⟨#[c]⟩ : Str)) :: r := by
            cases hq : (List.filter (fun x => match x with | T.str s => !decide (L2.cutS w none (some 7) ++ s ∈ ss) | _ => false) ((Str.ofString "abcdefghijklmnopqrstuvwxyz").cps.toList.map fun c => T.str ⟨#[c]⟩)) with
            | nil =>
              rw [List.filter_eq_nil_iff] at hq
              have := hq (T.str ⟨#[c]⟩) (List.mem_map.mpr ⟨c, hc, rfl⟩)
              simp [hf] at this
            | cons y r =>
              have hy : y ∈ List.filter (fun x => match x with | T.str s => !decide (L2.cutS w none (some 7) ++ s ∈ ss) | _ => false) ((Str.ofString "abcdefghijklmnopqrstuvwxyz").cps.toList.map fun c => T.str ⟨#[c]⟩) := by rw [hq]; simp
              rw [List.mem_filter] at hy
              obtain ⟨hy1, hy2⟩ := hy
              obtain ⟨c', hc', rfl⟩ := List.mem_map.mp hy1
              exact ⟨c', _, hc', by simpa using hy2, rfl⟩
          obtain ⟨c, r, hc, hf, er⟩ := hne
          rw [er]
          simp [b__law_names_7]
          have hl2 : ∀ o, lstAt (h1 ++ o) h.length = some (tSs ss) := fun o => lstAt_app o hl
          simp [b__law_names_8, hl2, show ss.length < sizeLine by omega]
          have l7 := cut7_len w
          have nw : Nm (L2.cutS w none (some 7) ++ (⟨#[c]⟩ : Str)) := ⟨by simp, by simp; omega, (cut7_lt lw).app (Lt.one hc)⟩
          simpa using fin _ _ nw hf (kp.app _) (hl2 _)
      · simp [b__law_names_8, hl, show ss.length < sizeLine by omega]
        simpa using fin w h1 ⟨by omega, by omega, lw⟩ hin kp hl
  · obtain ⟨ss, a3, a4, a5, a6, a7, rfl, hl, hn, hs, kp⟩ := q
    rw [range_length] at hn
    simp [b__law_names_9]
    exact hq _ ss _ hl (by omega) hs kp (Nat.le_refl _)
theorem ok_entries {F : FF} (D : DrawW F._law_draw) : EntriesW (defRun 5 (b__law_entries F)) := by
  intro h l r a b n Q E hb hr ha hb' hn hq
  have hsz := sz
  have hne := box_ne hb (lstAt_two hr)
  simp [b__law_entries, b__law_entries_1, hr, show 4 ≤ sizeLine by omega]
  rw [e_rng (by omega) (by omega)]
  simp
  refine wp_lc (ts := rangeT 0 n) (szle (by simp; omega)) (fun i acc h1 => ∃ row : List Ent, acc = row.map tE ∧ row.length = i ∧ (∀ s, some s ∈ row → Nm s) ∧ Kp l h.length h h1 ∧ lstAt h1 h.length = some [.non, .non, .str a, .str b])
    (fun i acc h1 q => rfl) ⟨[], rfl, rfl, by simp, Up.app hb _, by simp⟩ (fun i x acc h1 ex q => ?_) (fun acc h1 q => ?_)
  · obtain ⟨row, rfl, hl, hs, kp, hm⟩ := q
    obtain ⟨rfl, hi⟩ := range_at ex
    refine ⟨_, rfl, ?_⟩
    simp
    refine D kp.box (by omega) (by omega) fun d h2 d0 d1 u => ?_
    have hm2 := u.lst hm (by have := hb.lt; omega)
    have hz : ∃ e : Ent, L2.atI [T.non, T.non, T.str a, T.str b] d = some (tE e) ∧ ∀ s, e = some s → Nm s := by
      have : d = 0 ∨ d = 1 ∨ d = 2 ∨ d = 3 := by omega
      rcases this with rfl | rfl | rfl | rfl
      · exact ⟨none, rfl, by simp⟩
      · exact ⟨none, rfl, by simp⟩
      · exact ⟨some a, rfl, by simp [ha]⟩
      · exact ⟨some b, rfl, by simp [hb']⟩
    obtain ⟨e, ee, he⟩ := hz
    simp [hm2, ee]
    refine ⟨row ++ [e], by simp, by simp; omega, fun s hs' => ?_, kp.up u⟩
    rcases List.mem_append.mp hs' with q | q
    · exact hs s q
    · simp at q; exact he s q.symm
  · obtain ⟨row, rfl, hl, hs, kp, hm⟩ := q
    rw [range_length] at hl
    simp
    exact hq row h1 ⟨hl, hs⟩ kp
theorem ok_field {F : FF} (D : DrawW F._law_draw) (En : EntriesW F._law_entries) : FieldW (defRun 12 (b__law_field F)) := by
  intro h l rn rt ws ns nm a b Q E hb hrn hrt ha hb' hw hw2 hn hq
  have hsz := sz
  have hne := box_ne hb (lstAt_two hrt)
  have hne2 := box_ne hb hrn
  -- from the tables on
  have rest2 : ∀ (fi : Str) (nr : Nr) (far : Option (List Ent)) (h1 : Hh) (a2 a3 a6 a7 a10 : Option T), fi ∈ ws → NrOk ws.length ns nm nr → (∀ r, far = some r → RowOk ws.length r) → Up l h h1 →
      (b__law_field_10 F [some (.ref l), some (.tup (tSs ws)), a2, a3, some (.ref rt), some (.str fi), a6, a7, some nr.tLooks, some nr.tNear, a10, some (tFar far)] h1).wp (FQ.df Q E) := by
    intro fi nr far h1 a2 a3 a6 a7 a10 hfi hnr hfar u
    simp [b__law_field_10, show 4 ≤ sizeLine by omega]
    exact hq ⟨fi, nr, far⟩ h1 ⟨hfi, hnr, hfar⟩ u
  have rest : ∀ (fi : Str) (nr : Nr) (h1 : Hh) (a2 a3 a6 a7 a10 a11 : Option T), fi ∈ ws → NrOk ws.length ns nm nr → Up l h h1 → lstAt h1 rt = some [.str a, .str b] →
      (b__law_field_7 F [some (.ref l), some (.tup (tSs ws)), a2, a3, some (.ref rt), some (.str fi), a6, a7, some nr.tLooks, some nr.tNear, a10, a11] h1).wp (FQ.df Q E) := by
    intro fi nr h1 a2 a3 a6 a7 a10 a11 hfi hnr u hrt
    simp [b__law_field_7, b__law_field_8]
    refine D u.box (by omega) (by omega) fun d h2 d0 d1 u2 => ?_
    simp [b__law_field_9]
    have hrt2 := u2.lst hrt hne
    refine ⟨fun hd => En u2.box hrt2 ha hb' hw2 fun row h3 rok u3 => ?_, fun hd => ?_⟩
    · simp
      exact rest2 fi nr (some row) h3 _ _ _ _ _ hfi hnr (by simp [rok]) ((u.up u2).up u3)
    · exact rest2 fi nr none h2 _ _ _ _ _ hfi hnr (by simp) (u.up u2)
  simp [b__law_field]
  refine D hb (by omega) (by omega) fun d h1 d0 d1 u1 => ?_
  obtain ⟨fi, efi, hfi⟩ := atI_map T.str (xs := ws) d0 (by omega)
  have hrn1 := u1.lst hrn hne2
  simp [b__law_field_1, efi, hrn1]
  refine wp_lcf (ts := tSs ns) (fun x => match x with | .str s => !decide (s = nm) | _ => false) id (szle (by simp; omega)) hrn1 (fun x hx => ?_) ?_
  · obtain ⟨s, _, rfl⟩ := List.mem_map.mp hx
    simp
  have ef : ((tSs ns).filter (fun x => match x with | .str s => !decide (s = nm) | _ => false)).map id = tSs (ns.filter fun s => !decide (s = nm)) := by
    rw [List.map_id, List.filter_map]
    rfl
  rw [ef]
  generalize ho : (ns.filter fun s => !decide (s = nm)) = os
  have hos : ∀ s ∈ os, s ∈ ns ∧ s ≠ nm := by
    intro s hs
    rw [← ho, List.mem_filter] at hs
    simpa using hs
  have hol : os.length ≤ ns.length := by rw [← ho]; exact List.length_filter_le _ _
  simp [b__law_field_2, b__law_field_3]
  refine En (u1.box.app _) (lstAt_app _ (u1.lst hrt hne)) ha hb' hw2 fun row h2 rok u2 => ?_
  have hos2 : lstAt h2 h1.length = some (tSs os) := u2.lst (by simp) (by have := u1.box.lt; omega)
  have hrt2 := u2.lst (lstAt_app _ (u1.lst hrt hne)) hne
  have up2 : Up l h h2 := (Kp.app u1 [Ob.lst (tSs os)]).up u2
  simp [b__law_field_4, hos2]
  refine ⟨fun hz => ?_, fun hz => ?_⟩
  · refine D up2.box (by omega) (by omega) fun d h3 d0 d1 u3 => ?_
    have hos3 := u3.lst hos2 (by have := u1.box.lt; omega)
    have hrt3 := u3.lst hrt2 hne
    simp [b__law_field_5, hos3]
    refine ⟨fun hd => D u3.box (by omega) (by omega) fun d h4 d0 d1 u4 => ?_, fun hd => rest fi (.alone row) h3 _ _ _ _ _ _ hfi rok (up2.up u3) hrt3⟩
    have hos4 := u4.lst hos3 (by have := u1.box.lt; omega)
    have hrt4 := u4.lst hrt3 hne
    obtain ⟨g, eg, hg⟩ := atI_map T.str (xs := os) d0 (by omega)
    simp [b__law_field_6, hos4, eg]
    refine wp_lc (ts := tSs ws) (szle (by simp; omega)) (fun i acc h1 => ∃ rows : List (List Ent), acc = rows.map tRow ∧ rows.length = i ∧ (∀ r ∈ rows, RowOk ws.length r) ∧ Up l h h1 ∧ lstAt h1 rt = some [.str a, .str b])
      (fun i acc h1 q => rfl) ⟨[], rfl, rfl, by simp, ((up2.up u3).up u4), hrt4⟩ (fun i x acc h1 ex q => ?_) (fun acc h1 q => ?_)
    · obtain ⟨rows, rfl, hl, hr, u, hrt⟩ := q
      refine ⟨_, rfl, ?_⟩
      simp
      refine En u.box hrt ha hb' hw2 fun row h2 rok u2 => ?_
      refine ⟨rows ++ [row], by simp, by simp; omega, fun r hr' => ?_, u.up u2, u2.lst hrt hne⟩
      rcases List.mem_append.mp hr' with q | q
      · exact hr r q
      · simp at q; rw [q]; exact rok
    · obtain ⟨rows, rfl, hl, hr, u, hrt⟩ := q
      simp at hl
      simp
      exact rest fi (.looks g rows) h1 _ _ _ _ _ _ hfi ⟨(hos g hg).1, (hos g hg).2, hl, hr⟩ u hrt
  · exact rest fi (.alone row) h2 _ _ _ _ _ _ hfi rok up2 hrt2
theorem ok_parts {F : FF} (D : DrawW F._law_draw) (N : NamesW F._law_names) (Fi : FieldW F._law_field) : PartsW (defRun 7 (b__law_parts F)) := by
  intro h l Q E hb hq
  have hsz := sz
  have rest : ∀ (ws ns : List Str) (a b : Str) (sz : Int) (rn rt : Nat) (h1 : Hh) (a5 a6 : Option T), NmL ws → 2 ≤ ws.length → ws.length ≤ 3 → NmL ns → 1 ≤ ns.length → ns.length ≤ 3 → Nm a → Nm b → 1 ≤ sz → sz ≤ 3 → lstAt h1 rn = some (tSs ns) → lstAt h1 rt = some [.str a, .str b] → Up l h h1 →
      (b__law_parts_6 F [some (.ref l), some (.int sz), some (.tup (tSs ws)), some (.ref rn), some (.ref rt), a5, a6] h1).wp (FQ.df Q E) := by
    intro ws ns a b sz rn rt h1 a5 a6 hws hw2 hw3 hns hn1 hn3 ha hb' hz1 hz3 hrn hrt u
    simp [b__law_parts_6, hrn]
    refine wp_lc (ts := tSs ns) (szle (by simp; omega)) (fun i acc h1 => ∃ fs : List (Str × Fd), acc = fs.map tPair ∧ fs.map Prod.fst = ns.take i ∧ (∀ p ∈ fs, FdOk ws ns p.1 p.2) ∧ Up l h h1 ∧ lstAt h1 rn = some (tSs ns) ∧ lstAt h1 rt = some [.str a, .str b])
      (fun i acc h1 q => by obtain ⟨_, _, _, _, _, q, _⟩ := q; exact q) ⟨[], rfl, by simp, by simp, u, hrn, hrt⟩ (fun i x acc h1 ex q => ?_) (fun acc h1 q => ?_)
    · obtain ⟨fs, rfl, hl, hf, u, hrn, hrt⟩ := q
      rw [List.getElem?_map] at ex
      cases hx : ns[i]? with
      | none => rw [hx] at ex; cases ex
      | some s =>
        rw [hx] at ex; cases ex
        refine ⟨_, rfl, ?_⟩
        simp
        refine Fi (nm := s) u.box hrn hrt ha hb' hw2 (by omega) (by omega) fun fd h2 fok u2 => ?_
        simp [show 2 ≤ sizeLine by omega]
        refine ⟨fs ++ [(s, fd)], by simp [tPair], by simp [hl, List.take_add_one, hx], fun a b hp => ?_, u.up u2, u2.lst hrn (box_ne u.box hrn), u2.lst hrt (box_ne u.box (lstAt_two hrt))⟩
        rcases List.mem_append.mp hp with q | q
        · exact hf _ q
        · simp at q; rw [q.1, q.2]; exact fok
    · obtain ⟨fs, rfl, hl, hf, u, hrn, hrt⟩ := q
      simp at hl
      have hfl : fs.length = ns.length := by rw [← hl]; simp
      simp [b__law_parts_7, show 3 ≤ sizeLine by omega]
      exact hq ⟨ws, fs, sz⟩ h1 ⟨hw2, hw3, hws, by show 1 ≤ fs.length; omega, by show fs.length ≤ 3; omega, by show NmL (fs.map Prod.fst); rw [hl]; exact hns, fun p hp => by show FdOk ws (fs.map Prod.fst) p.1 p.2; rw [hl]; exact hf p hp, hz1, hz3⟩ u
  simp [b__law_parts]
  refine D hb (by omega) (by omega) fun d h1 d0 d1 u1 => ?_
  simp [b__law_parts_1]
  refine D u1.box (by omega) (by omega) fun d2 h2 d20 d21 u2 => ?_
  simp
  refine N u2.box (by omega) (by omega) fun rw_ ws h3 hrw hwl hws u3 hge => ?_
  simp [hrw, b__law_parts_2]
  refine D u3.box (by omega) (by omega) fun d3 h4 d30 d31 u4 => ?_
  simp
  refine N u4.box (by omega) (by omega) fun rn ns h5 hrn hnl hns u5 hge2 => ?_
  simp [b__law_parts_3]
  refine N (m := 2) u5.box (by omega) (by omega) fun rt nt h6 hrt htl hnt u6 hge3 => ?_
  have hrn6 := u6.lst hrn (box_ne u5.box hrn)
  have up6 := ((((u1.up u2).up u3).up u4).up u5).up u6
  have hnt2 : ∃ a b, nt = [a, b] := by
    match nt, htl with
    | [a, b], _ => exact ⟨a, b, rfl⟩
  obtain ⟨a, b, rfl⟩ := hnt2
  have hw0 : ∃ w0 wr, ws = w0 :: wr := by
    match ws, hwl with
    | [], hwl => simp at hwl; omega
    | w0 :: wr, _ => exact ⟨w0, wr, rfl⟩
  have hn0 : ∃ n0 nr, ns = n0 :: nr := by
    match ns, hnl with
    | [], hnl => simp at hnl; omega
    | w0 :: wr, _ => exact ⟨w0, wr, rfl⟩
  obtain ⟨w0, wr, rfl⟩ := hw0
  obtain ⟨n0, nr, rfl⟩ := hn0
  simp [b__law_parts_4]
  refine D u6.box (by omega) (by omega) fun d4 h7 d40 d41 u7 => ?_
  have hrn7 := u7.lst hrn6 (box_ne u6.box hrn6)
  have hrt7 := u7.lst hrt (box_ne u6.box hrt)
  have up7 := up6.up u7
  simp at hwl hnl
  have ha : Nm a := hnt.nm a (by simp)
  have hb' : Nm b := hnt.nm b (by simp)
  have l1 := u1.le; have l2 := u2.le; have l3 := u3.le; have l4 := u4.le; have l5 := u5.le; have l6 := u6.le
  have hne : rn ≠ rt := by have := lstAt_lt hrn; omega
  simp [b__law_parts_5, oNotIn_ref hrn7, hrn7]
  refine ⟨fun hd => ⟨fun h1' h2' => ?_, ?_⟩, fun hd => ?_⟩
  · have hlt := lstAt_lt hrn7
    exact rest (w0 :: wr) (w0 :: nr) a b _ rn rt _ _ _ hws (by simp; omega) (by simp; omega) ⟨List.nodup_cons.mpr ⟨h2', (List.nodup_cons.mp hns.nd).2⟩, fun s hs => by
      rcases List.mem_cons.mp hs with q | q
      · rw [q]; exact hws.nm _ (by simp)
      · exact hns.nm s (by simp [q])⟩ (by simp) (by simp; omega) ha hb' (by omega) (by omega) (by rw [lstAt_set_self hlt]; simp) (by rw [lstAt_set_ne hne]; exact hrt7) (up7.set _ hb (Nat.le_refl _) (by omega))
  · intro _
    exact rest (w0 :: wr) (n0 :: nr) a b _ rn rt _ _ _ hws (by simp; omega) (by simp; omega) hns (by simp) (by simp; omega) ha hb' (by omega) (by omega) hrn7 hrt7 up7
  · exact rest (w0 :: wr) (n0 :: nr) a b _ rn rt _ _ _ hws (by simp; omega) (by simp; omega) hns (by simp) (by simp; omega) ha hb' (by omega) (by omega) hrn7 hrt7 up7
theorem ok_is_integer (F : FF) : IsB (defRun 1 (b_is_integer F)) 0 integerB := by
  intro v h j
  apply eq_of_wp
  simp [b_is_integer, j_int j.jd, j_bl j.jd]
  cases v <;> simp [isInt, isBl, integerB]
theorem ok_is_name (F : FF) : IsB (defRun 2 (b_is_name F)) 0 nameB := by
  intro v h j
  have hsz := sz
  apply eq_of_wp
  cases hv : isStr v with
  | false => simp [b_is_name, b_is_name_1, b_is_name_2, j_str j.jd, hv, nameB_not]
  | true =>
    obtain ⟨s, rfl⟩ := of_isStr hv
    have hl : s.length ≤ 1000 := j.jd
    simp [b_is_name, b_is_name_1, b_is_name_2, show s.length ≤ sizeLine by omega]
    refine ⟨fun h1 => ⟨fun h8 => ?_, fun h8 => ?_⟩, fun h1 => ?_⟩
    · simp [nameB, nmB, show ¬ s.length ≤ 8 by omega]
    · refine lcm_all (p := fun t => match t with | .str s => ltB s | _ => false) (szle (by rw [List.length_map, ← str_len]; omega)) rfl (fun x hx => ?_) ?_
      · obtain ⟨c, hc, rfl⟩ := List.mem_map.mp hx
        refine ⟨_, rfl, ?_⟩
        simp only [e_s2, e_sVar, e_sC, Res.bind_ok, List.set_cons_succ, List.set_cons_zero, List.getElem?_cons_succ, List.getElem?_cons_zero, oIn_ch]
        simp [ltB, LETS]
      · simp [nameB, nmB, show 1 ≤ s.length by omega, show s.length ≤ 8 by omega]
        rw [show s.cps.all _ = s.cps.toList.all _ from (Array.all_toList).symm]
        simp only [ltB, List.all_cons, List.all_nil, Bool.and_true]
    · simp [nameB, nmB, show ¬ 1 ≤ s.length by omega]
theorem ok_is_one_of (F : FF) : OneE (defRun 2 (b_is_one_of F)) := by
  refine ⟨fun {v ss h} j => ?_, fun {v r ss h} j e => ?_⟩
  · apply eq_of_wp
    cases hv : isStr v with
    | false =>
      simp [b_is_one_of, j_str j, hv]
      cases v <;> first | rfl | cases hv
    | true =>
      obtain ⟨s, rfl⟩ := of_isStr hv
      simp [b_is_one_of, oneB]
  · apply eq_of_wp
    cases hv : isStr v with
    | false =>
      simp [b_is_one_of, j_str j, hv]
      cases v <;> first | rfl | cases hv
    | true =>
      obtain ⟨s, rfl⟩ := of_isStr hv
      simp [b_is_one_of, oneB, oIn_ref e]
theorem ok_is_row {F : FF} (N : IsB F.is_name 0 nameB) : RowE (defRun 3 (b_is_row F)) := by
  intro v n h j
  have hsz := sz
  apply eq_of_wp
  cases hv : isTup v with
  | false =>
    simp [b_is_row, b_is_row_1, j_tup j.jd, hv]
    cases v <;> first | rfl | cases hv
  | true =>
    obtain ⟨ts, rfl⟩ := of_isTup hv
    have hl : ts.length ≤ 1000 := j.jd
    simp [b_is_row, b_is_row_1, b_is_row_2]
    refine ⟨fun e => ?_, fun e => by simp [rowB, e]⟩
    refine lcm_all (p := entB) (szle (by omega)) rfl (fun x hx => ?_) ?_
    · refine ⟨_, rfl, ?_⟩
      have jx := j.tup hx
      cases hx : isNonT x <;> simp [hx, N jx, entB]
    · simp [rowB, e]
theorem ok_is_near {F : FF} (R : RowE F.is_row) : NearE (defRun 4 (b_is_near F)) := by
  intro v lo n h j
  have hsz := sz
  have j1 : JdN 1 v h := ⟨j.1, fun ts e t ht => (j.2 ts e t ht).jd⟩
  apply eq_of_wp
  cases hlo : isNonT lo with
  | true => simp [b_is_near, b_is_near_1, hlo, R j1, nearB]
  | false =>
    cases hv : isTup v with
    | false =>
      simp [b_is_near, b_is_near_2, b_is_near_3, j_tup j.jd, hv, hlo]
      cases v <;> first | (simp [nearB, hlo]; done) | exact absurd hv (by simp [isTup])
    | true =>
      obtain ⟨ts, rfl⟩ := of_isTup hv
      have hl : ts.length ≤ 1000 := j.jd
      simp [b_is_near, b_is_near_2, b_is_near_3, b_is_near_4, hlo]
      refine ⟨fun e => ?_, fun e => by simp [nearB, e, hlo]⟩
      refine lcm_all (p := fun t => rowB t n) (szle (by omega)) rfl (fun x hx => ?_) ?_
      · refine ⟨_, rfl, ?_⟩
        simp [R (j.tup hx)]
      · simp [nearB, e, hlo]
theorem ok_are_names {F : FF} (N : IsB F.is_name 0 nameB) : NamesE (defRun 4 (b_are_names F)) := by
  intro v a b h j hb
  have hsz := sz
  apply eq_of_wp
  cases hv : isTup v with
  | false =>
    simp [b_are_names, b_are_names_1, j_tup j.jd, hv]
    cases v <;> first | rfl | cases hv
  | true =>
    obtain ⟨ts, rfl⟩ := of_isTup hv
    have hl : ts.length ≤ 1000 := j.jd
    simp [b_are_names, b_are_names_1, b_are_names_2]
    refine ⟨fun h1 => ⟨fun h2 => ?_, fun h2 => ?_⟩, fun h1 => ?_⟩
    · simp [namesB, show ¬ ((ts.length : Int) ≤ b) by omega]
    · refine lcm_all (p := nameB) (szle (by omega)) rfl (fun x hx => ⟨_, rfl, by simp [N (j.tup hx)]⟩) ?_
      cases ha : ts.all nameB with
      | false => simp [namesB, ha]
      | true =>
        have e := names_strs ha
        obtain ⟨n, e1, e2⟩ := lenSet_strs (ss := ts.map strOf) (h := h) (by simp; omega)
        rw [← e] at e1
        simp [oLenSet, e1]
        simp [namesB, ha, h1, h2]
        rw [List.length_map] at e2
        simpa using e2
    · simp [namesB, show ¬ (a ≤ (ts.length : Int)) by omega]
theorem ok_is_pair {F : FF} (N : IsB F.is_name 0 nameB) : IsB (defRun 1 (b_is_pair F)) 1 pairB := by
  intro v h j
  apply eq_of_wp
  cases hv : isTup v with
  | false =>
    simp [b_is_pair, b_is_pair_1, j_tup j.jd, hv]
    cases v <;> first | rfl | cases hv
  | true =>
    obtain ⟨ts, rfl⟩ := of_isTup hv
    simp [b_is_pair, b_is_pair_1, b_is_pair_2]
    match ts, j with
    | [], _ => simp [pairB]
    | [a], _ => simp [pairB]
    | [a, b], j =>
      have ja := j.tup (t := a) (by simp)
      have jb := j.tup (t := b) (by simp)
      simp [N ja, j_tup jb.jd]
      cases hb : isTup b with
      | false => cases b <;> first | (simp [pairB]; done) | exact absurd hb (by simp [isTup])
      | true =>
        obtain ⟨us, rfl⟩ := of_isTup hb
        simp [pairB]
        cases nameB a <;> simp
        omega
    | a :: b :: c :: r, _ => simp [pairB, show ¬ ((r.length : Int) + 1 + 1 + 1 = 2) by omega]
theorem ok_are_fields {F : FF} (P : IsB F.is_pair 1 pairB) : FieldsE (defRun 2 (b_are_fields F)) := by
  intro v h j
  have hsz := sz
  apply eq_of_wp
  cases hv : isTup v with
  | false =>
    simp [b_are_fields, b_are_fields_1, j_tup j.jd, hv]
    cases v <;> first | rfl | cases hv
  | true =>
    obtain ⟨ts, rfl⟩ := of_isTup hv
    have hl : ts.length ≤ 1000 := j.jd
    simp [b_are_fields, b_are_fields_1, b_are_fields_2]
    refine ⟨fun h1 => ⟨fun h2 => ?_, fun h2 => ?_⟩, fun h1 => ?_⟩
    · simp [fieldsB, show ¬ (ts.length ≤ 3) by omega]
    · refine lcm_all (p := pairB) (szle (by omega)) rfl (fun x hx => ⟨_, rfl, by simp [P (j.tup hx)]⟩) ?_
      cases ha : ts.all pairB with
      | false => simp [fieldsB, ha, b_are_fields_3]
      | true =>
        simp [b_are_fields_4]
        have ep : ∀ x ∈ ts, ∃ s b, x = .tup [.str s, b] := fun x hx => by
          have := List.all_eq_true.mp ha x hx
          unfold pairB at this
          split at this
          · rename_i a b
            cases a with
            | str s => exact ⟨s, _, rfl⟩
            | _ => simp [nameB] at this
          · cases this
        refine wp_lcm fstOf (szle (by omega)) rfl (fun x hx => ?_) ?_
        · obtain ⟨s, b, rfl⟩ := ep x hx
          exact ⟨_, rfl, by simp [fstOf]⟩
        · have e : ts.map fstOf = tSs (ts.map fun t => strOf (fstOf t)) := by
            show _ = List.map T.str _
            rw [List.map_map]
            apply List.map_congr_left
            intro x hx
            obtain ⟨s, b, rfl⟩ := ep x hx
            rfl
          obtain ⟨n, e1, e2⟩ := lenSet_strs (ss := ts.map fun t => strOf (fstOf t)) (h := h) (by simp; omega)
          rw [e]
          show (bLenSet _ h).wp _ _
          rw [e1]
          simp [fieldsB, ha, show 1 ≤ ts.length by omega, show ts.length ≤ 3 by omega]
          rw [List.length_map] at e2
          simpa using e2
    · simp [fieldsB, show ¬ (1 ≤ ts.length) by omega]
theorem ok_check_field {F : FF} (O : OneE F.is_one_of) (Ne : NearE F.is_near) (R : RowE F.is_row) : CheckW (defRun 8 (b_check_field F)) := by
  intro fm p r h o hp hr
  obtain ⟨nm, fd⟩ := p
  have fo := o.fs _ hp
  have hsz := sz
  apply eq_of_wp
  have w3 := o.w3
  have j1 : Jd (.str fd.first) h := by simpa using (o.wn.nm _ fo.first).short
  have e1 : oneB (.str fd.first) fm.words = true := by simp [oneB, fo.first]
  have e2 := nearB_nr fo.nr
  have j2 := jdN_near (h := h) fo.nr (by omega)
  have last : ∀ σ : St3, σ[7]? = some (some (tFar fd.far)) → σ[2]? = some (some fm.tW) → (b_check_field_7 F σ h).wp (FQ.df (fun a h' => a = T.non ∧ h' = h) noE) := by
    intro σ h7 h2
    cases hf : fd.far with
    | none => simp [b_check_field_7, h7, hf, tFar]
    | some row =>
      have ro := fo.far row hf
      have e4 := rowB_row ro
      have j4 := jdN_row (n := 0) (h := h) ro (by omega)
      simp [b_check_field_7, h7, h2, hf, tFar, Fm.tW, R j4, e4, tRow]
      have : isNonT (tRow row) = false := rfl
      simp [tRow] at e4 j4
      simp [R j4, e4]
  cases hn : fd.nr with
  | alone row =>
    rw [hn] at e2 j2
    simp [b_check_field, b_check_field_1, b_check_field_3, b_check_field_5, Fd.t, Fd.ts, Fm.tW, O.1 j1, e1, Nr.tLooks, hn]
    simp [Nr.tLooks] at e2
    simp [Ne j2, e2]
    exact last _ rfl rfl
  | looks g rs =>
    rw [hn] at e2 j2
    have nk := fo.nr
    rw [hn] at nk
    obtain ⟨q1, q2, _, _⟩ := nk
    have j3 : Jd (.str g) h := by simpa using (o.fn.nm _ q1).short
    have e3 : oneB (.str g) fm.names = true := by simp [oneB, q1]
    simp [b_check_field, b_check_field_1, b_check_field_3, b_check_field_5, Fd.t, Fd.ts, Fm.tW, O.1 j1, e1, O.2 j3 hr, e3, Nr.tLooks, hn, q2]
    simp [Nr.tLooks] at e2
    simp [Ne j2, e2]
    exact last _ rfl rfl
theorem cs_form : CS.lookup ("Form" : Str) = some (["words", "fields", "room"] : List Str) := by decide +kernel
theorem f_words {h : Hh} {l : Nat} {fm : Fm} (e : FormAt h l fm) : oFldC CS "words" (.ref l) h = .ok fm.tW h := fld_of e.ins cs_form (by decide +kernel) rfl
theorem f_fields {h : Hh} {l : Nat} {fm : Fm} (e : FormAt h l fm) : oFldC CS "fields" (.ref l) h = .ok fm.tF h := fld_of e.ins cs_form (by decide +kernel) rfl
theorem f_room {h : Hh} {l : Nat} {fm : Fm} (e : FormAt h l fm) : oFldC CS "room" (.ref l) h = .ok (.int fm.room) h := fld_of e.ins cs_form (by decide +kernel) rfl
theorem ok_Form_init {F : FF} (Na : NamesE F.are_names) (Fi : FieldsE F.are_fields) (C : CheckW F.check_field) (I : IsB F.is_integer 0 integerB) : InitW (defRun 8 (b_Form_init F)) := by
  intro fm l h Q E o hl hq
  have hsz := sz
  have w2 := o.w2; have w3 := o.w3; have f1 := o.f1; have f3 := o.f3
  have jw : JdN 1 fm.tW h := jdN_names o.wn (by omega)
  have ew : namesB fm.tW 2 3 = true := namesB_names o.wn (by omega) (by omega)
  have hlt : l < h.length := (List.getElem?_eq_some_iff.mp hl).1
  simp [b_Form_init, b_Form_init_2, b_Form_init_4, Na jw, ew, Fi (jdN_fields (h := h) o), fieldsB_fm o]
  have rest : ∀ σ : St3, σ[0]? = some (some (.ref l)) → σ[1]? = some (some fm.tW) → σ[2]? = some (some fm.tF) → σ[3]? = some (some (.int fm.room)) → (b_Form_init_7 F σ (h ++ [.lst (tSs fm.names)])).wp (FQ.df Q E) := by
    intro σ h0 h1 h2 h3
    have e0 : insAt (h ++ [.lst (tSs fm.names)]) l = some (("Form" : Str), []) := insAt_of (by rw [List.getElem?_append_left hlt]; exact hl)
    simp [b_Form_init_7, h3, I (v := .int fm.room) (jdN_int), integerB, o.r1, o.r3, b_Form_init_9, h0, h1]
    rw [sfld_of (f := "words") e0 cs_form (by decide +kernel) (by simp)]
    simp [b_Form_init_10, h0, h2]
    have hlt1 : l < (h ++ [Ob.lst (tSs fm.names)]).length := by simp; omega
    rw [sfld_of (f := "fields") (insAt_of (List.getElem?_set_self hlt1)) cs_form (by decide +kernel) (by simp [putT])]
    simp [b_Form_init_11, h0, h3]
    rw [sfld_of (f := "room") (insAt_of (List.getElem?_set_self hlt1)) cs_form (by decide +kernel) (by simp [putT]; split <;> simp)]
    simp
    refine hq _ (List.getElem?_set_self hlt1) (by simp) fun k hk hne => ?_
    rw [List.getElem?_set_ne (Ne.symm hne), List.getElem?_append_left hk]
  have hts : ∀ x ∈ fm.fields.map tPair, ∃ p ∈ fm.fields, x = tPair p := fun x hx => by
    obtain ⟨p, hp, e⟩ := List.mem_map.mp hx
    exact ⟨p, hp, e.symm⟩
  simp [Fm.tF]
  refine wp_lcm (ts := fm.fields.map tPair) fstOf (szle (by rw [List.length_map]; omega)) rfl (fun x hx => ?_) ?_
  · obtain ⟨p, _, rfl⟩ := hts x hx
    exact ⟨_, rfl, by simp [tPair, fstOf]⟩
  have en : (fm.fields.map tPair).map fstOf = tSs fm.names := by
    rw [List.map_map]
    show _ = List.map T.str (List.map Prod.fst fm.fields)
    rw [List.map_map]
    rfl
  rw [en]
  simp [b_Form_init_5]
  refine wp_for (ts := fm.fields.map tPair) (fun i σ h1 => (∃ a5 a6 a7, σ = [some (.ref l), some fm.tW, some fm.tF, some (.int fm.room), some (.ref h.length), a5, a6, a7]) ∧ h1 = h ++ [.lst (tSs fm.names)])
    (fun i σ h1 q => rfl) ⟨⟨_, _, _, rfl⟩, rfl⟩ (fun i x σ h1 ex q => ?_) (fun σ h1 q => ?_)
  · obtain ⟨⟨a5, a6, a7, rfl⟩, rfl⟩ := q
    obtain ⟨p, hp, rfl⟩ := hts x (List.mem_of_getElem? ex)
    refine ⟨_, by simp [tPair]; rfl, ?_⟩
    have hc := C (h := h ++ [.lst (tSs fm.names)]) (r := h.length) o hp (by simp)
    simp [b_Form_init_6, hc]
  · obtain ⟨⟨a5, a6, a7, rfl⟩, rfl⟩ := q
    exact rest _ rfl rfl rfl rfl
theorem ok_field_names (F : FF) : FNamesE (defRun 2 (b_Form_field_names F)) := by
  intro fm l h e hl
  have hsz := sz
  apply eq_of_wp
  simp [b_Form_field_names, f_fields e, Fm.tF]
  refine wp_lcm (ts := fm.fields.map tPair) fstOf (szle (by rw [List.length_map]; omega)) rfl (fun x hx => ?_) ?_
  · obtain ⟨p, hp, rfl⟩ := List.mem_map.mp hx
    exact ⟨_, rfl, by simp [tPair, fstOf]⟩
  · simp [Fm.names]
    intro a b hp
    rfl
theorem ok_is_deed {F : FF} (O : OneE F.is_one_of) (Nf : FNamesE F.Form_field_names) (I : IsB F.is_integer 0 integerB) : DeedE (defRun 4 (b_is_deed F)) := by
  intro fm l v h e o j
  have hsz := sz
  have hf := Nf e (by have := o.f3; omega)
  have hm : mOk "Form" "field_names" (.ref l) h = true := e.m rfl
  apply eq_of_wp
  cases hv : isTup v with
  | false =>
    simp [b_is_deed, b_is_deed_1, j_tup j.jd, hv]
    cases v <;> first | rfl | exact absurd hv (by simp [isTup])
  | true =>
    obtain ⟨ts, rfl⟩ := of_isTup hv
    cases ts with
    | nil => simp [b_is_deed, b_is_deed_1, deedB]
    | cons a r =>
      have ja := j.tup (t := a) (by simp)
      cases ha : isStr a with
      | false =>
        simp [b_is_deed, b_is_deed_1, j_str ja.jd, ha, show ¬ ((r.length : Int) + 1 = 0) by omega]
        cases a <;> first | rfl | exact absurd ha (by simp [isStr])
      | true =>
        obtain ⟨w, rfl⟩ := of_isStr ha
        have ec : cutT (T.str w :: r) (some 1) none = r := by simp [cutT, HT.sIx]
        simp [b_is_deed, b_is_deed_2, b_is_deed_3, b_is_deed_4, ec, show ¬ ((r.length : Int) + 1 = 0) by omega]
        have hd : deedB fm.words fm.names (.tup (.str w :: r)) = if w = "send" ∨ w = "reset" then r.isEmpty else if w = "enter" then enterB fm.words fm.names r else if w = "leave" then leaveB fm.names r else decide (w = "answer") && answerB r := rfl
        rw [hd]
        clear hd
        rcases five w with ⟨q1, q2, q3, q4, q5⟩ | ⟨q1, q2, q3, q4, q5⟩ | ⟨q1, q2, q3, q4, q5⟩ | ⟨q1, q2, q3, q4, q5⟩ | ⟨q1, q2, q3, q4, q5⟩ | ⟨q1, q2, q3, q4, q5⟩
        · simp [eq_true q1, q2, b_is_deed_5]
          cases r <;> simp
        · simp [q1, eq_true q2, b_is_deed_5]
          cases r <;> simp
        · simp [q1, q2, eq_true q3, b_is_deed_6, b_is_deed_7, hm]
          match r, j with
          | [], _ => simp [enterB]
          | [a], _ => simp [enterB]
          | [a, b], j =>
            have ja := j.tup (t := a) (by simp)
            have jb := j.tup (t := b) (by simp)
            simp [hm, hf, O.1 ja.jd, O.1 jb.jd, f_words e, Fm.tW, enterB]
            cases oneB a fm.names <;> simp
          | a :: b :: c :: r, _ => simp [enterB, show ¬ ((r.length : Int) + 1 + 1 + 1 = 2) by omega]
        · simp [q1, q2, q3, eq_true q4, b_is_deed_6, b_is_deed_8, b_is_deed_9, hm]
          match r, j with
          | [], _ => simp [leaveB]
          | [a], j =>
            have ja := j.tup (t := a) (by simp)
            simp [hm, hf, O.1 ja.jd, leaveB]
          | a :: b :: r, _ => simp [leaveB, show ¬ ((r.length : Int) + 1 + 1 = 1) by omega]
        · simp [q1, q2, q3, q4, eq_true q5, b_is_deed_6, b_is_deed_8, b_is_deed_10]
          match r, j with
          | [], _ => simp [answerB]
          | [a], j =>
            have ja := j.tup (t := a) (by simp)
            simp [I ja]
            cases a <;> simp [integerB, answerB]
            rename_i k
            by_cases h0 : 0 ≤ k <;> simp [h0]; omega
          | a :: b :: r, _ => simp [answerB, show ¬ ((r.length : Int) + 1 + 1 = 1) by omega]
        · simp [q1, q2, q3, q4, q5, b_is_deed_6, b_is_deed_8, b_is_deed_10]
end LW
end

section
namespace LW
open PySem W3
theorem ok_same0 (F : FF) : SameW 0 (defRun 3 (b__law_same F)) := by
  intro t u h ⟨e, hf⟩
  subst e
  apply eq_of_wp
  cases t <;> simp [flatT] at hf <;> simp [b__law_same, b__law_same_6, b__law_same_7, b__law_same_8, b__law_same_9, b__law_same_10, b__law_same_11, b__law_same_12]
theorem ok_same {F : FF} {n : Nat} (ih : SameW n F._law_same) : SameW (n + 1) (defRun 3 (b__law_same F)) := by
  intro t u h q
  rcases q with ⟨e, hf⟩ | ⟨ts, us, hk, hl, hz, hs⟩
  · exact ok_same0 F (h := h) ⟨e, hf⟩
  · have hsz := sz
    have key : (lcRun (.its (rangeT 0 (us.length : Int).toNat)) (sgName 2) stYes (sCl (arN 2 F._law_same) (saCons (s2 oIx (sVar 0) (sVar 2)) (saCons (s2 oIx (sVar 1) (sVar 2)) saNil))) [some t, some u, none] ((Src.its (rangeT 0 (us.length : Int).toNat)).len h) 0 [] h) = .ok ((rangeT 0 us.length).map fun _ => .bl true) h := by
      rw [show ((us.length : Int)).toNat = us.length by omega]
      refine lc_map (fun _ => .bl true) (szle (by simp; omega)) rfl fun x hx => ?_
      obtain ⟨i, ex⟩ := List.getElem?_of_mem hx
      obtain ⟨rfl, hi⟩ := range_at ex
      have e1 : us[i]? = some us[i] := by simp [hi]
      have e2 : ts[i]? = some ts[i] := by simp [show i < ts.length by omega]
      have a1 := atI_nat e1
      have a2 := atI_nat e2
      have st := ih (hs i _ _ e2 e1)
      refine ⟨_, rfl, ?_⟩
      rcases hk with ⟨rfl, rfl⟩ | ⟨k1, k2⟩
      · simp [a1, a2, st]
      · simp [k1.ix, k2.ix, a1, a2, st]
    apply eq_of_wp
    rcases hk with ⟨rfl, rfl⟩ | ⟨k1, k2⟩
    · simp [b__law_same, b__law_same_1, b__law_same_3, b__law_same_5, hl]
      rw [e_rng (by omega) (by omega)]
      simp
      simp at key
      rw [key]
      simp
    · simp [b__law_same, b__law_same_1, b__law_same_3, b__law_same_5, k1.isK, k2.isK, k1.len, k2.len, hl]
      rw [e_rng (by omega) (by omega)]
      simp
      simp at key
      rw [key]
      simp
end LW
end

section
namespace LW
open PySem W3
theorem ok_deeds {F : FF} (Nf : FNamesE F.Form_field_names) : DeedsW (defRun 6 (b_deeds F)) := by
  intro fm l r h Q E e o hq
  have hsz := sz
  have f1 := o.f1; have f3 := o.f3; have w2 := o.w2; have w3 := o.w3
  have nl : fm.names.length = fm.fields.length := by simp [Fm.names]
  have hlt := (List.getElem?_eq_some_iff.mp e).1
  have hm : mOk "Form" "field_names" (.ref l) h = true := e.m rfl
  have hf := Nf e (by omega)
  simp [b_deeds, hm, hf]
  refine wp_lc2m (ts := tSs fm.names) (fun _ => tSs fm.words) (fun x y => .tup [.str "enter", x, y]) (szle ?_) rfl (fun x hx => ?_) ?_
  · rw [List.length_flatMap]
    simp only [List.length_map]
    rw [List.map_const', List.sum_replicate_nat]
    simp only [List.length_map]
    have : fm.names.length * fm.words.length ≤ 3 * 3 := Nat.mul_le_mul (by omega) (by omega)
    omega
  · refine ⟨_, .its (tSs fm.words), rfl, by simp [f_words e, Fm.tW], rfl, fun y hy => ⟨_, rfl, by simp [show 3 ≤ sizeLine by omega]⟩⟩
  have ee : ((tSs fm.names).flatMap fun x => (tSs fm.words).map fun y => T.tup [.str "enter", x, y]) = enterL fm := by
    unfold enterL
    rw [List.flatMap_map]
    congr 1
    funext x
    rw [List.map_map]
    rfl
  rw [ee]
  have el : (enterL fm).length ≤ 9 := by
    rw [enterL_len]
    have : fm.names.length * fm.words.length ≤ 3 * 3 := Nat.mul_le_mul (by omega) (by omega)
    omega
  have e1 : ∀ o, FormAt (h ++ o) l fm := fun o => by unfold FormAt; rw [List.getElem?_append_left hlt]; exact e
  have hm1 : ∀ o, mOk "Form" "field_names" (.ref l) (h ++ o) = true := fun o => (e1 o).m rfl
  have hf1 : ∀ o, F.Form_field_names [.ref l] (h ++ o) = .ok (.tup (tSs fm.names)) (h ++ o) := fun o => Nf (e1 o) (by omega)
  simp [b_deeds_1, hm1, hf1]
  refine wp_lcm (ts := tSs fm.names) (fun x => .tup [.str "leave", x]) (szle (by simp; omega)) rfl (fun x hx => ⟨_, rfl, by simp [show 2 ≤ sizeLine by omega]⟩) ?_
  have le : (tSs fm.names).map (fun x => T.tup [.str "leave", x]) = leaveL fm := by
    unfold leaveL
    show List.map _ (List.map _ _) = _
    rw [List.map_map]; rfl
  rw [le]
  have ll : (leaveL fm).length ≤ 3 := by unfold leaveL; simp; omega
  simp [show (enterL fm).length + (leaveL fm).length ≤ sizeLine by omega, b_deeds_2, b_deeds_3, show 1 ≤ sizeLine by omega, show (enterL fm).length + (leaveL fm).length < sizeLine by omega]
  refine wp_lcm (ts := rangeT 0 3) (fun x => .tup [.str "answer", x]) (szle (by simp)) rfl (fun x hx => ⟨_, rfl, by simp [show 2 ≤ sizeLine by omega]⟩) ?_
  have re : (rangeT 0 3).map (fun x => T.tup [.str "answer", x]) = [.tup [.str "answer", .int 0], .tup [.str "answer", .int 1], .tup [.str "answer", .int 2]] := rfl
  rw [re]
  simp [b_deeds_4, show (enterL fm).length + ((leaveL fm).length + 1) + 3 ≤ sizeLine by omega]
  refine ⟨fun hr => ?_, fun hr => ?_⟩
  · simp [b_deeds_5, show 1 ≤ sizeLine by omega, show (enterL fm).length + ((leaveL fm).length + 4) < sizeLine by omega, b_deeds_6]
    exact hq _ _ (by simp [hr, wholeL, plainL]) (Nat.le_refl _)
  · simp [b_deeds_6]
    exact hq _ _ (by simp [hr, plainL]) (Nat.le_refl _)
end LW
end

section
namespace LW
open PySem W3
theorem ok_law {F : FF} (B : BoxW F._law_box) (Pa : PartsW F._law_parts) (I : InitW F.Form_init) (De : DeedE F.is_deed) (Ds : DeedsW F.deeds) (Sa : SameW 2 F._law_same) {ns : List Int} (hns : ns.length ≤ 63) : (defRun 13 (b_law F) [.fl (ns.map T.int)] []).wp (fun a _ => a = .bl true) noE := by
  have hsz := sz
  simp [b_law]
  refine B hns fun l h1 bx _ _ _ => ?_
  simp [b_law_1]
  refine Pa bx fun fm h2 o u2 => ?_
  simp [b_law_2, weave]
  refine I (fm := fm) (l := h2.length) (h := h2 ++ [Ob.ins "Form" []]) o (by simp) fun h3 fa hl3 kp3 => ?_
  simp at hl3
  simp [b_law_3, Fm.tF]
  have f1 := o.f1; have f3 := o.f3; have w2 := o.w2; have w3 := o.w3
  refine wp_lcm (ts := fm.fields.map tPair) fstOf (szle (by rw [List.length_map]; omega)) rfl (fun x hx => ?_) ?_
  · obtain ⟨p, hp, rfl⟩ := List.mem_map.mp hx
    exact ⟨_, rfl, by simp [tPair, fstOf]⟩
  have en : (fm.fields.map tPair).map fstOf = tSs fm.names := by
    rw [List.map_map]
    show _ = List.map T.str (List.map Prod.fst fm.fields)
    rw [List.map_map]
    rfl
  have nl : fm.names.length = fm.fields.length := by simp [Fm.names]
  rw [en]
  have hlt3 := (List.getElem?_eq_some_iff.mp fa).1
  have fa3 : ∀ o, FormAt (h3 ++ o) h2.length fm := fun o => by unfold FormAt; rw [List.getElem?_append_left hlt3]; exact fa
  simp [b_law_4, b_law_5]
  refine wp_for (ts := tSs fm.names) (fun i σ h4 => (∃ a5 a7 a8 a9 a10 a11 a12, σ = [some (.fl (ns.map T.int)), some (.ref l), some (.tup [fm.tW, fm.tF, .int fm.room]), some (.ref h2.length), some (.ref h3.length), a5, some (.ref (h3.length + 1)), a7, a8, a9, a10, a11, a12]) ∧
      ∃ j, h4 = h3 ++ .lst (tSs fm.names) :: .lst (enterP fm (fm.names.take i)) :: j) (fun i σ h4 q => by obtain ⟨_, j, rfl⟩ := q; simp [Src.Is]) ⟨⟨_, _, _, _, _, _, _, rfl⟩, [], by simp [enterP]⟩ (fun i x σ h4 ex q => ?_) (fun σ h4 q => ?_)
  · obtain ⟨⟨a5, a7, a8, a9, a10, a11, a12, rfl⟩, j, rfl⟩ := q
    rw [List.getElem?_map] at ex
    cases hx : fm.names[i]? with
    | none => rw [hx] at ex; cases ex
    | some s =>
      rw [hx] at ex; cases ex
      refine ⟨_, rfl, ?_⟩
      simp [b_law_6, Fm.tW]
      refine wp_lcm (ts := tSs fm.words) (fun y => .tup [.str "enter", .str s, y]) (szle (by simp; omega)) rfl (fun x hx => ⟨_, rfl, by simp [show 3 ≤ sizeLine by omega]⟩) ?_
      have hl := enterP_len fm (fm.names.take i)
      have : (fm.names.take i).length * fm.words.length ≤ 3 * 3 := Nat.mul_le_mul (by rw [List.length_take]; omega) (by omega)
      simp [show (enterP fm (fm.names.take i)).length + fm.words.length ≤ sizeLine by omega]
      simp [List.take_add_one, hx, enterP]
  obtain ⟨⟨a5, a7, a8, a9, a10, a11, a12, rfl⟩, j, rfl⟩ := q
  simp only [List.length_map, List.take_length, enterP_all]
  have el : (enterL fm).length ≤ 9 := by
    rw [enterL_len]
    have : fm.names.length * fm.words.length ≤ 3 * 3 := Nat.mul_le_mul (by omega) (by omega)
    omega
  have ll : (leaveL fm).length ≤ 3 := by unfold leaveL; simp; omega
  simp [b_law_7]
  refine wp_lcm (ts := tSs fm.names) (fun x => .tup [.str "leave", x]) (szle (by simp; omega)) (by simp [Src.Is]) (fun x hx => ⟨_, rfl, by simp [show 2 ≤ sizeLine by omega]⟩) ?_
  have le : (tSs fm.names).map (fun x => T.tup [.str "leave", x]) = leaveL fm := by
    unfold leaveL
    show List.map _ (List.map _ _) = _
    rw [List.map_map]; rfl
  rw [le]
  simp [b_law_8, show (enterL fm).length + (leaveL fm).length ≤ sizeLine by omega]
  have pl : enterL fm ++ (leaveL fm ++ [T.tup [T.str "send"], T.tup [T.str "answer", T.int 0], T.tup [T.str "answer", T.int 1], T.tup [T.str "answer", T.int 2]]) = plainL fm := by simp [plainL]
  have pll : (plainL fm).length ≤ 16 := by simp [plainL]; omega
  simp [pl, show (enterL fm).length + (leaveL fm).length + 4 ≤ sizeLine by omega]
  simp [b_law_9, show (plainL fm).length + 1 ≤ sizeLine by omega]
  have wl : plainL fm ++ [T.tup [T.str "reset"]] = wholeL fm := rfl
  have wll : (wholeL fm).length ≤ 17 := by simp [wholeL]; omega
  rw [wl]
  have fin : ∀ (f rp rw_ : Nat) (h4 : Hh), FormAt h4 f fm → lstAt h4 rp = some (plainL fm) → lstAt h4 rw_ = some (wholeL fm) →
      (b_law_10 F [some (T.fl (List.map T.int ns)), some (T.ref l), some (T.tup [fm.tW, fm.tF, T.int fm.room]), some (T.ref f), some (T.ref (List.length h3)), a5, some (T.ref rp), a7, a8, some (T.ref rw_), a10, a11, a12] h4).wp (FQ.df (fun a x => a = T.bl true) noE) := by
    intro f rp rw_ h4 fa ep ew
    have lp := lstAt_lt ep
    have lw := lstAt_lt ew
    have lf := fa.lt
    have pp : ∀ x ∈ plainL fm, PureT 1 x := fun x hx => wholeL_pure (fm := fm) (by unfold wholeL; exact List.mem_append_left _ hx)
    have pw : ∀ x ∈ wholeL fm, PureT 1 x := fun x hx => wholeL_pure hx
    simp [b_law_10, weave]
    refine Ds (r := true) fa o fun a1 o1 e1 g1 => ?_
    have l1 := lstAt_lt e1
    simp
    refine Ds (r := true) (fa.app _) o fun a2 o2 e2 g2 => ?_
    have l2 := lstAt_lt e2
    simp
    refine Ds (r := false) (fa.app _) o fun a3 o3 e3 g3 => ?_
    have l3 := lstAt_lt e3
    simp at e1 e2 e3 g1 g2 g3 l1 l2 l3
    simp
    generalize hh5 : h4 ++ (o1 ++ (o2 ++ o3)) = h5
    have e1' : lstAt h5 a1 = some (wholeL fm) := by rw [← hh5, ← List.append_assoc]; exact lstAt_app _ e1
    have e2' : lstAt h5 a2 = some (wholeL fm) := by rw [← hh5, ← List.append_assoc o1, ← List.append_assoc h4]; exact lstAt_app _ (by simpa using e2)
    have e3' : lstAt h5 a3 = some (plainL fm) := by rw [← hh5]; exact e3
    have ep' : lstAt h5 rp = some (plainL fm) := by rw [← hh5]; exact lstAt_app _ ep
    have ew' : lstAt h5 rw_ = some (wholeL fm) := by rw [← hh5]; exact lstAt_app _ ew
    have fa' : FormAt h5 f fm := by rw [← hh5]; exact fa.app _
    clear e1 e2 e3 ep ew fa hh5
    have n12 : a1 ≠ a2 := by omega
    have n13 : a1 ≠ a3 := by omega
    have n23 : a2 ≠ a3 := by omega
    have m1 : a1 < h5.length := lstAt_lt e1'
    have m2 : a2 < h5.length := lstAt_lt e2'
    have m3 : a3 < h5.length := lstAt_lt e3'
    have step : ∀ (a q : Nat) (ts : List T) (h6 : Hh) (Q : FQ) (y1 y2 : Option T), lstAt h6 a = some ts → lstAt h6 q = some ts → ts.length ≤ 17 → (∀ x ∈ ts, PureT 1 x) → Q.n [some (T.fl (List.map T.int ns)), some (T.ref l), some (T.tup [fm.tW, fm.tF, T.int fm.room]), some (T.ref f), some (T.ref (List.length h3)), a5, some (T.ref rp), a7, a8, some (T.ref rw_), some (.ref a), some (.ref q), a12] (h6.set a (.lst [])) →
        (b_law_11 F [some (T.fl (List.map T.int ns)), some (T.ref l), some (T.tup [fm.tW, fm.tF, T.int fm.room]), some (T.ref f), some (T.ref (List.length h3)), a5, some (T.ref rp), a7, a8, some (T.ref rw_), some (.ref a), some (.ref q), a12] h6).wp Q := by
      intro a q ts h6 Q y1 y2 ea eq hl hp hq
      have hs : F._law_same [.ref a, .ref q] h6 = .ok (.bl true) h6 := Sa (SameV.lists ea eq (by omega) hp)
      simp [b_law_11, b_law_13, hs, ea]
      exact hq
    refine fp_turn (k := 2) (i := 0) rfl (by simp) (step a1 rw_ _ _ _ none none e1' ew' (by omega) pw ?_)
    simp
    refine fp_turn (k := 1) (i := 1) rfl (by simp) (step a2 rw_ _ _ _ none none (by rw [lstAt_set_ne n12]; exact e2') (by rw [lstAt_set_ne (by omega)]; exact ew') (by omega) pw ?_)
    simp
    refine fp_turn (k := 0) (i := 2) rfl (by simp) (step a3 rp _ _ _ none none (by rw [lstAt_set_ne n23, lstAt_set_ne n13]; exact e3') (by rw [lstAt_set_ne (by omega), lstAt_set_ne (by omega)]; exact ep') (by omega) pp ?_)
    simp
    refine fp_end (by simp) ?_
    have fa6 : FormAt (((h5.set a1 (Ob.lst [])).set a2 (Ob.lst [])).set a3 (Ob.lst [])) f fm := ((fa'.set _ (by omega)).set _ (by omega)).set _ (by omega)
    have ew6 : lstAt (((h5.set a1 (Ob.lst [])).set a2 (Ob.lst [])).set a3 (Ob.lst [])) rw_ = some (wholeL fm) := by
      rw [lstAt_set_ne (by omega), lstAt_set_ne (by omega), lstAt_set_ne (by omega)]; exact ew'
    generalize (((h5.set a1 (Ob.lst [])).set a2 (Ob.lst [])).set a3 (Ob.lst [])) = h6 at fa6 ew6
    simp [b_law_14, ew6]
    refine wp_for (ts := wholeL fm) (fun i σ h7 => (∃ a10 a11 a12, σ = [some (T.fl (List.map T.int ns)), some (T.ref l), some (T.tup [fm.tW, fm.tF, T.int fm.room]), some (T.ref f), some (T.ref (List.length h3)), a5, some (T.ref rp), a7, a8, some (T.ref rw_), a10, a11, a12]) ∧ h7 = h6)
      (fun i σ h7 q => by rw [q.2]; exact ew6) ⟨⟨_, _, _, rfl⟩, rfl⟩ (fun i x σ h7 ex q => ?_) (fun σ h7 q => ?_)
    · obtain ⟨⟨a10, a11, a12, rfl⟩, rfl⟩ := q
      have hx := List.mem_of_getElem? ex
      refine ⟨_, rfl, ?_⟩
      simp [b_law_15, De fa6 o (wholeL_jd o hx), wholeL_deed hx]
    · obtain ⟨⟨a10, a11, a12, rfl⟩, rfl⟩ := q
      simp [b_law_17, weave]
      refine Ds (r := true) fa6 o fun a7 o7 e7 g7 => ?_
      simp at e7
      have hs : F._law_same [.ref a7, .ref rw_] (h7 ++ o7) = .ok (.bl true) (h7 ++ o7) := Sa (SameV.lists e7 (lstAt_app _ ew6) (by omega) pw)
      simp [hs]
  exact fin _ _ _ _ (fa3 _) (by simp) (by simp)
end LW
end

section
namespace LW
open PySem W3
theorem s__law_mix : ∀ k, MixW (runF (k + 1))._law_mix := fun k => ok_mix (F := runF (k + 0)) 
theorem s__law_box : ∀ k, BoxW (runF (k + 2))._law_box := fun k => ok_box (F := runF (k + 1)) (s__law_mix (k + 0))
theorem s__law_draw : ∀ k, DrawW (runF (k + 2))._law_draw := fun k => ok_draw (F := runF (k + 1)) (s__law_mix (k + 0))
theorem s__law_names : ∀ k, NamesW (runF (k + 3))._law_names := fun k => ok_names (F := runF (k + 2)) (s__law_draw (k + 0))
theorem s__law_entries : ∀ k, EntriesW (runF (k + 3))._law_entries := fun k => ok_entries (F := runF (k + 2)) (s__law_draw (k + 0))
theorem s__law_field : ∀ k, FieldW (runF (k + 4))._law_field := fun k => ok_field (F := runF (k + 3)) (s__law_draw (k + 1)) (s__law_entries (k + 0))
theorem s__law_parts : ∀ k, PartsW (runF (k + 5))._law_parts := fun k => ok_parts (F := runF (k + 4)) (s__law_draw (k + 2)) (s__law_names (k + 1)) (s__law_field (k + 0))
theorem s_is_integer : ∀ k, IsB (runF (k + 1)).is_integer 0 integerB := fun k => ok_is_integer (F := runF (k + 0)) 
theorem s_is_name : ∀ k, IsB (runF (k + 1)).is_name 0 nameB := fun k => ok_is_name (F := runF (k + 0)) 
theorem s_is_one_of : ∀ k, OneE (runF (k + 1)).is_one_of := fun k => ok_is_one_of (F := runF (k + 0)) 
theorem s_is_row : ∀ k, RowE (runF (k + 2)).is_row := fun k => ok_is_row (F := runF (k + 1)) (s_is_name (k + 0))
theorem s_is_near : ∀ k, NearE (runF (k + 3)).is_near := fun k => ok_is_near (F := runF (k + 2)) (s_is_row (k + 0))
theorem s_are_names : ∀ k, NamesE (runF (k + 2)).are_names := fun k => ok_are_names (F := runF (k + 1)) (s_is_name (k + 0))
theorem s_is_pair : ∀ k, IsB (runF (k + 2)).is_pair 1 pairB := fun k => ok_is_pair (F := runF (k + 1)) (s_is_name (k + 0))
theorem s_are_fields : ∀ k, FieldsE (runF (k + 3)).are_fields := fun k => ok_are_fields (F := runF (k + 2)) (s_is_pair (k + 0))
theorem s_check_field : ∀ k, CheckW (runF (k + 4)).check_field := fun k => ok_check_field (F := runF (k + 3)) (s_is_one_of (k + 2)) (s_is_near (k + 0)) (s_is_row (k + 1))
theorem s_Form_init : ∀ k, InitW (runF (k + 5)).Form_init := fun k => ok_Form_init (F := runF (k + 4)) (s_are_names (k + 2)) (s_are_fields (k + 1)) (s_check_field (k + 0)) (s_is_integer (k + 3))
theorem s_Form_field_names : ∀ k, FNamesE (runF (k + 1)).Form_field_names := fun k => ok_field_names (F := runF (k + 0)) 
theorem s_is_deed : ∀ k, DeedE (runF (k + 2)).is_deed := fun k => ok_is_deed (F := runF (k + 1)) (s_is_one_of (k + 0)) (s_Form_field_names (k + 0)) (s_is_integer (k + 0))
theorem s_deeds : ∀ k, DeedsW (runF (k + 2)).deeds := fun k => ok_deeds (F := runF (k + 1)) (s_Form_field_names (k + 0))
theorem s__law_same_0 : ∀ k, SameW 0 (runF (k + 1))._law_same := fun k => ok_same0 (F := runF (k + 0)) 
theorem s__law_same_1 : ∀ k, SameW 1 (runF (k + 2))._law_same := fun k => ok_same (F := runF (k + 1)) (s__law_same_0 (k + 0))
theorem s__law_same_2 : ∀ k, SameW 2 (runF (k + 3))._law_same := fun k => ok_same (F := runF (k + 2)) (s__law_same_1 (k + 0))
def fuel : Nat := 6
theorem law_true : ∀ ns : List Int, ns.length ≤ 63 → ∃ h', (runF fuel).law [.fl (ns.map T.int)] [] = .ok (.bl true) h' := by
  intro ns hns
  obtain ⟨a, h', e, rfl⟩ := (ok_law (F := runF 5) (s__law_box (0 + 3)) (s__law_parts (0 + 0)) (s_Form_init (0 + 0)) (s_is_deed (0 + 3)) (s_deeds (0 + 3)) (s__law_same_2 (0 + 2)) hns).ok
  exact ⟨h', e⟩
end LW
end

section
/-! the derivations -/
namespace LW
open PySem PySem.Spec PyProof.Rows
open L2 W3
def topS (i : Nat) : Stmt := PySem.Challenge.pw_wrongshown_k09_deeds_listed.main.body.getD i (.Pass ⟨0, 0, 0, 0⟩)
abbrev st_is_integer : Stmt := (topS 6)
abbrev st_is_name : Stmt := (topS 7)
abbrev st_is_one_of : Stmt := (topS 8)
abbrev st_are_names : Stmt := (topS 9)
abbrev st_is_pair : Stmt := (topS 10)
abbrev st_are_fields : Stmt := (topS 11)
abbrev st_is_row : Stmt := (topS 12)
abbrev st_is_near : Stmt := (topS 13)
abbrev st_check_field : Stmt := (topS 14)
abbrev st_Form_init : Stmt := (inClass (topS 15) 0)
abbrev st_Form_field_names : Stmt := (inClass (topS 15) 2)
abbrev st_is_deed : Stmt := (topS 18)
abbrev st_deeds : Stmt := (topS 19)
abbrev st__law_mix : Stmt := (topS 21)
abbrev st__law_box : Stmt := (topS 22)
abbrev st__law_draw : Stmt := (topS 23)
abbrev st__law_same : Stmt := (topS 24)
abbrev st__law_names : Stmt := (topS 25)
abbrev st__law_entries : Stmt := (topS 26)
abbrev st__law_field : Stmt := (topS 27)
abbrev st__law_parts : Stmt := (topS 28)
abbrev st_law : Stmt := (topS 29)
structure Ad where
  f_is_integer : Addr
  d_is_integer : FuncData
  f_is_name : Addr
  d_is_name : FuncData
  f_is_one_of : Addr
  d_is_one_of : FuncData
  f_are_names : Addr
  d_are_names : FuncData
  f_is_pair : Addr
  d_is_pair : FuncData
  f_are_fields : Addr
  d_are_fields : FuncData
  f_is_row : Addr
  d_is_row : FuncData
  f_is_near : Addr
  d_is_near : FuncData
  f_check_field : Addr
  d_check_field : FuncData
  f_Form_init : Addr
  d_Form_init : FuncData
  f_Form_field_names : Addr
  d_Form_field_names : FuncData
  f_is_deed : Addr
  d_is_deed : FuncData
  f_deeds : Addr
  d_deeds : FuncData
  f__law_mix : Addr
  d__law_mix : FuncData
  f__law_box : Addr
  d__law_box : FuncData
  f__law_draw : Addr
  d__law_draw : FuncData
  f__law_same : Addr
  d__law_same : FuncData
  f__law_names : Addr
  d__law_names : FuncData
  f__law_entries : Addr
  d__law_entries : FuncData
  f__law_field : Addr
  d__law_field : FuncData
  f__law_parts : Addr
  d__law_parts : FuncData
  f_law : Addr
  d_law : FuncData
  c_Form : Addr
structure Txt (K : PySem.W.Frag) (mg : Str → Option Value) (A : Ad) : Prop where
  u_is_integer : Fun K "is_integer" "is_integer" st_is_integer A.f_is_integer A.d_is_integer
  b_is_integer : Binds K A.d_is_integer ["value"] []
  g_is_integer : mg "is_integer" = some (.ref A.f_is_integer)
  u_is_name : Fun K "is_name" "is_name" st_is_name A.f_is_name A.d_is_name
  b_is_name : Binds K A.d_is_name ["value"] []
  g_is_name : mg "is_name" = some (.ref A.f_is_name)
  u_is_one_of : Fun K "is_one_of" "is_one_of" st_is_one_of A.f_is_one_of A.d_is_one_of
  b_is_one_of : Binds K A.d_is_one_of ["value", "names"] []
  g_is_one_of : mg "is_one_of" = some (.ref A.f_is_one_of)
  u_are_names : Fun K "are_names" "are_names" st_are_names A.f_are_names A.d_are_names
  b_are_names : Binds K A.d_are_names ["value", "least", "most"] []
  g_are_names : mg "are_names" = some (.ref A.f_are_names)
  u_is_pair : Fun K "is_pair" "is_pair" st_is_pair A.f_is_pair A.d_is_pair
  b_is_pair : Binds K A.d_is_pair ["value"] []
  g_is_pair : mg "is_pair" = some (.ref A.f_is_pair)
  u_are_fields : Fun K "are_fields" "are_fields" st_are_fields A.f_are_fields A.d_are_fields
  b_are_fields : Binds K A.d_are_fields ["value"] []
  g_are_fields : mg "are_fields" = some (.ref A.f_are_fields)
  u_is_row : Fun K "is_row" "is_row" st_is_row A.f_is_row A.d_is_row
  b_is_row : Binds K A.d_is_row ["value", "size"] []
  g_is_row : mg "is_row" = some (.ref A.f_is_row)
  u_is_near : Fun K "is_near" "is_near" st_is_near A.f_is_near A.d_is_near
  b_is_near : Binds K A.d_is_near ["value", "looks", "size"] []
  g_is_near : mg "is_near" = some (.ref A.f_is_near)
  u_check_field : Fun K "check_field" "check_field" st_check_field A.f_check_field A.d_check_field
  b_check_field : Binds K A.d_check_field ["name", "parts", "words", "names"] []
  g_check_field : mg "check_field" = some (.ref A.f_check_field)
  u_Form_init : FunD K "__init__" "Form.__init__" (defArgs st_Form_init) (defBody st_Form_init) (defScope st_Form_init) [] [("room", .int 3)] A.f_Form_init A.d_Form_init
  u_Form_field_names : Fun K "field_names" "Form.field_names" st_Form_field_names A.f_Form_field_names A.d_Form_field_names
  b_Form_field_names : Binds K A.d_Form_field_names ["self"] []
  h_Form_field_names : Meth K A.c_Form "field_names" A.f_Form_field_names
  u_is_deed : Fun K "is_deed" "is_deed" st_is_deed A.f_is_deed A.d_is_deed
  b_is_deed : Binds K A.d_is_deed ["form", "value"] []
  g_is_deed : mg "is_deed" = some (.ref A.f_is_deed)
  u_deeds : FunD K "deeds" "deeds" (defArgs st_deeds) (defBody st_deeds) (defScope st_deeds) [] [("resets", .bl true)] A.f_deeds A.d_deeds
  g_deeds : mg "deeds" = some (.ref A.f_deeds)
  u__law_mix : Fun K "_law_mix" "_law_mix" st__law_mix A.f__law_mix A.d__law_mix
  b__law_mix : Binds K A.d__law_mix ["_law_value", "_law_k"] []
  g__law_mix : mg "_law_mix" = some (.ref A.f__law_mix)
  u__law_box : Fun K "_law_box" "_law_box" st__law_box A.f__law_box A.d__law_box
  b__law_box : Binds K A.d__law_box ["_law_script"] []
  g__law_box : mg "_law_box" = some (.ref A.f__law_box)
  u__law_draw : Fun K "_law_draw" "_law_draw" st__law_draw A.f__law_draw A.d__law_draw
  b__law_draw : Binds K A.d__law_draw ["_law_box_here", "_law_many"] []
  g__law_draw : mg "_law_draw" = some (.ref A.f__law_draw)
  u__law_same : Fun K "_law_same" "_law_same" st__law_same A.f__law_same A.d__law_same
  b__law_same : Binds K A.d__law_same ["_law_told", "_law_due"] []
  g__law_same : mg "_law_same" = some (.ref A.f__law_same)
  u__law_names : Fun K "_law_names" "_law_names" st__law_names A.f__law_names A.d__law_names
  b__law_names : Binds K A.d__law_names ["_law_box_here", "_law_many"] []
  g__law_names : mg "_law_names" = some (.ref A.f__law_names)
  u__law_entries : Fun K "_law_entries" "_law_entries" st__law_entries A.f__law_entries A.d__law_entries
  b__law_entries : Binds K A.d__law_entries ["_law_box_here", "_law_notes", "_law_size"] []
  g__law_entries : mg "_law_entries" = some (.ref A.f__law_entries)
  u__law_field : Fun K "_law_field" "_law_field" st__law_field A.f__law_field A.d__law_field
  b__law_field : Binds K A.d__law_field ["_law_box_here", "_law_words", "_law_names_here", "_law_name", "_law_notes"] []
  g__law_field : mg "_law_field" = some (.ref A.f__law_field)
  u__law_parts : Fun K "_law_parts" "_law_parts" st__law_parts A.f__law_parts A.d__law_parts
  b__law_parts : Binds K A.d__law_parts ["_law_box_here"] []
  g__law_parts : mg "_law_parts" = some (.ref A.f__law_parts)
  u_law : Fun K "law" "law" st_law A.f_law A.d_law
  b_law : Binds K A.d_law ["_law_script"] []
  g_law : mg "law" = some (.ref A.f_law)
  kb_Form_init_2_room : KBw K A.d_Form_init ["self", "words", "fields", "room"] 3 ["room"] [true] []
  kb_deeds_1_resets : KBw K A.d_deeds ["form", "resets"] 1 ["resets"] [true] []
  kb_deeds_1_ : KBw K A.d_deeds ["form", "resets"] 1 [] [false] [.bl true]
  g_Form : mg "Form" = some (.ref A.c_Form)
  cc_Form : Cls K A.c_Form
  m_Form : Mk K A.c_Form A.f_Form_init
  cs : ClsF K mg CS
  c_LETTERS : ∃ t, mg "LETTERS" = some (.str "abcdefghijklmnopqrstuvwxyz" t)
  c_MOST_ANSWERS : ∃ t, mg "MOST_ANSWERS" = some (.int 3 t)
  n_all : mg "all" = none
  n_bool : mg "bool" = none
  n_int : mg "int" = none
  n_isinstance : mg "isinstance" = none
  n_len : mg "len" = none
  n_list : mg "list" = none
  n_range : mg "range" = none
  n_set : mg "set" = none
  n_str : mg "str" = none
  n_tuple : mg "tuple" = none
section
variable {P : Program} {w : World} {K : PySem.W.Frag} {mg : Str → Option Value} {base : Heap} {A : Ad} {F : FF} {j : Nat}
structure Oks (P : Program) (w : World) (K : PySem.W.Frag) (mg : Str → Option Value) (base : Heap) (A : Ad) (j : Nat) (F : FF) : Prop where
  is_integer : FnOk P w K mg base (L2.CX P w) j A.f_is_integer A.d_is_integer ["value"] (spT K mg 1 F.is_integer)
  is_name : FnOk P w K mg base (L2.CX P w) j A.f_is_name A.d_is_name ["value"] (spT K mg 1 F.is_name)
  is_one_of : FnOk P w K mg base (L2.CX P w) j A.f_is_one_of A.d_is_one_of ["value", "names"] (spT K mg 2 F.is_one_of)
  are_names : FnOk P w K mg base (L2.CX P w) j A.f_are_names A.d_are_names ["value", "least", "most"] (spT K mg 3 F.are_names)
  is_pair : FnOk P w K mg base (L2.CX P w) j A.f_is_pair A.d_is_pair ["value"] (spT K mg 1 F.is_pair)
  are_fields : FnOk P w K mg base (L2.CX P w) j A.f_are_fields A.d_are_fields ["value"] (spT K mg 1 F.are_fields)
  is_row : FnOk P w K mg base (L2.CX P w) j A.f_is_row A.d_is_row ["value", "size"] (spT K mg 2 F.is_row)
  is_near : FnOk P w K mg base (L2.CX P w) j A.f_is_near A.d_is_near ["value", "looks", "size"] (spT K mg 3 F.is_near)
  check_field : FnOk P w K mg base (L2.CX P w) j A.f_check_field A.d_check_field ["name", "parts", "words", "names"] (spT K mg 4 F.check_field)
  Form_init : FnOk P w K mg base (L2.CX P w) j A.f_Form_init A.d_Form_init ["self", "words", "fields", "room"] (spT K mg 4 F.Form_init)
  Form_field_names : FnOk P w K mg base (L2.CX P w) j A.f_Form_field_names A.d_Form_field_names ["self"] (spT K mg 1 F.Form_field_names)
  is_deed : FnOk P w K mg base (L2.CX P w) j A.f_is_deed A.d_is_deed ["form", "value"] (spT K mg 2 F.is_deed)
  deeds : FnOk P w K mg base (L2.CX P w) j A.f_deeds A.d_deeds ["form", "resets"] (spT K mg 2 F.deeds)
  _law_mix : FnOk P w K mg base (L2.CX P w) j A.f__law_mix A.d__law_mix ["_law_value", "_law_k"] (spT K mg 2 F._law_mix)
  _law_box : FnOk P w K mg base (L2.CX P w) j A.f__law_box A.d__law_box ["_law_script"] (spT K mg 1 F._law_box)
  _law_draw : FnOk P w K mg base (L2.CX P w) j A.f__law_draw A.d__law_draw ["_law_box_here", "_law_many"] (spT K mg 2 F._law_draw)
  _law_same : FnOk P w K mg base (L2.CX P w) j A.f__law_same A.d__law_same ["_law_told", "_law_due"] (spT K mg 2 F._law_same)
  _law_names : FnOk P w K mg base (L2.CX P w) j A.f__law_names A.d__law_names ["_law_box_here", "_law_many"] (spT K mg 2 F._law_names)
  _law_entries : FnOk P w K mg base (L2.CX P w) j A.f__law_entries A.d__law_entries ["_law_box_here", "_law_notes", "_law_size"] (spT K mg 3 F._law_entries)
  _law_field : FnOk P w K mg base (L2.CX P w) j A.f__law_field A.d__law_field ["_law_box_here", "_law_words", "_law_names_here", "_law_name", "_law_notes"] (spT K mg 5 F._law_field)
  _law_parts : FnOk P w K mg base (L2.CX P w) j A.f__law_parts A.d__law_parts ["_law_box_here"] (spT K mg 1 F._law_parts)
  law : FnOk P w K mg base (L2.CX P w) j A.f_law A.d_law ["_law_script"] (spT K mg 1 F.law)
theorem sc_is_integer : FnScope ["value"] ["value"] (defScope st_is_integer) := ⟨rfl, rfl, rfl, by decide +kernel, rfl, by decide +kernel, by decide +kernel⟩
theorem der_is_integer (tx : Txt K mg A) (O : Oks P w K mg base A j F) : FnOk P w K mg base (L2.CX P w) (j + 2) A.f_is_integer A.d_is_integer ["value"] (spT K mg 1 (defRun 1 (b_is_integer F))) := by
  have S := sc_is_integer
  refine fn_T tx.u_is_integer S fun cdv Ar outer s H E hr tk hp => ?_
  have hr0 := hr.mono (Nat.le_succ _)
  have hu := hu65 hr
  exact (ds_cons (ds_ret (de_and (de_isk .int boot_int rfl tx.n_isinstance rfl tx.n_int (dv 0)) (de_and1 (de_not (de_isk .bool boot_bool rfl tx.n_isinstance rfl tx.n_bool (dv 0))))))
  ds_nil)
theorem sc_is_name : FnScope ["value", "sign"] ["value"] (defScope st_is_name) := ⟨rfl, rfl, rfl, by decide +kernel, rfl, by decide +kernel, by decide +kernel⟩
theorem der_is_name (tx : Txt K mg A) (O : Oks P w K mg base A j F) : FnOk P w K mg base (L2.CX P w) (j + 2) A.f_is_name A.d_is_name ["value"] (spT K mg 1 (defRun 2 (b_is_name F))) := by
  have S := sc_is_name
  refine fn_T tx.u_is_name S fun cdv Ar outer s H E hr tk hp => ?_
  have hr0 := hr.mono (Nat.le_succ _)
  have hu := hu65 hr
  exact (ds_cons (ds_if (dt_w (dw_or (dt_not (dt_val (de_isk .str boot_str rfl tx.n_isinstance rfl tx.n_str (dv 0)))) (dw_or1 (dt_not (dt_chain os_le os_le nx_le nx_le de_int (de_callB cs_len nx_len rfl tx.n_len boot_len (da_cons (dv 0) da_nil)) de_int)))))
  (ds_cons (ds_ret de_bl)
   ds_nil)
  ds_nil)
  (ds_cons (ds_ret (de_overB (cl_all rfl) nx_all rfl tx.n_all boot_all (dl_lc (own := [("sign", 1)]) rfl S.nd (di_e (dv 0)) (blkOk_by rfl) (fun _ _ _ _ _ => (dg_name (i := 1) S.nd rfl (by first | exact Or.inl rfl | exact Or.inr rfl))) (fun _ _ _ _ _ => dts_nil) (fun _ _ _ _ _ => (de_cmp (os_in hu) nx_in (dv 1) (dgs tx.c_LETTERS (by decide +kernel)) rfl)))))
  ds_nil))
theorem sc_is_one_of : FnScope ["value", "names"] ["value", "names"] (defScope st_is_one_of) := ⟨rfl, rfl, rfl, by decide +kernel, rfl, by decide +kernel, by decide +kernel⟩
theorem der_is_one_of (tx : Txt K mg A) (O : Oks P w K mg base A j F) : FnOk P w K mg base (L2.CX P w) (j + 2) A.f_is_one_of A.d_is_one_of ["value", "names"] (spT K mg 2 (defRun 2 (b_is_one_of F))) := by
  have S := sc_is_one_of
  refine fn_T tx.u_is_one_of S fun cdv Ar outer s H E hr tk hp => ?_
  have hr0 := hr.mono (Nat.le_succ _)
  have hu := hu65 hr
  exact (ds_cons (ds_ret (de_and (de_isk .str boot_str rfl tx.n_isinstance rfl tx.n_str (dv 0)) (de_and1 (de_cmp (os_in hu) nx_in (dv 0) (dv 1) rfl))))
  ds_nil)
theorem sc_are_names : FnScope ["value", "least", "most", "item"] ["value", "least", "most"] (defScope st_are_names) := ⟨rfl, rfl, rfl, by decide +kernel, rfl, by decide +kernel, by decide +kernel⟩
theorem der_are_names (tx : Txt K mg A) (O : Oks P w K mg base A j F) : FnOk P w K mg base (L2.CX P w) (j + 2) A.f_are_names A.d_are_names ["value", "least", "most"] (spT K mg 3 (defRun 4 (b_are_names F))) := by
  have S := sc_are_names
  refine fn_T tx.u_are_names S fun cdv Ar outer s H E hr tk hp => ?_
  have hr0 := hr.mono (Nat.le_succ _)
  have hu := hu65 hr
  exact (ds_cons (ds_if (dt_w (dw_or (dt_not (dt_val (de_isk .tuple boot_tuple rfl tx.n_isinstance rfl tx.n_tuple (dv 0)))) (dw_or1 (dt_not (dt_chain os_le os_le nx_le nx_le (dv 1) (de_callB cs_len nx_len rfl tx.n_len boot_len (da_cons (dv 0) da_nil)) (dv 2))))))
  (ds_cons (ds_ret de_bl)
   ds_nil)
  ds_nil)
  (ds_cons (ds_ret (de_and (de_overB (cl_all rfl) nx_all rfl tx.n_all boot_all (dl_lc (own := [("item", 3)]) rfl S.nd (di_e (dv 0)) (blkOk_by rfl) (fun _ _ _ _ _ => (dg_name (i := 3) S.nd rfl (by first | exact Or.inl rfl | exact Or.inr rfl))) (fun _ _ _ _ _ => dts_nil) (fun _ _ _ _ _ => (de_call (ps := ["value"]) O.is_name hr0 rfl tx.g_is_name tx.u_is_name.kp tx.b_is_name takes0 (da_cons (dv 3) da_nil))))) (de_and1 (de_cmp (os_eq hu) nx_eq (de_lenSet rfl rfl tx.n_len rfl tx.n_set (dv 0)) (de_callB cs_len nx_len rfl tx.n_len boot_len (da_cons (dv 0) da_nil)) rfl))))
  ds_nil))
theorem sc_is_pair : FnScope ["value"] ["value"] (defScope st_is_pair) := ⟨rfl, rfl, rfl, by decide +kernel, rfl, by decide +kernel, by decide +kernel⟩
theorem der_is_pair (tx : Txt K mg A) (O : Oks P w K mg base A j F) : FnOk P w K mg base (L2.CX P w) (j + 2) A.f_is_pair A.d_is_pair ["value"] (spT K mg 1 (defRun 1 (b_is_pair F))) := by
  have S := sc_is_pair
  refine fn_T tx.u_is_pair S fun cdv Ar outer s H E hr tk hp => ?_
  have hr0 := hr.mono (Nat.le_succ _)
  have hu := hu65 hr
  exact (ds_cons (ds_if (dt_w (dw_or (dt_not (dt_val (de_isk .tuple boot_tuple rfl tx.n_isinstance rfl tx.n_tuple (dv 0)))) (dw_or (dt_cmp (os_ne hu) nx_ne (de_callB cs_len nx_len rfl tx.n_len boot_len (da_cons (dv 0) da_nil)) de_int rfl) (dw_or1 (dt_not (dt_val (de_call (ps := ["value"]) O.is_name hr0 rfl tx.g_is_name tx.u_is_name.kp tx.b_is_name tk (da_cons (de_ix (dv 0) de_int) da_nil))))))))
  (ds_cons (ds_ret de_bl)
   ds_nil)
  ds_nil)
  (ds_cons (ds_ret (de_and (de_isk .tuple boot_tuple rfl tx.n_isinstance rfl tx.n_tuple (de_ix (dv 0) de_int)) (de_and1 (de_cmp (os_eq hu) nx_eq (de_callB cs_len nx_len rfl tx.n_len boot_len (da_cons (de_ix (dv 0) de_int) da_nil)) de_int rfl))))
  ds_nil))
theorem sc_are_fields : FnScope ["value", "item"] ["value"] (defScope st_are_fields) := ⟨rfl, rfl, rfl, by decide +kernel, rfl, by decide +kernel, by decide +kernel⟩
theorem der_are_fields (tx : Txt K mg A) (O : Oks P w K mg base A j F) : FnOk P w K mg base (L2.CX P w) (j + 2) A.f_are_fields A.d_are_fields ["value"] (spT K mg 1 (defRun 2 (b_are_fields F))) := by
  have S := sc_are_fields
  refine fn_T tx.u_are_fields S fun cdv Ar outer s H E hr tk hp => ?_
  have hr0 := hr.mono (Nat.le_succ _)
  have hu := hu65 hr
  exact (ds_cons (ds_if (dt_w (dw_or (dt_not (dt_val (de_isk .tuple boot_tuple rfl tx.n_isinstance rfl tx.n_tuple (dv 0)))) (dw_or1 (dt_not (dt_chain os_le os_le nx_le nx_le de_int (de_callB cs_len nx_len rfl tx.n_len boot_len (da_cons (dv 0) da_nil)) de_int)))))
  (ds_cons (ds_ret de_bl)
   ds_nil)
  ds_nil)
  (ds_cons (ds_if (dt_not (dt_val (de_overB (cl_all rfl) nx_all rfl tx.n_all boot_all (dl_lc (own := [("item", 1)]) rfl S.nd (di_e (dv 0)) (blkOk_by rfl) (fun _ _ _ _ _ => (dg_name (i := 1) S.nd rfl (by first | exact Or.inl rfl | exact Or.inr rfl))) (fun _ _ _ _ _ => dts_nil) (fun _ _ _ _ _ => (de_call (ps := ["value"]) O.is_pair hr0 rfl tx.g_is_pair tx.u_is_pair.kp tx.b_is_pair takes0 (da_cons (dv 1) da_nil)))))))
  (ds_cons (ds_ret de_bl)
   ds_nil)
  ds_nil)
  (ds_cons (ds_ret (de_cmp (os_eq hu) nx_eq (de_lenSc (own := [("item", 1)]) rfl S.nd rfl tx.n_len (di_e (dv 0)) (blkOk_by rfl) (fun _ _ _ _ _ => (dg_name (i := 1) S.nd rfl (by first | exact Or.inl rfl | exact Or.inr rfl))) (fun _ _ _ _ _ => dts_nil) (fun _ _ _ _ _ => (de_ix (dv 1) de_int))) (de_callB cs_len nx_len rfl tx.n_len boot_len (da_cons (dv 0) da_nil)) rfl))
  ds_nil)))
theorem sc_is_row : FnScope ["value", "size", "entry"] ["value", "size"] (defScope st_is_row) := ⟨rfl, rfl, rfl, by decide +kernel, rfl, by decide +kernel, by decide +kernel⟩
theorem der_is_row (tx : Txt K mg A) (O : Oks P w K mg base A j F) : FnOk P w K mg base (L2.CX P w) (j + 2) A.f_is_row A.d_is_row ["value", "size"] (spT K mg 2 (defRun 3 (b_is_row F))) := by
  have S := sc_is_row
  refine fn_T tx.u_is_row S fun cdv Ar outer s H E hr tk hp => ?_
  have hr0 := hr.mono (Nat.le_succ _)
  have hu := hu65 hr
  exact (ds_cons (ds_if (dt_w (dw_or (dt_not (dt_val (de_isk .tuple boot_tuple rfl tx.n_isinstance rfl tx.n_tuple (dv 0)))) (dw_or1 (dt_cmp (os_ne hu) nx_ne (de_callB cs_len nx_len rfl tx.n_len boot_len (da_cons (dv 0) da_nil)) (dv 1) rfl))))
  (ds_cons (ds_ret de_bl)
   ds_nil)
  ds_nil)
  (ds_cons (ds_ret (de_overB (cl_all rfl) nx_all rfl tx.n_all boot_all (dl_lc (own := [("entry", 2)]) rfl S.nd (di_e (dv 0)) (blkOk_by rfl) (fun _ _ _ _ _ => (dg_name (i := 2) S.nd rfl (by first | exact Or.inl rfl | exact Or.inr rfl))) (fun _ _ _ _ _ => dts_nil) (fun _ _ _ _ _ => (de_or (de_cmp os_is nx_is (dv 2) de_non rfl) (de_or1 (de_call (ps := ["value"]) O.is_name hr0 rfl tx.g_is_name tx.u_is_name.kp tx.b_is_name takes0 (da_cons (dv 2) da_nil))))))))
  ds_nil))
theorem sc_is_near : FnScope ["value", "looks", "size", "row"] ["value", "looks", "size"] (defScope st_is_near) := ⟨rfl, rfl, rfl, by decide +kernel, rfl, by decide +kernel, by decide +kernel⟩
theorem der_is_near (tx : Txt K mg A) (O : Oks P w K mg base A j F) : FnOk P w K mg base (L2.CX P w) (j + 2) A.f_is_near A.d_is_near ["value", "looks", "size"] (spT K mg 3 (defRun 4 (b_is_near F))) := by
  have S := sc_is_near
  refine fn_T tx.u_is_near S fun cdv Ar outer s H E hr tk hp => ?_
  have hr0 := hr.mono (Nat.le_succ _)
  have hu := hu65 hr
  exact (ds_cons (ds_if (dt_cmp os_is nx_is (dv 1) de_non rfl)
  (ds_cons (ds_ret (de_call (ps := ["value", "size"]) O.is_row hr0 rfl tx.g_is_row tx.u_is_row.kp tx.b_is_row tk (da_cons (dv 0) (da_cons (dv 2) da_nil))))
   ds_nil)
  ds_nil)
  (ds_cons (ds_if (dt_w (dw_or (dt_not (dt_val (de_isk .tuple boot_tuple rfl tx.n_isinstance rfl tx.n_tuple (dv 0)))) (dw_or1 (dt_cmp (os_ne hu) nx_ne (de_callB cs_len nx_len rfl tx.n_len boot_len (da_cons (dv 0) da_nil)) (dv 2) rfl))))
  (ds_cons (ds_ret de_bl)
   ds_nil)
  ds_nil)
  (ds_cons (ds_ret (de_overB (cl_all rfl) nx_all rfl tx.n_all boot_all (dl_lc (own := [("row", 3)]) rfl S.nd (di_e (dv 0)) (blkOk_by rfl) (fun _ _ _ _ _ => (dg_name (i := 3) S.nd rfl (by first | exact Or.inl rfl | exact Or.inr rfl))) (fun _ _ _ _ _ => dts_nil) (fun _ _ _ _ _ => (de_call (ps := ["value", "size"]) O.is_row hr0 rfl tx.g_is_row tx.u_is_row.kp tx.b_is_row takes0 (da_cons (dv 3) (da_cons (dv 2) da_nil)))))))
  ds_nil)))
theorem sc_check_field : FnScope ["name", "parts", "words", "names", "first", "looks", "near", "far"] ["name", "parts", "words", "names"] (defScope st_check_field) := ⟨rfl, rfl, rfl, by decide +kernel, rfl, by decide +kernel, by decide +kernel⟩
theorem der_check_field (tx : Txt K mg A) (O : Oks P w K mg base A j F) : FnOk P w K mg base (L2.CX P w) (j + 2) A.f_check_field A.d_check_field ["name", "parts", "words", "names"] (spT K mg 4 (defRun 8 (b_check_field F))) := by
  have S := sc_check_field
  refine fn_T tx.u_check_field S fun cdv Ar outer s H E hr tk hp => ?_
  have hr0 := hr.mono (Nat.le_succ _)
  have hu := hu65 hr
  exact (ds_cons (ds_asg (dv 1) (dg_tup rfl (dgs_cons (dg_name (i := 4) S.nd rfl (by first | exact Or.inl rfl | exact Or.inr rfl)) (dgs_cons (dg_name (i := 5) S.nd rfl (by first | exact Or.inl rfl | exact Or.inr rfl)) (dgs_cons (dg_name (i := 6) S.nd rfl (by first | exact Or.inl rfl | exact Or.inr rfl)) (dgs_cons (dg_name (i := 7) S.nd rfl (by first | exact Or.inl rfl | exact Or.inr rfl)) dgs_nil))))))
  (ds_cons (ds_if (dt_not (dt_val (de_call (ps := ["value", "names"]) O.is_one_of hr0 rfl tx.g_is_one_of tx.u_is_one_of.kp tx.b_is_one_of tk (da_cons (dv 4) (da_cons (dv 2) da_nil)))))
  (ds_cons ds_stk
   ds_nil)
  ds_nil)
  (ds_cons (ds_if (dt_w (dw_and (dt_cmp os_isnot nx_isnot (dv 5) de_non rfl) (dw_and1 (dt_w (dw_or (dt_not (dt_val (de_call (ps := ["value", "names"]) O.is_one_of hr0 rfl tx.g_is_one_of tx.u_is_one_of.kp tx.b_is_one_of tk (da_cons (dv 5) (da_cons (dv 3) da_nil))))) (dw_or1 (dt_cmp (os_eq hu) nx_eq (dv 5) (dv 0) rfl)))))))
  (ds_cons ds_stk
   ds_nil)
  ds_nil)
  (ds_cons (ds_if (dt_not (dt_val (de_call (ps := ["value", "looks", "size"]) O.is_near hr0 rfl tx.g_is_near tx.u_is_near.kp tx.b_is_near tk (da_cons (dv 6) (da_cons (dv 5) (da_cons (de_callB cs_len nx_len rfl tx.n_len boot_len (da_cons (dv 2) da_nil)) da_nil))))))
  (ds_cons ds_stk
   ds_nil)
  ds_nil)
  (ds_cons (ds_if (dt_w (dw_and (dt_cmp os_isnot nx_isnot (dv 7) de_non rfl) (dw_and1 (dt_not (dt_val (de_call (ps := ["value", "size"]) O.is_row hr0 rfl tx.g_is_row tx.u_is_row.kp tx.b_is_row tk (da_cons (dv 7) (da_cons (de_callB cs_len nx_len rfl tx.n_len boot_len (da_cons (dv 2) da_nil)) da_nil))))))))
  (ds_cons ds_stk
   ds_nil)
  ds_nil)
  ds_nil)))))
theorem sc_Form_init : FnScope ["self", "words", "fields", "room", "names", "item", "name", "parts"] ["self", "words", "fields", "room"] (defScope st_Form_init) := ⟨rfl, rfl, rfl, by decide +kernel, rfl, by decide +kernel, by decide +kernel⟩
theorem der_Form_init (tx : Txt K mg A) (O : Oks P w K mg base A j F) : FnOk P w K mg base (L2.CX P w) (j + 2) A.f_Form_init A.d_Form_init ["self", "words", "fields", "room"] (spT K mg 4 (defRun 8 (b_Form_init F))) := by
  have S := sc_Form_init
  refine fn_TD tx.u_Form_init S fun cdv Ar outer s H E hr tk hp => ?_
  have hr0 := hr.mono (Nat.le_succ _)
  have hu := hu65 hr
  exact (ds_cons (ds_if (dt_not (dt_val (de_call (ps := ["value", "least", "most"]) O.are_names hr0 rfl tx.g_are_names tx.u_are_names.kp tx.b_are_names tk (da_cons (dv 1) (da_cons de_int (da_cons de_int da_nil))))))
  (ds_cons ds_stk
   ds_nil)
  ds_nil)
  (ds_cons (ds_if (dt_not (dt_val (de_call (ps := ["value"]) O.are_fields hr0 rfl tx.g_are_fields tx.u_are_fields.kp tx.b_are_fields tk (da_cons (dv 2) da_nil))))
  (ds_cons ds_stk
   ds_nil)
  ds_nil)
  (ds_cons (ds_setLc (i := 4) (own := [("item", 5)]) rfl S.nd rfl rfl (sw_true rfl rfl rfl (by decide +kernel)) (di_e (dv 2)) (blkOk_by rfl) (fun _ _ _ _ _ => (dg_name (i := 5) S.nd rfl (by first | exact Or.inl rfl | exact Or.inr rfl))) (fun _ _ _ _ _ => dts_nil) (fun _ _ _ _ _ => (de_ix (dv 5) de_int)))
  (ds_cons (ds_for hp rfl (di_e (dv 2)) (dg_tup rfl (dgs_cons (dg_name (i := 6) S.nd rfl (by first | exact Or.inl rfl | exact Or.inr rfl)) (dgs_cons (dg_name (i := 7) S.nd rfl (by first | exact Or.inl rfl | exact Or.inr rfl)) dgs_nil)))
  (ds_cons (ds_expr (de_call (ps := ["name", "parts", "words", "names"]) O.check_field hr0 rfl tx.g_check_field tx.u_check_field.kp tx.b_check_field tk (da_cons (dv 6) (da_cons (dv 7) (da_cons (dv 1) (da_cons (dv 4) da_nil))))))
   ds_nil))
  (ds_cons (ds_if (dt_w (dw_or (dt_not (dt_val (de_call (ps := ["value"]) O.is_integer hr0 rfl tx.g_is_integer tx.u_is_integer.kp tx.b_is_integer tk (da_cons (dv 3) da_nil)))) (dw_or1 (dt_not (dt_chain os_le os_le nx_le nx_le de_int (dv 3) de_int)))))
  (ds_cons ds_stk
   ds_nil)
  ds_nil)
  (ds_cons (ds_fld tx.cs (dv 0) (dv 1))
  (ds_cons (ds_fld tx.cs (dv 0) (dv 2))
  (ds_cons (ds_fld tx.cs (dv 0) (dv 3))
  ds_nil))))))))
theorem sc_Form_field_names : FnScope ["self", "item"] ["self"] (defScope st_Form_field_names) := ⟨rfl, rfl, rfl, by decide +kernel, rfl, by decide +kernel, by decide +kernel⟩
theorem der_Form_field_names (tx : Txt K mg A) (O : Oks P w K mg base A j F) : FnOk P w K mg base (L2.CX P w) (j + 2) A.f_Form_field_names A.d_Form_field_names ["self"] (spT K mg 1 (defRun 2 (b_Form_field_names F))) := by
  have S := sc_Form_field_names
  refine fn_T tx.u_Form_field_names S fun cdv Ar outer s H E hr tk hp => ?_
  have hr0 := hr.mono (Nat.le_succ _)
  have hu := hu65 hr
  exact (ds_cons (ds_ret (de_overTy cl_tup nx_tup rfl tx.n_tuple boot_tuple (dl_lc (own := [("item", 1)]) rfl S.nd (di_e (de_fld tx.cs (dv 0))) (blkOk_by rfl) (fun _ _ _ _ _ => (dg_name (i := 1) S.nd rfl (by first | exact Or.inl rfl | exact Or.inr rfl))) (fun _ _ _ _ _ => dts_nil) (fun _ _ _ _ _ => (de_ix (dv 1) de_int)))))
  ds_nil)
theorem sc_is_deed : FnScope ["form", "value", "word", "rest"] ["form", "value"] (defScope st_is_deed) := ⟨rfl, rfl, rfl, by decide +kernel, rfl, by decide +kernel, by decide +kernel⟩
theorem der_is_deed (tx : Txt K mg A) (O : Oks P w K mg base A j F) : FnOk P w K mg base (L2.CX P w) (j + 2) A.f_is_deed A.d_is_deed ["form", "value"] (spT K mg 2 (defRun 4 (b_is_deed F))) := by
  have S := sc_is_deed
  refine fn_T tx.u_is_deed S fun cdv Ar outer s H E hr tk hp => ?_
  have hr0 := hr.mono (Nat.le_succ _)
  have hu := hu65 hr
  exact (ds_cons (ds_if (dt_w (dw_or (dt_not (dt_val (de_isk .tuple boot_tuple rfl tx.n_isinstance rfl tx.n_tuple (dv 1)))) (dw_or (dt_cmp (os_eq hu) nx_eq (de_callB cs_len nx_len rfl tx.n_len boot_len (da_cons (dv 1) da_nil)) de_int rfl) (dw_or1 (dt_not (dt_val (de_isk .str boot_str rfl tx.n_isinstance rfl tx.n_str (de_ix (dv 1) de_int))))))))
  (ds_cons (ds_ret de_bl)
   ds_nil)
  ds_nil)
  (ds_cons (ds_set (i := 2) S.nd rfl (by first | exact Or.inl rfl | exact Or.inr rfl) (de_ix (dv 1) de_int))
  (ds_cons (ds_set (i := 3) S.nd rfl (by first | exact Or.inl rfl | exact Or.inr rfl) (de_sl (dv 1) (do_some de_int) do_none))
  (ds_cons (ds_if (dt_w (dw_or (dt_cmp (os_eq hu) nx_eq (dv 2) (de_str (by decide +kernel)) rfl) (dw_or1 (dt_cmp (os_eq hu) nx_eq (dv 2) (de_str (by decide +kernel)) rfl))))
  (ds_cons (ds_ret (de_cmp (os_eq hu) nx_eq (de_callB cs_len nx_len rfl tx.n_len boot_len (da_cons (dv 3) da_nil)) de_int rfl))
   ds_nil)
  ds_nil)
  (ds_cons (ds_if (dt_cmp (os_eq hu) nx_eq (dv 2) (de_str (by decide +kernel)) rfl)
  (ds_cons (ds_ret (de_and (de_cmp (os_eq hu) nx_eq (de_callB cs_len nx_len rfl tx.n_len boot_len (da_cons (dv 3) da_nil)) de_int rfl) (de_and (de_call (ps := ["value", "names"]) O.is_one_of hr0 rfl tx.g_is_one_of tx.u_is_one_of.kp tx.b_is_one_of tk (da_cons (de_ix (dv 3) de_int) (da_cons (de_meth0 (ps := ["self"]) tx.g_Form tx.cc_Form tx.h_Form_field_names O.Form_field_names hr0 tx.b_Form_field_names tk (dv 0)) da_nil))) (de_and1 (de_call (ps := ["value", "names"]) O.is_one_of hr0 rfl tx.g_is_one_of tx.u_is_one_of.kp tx.b_is_one_of tk (da_cons (de_ix (dv 3) de_int) (da_cons (de_fld tx.cs (dv 0)) da_nil)))))))
   ds_nil)
  ds_nil)
  (ds_cons (ds_if (dt_cmp (os_eq hu) nx_eq (dv 2) (de_str (by decide +kernel)) rfl)
  (ds_cons (ds_ret (de_and (de_cmp (os_eq hu) nx_eq (de_callB cs_len nx_len rfl tx.n_len boot_len (da_cons (dv 3) da_nil)) de_int rfl) (de_and1 (de_call (ps := ["value", "names"]) O.is_one_of hr0 rfl tx.g_is_one_of tx.u_is_one_of.kp tx.b_is_one_of tk (da_cons (de_ix (dv 3) de_int) (da_cons (de_meth0 (ps := ["self"]) tx.g_Form tx.cc_Form tx.h_Form_field_names O.Form_field_names hr0 tx.b_Form_field_names tk (dv 0)) da_nil))))))
   ds_nil)
  ds_nil)
  (ds_cons (ds_ret (de_and (de_cmp (os_eq hu) nx_eq (dv 2) (de_str (by decide +kernel)) rfl) (de_and (de_cmp (os_eq hu) nx_eq (de_callB cs_len nx_len rfl tx.n_len boot_len (da_cons (dv 3) da_nil)) de_int rfl) (de_and (de_call (ps := ["value"]) O.is_integer hr0 rfl tx.g_is_integer tx.u_is_integer.kp tx.b_is_integer tk (da_cons (de_ix (dv 3) de_int) da_nil)) (de_and1 (de_chain os_le os_lt nx_le nx_lt de_int (de_ix (dv 3) de_int) (dgi tx.c_MOST_ANSWERS)))))))
  ds_nil)))))))
theorem sc_deeds : FnScope ["form", "resets", "found", "name", "word", "index"] ["form", "resets"] (defScope st_deeds) := ⟨rfl, rfl, rfl, by decide +kernel, rfl, by decide +kernel, by decide +kernel⟩
theorem der_deeds (tx : Txt K mg A) (O : Oks P w K mg base A j F) : FnOk P w K mg base (L2.CX P w) (j + 2) A.f_deeds A.d_deeds ["form", "resets"] (spT K mg 2 (defRun 6 (b_deeds F))) := by
  have S := sc_deeds
  refine fn_TD tx.u_deeds S fun cdv Ar outer s H E hr tk hp => ?_
  have hr0 := hr.mono (Nat.le_succ _)
  have hu := hu65 hr
  exact (ds_cons (ds_setLc2 (i := 2) (own := [("name", 3), ("word", 4)]) (vs1 := [4]) rfl S.nd rfl rfl (sw_true rfl rfl rfl (by decide +kernel)) (di_e (de_meth0 (ps := ["self"]) tx.g_Form tx.cc_Form tx.h_Form_field_names O.Form_field_names hr0 tx.b_Form_field_names tk (dv 0))) (blkOk_by rfl) (fun _ _ _ _ _ => (dg_name (i := 3) S.nd rfl (by first | exact Or.inl rfl | exact Or.inr rfl))) (fun _ _ _ _ _ => dts_nil) (fun _ _ _ _ _ => (di_e (de_fld tx.cs (dv 0)))) (fun _ _ _ _ _ => (dg_name (i := 4) S.nd rfl (by first | exact Or.inl rfl | exact Or.inr rfl))) (fun _ _ _ _ _ => dts_nil) (fun _ _ _ _ _ => (de_tup (da_cons (de_str (by decide +kernel)) (da_cons (dv 3) (da_cons (dv 4) da_nil))))))
  (ds_cons (ds_expr (de_mt ms_extend nx_extend PySem.F.plainAttrs_list PySem.F.slot_list_extend PySem.F.type_list_extend (dv 2) (da_cons (de_lc (dl_lc (own := [("name", 3)]) rfl S.nd (di_e (de_meth0 (ps := ["self"]) tx.g_Form tx.cc_Form tx.h_Form_field_names O.Form_field_names hr0 tx.b_Form_field_names tk (dv 0))) (blkOk_by rfl) (fun _ _ _ _ _ => (dg_name (i := 3) S.nd rfl (by first | exact Or.inl rfl | exact Or.inr rfl))) (fun _ _ _ _ _ => dts_nil) (fun _ _ _ _ _ => (de_tup (da_cons (de_str (by decide +kernel)) (da_cons (dv 3) da_nil)))))) da_nil)))
  (ds_cons (ds_expr (de_mt ms_append nx_append PySem.F.plainAttrs_list PySem.F.slot_list_append PySem.F.type_list_append (dv 2) (da_cons (de_tup (da_cons (de_str (by decide +kernel)) da_nil)) da_nil)))
  (ds_cons (ds_expr (de_mt ms_extend nx_extend PySem.F.plainAttrs_list PySem.F.slot_list_extend PySem.F.type_list_extend (dv 2) (da_cons (de_lc (dl_lc (own := [("index", 5)]) rfl S.nd (di_range1 rfl tx.n_range (da_cons (dgi tx.c_MOST_ANSWERS) da_nil)) (blkOk_by rfl) (fun _ _ _ _ _ => (dg_name (i := 5) S.nd rfl (by first | exact Or.inl rfl | exact Or.inr rfl))) (fun _ _ _ _ _ => dts_nil) (fun _ _ _ _ _ => (de_tup (da_cons (de_str (by decide +kernel)) (da_cons (dv 5) da_nil)))))) da_nil)))
  (ds_cons (ds_if (dt_val (dv 1))
  (ds_cons (ds_expr (de_mt ms_append nx_append PySem.F.plainAttrs_list PySem.F.slot_list_append PySem.F.type_list_append (dv 2) (da_cons (de_tup (da_cons (de_str (by decide +kernel)) da_nil)) da_nil)))
   ds_nil)
  ds_nil)
  (ds_cons (ds_ret (dv 2))
  ds_nil))))))
theorem sc__law_mix : FnScope ["_law_value", "_law_k", "_law_number"] ["_law_value", "_law_k"] (defScope st__law_mix) := ⟨rfl, rfl, rfl, by decide +kernel, rfl, by decide +kernel, by decide +kernel⟩
theorem der__law_mix (tx : Txt K mg A) (O : Oks P w K mg base A j F) : FnOk P w K mg base (L2.CX P w) (j + 2) A.f__law_mix A.d__law_mix ["_law_value", "_law_k"] (spT K mg 2 (defRun 3 (b__law_mix F))) := by
  have S := sc__law_mix
  refine fn_T tx.u__law_mix S fun cdv Ar outer s H E hr tk hp => ?_
  have hr0 := hr.mono (Nat.le_succ _)
  have hu := hu65 hr
  exact (ds_cons (ds_set (i := 2) S.nd rfl (by first | exact Or.inl rfl | exact Or.inr rfl) (de_op os_mod nx_mod (de_op os_mul nx_mul (de_op os_add nx_add (de_op os_add nx_add (de_callTy cs_int nx_bint rfl tx.n_int boot_int (da_cons (dv 0) da_nil)) (de_op os_mul nx_mul de_int (dv 1))) de_int) de_int) de_int))
  (ds_cons (ds_set (i := 2) S.nd rfl (by first | exact Or.inl rfl | exact Or.inr rfl) (de_op os_mod nx_mod (de_op os_mul nx_mul (dv 2) (de_op os_add nx_add (de_op os_div nx_div (dv 2) de_int) de_int)) de_int))
  (ds_cons (ds_ret (de_op os_mod nx_mod (de_op os_mul nx_mul (dv 2) (de_op os_add nx_add (de_op os_div nx_div (dv 2) de_int) de_int)) de_int))
  ds_nil)))
theorem sc__law_box : FnScope ["_law_script", "_law_cells", "_law_cell", "_law_seed"] ["_law_script"] (defScope st__law_box) := ⟨rfl, rfl, rfl, by decide +kernel, rfl, by decide +kernel, by decide +kernel⟩
theorem der__law_box (tx : Txt K mg A) (O : Oks P w K mg base A j F) : FnOk P w K mg base (L2.CX P w) (j + 2) A.f__law_box A.d__law_box ["_law_script"] (spT K mg 1 (defRun 4 (b__law_box F))) := by
  have S := sc__law_box
  refine fn_T tx.u__law_box S fun cdv Ar outer s H E hr tk hp => ?_
  have hr0 := hr.mono (Nat.le_succ _)
  have hu := hu65 hr
  exact (ds_cons (ds_setLc (i := 1) (own := [("_law_cell", 2)]) rfl S.nd rfl rfl (sw_true rfl rfl rfl (by decide +kernel)) (di_e (de_sl (dv 0) do_none (do_some de_int))) (blkOk_by rfl) (fun _ _ _ _ _ => (dg_name (i := 2) S.nd rfl (by first | exact Or.inl rfl | exact Or.inr rfl))) (fun _ _ _ _ _ => dts_nil) (fun _ _ _ _ _ => (de_callTy cs_int nx_bint rfl tx.n_int boot_int (da_cons (dv 2) da_nil))))
  (ds_cons (ds_set (i := 3) S.nd rfl (by first | exact Or.inl rfl | exact Or.inr rfl) de_int)
  (ds_cons (ds_for hp rfl (di_e (dv 1)) (dg_name (i := 2) S.nd rfl (by first | exact Or.inl rfl | exact Or.inr rfl))
  (ds_cons (ds_set (i := 3) S.nd rfl (by first | exact Or.inl rfl | exact Or.inr rfl) (de_call (ps := ["_law_value", "_law_k"]) O._law_mix hr0 rfl tx.g__law_mix tx.u__law_mix.kp tx.b__law_mix tk (da_cons (de_op os_add nx_add (dv 3) (dv 2)) (da_cons de_int da_nil))))
   ds_nil))
  (ds_cons (ds_ret (de_lst (da_cons (dv 1) (da_cons de_int (da_cons de_int (da_cons (dv 3) (da_cons de_int da_nil)))))))
  ds_nil))))
theorem sc__law_draw : FnScope ["_law_box_here", "_law_many", "_law_cell", "_law_digit"] ["_law_box_here", "_law_many"] (defScope st__law_draw) := ⟨rfl, rfl, rfl, by decide +kernel, rfl, by decide +kernel, by decide +kernel⟩
theorem der__law_draw (tx : Txt K mg A) (O : Oks P w K mg base A j F) : FnOk P w K mg base (L2.CX P w) (j + 2) A.f__law_draw A.d__law_draw ["_law_box_here", "_law_many"] (spT K mg 2 (defRun 4 (b__law_draw F))) := by
  have S := sc__law_draw
  refine fn_T tx.u__law_draw S fun cdv Ar outer s H E hr tk hp => ?_
  have hr0 := hr.mono (Nat.le_succ _)
  have hu := hu65 hr
  exact (ds_cons (ds_sub (dv 0) de_int (de_op os_add nx_add (de_ix (dv 0) de_int) de_int))
  (ds_cons (ds_if (dt_w (dw_and (dt_cmp (os_eq hu) nx_eq (de_ix (dv 0) de_int) de_int rfl) (dw_and1 (dt_cmp os_lt nx_lt (de_ix (dv 0) de_int) (de_callB cs_len nx_len rfl tx.n_len boot_len (da_cons (de_ix (dv 0) de_int) da_nil)) rfl))))
  (ds_cons (ds_set (i := 2) S.nd rfl (by first | exact Or.inl rfl | exact Or.inr rfl) (de_ix (de_ix (dv 0) de_int) (de_ix (dv 0) de_int)))
   (ds_cons (ds_sub (dv 0) de_int (de_op os_add nx_add (de_ix (dv 0) de_int) de_int))
   (ds_cons (ds_if (dt_cmp os_lt nx_lt (dv 2) (de_op os_pow nx_pow de_int de_int) rfl)
   (ds_cons (ds_ret (de_op os_mod nx_mod (de_callTy cs_int nx_bint rfl tx.n_int boot_int (da_cons (de_call (ps := ["_law_value", "_law_k"]) O._law_mix hr0 rfl tx.g__law_mix tx.u__law_mix.kp tx.b__law_mix tk (da_cons (dv 2) (da_cons (de_ix (dv 0) de_int) da_nil))) da_nil)) (dv 1)))
    ds_nil)
   ds_nil)
   (ds_cons (ds_sub (dv 0) de_int (dv 2))
   ds_nil))))
  ds_nil)
  (ds_cons (ds_if (dt_cmp (os_eq hu) nx_eq (de_ix (dv 0) de_int) de_int rfl)
  (ds_cons (ds_ret (de_op os_mod nx_mod (de_callTy cs_int nx_bint rfl tx.n_int boot_int (da_cons (de_call (ps := ["_law_value", "_law_k"]) O._law_mix hr0 rfl tx.g__law_mix tx.u__law_mix.kp tx.b__law_mix tk (da_cons (de_ix (dv 0) de_int) (da_cons (de_ix (dv 0) de_int) da_nil))) da_nil)) (dv 1)))
   ds_nil)
  ds_nil)
  (ds_cons (ds_set (i := 3) S.nd rfl (by first | exact Or.inl rfl | exact Or.inr rfl) (de_op os_mod nx_mod (de_callTy cs_int nx_bint rfl tx.n_int boot_int (da_cons (de_ix (dv 0) de_int) da_nil)) (dv 1)))
  (ds_cons (ds_sub (dv 0) de_int (de_op os_div nx_div (de_callTy cs_int nx_bint rfl tx.n_int boot_int (da_cons (de_ix (dv 0) de_int) da_nil)) (dv 1)))
  (ds_cons (ds_ret (dv 3))
  ds_nil))))))
theorem sc__law_same : FnScope ["_law_told", "_law_due", "_law_k"] ["_law_told", "_law_due"] (defScope st__law_same) := ⟨rfl, rfl, rfl, by decide +kernel, rfl, by decide +kernel, by decide +kernel⟩
theorem der__law_same (tx : Txt K mg A) (O : Oks P w K mg base A j F) : FnOk P w K mg base (L2.CX P w) (j + 2) A.f__law_same A.d__law_same ["_law_told", "_law_due"] (spT K mg 2 (defRun 3 (b__law_same F))) := by
  have S := sc__law_same
  refine fn_T tx.u__law_same S fun cdv Ar outer s H E hr tk hp => ?_
  have hr0 := hr.mono (Nat.le_succ _)
  have hu := hu65 hr
  exact (ds_cons (ds_if (dt_w (dw_or (dt_val (de_isk .tuple boot_tuple rfl tx.n_isinstance rfl tx.n_tuple (dv 1))) (dw_or1 (dt_val (de_isk .list boot_list rfl tx.n_isinstance rfl tx.n_list (dv 1))))))
  (ds_cons (ds_if (dt_w (dw_or (dt_cmp (os_ne hu) nx_ne (de_isk .tuple boot_tuple rfl tx.n_isinstance rfl tx.n_tuple (dv 1)) (de_isk .tuple boot_tuple rfl tx.n_isinstance rfl tx.n_tuple (dv 0)) rfl) (dw_or1 (dt_cmp (os_ne hu) nx_ne (de_isk .list boot_list rfl tx.n_isinstance rfl tx.n_list (dv 1)) (de_isk .list boot_list rfl tx.n_isinstance rfl tx.n_list (dv 0)) rfl))))
   (ds_cons (ds_ret de_bl)
    ds_nil)
   ds_nil)
   (ds_cons (ds_if (dt_cmp (os_ne hu) nx_ne (de_callB cs_len nx_len rfl tx.n_len boot_len (da_cons (dv 0) da_nil)) (de_callB cs_len nx_len rfl tx.n_len boot_len (da_cons (dv 1) da_nil)) rfl)
   (ds_cons (ds_ret de_bl)
    ds_nil)
   ds_nil)
   (ds_cons (ds_ret (de_overB (cl_all rfl) nx_all rfl tx.n_all boot_all (dl_lc (own := [("_law_k", 2)]) rfl S.nd (di_range1 rfl tx.n_range (da_cons (de_callB cs_len nx_len rfl tx.n_len boot_len (da_cons (dv 1) da_nil)) da_nil)) (blkOk_by rfl) (fun _ _ _ _ _ => (dg_name (i := 2) S.nd rfl (by first | exact Or.inl rfl | exact Or.inr rfl))) (fun _ _ _ _ _ => dts_nil) (fun _ _ _ _ _ => (de_call (ps := ["_law_told", "_law_due"]) O._law_same hr0 rfl tx.g__law_same tx.u__law_same.kp tx.b__law_same takes0 (da_cons (de_ix (dv 0) (dv 2)) (da_cons (de_ix (dv 1) (dv 2)) da_nil)))))))
   ds_nil)))
  ds_nil)
  (ds_cons (ds_if (dt_cmp os_is nx_is (dv 1) de_non rfl)
  (ds_cons (ds_ret (de_cmp os_is nx_is (dv 0) de_non rfl))
   ds_nil)
  ds_nil)
  (ds_cons (ds_if (dt_w (dw_or (dt_val (de_isk .bool boot_bool rfl tx.n_isinstance rfl tx.n_bool (dv 1))) (dw_or1 (dt_val (de_isk .bool boot_bool rfl tx.n_isinstance rfl tx.n_bool (dv 0))))))
  (ds_cons (ds_ret (de_and (de_isk .bool boot_bool rfl tx.n_isinstance rfl tx.n_bool (dv 1)) (de_and (de_isk .bool boot_bool rfl tx.n_isinstance rfl tx.n_bool (dv 0)) (de_and1 (de_cmp (os_eq hu) nx_eq (dv 1) (dv 0) rfl)))))
   ds_nil)
  ds_nil)
  (ds_cons (ds_if (dt_val (de_isk .int boot_int rfl tx.n_isinstance rfl tx.n_int (dv 1)))
  (ds_cons (ds_ret (de_and (de_isk .int boot_int rfl tx.n_isinstance rfl tx.n_int (dv 0)) (de_and1 (de_cmp (os_eq hu) nx_eq (dv 0) (dv 1) rfl))))
   ds_nil)
  ds_nil)
  (ds_cons (ds_ret (de_and (de_isk .str boot_str rfl tx.n_isinstance rfl tx.n_str (dv 0)) (de_and1 (de_cmp (os_eq hu) nx_eq (dv 0) (dv 1) rfl))))
  ds_nil)))))
theorem sc__law_names : FnScope ["_law_box_here", "_law_many", "_law_names_here", "_law_k", "_law_word", "_law_at", "_law_free", "_law_sign"] ["_law_box_here", "_law_many"] (defScope st__law_names) := ⟨rfl, rfl, rfl, by decide +kernel, rfl, by decide +kernel, by decide +kernel⟩
theorem der__law_names (tx : Txt K mg A) (O : Oks P w K mg base A j F) : FnOk P w K mg base (L2.CX P w) (j + 2) A.f__law_names A.d__law_names ["_law_box_here", "_law_many"] (spT K mg 2 (defRun 8 (b__law_names F))) := by
  have S := sc__law_names
  refine fn_T tx.u__law_names S fun cdv Ar outer s H E hr tk hp => ?_
  have hr0 := hr.mono (Nat.le_succ _)
  have hu := hu65 hr
  exact (ds_cons (ds_set (i := 2) S.nd rfl (by first | exact Or.inl rfl | exact Or.inr rfl) (de_lst da_nil))
  (ds_cons (ds_for hp rfl (di_range1 rfl tx.n_range (da_cons (dv 1) da_nil)) (dg_name (i := 3) S.nd rfl (by first | exact Or.inl rfl | exact Or.inr rfl))
  (ds_cons (ds_set (i := 4) S.nd rfl (by first | exact Or.inl rfl | exact Or.inr rfl) (de_str (by decide +kernel)))
   (ds_cons (ds_for hp rfl (di_range1 rfl tx.n_range (da_cons (de_op os_add nx_add de_int (de_call (ps := ["_law_box_here", "_law_many"]) O._law_draw hr0 rfl tx.g__law_draw tx.u__law_draw.kp tx.b__law_draw tk (da_cons (dv 0) (da_cons de_int da_nil)))) da_nil)) (dg_name (i := 5) S.nd rfl (by first | exact Or.inl rfl | exact Or.inr rfl))
   (ds_cons (ds_set (i := 4) S.nd rfl (by first | exact Or.inl rfl | exact Or.inr rfl) (de_op os_add nx_add (dv 4) (de_ix (de_str (by decide +kernel)) (de_call (ps := ["_law_box_here", "_law_many"]) O._law_draw hr0 rfl tx.g__law_draw tx.u__law_draw.kp tx.b__law_draw tk (da_cons (dv 0) (da_cons de_int da_nil))))))
    ds_nil))
   (ds_cons (ds_if (dt_cmp (os_in hu) nx_in (dv 4) (dv 2) rfl)
   (ds_cons (ds_setLc (i := 6) (own := [("_law_sign", 7)]) rfl S.nd rfl rfl (sw_true rfl rfl rfl (by decide +kernel)) (di_e (de_str (by decide +kernel))) (blkOk_by rfl) (fun _ _ _ _ _ => (dg_name (i := 7) S.nd rfl (by first | exact Or.inl rfl | exact Or.inr rfl))) (fun _ _ _ _ _ => (dts_one (dt_cmp (os_notin hu) nx_notin (de_op os_add nx_add (de_sl (dv 4) do_none (do_some de_int)) (dv 7)) (dv 2) rfl))) (fun _ _ _ _ _ => (de_op os_add nx_add (de_sl (dv 4) do_none (do_some de_int)) (dv 7))))
    (ds_cons (ds_set (i := 4) S.nd rfl (by first | exact Or.inl rfl | exact Or.inr rfl) (de_ix (dv 6) de_int))
    ds_nil))
   ds_nil)
   (ds_cons (ds_expr (de_mt ms_append nx_append PySem.F.plainAttrs_list PySem.F.slot_list_append PySem.F.type_list_append (dv 2) (da_cons (dv 4) da_nil)))
   ds_nil)))))
  (ds_cons (ds_ret (dv 2))
  ds_nil)))
theorem sc__law_entries : FnScope ["_law_box_here", "_law_notes", "_law_size", "_law_menu", "_law_k"] ["_law_box_here", "_law_notes", "_law_size"] (defScope st__law_entries) := ⟨rfl, rfl, rfl, by decide +kernel, rfl, by decide +kernel, by decide +kernel⟩
theorem der__law_entries (tx : Txt K mg A) (O : Oks P w K mg base A j F) : FnOk P w K mg base (L2.CX P w) (j + 2) A.f__law_entries A.d__law_entries ["_law_box_here", "_law_notes", "_law_size"] (spT K mg 3 (defRun 5 (b__law_entries F))) := by
  have S := sc__law_entries
  refine fn_T tx.u__law_entries S fun cdv Ar outer s H E hr tk hp => ?_
  have hr0 := hr.mono (Nat.le_succ _)
  have hu := hu65 hr
  exact (ds_cons (ds_set (i := 3) S.nd rfl (by first | exact Or.inl rfl | exact Or.inr rfl) (de_lst (da_cons de_non (da_cons de_non (da_cons (de_ix (dv 1) de_int) (da_cons (de_ix (dv 1) de_int) da_nil))))))
  (ds_cons (ds_ret (de_overTy cl_tup nx_tup rfl tx.n_tuple boot_tuple (dl_lc (own := [("_law_k", 4)]) rfl S.nd (di_range1 rfl tx.n_range (da_cons (dv 2) da_nil)) (blkOk_by rfl) (fun _ _ _ _ _ => (dg_name (i := 4) S.nd rfl (by first | exact Or.inl rfl | exact Or.inr rfl))) (fun _ _ _ _ _ => dts_nil) (fun _ _ _ _ _ => (de_ix (dv 3) (de_call (ps := ["_law_box_here", "_law_many"]) O._law_draw hr0 rfl tx.g__law_draw tx.u__law_draw.kp tx.b__law_draw takes0 (da_cons (dv 0) (da_cons de_int da_nil))))))))
  ds_nil))
theorem sc__law_field : FnScope ["_law_box_here", "_law_words", "_law_names_here", "_law_name", "_law_notes", "_law_first", "_law_others", "_law_other", "_law_looks", "_law_near", "_law_word", "_law_far"] ["_law_box_here", "_law_words", "_law_names_here", "_law_name", "_law_notes"] (defScope st__law_field) := ⟨rfl, rfl, rfl, by decide +kernel, rfl, by decide +kernel, by decide +kernel⟩
theorem der__law_field (tx : Txt K mg A) (O : Oks P w K mg base A j F) : FnOk P w K mg base (L2.CX P w) (j + 2) A.f__law_field A.d__law_field ["_law_box_here", "_law_words", "_law_names_here", "_law_name", "_law_notes"] (spT K mg 5 (defRun 12 (b__law_field F))) := by
  have S := sc__law_field
  refine fn_T tx.u__law_field S fun cdv Ar outer s H E hr tk hp => ?_
  have hr0 := hr.mono (Nat.le_succ _)
  have hu := hu65 hr
  exact (ds_cons (ds_set (i := 5) S.nd rfl (by first | exact Or.inl rfl | exact Or.inr rfl) (de_ix (dv 1) (de_call (ps := ["_law_box_here", "_law_many"]) O._law_draw hr0 rfl tx.g__law_draw tx.u__law_draw.kp tx.b__law_draw tk (da_cons (dv 0) (da_cons (de_callB cs_len nx_len rfl tx.n_len boot_len (da_cons (dv 1) da_nil)) da_nil)))))
  (ds_cons (ds_setLc (i := 6) (own := [("_law_other", 7)]) rfl S.nd rfl rfl (sw_true rfl rfl rfl (by decide +kernel)) (di_e (dv 2)) (blkOk_by rfl) (fun _ _ _ _ _ => (dg_name (i := 7) S.nd rfl (by first | exact Or.inl rfl | exact Or.inr rfl))) (fun _ _ _ _ _ => (dts_one (dt_cmp (os_ne hu) nx_ne (dv 7) (dv 3) rfl))) (fun _ _ _ _ _ => (dv 7)))
  (ds_cons (ds_set (i := 8) S.nd rfl (by first | exact Or.inl rfl | exact Or.inr rfl) de_non)
  (ds_cons (ds_set (i := 9) S.nd rfl (by first | exact Or.inl rfl | exact Or.inr rfl) (de_call (ps := ["_law_box_here", "_law_notes", "_law_size"]) O._law_entries hr0 rfl tx.g__law_entries tx.u__law_entries.kp tx.b__law_entries tk (da_cons (dv 0) (da_cons (dv 4) (da_cons (de_callB cs_len nx_len rfl tx.n_len boot_len (da_cons (dv 1) da_nil)) da_nil)))))
  (ds_cons (ds_if (dt_w (dw_and (dt_cmp os_gt nx_gt (de_callB cs_len nx_len rfl tx.n_len boot_len (da_cons (dv 6) da_nil)) de_int rfl) (dw_and1 (dt_cmp (os_eq hu) nx_eq (de_call (ps := ["_law_box_here", "_law_many"]) O._law_draw hr0 rfl tx.g__law_draw tx.u__law_draw.kp tx.b__law_draw tk (da_cons (dv 0) (da_cons de_int da_nil))) de_int rfl))))
  (ds_cons (ds_set (i := 8) S.nd rfl (by first | exact Or.inl rfl | exact Or.inr rfl) (de_ix (dv 6) (de_call (ps := ["_law_box_here", "_law_many"]) O._law_draw hr0 rfl tx.g__law_draw tx.u__law_draw.kp tx.b__law_draw tk (da_cons (dv 0) (da_cons (de_callB cs_len nx_len rfl tx.n_len boot_len (da_cons (dv 6) da_nil)) da_nil)))))
   (ds_cons (ds_set (i := 9) S.nd rfl (by first | exact Or.inl rfl | exact Or.inr rfl) (de_overTy cl_tup nx_tup rfl tx.n_tuple boot_tuple (dl_lc (own := [("_law_word", 10)]) rfl S.nd (di_e (dv 1)) (blkOk_by rfl) (fun _ _ _ _ _ => (dg_name (i := 10) S.nd rfl (by first | exact Or.inl rfl | exact Or.inr rfl))) (fun _ _ _ _ _ => dts_nil) (fun _ _ _ _ _ => (de_call (ps := ["_law_box_here", "_law_notes", "_law_size"]) O._law_entries hr0 rfl tx.g__law_entries tx.u__law_entries.kp tx.b__law_entries takes0 (da_cons (dv 0) (da_cons (dv 4) (da_cons (de_callB cs_len nx_len rfl tx.n_len boot_len (da_cons (dv 1) da_nil)) da_nil))))))))
   ds_nil))
  ds_nil)
  (ds_cons (ds_set (i := 11) S.nd rfl (by first | exact Or.inl rfl | exact Or.inr rfl) de_non)
  (ds_cons (ds_if (dt_cmp (os_eq hu) nx_eq (de_call (ps := ["_law_box_here", "_law_many"]) O._law_draw hr0 rfl tx.g__law_draw tx.u__law_draw.kp tx.b__law_draw tk (da_cons (dv 0) (da_cons de_int da_nil))) de_int rfl)
  (ds_cons (ds_set (i := 11) S.nd rfl (by first | exact Or.inl rfl | exact Or.inr rfl) (de_call (ps := ["_law_box_here", "_law_notes", "_law_size"]) O._law_entries hr0 rfl tx.g__law_entries tx.u__law_entries.kp tx.b__law_entries tk (da_cons (dv 0) (da_cons (dv 4) (da_cons (de_callB cs_len nx_len rfl tx.n_len boot_len (da_cons (dv 1) da_nil)) da_nil)))))
   ds_nil)
  ds_nil)
  (ds_cons (ds_ret (de_tup (da_cons (dv 5) (da_cons (dv 8) (da_cons (dv 9) (da_cons (dv 11) da_nil))))))
  ds_nil))))))))
theorem sc__law_parts : FnScope ["_law_box_here", "_law_size", "_law_words", "_law_names_here", "_law_notes", "_law_fields", "_law_name"] ["_law_box_here"] (defScope st__law_parts) := ⟨rfl, rfl, rfl, by decide +kernel, rfl, by decide +kernel, by decide +kernel⟩
theorem der__law_parts (tx : Txt K mg A) (O : Oks P w K mg base A j F) : FnOk P w K mg base (L2.CX P w) (j + 2) A.f__law_parts A.d__law_parts ["_law_box_here"] (spT K mg 1 (defRun 7 (b__law_parts F))) := by
  have S := sc__law_parts
  refine fn_T tx.u__law_parts S fun cdv Ar outer s H E hr tk hp => ?_
  have hr0 := hr.mono (Nat.le_succ _)
  have hu := hu65 hr
  exact (ds_cons (ds_set (i := 1) S.nd rfl (by first | exact Or.inl rfl | exact Or.inr rfl) (de_op os_add nx_add de_int (de_call (ps := ["_law_box_here", "_law_many"]) O._law_draw hr0 rfl tx.g__law_draw tx.u__law_draw.kp tx.b__law_draw tk (da_cons (dv 0) (da_cons de_int da_nil)))))
  (ds_cons (ds_set (i := 2) S.nd rfl (by first | exact Or.inl rfl | exact Or.inr rfl) (de_callTy cs_tuple nx_tuple rfl tx.n_tuple boot_tuple (da_cons (de_call (ps := ["_law_box_here", "_law_many"]) O._law_names hr0 rfl tx.g__law_names tx.u__law_names.kp tx.b__law_names tk (da_cons (dv 0) (da_cons (de_op os_add nx_add de_int (de_call (ps := ["_law_box_here", "_law_many"]) O._law_draw hr0 rfl tx.g__law_draw tx.u__law_draw.kp tx.b__law_draw tk (da_cons (dv 0) (da_cons de_int da_nil)))) da_nil))) da_nil)))
  (ds_cons (ds_set (i := 3) S.nd rfl (by first | exact Or.inl rfl | exact Or.inr rfl) (de_call (ps := ["_law_box_here", "_law_many"]) O._law_names hr0 rfl tx.g__law_names tx.u__law_names.kp tx.b__law_names tk (da_cons (dv 0) (da_cons (de_op os_add nx_add de_int (de_call (ps := ["_law_box_here", "_law_many"]) O._law_draw hr0 rfl tx.g__law_draw tx.u__law_draw.kp tx.b__law_draw tk (da_cons (dv 0) (da_cons de_int da_nil)))) da_nil))))
  (ds_cons (ds_set (i := 4) S.nd rfl (by first | exact Or.inl rfl | exact Or.inr rfl) (de_call (ps := ["_law_box_here", "_law_many"]) O._law_names hr0 rfl tx.g__law_names tx.u__law_names.kp tx.b__law_names tk (da_cons (dv 0) (da_cons de_int da_nil))))
  (ds_cons (ds_if (dt_w (dw_and (dt_cmp (os_eq hu) nx_eq (de_call (ps := ["_law_box_here", "_law_many"]) O._law_draw hr0 rfl tx.g__law_draw tx.u__law_draw.kp tx.b__law_draw tk (da_cons (dv 0) (da_cons de_int da_nil))) de_int rfl) (dw_and1 (dt_cmp (os_notin hu) nx_notin (de_ix (dv 2) de_int) (dv 3) rfl))))
  (ds_cons (ds_sub (dv 3) de_int (de_ix (dv 2) de_int))
   ds_nil)
  ds_nil)
  (ds_cons (ds_set (i := 5) S.nd rfl (by first | exact Or.inl rfl | exact Or.inr rfl) (de_overTy cl_tup nx_tup rfl tx.n_tuple boot_tuple (dl_lc (own := [("_law_name", 6)]) rfl S.nd (di_e (dv 3)) (blkOk_by rfl) (fun _ _ _ _ _ => (dg_name (i := 6) S.nd rfl (by first | exact Or.inl rfl | exact Or.inr rfl))) (fun _ _ _ _ _ => dts_nil) (fun _ _ _ _ _ => (de_tup (da_cons (dv 6) (da_cons (de_call (ps := ["_law_box_here", "_law_words", "_law_names_here", "_law_name", "_law_notes"]) O._law_field hr0 rfl tx.g__law_field tx.u__law_field.kp tx.b__law_field takes0 (da_cons (dv 0) (da_cons (dv 2) (da_cons (dv 3) (da_cons (dv 6) (da_cons (dv 4) da_nil)))))) da_nil)))))))
  (ds_cons (ds_ret (de_tup (da_cons (dv 2) (da_cons (dv 5) (da_cons (dv 1) da_nil)))))
  ds_nil)))))))
theorem sc_law : FnScope ["_law_script", "_law_box_here", "_law_parts_here", "_law_form", "_law_names_here", "_law_pair", "_law_plain", "_law_name", "_law_word", "_law_whole", "_law_row", "_law_due", "_law_deed"] ["_law_script"] (defScope st_law) := ⟨rfl, rfl, rfl, by decide +kernel, rfl, by decide +kernel, by decide +kernel⟩
theorem der_law (tx : Txt K mg A) (O : Oks P w K mg base A j F) : FnOk P w K mg base (L2.CX P w) (j + 2) A.f_law A.d_law ["_law_script"] (spT K mg 1 (defRun 13 (b_law F))) := by
  have S := sc_law
  refine fn_T tx.u_law S fun cdv Ar outer s H E hr tk hp => ?_
  have hr0 := hr.mono (Nat.le_succ _)
  have hu := hu65 hr
  exact (ds_cons (ds_set (i := 1) S.nd rfl (by first | exact Or.inl rfl | exact Or.inr rfl) (de_call (ps := ["_law_script"]) O._law_box hr0 rfl tx.g__law_box tx.u__law_box.kp tx.b__law_box tk (da_cons (dv 0) da_nil)))
  (ds_cons (ds_set (i := 2) S.nd rfl (by first | exact Or.inl rfl | exact Or.inr rfl) (de_call (ps := ["_law_box_here"]) O._law_parts hr0 rfl tx.g__law_parts tx.u__law_parts.kp tx.b__law_parts tk (da_cons (dv 1) da_nil)))
  (ds_cons (ds_set (i := 3) S.nd rfl (by first | exact Or.inl rfl | exact Or.inr rfl) (de_makeK (ps := ["self", "words", "fields", "room"]) (ks := ["room"]) (dt := []) tx.m_Form O.Form_init hr rfl tx.g_Form tx.kb_Form_init_2_room (fun _ _ => .nil) tk (da_cons (de_ix (dv 2) de_int) (da_cons (de_ix (dv 2) de_int) da_nil)) (dk_cons (de_ix (dv 2) de_int) dk_nil) rfl))
  (ds_cons (ds_setLc (i := 4) (own := [("_law_pair", 5)]) rfl S.nd rfl rfl (sw_true rfl rfl rfl (by decide +kernel)) (di_e (de_ix (dv 2) de_int)) (blkOk_by rfl) (fun _ _ _ _ _ => (dg_name (i := 5) S.nd rfl (by first | exact Or.inl rfl | exact Or.inr rfl))) (fun _ _ _ _ _ => dts_nil) (fun _ _ _ _ _ => (de_ix (dv 5) de_int)))
  (ds_cons (ds_set (i := 6) S.nd rfl (by first | exact Or.inl rfl | exact Or.inr rfl) (de_lst da_nil))
  (ds_cons (ds_for hp rfl (di_e (dv 4)) (dg_name (i := 7) S.nd rfl (by first | exact Or.inl rfl | exact Or.inr rfl))
  (ds_cons (ds_expr (de_mt ms_extend nx_extend PySem.F.plainAttrs_list PySem.F.slot_list_extend PySem.F.type_list_extend (dv 6) (da_cons (de_lc (dl_lc (own := [("_law_word", 8)]) rfl S.nd (di_e (de_ix (dv 2) de_int)) (blkOk_by rfl) (fun _ _ _ _ _ => (dg_name (i := 8) S.nd rfl (by first | exact Or.inl rfl | exact Or.inr rfl))) (fun _ _ _ _ _ => dts_nil) (fun _ _ _ _ _ => (de_tup (da_cons (de_str (by decide +kernel)) (da_cons (dv 7) (da_cons (dv 8) da_nil))))))) da_nil)))
   ds_nil))
  (ds_cons (ds_expr (de_mt ms_extend nx_extend PySem.F.plainAttrs_list PySem.F.slot_list_extend PySem.F.type_list_extend (dv 6) (da_cons (de_lc (dl_lc (own := [("_law_name", 7)]) rfl S.nd (di_e (dv 4)) (blkOk_by rfl) (fun _ _ _ _ _ => (dg_name (i := 7) S.nd rfl (by first | exact Or.inl rfl | exact Or.inr rfl))) (fun _ _ _ _ _ => dts_nil) (fun _ _ _ _ _ => (de_tup (da_cons (de_str (by decide +kernel)) (da_cons (dv 7) da_nil)))))) da_nil)))
  (ds_cons (ds_expr (de_mt ms_extend nx_extend PySem.F.plainAttrs_list PySem.F.slot_list_extend PySem.F.type_list_extend (dv 6) (da_cons (de_lst (da_cons (de_tup (da_cons (de_str (by decide +kernel)) da_nil)) (da_cons (de_tup (da_cons (de_str (by decide +kernel)) (da_cons de_int da_nil))) (da_cons (de_tup (da_cons (de_str (by decide +kernel)) (da_cons de_int da_nil))) (da_cons (de_tup (da_cons (de_str (by decide +kernel)) (da_cons de_int da_nil))) da_nil))))) da_nil)))
  (ds_cons (ds_set (i := 9) S.nd rfl (by first | exact Or.inl rfl | exact Or.inr rfl) (de_op os_add nx_add (dv 6) (de_lst (da_cons (de_tup (da_cons (de_str (by decide +kernel)) da_nil)) da_nil))))
  (ds_cons (ds_for hp rfl (di_e (de_tup (da_cons (de_tup (da_cons (de_callK (ps := ["form", "resets"]) (ks := []) (dt := [(.bl true)]) O.deeds hr0 rfl tx.g_deeds tx.u_deeds.kp tx.kb_deeds_1_ (fun _ _ => (.cons (.bl _) .nil)) tk (da_cons (dv 3) da_nil) dk_nil rfl (fun zs hz => match zs, hz with | [], _ => rfl)) (da_cons (dv 9) da_nil))) (da_cons (de_tup (da_cons (de_callK (ps := ["form", "resets"]) (ks := ["resets"]) (dt := []) O.deeds hr0 rfl tx.g_deeds tx.u_deeds.kp tx.kb_deeds_1_resets (fun _ _ => .nil) tk (da_cons (dv 3) da_nil) (dk_cons de_bl dk_nil) rfl (fun zs hz => match zs, hz with | [_], _ => rfl)) (da_cons (dv 9) da_nil))) (da_cons (de_tup (da_cons (de_callK (ps := ["form", "resets"]) (ks := ["resets"]) (dt := []) O.deeds hr0 rfl tx.g_deeds tx.u_deeds.kp tx.kb_deeds_1_resets (fun _ _ => .nil) tk (da_cons (dv 3) da_nil) (dk_cons de_bl dk_nil) rfl (fun zs hz => match zs, hz with | [_], _ => rfl)) (da_cons (dv 6) da_nil))) da_nil))))) (dg_tup rfl (dgs_cons (dg_name (i := 10) S.nd rfl (by first | exact Or.inl rfl | exact Or.inr rfl)) (dgs_cons (dg_name (i := 11) S.nd rfl (by first | exact Or.inl rfl | exact Or.inr rfl)) dgs_nil)))
  (ds_cons (ds_if (dt_not (dt_val (de_call (ps := ["_law_told", "_law_due"]) O._law_same hr0 rfl tx.g__law_same tx.u__law_same.kp tx.b__law_same tk (da_cons (dv 10) (da_cons (dv 11) da_nil)))))
   (ds_cons (ds_ret de_bl)
    ds_nil)
   ds_nil)
   (ds_cons (ds_expr (de_mt0 ms_clear nx_clear PySem.F.plainAttrs_list PySem.F.slot_list_clear PySem.F.type_list_clear (dv 10)))
   ds_nil)))
  (ds_cons (ds_for hp rfl (di_e (dv 9)) (dg_name (i := 12) S.nd rfl (by first | exact Or.inl rfl | exact Or.inr rfl))
  (ds_cons (ds_if (dt_cmp os_isnot nx_isnot (de_call (ps := ["form", "value"]) O.is_deed hr0 rfl tx.g_is_deed tx.u_is_deed.kp tx.b_is_deed tk (da_cons (dv 3) (da_cons (dv 12) da_nil))) de_bl rfl)
   (ds_cons (ds_ret de_bl)
    ds_nil)
   ds_nil)
   ds_nil))
  (ds_cons (ds_ret (de_call (ps := ["_law_told", "_law_due"]) O._law_same hr0 rfl tx.g__law_same tx.u__law_same.kp tx.b__law_same tk (da_cons (de_callK (ps := ["form", "resets"]) (ks := []) (dt := [(.bl true)]) O.deeds hr0 rfl tx.g_deeds tx.u_deeds.kp tx.kb_deeds_1_ (fun _ _ => (.cons (.bl _) .nil)) tk (da_cons (dv 3) da_nil) dk_nil rfl (fun zs hz => match zs, hz with | [], _ => rfl)) (da_cons (dv 9) da_nil))))
  ds_nil))))))))))))
theorem oks_step (tx : Txt K mg A) (O : Oks P w K mg base A j F) : Oks P w K mg base A (j + 2) (stepF F) :=
  ⟨der_is_integer tx O, der_is_name tx O, der_is_one_of tx O, der_are_names tx O, der_is_pair tx O, der_are_fields tx O, der_is_row tx O, der_is_near tx O, der_check_field tx O, der_Form_init tx O, der_Form_field_names tx O, der_is_deed tx O, der_deeds tx O, der__law_mix tx O, der__law_box tx O, der__law_draw tx O, der__law_same tx O, der__law_names tx O, der__law_entries tx O, der__law_field tx O, der__law_parts tx O, der_law tx O⟩
theorem oks_stk : Oks P w K mg base A 0 FF.stk := by
  constructor <;> exact ⟨fun vs H Q E h => h.1, fun Ar outer s H args us vs Q E hr e0 hb hv hs => (by obtain ⟨_, _, _, _, _, _, z⟩ := hs; exact False.elim z)⟩
theorem oks_run (tx : Txt K mg A) : ∀ k, Oks P w K mg base A (2 * k) (runF k)
  | 0 => oks_stk
  | k + 1 => oks_step tx (oks_run tx k)
end
end LW
end

section
namespace LW
open PySem PySem.Spec PyProof.Rows
open L2 W3
theorem all_mk {P : Program} {w : World} {K : PySem.W.Frag} {h : Heap} {mg : Str → Option Value} {fa : Addr} (X : K.In h) (G : h.Ns mainGlobals mg) (hfa : mg "law" = some (.ref fa))
    {C_Form : Addr}
    {f_is_integer : Addr} {od_is_integer an_is_integer : Option Addr} {sl_is_integer : Array (Option Value)} {oc_is_integer kV_is_integer dc_is_integer pm_is_integer cd_is_integer ct_is_integer : Value}
    {f_is_name : Addr} {od_is_name an_is_name : Option Addr} {sl_is_name : Array (Option Value)} {oc_is_name kV_is_name dc_is_name pm_is_name cd_is_name ct_is_name : Value}
    {f_is_one_of : Addr} {od_is_one_of an_is_one_of : Option Addr} {sl_is_one_of : Array (Option Value)} {oc_is_one_of kV_is_one_of dc_is_one_of pm_is_one_of cd_is_one_of ct_is_one_of : Value}
    {f_are_names : Addr} {od_are_names an_are_names : Option Addr} {sl_are_names : Array (Option Value)} {oc_are_names kV_are_names dc_are_names pm_are_names cd_are_names ct_are_names : Value}
    {f_is_pair : Addr} {od_is_pair an_is_pair : Option Addr} {sl_is_pair : Array (Option Value)} {oc_is_pair kV_is_pair dc_is_pair pm_is_pair cd_is_pair ct_is_pair : Value}
    {f_are_fields : Addr} {od_are_fields an_are_fields : Option Addr} {sl_are_fields : Array (Option Value)} {oc_are_fields kV_are_fields dc_are_fields pm_are_fields cd_are_fields ct_are_fields : Value}
    {f_is_row : Addr} {od_is_row an_is_row : Option Addr} {sl_is_row : Array (Option Value)} {oc_is_row kV_is_row dc_is_row pm_is_row cd_is_row ct_is_row : Value}
    {f_is_near : Addr} {od_is_near an_is_near : Option Addr} {sl_is_near : Array (Option Value)} {oc_is_near kV_is_near dc_is_near pm_is_near cd_is_near ct_is_near : Value}
    {f_check_field : Addr} {od_check_field an_check_field : Option Addr} {sl_check_field : Array (Option Value)} {oc_check_field kV_check_field dc_check_field pm_check_field cd_check_field ct_check_field : Value}
    {f_Form_init : Addr} {od_Form_init an_Form_init : Option Addr} {sl_Form_init : Array (Option Value)} {oc_Form_init dc_Form_init pm_Form_init cd_Form_init ct_Form_init : Value}
    {D_Form_init : Addr}
    {tk_Form_init_room : Tok}
    {f_Form_field_names : Addr} {od_Form_field_names an_Form_field_names : Option Addr} {sl_Form_field_names : Array (Option Value)} {oc_Form_field_names kV_Form_field_names dc_Form_field_names pm_Form_field_names cd_Form_field_names ct_Form_field_names : Value}
    {f_is_deed : Addr} {od_is_deed an_is_deed : Option Addr} {sl_is_deed : Array (Option Value)} {oc_is_deed kV_is_deed dc_is_deed pm_is_deed cd_is_deed ct_is_deed : Value}
    {f_deeds : Addr} {od_deeds an_deeds : Option Addr} {sl_deeds : Array (Option Value)} {oc_deeds dc_deeds pm_deeds cd_deeds ct_deeds : Value}
    {D_deeds : Addr}
    {f__law_mix : Addr} {od__law_mix an__law_mix : Option Addr} {sl__law_mix : Array (Option Value)} {oc__law_mix kV__law_mix dc__law_mix pm__law_mix cd__law_mix ct__law_mix : Value}
    {f__law_box : Addr} {od__law_box an__law_box : Option Addr} {sl__law_box : Array (Option Value)} {oc__law_box kV__law_box dc__law_box pm__law_box cd__law_box ct__law_box : Value}
    {f__law_draw : Addr} {od__law_draw an__law_draw : Option Addr} {sl__law_draw : Array (Option Value)} {oc__law_draw kV__law_draw dc__law_draw pm__law_draw cd__law_draw ct__law_draw : Value}
    {f__law_same : Addr} {od__law_same an__law_same : Option Addr} {sl__law_same : Array (Option Value)} {oc__law_same kV__law_same dc__law_same pm__law_same cd__law_same ct__law_same : Value}
    {f__law_names : Addr} {od__law_names an__law_names : Option Addr} {sl__law_names : Array (Option Value)} {oc__law_names kV__law_names dc__law_names pm__law_names cd__law_names ct__law_names : Value}
    {f__law_entries : Addr} {od__law_entries an__law_entries : Option Addr} {sl__law_entries : Array (Option Value)} {oc__law_entries kV__law_entries dc__law_entries pm__law_entries cd__law_entries ct__law_entries : Value}
    {f__law_field : Addr} {od__law_field an__law_field : Option Addr} {sl__law_field : Array (Option Value)} {oc__law_field kV__law_field dc__law_field pm__law_field cd__law_field ct__law_field : Value}
    {f__law_parts : Addr} {od__law_parts an__law_parts : Option Addr} {sl__law_parts : Array (Option Value)} {oc__law_parts kV__law_parts dc__law_parts pm__law_parts cd__law_parts ct__law_parts : Value}
    {f_law : Addr} {od_law an_law : Option Addr} {sl_law : Array (Option Value)} {oc_law kV_law dc_law pm_law cd_law ct_law : Value}
    {tk_LETTERS : Tok}
    {tk_MOST_ANSWERS : Tok}
    (a_Form : PySem.W.nsIn K mainGlobals "Form" = some (some (.ref C_Form)))
    (pg_Form : PySem.W.plainGet K C_Form Str.empty = true)
    (hd_Form : PySem.W.hasDictIn K C_Form = true)
    (po_Form : PySem.W.plainOver K C_Form = true)
    (sa_Form : PySem.W.findIn K (.ref C_Form) "__setattr__" = some (some (.builtin "object.__setattr__")))
    (mk_Form : PySem.W.makesIn K C_Form = true)
    (kc_Form : PySem.W.keepIn K (.ref C_Form) = true)
    (no_Form_words : PySem.W.findIn K (.ref C_Form) "words" = some none)
    (no_Form_fields : PySem.W.findIn K (.ref C_Form) "fields" = some none)
    (no_Form_room : PySem.W.findIn K (.ref C_Form) "room" = some none)
    (a_is_integer : PySem.W.nsIn K mainGlobals "is_integer" = some (some (.ref f_is_integer)))
    (l_is_integer : K.lookup f_is_integer = some ⟨oc_is_integer, od_is_integer, .func (PySem.W.fnOf "is_integer" "is_integer" (defArgs st_is_integer) (defBody st_is_integer) (defScope st_is_integer) .none kV_is_integer dc_is_integer pm_is_integer an_is_integer cd_is_integer ct_is_integer), sl_is_integer⟩)
    (c_is_integer : PySem.W.codeIn K cd_is_integer "is_integer" = true)
    (k_is_integer : PySem.W.keepIn K (.ref f_is_integer) = true)
    (a_is_name : PySem.W.nsIn K mainGlobals "is_name" = some (some (.ref f_is_name)))
    (l_is_name : K.lookup f_is_name = some ⟨oc_is_name, od_is_name, .func (PySem.W.fnOf "is_name" "is_name" (defArgs st_is_name) (defBody st_is_name) (defScope st_is_name) .none kV_is_name dc_is_name pm_is_name an_is_name cd_is_name ct_is_name), sl_is_name⟩)
    (c_is_name : PySem.W.codeIn K cd_is_name "is_name" = true)
    (k_is_name : PySem.W.keepIn K (.ref f_is_name) = true)
    (a_is_one_of : PySem.W.nsIn K mainGlobals "is_one_of" = some (some (.ref f_is_one_of)))
    (l_is_one_of : K.lookup f_is_one_of = some ⟨oc_is_one_of, od_is_one_of, .func (PySem.W.fnOf "is_one_of" "is_one_of" (defArgs st_is_one_of) (defBody st_is_one_of) (defScope st_is_one_of) .none kV_is_one_of dc_is_one_of pm_is_one_of an_is_one_of cd_is_one_of ct_is_one_of), sl_is_one_of⟩)
    (c_is_one_of : PySem.W.codeIn K cd_is_one_of "is_one_of" = true)
    (k_is_one_of : PySem.W.keepIn K (.ref f_is_one_of) = true)
    (a_are_names : PySem.W.nsIn K mainGlobals "are_names" = some (some (.ref f_are_names)))
    (l_are_names : K.lookup f_are_names = some ⟨oc_are_names, od_are_names, .func (PySem.W.fnOf "are_names" "are_names" (defArgs st_are_names) (defBody st_are_names) (defScope st_are_names) .none kV_are_names dc_are_names pm_are_names an_are_names cd_are_names ct_are_names), sl_are_names⟩)
    (c_are_names : PySem.W.codeIn K cd_are_names "are_names" = true)
    (k_are_names : PySem.W.keepIn K (.ref f_are_names) = true)
    (a_is_pair : PySem.W.nsIn K mainGlobals "is_pair" = some (some (.ref f_is_pair)))
    (l_is_pair : K.lookup f_is_pair = some ⟨oc_is_pair, od_is_pair, .func (PySem.W.fnOf "is_pair" "is_pair" (defArgs st_is_pair) (defBody st_is_pair) (defScope st_is_pair) .none kV_is_pair dc_is_pair pm_is_pair an_is_pair cd_is_pair ct_is_pair), sl_is_pair⟩)
    (c_is_pair : PySem.W.codeIn K cd_is_pair "is_pair" = true)
    (k_is_pair : PySem.W.keepIn K (.ref f_is_pair) = true)
    (a_are_fields : PySem.W.nsIn K mainGlobals "are_fields" = some (some (.ref f_are_fields)))
    (l_are_fields : K.lookup f_are_fields = some ⟨oc_are_fields, od_are_fields, .func (PySem.W.fnOf "are_fields" "are_fields" (defArgs st_are_fields) (defBody st_are_fields) (defScope st_are_fields) .none kV_are_fields dc_are_fields pm_are_fields an_are_fields cd_are_fields ct_are_fields), sl_are_fields⟩)
    (c_are_fields : PySem.W.codeIn K cd_are_fields "are_fields" = true)
    (k_are_fields : PySem.W.keepIn K (.ref f_are_fields) = true)
    (a_is_row : PySem.W.nsIn K mainGlobals "is_row" = some (some (.ref f_is_row)))
    (l_is_row : K.lookup f_is_row = some ⟨oc_is_row, od_is_row, .func (PySem.W.fnOf "is_row" "is_row" (defArgs st_is_row) (defBody st_is_row) (defScope st_is_row) .none kV_is_row dc_is_row pm_is_row an_is_row cd_is_row ct_is_row), sl_is_row⟩)
    (c_is_row : PySem.W.codeIn K cd_is_row "is_row" = true)
    (k_is_row : PySem.W.keepIn K (.ref f_is_row) = true)
    (a_is_near : PySem.W.nsIn K mainGlobals "is_near" = some (some (.ref f_is_near)))
    (l_is_near : K.lookup f_is_near = some ⟨oc_is_near, od_is_near, .func (PySem.W.fnOf "is_near" "is_near" (defArgs st_is_near) (defBody st_is_near) (defScope st_is_near) .none kV_is_near dc_is_near pm_is_near an_is_near cd_is_near ct_is_near), sl_is_near⟩)
    (c_is_near : PySem.W.codeIn K cd_is_near "is_near" = true)
    (k_is_near : PySem.W.keepIn K (.ref f_is_near) = true)
    (a_check_field : PySem.W.nsIn K mainGlobals "check_field" = some (some (.ref f_check_field)))
    (l_check_field : K.lookup f_check_field = some ⟨oc_check_field, od_check_field, .func (PySem.W.fnOf "check_field" "check_field" (defArgs st_check_field) (defBody st_check_field) (defScope st_check_field) .none kV_check_field dc_check_field pm_check_field an_check_field cd_check_field ct_check_field), sl_check_field⟩)
    (c_check_field : PySem.W.codeIn K cd_check_field "check_field" = true)
    (k_check_field : PySem.W.keepIn K (.ref f_check_field) = true)
    (a_Form_init : PySem.W.findIn K (.ref C_Form) "__init__" = some (some (.ref f_Form_init)))
    (i_Form_init : PySem.W.isFn K (.ref f_Form_init) = true)
    (l_Form_init : K.lookup f_Form_init = some ⟨oc_Form_init, od_Form_init, .func (PySem.W.fnOf "__init__" "Form.__init__" (defArgs st_Form_init) (defBody st_Form_init) (defScope st_Form_init) .none (.ref D_Form_init) dc_Form_init pm_Form_init an_Form_init cd_Form_init ct_Form_init), sl_Form_init⟩)
    (c_Form_init : PySem.W.codeIn K cd_Form_init "Form.__init__" = true)
    (k_Form_init : PySem.W.keepIn K (.ref f_Form_init) = true)
    (kd_Form_init_room : PySem.W.nsIn K D_Form_init "room" = some (some (.int 3 tk_Form_init_room)))
    (a_Form_field_names : PySem.W.findIn K (.ref C_Form) "field_names" = some (some (.ref f_Form_field_names)))
    (i_Form_field_names : PySem.W.isFn K (.ref f_Form_field_names) = true)
    (l_Form_field_names : K.lookup f_Form_field_names = some ⟨oc_Form_field_names, od_Form_field_names, .func (PySem.W.fnOf "field_names" "Form.field_names" (defArgs st_Form_field_names) (defBody st_Form_field_names) (defScope st_Form_field_names) .none kV_Form_field_names dc_Form_field_names pm_Form_field_names an_Form_field_names cd_Form_field_names ct_Form_field_names), sl_Form_field_names⟩)
    (c_Form_field_names : PySem.W.codeIn K cd_Form_field_names "Form.field_names" = true)
    (k_Form_field_names : PySem.W.keepIn K (.ref f_Form_field_names) = true)
    (a_is_deed : PySem.W.nsIn K mainGlobals "is_deed" = some (some (.ref f_is_deed)))
    (l_is_deed : K.lookup f_is_deed = some ⟨oc_is_deed, od_is_deed, .func (PySem.W.fnOf "is_deed" "is_deed" (defArgs st_is_deed) (defBody st_is_deed) (defScope st_is_deed) .none kV_is_deed dc_is_deed pm_is_deed an_is_deed cd_is_deed ct_is_deed), sl_is_deed⟩)
    (c_is_deed : PySem.W.codeIn K cd_is_deed "is_deed" = true)
    (k_is_deed : PySem.W.keepIn K (.ref f_is_deed) = true)
    (a_deeds : PySem.W.nsIn K mainGlobals "deeds" = some (some (.ref f_deeds)))
    (l_deeds : K.lookup f_deeds = some ⟨oc_deeds, od_deeds, .func (PySem.W.fnOf "deeds" "deeds" (defArgs st_deeds) (defBody st_deeds) (defScope st_deeds) .none (.ref D_deeds) dc_deeds pm_deeds an_deeds cd_deeds ct_deeds), sl_deeds⟩)
    (c_deeds : PySem.W.codeIn K cd_deeds "deeds" = true)
    (k_deeds : PySem.W.keepIn K (.ref f_deeds) = true)
    (kd_deeds_resets : PySem.W.nsIn K D_deeds "resets" = some (some (.bool true)))
    (a__law_mix : PySem.W.nsIn K mainGlobals "_law_mix" = some (some (.ref f__law_mix)))
    (l__law_mix : K.lookup f__law_mix = some ⟨oc__law_mix, od__law_mix, .func (PySem.W.fnOf "_law_mix" "_law_mix" (defArgs st__law_mix) (defBody st__law_mix) (defScope st__law_mix) .none kV__law_mix dc__law_mix pm__law_mix an__law_mix cd__law_mix ct__law_mix), sl__law_mix⟩)
    (c__law_mix : PySem.W.codeIn K cd__law_mix "_law_mix" = true)
    (k__law_mix : PySem.W.keepIn K (.ref f__law_mix) = true)
    (a__law_box : PySem.W.nsIn K mainGlobals "_law_box" = some (some (.ref f__law_box)))
    (l__law_box : K.lookup f__law_box = some ⟨oc__law_box, od__law_box, .func (PySem.W.fnOf "_law_box" "_law_box" (defArgs st__law_box) (defBody st__law_box) (defScope st__law_box) .none kV__law_box dc__law_box pm__law_box an__law_box cd__law_box ct__law_box), sl__law_box⟩)
    (c__law_box : PySem.W.codeIn K cd__law_box "_law_box" = true)
    (k__law_box : PySem.W.keepIn K (.ref f__law_box) = true)
    (a__law_draw : PySem.W.nsIn K mainGlobals "_law_draw" = some (some (.ref f__law_draw)))
    (l__law_draw : K.lookup f__law_draw = some ⟨oc__law_draw, od__law_draw, .func (PySem.W.fnOf "_law_draw" "_law_draw" (defArgs st__law_draw) (defBody st__law_draw) (defScope st__law_draw) .none kV__law_draw dc__law_draw pm__law_draw an__law_draw cd__law_draw ct__law_draw), sl__law_draw⟩)
    (c__law_draw : PySem.W.codeIn K cd__law_draw "_law_draw" = true)
    (k__law_draw : PySem.W.keepIn K (.ref f__law_draw) = true)
    (a__law_same : PySem.W.nsIn K mainGlobals "_law_same" = some (some (.ref f__law_same)))
    (l__law_same : K.lookup f__law_same = some ⟨oc__law_same, od__law_same, .func (PySem.W.fnOf "_law_same" "_law_same" (defArgs st__law_same) (defBody st__law_same) (defScope st__law_same) .none kV__law_same dc__law_same pm__law_same an__law_same cd__law_same ct__law_same), sl__law_same⟩)
    (c__law_same : PySem.W.codeIn K cd__law_same "_law_same" = true)
    (k__law_same : PySem.W.keepIn K (.ref f__law_same) = true)
    (a__law_names : PySem.W.nsIn K mainGlobals "_law_names" = some (some (.ref f__law_names)))
    (l__law_names : K.lookup f__law_names = some ⟨oc__law_names, od__law_names, .func (PySem.W.fnOf "_law_names" "_law_names" (defArgs st__law_names) (defBody st__law_names) (defScope st__law_names) .none kV__law_names dc__law_names pm__law_names an__law_names cd__law_names ct__law_names), sl__law_names⟩)
    (c__law_names : PySem.W.codeIn K cd__law_names "_law_names" = true)
    (k__law_names : PySem.W.keepIn K (.ref f__law_names) = true)
    (a__law_entries : PySem.W.nsIn K mainGlobals "_law_entries" = some (some (.ref f__law_entries)))
    (l__law_entries : K.lookup f__law_entries = some ⟨oc__law_entries, od__law_entries, .func (PySem.W.fnOf "_law_entries" "_law_entries" (defArgs st__law_entries) (defBody st__law_entries) (defScope st__law_entries) .none kV__law_entries dc__law_entries pm__law_entries an__law_entries cd__law_entries ct__law_entries), sl__law_entries⟩)
    (c__law_entries : PySem.W.codeIn K cd__law_entries "_law_entries" = true)
    (k__law_entries : PySem.W.keepIn K (.ref f__law_entries) = true)
    (a__law_field : PySem.W.nsIn K mainGlobals "_law_field" = some (some (.ref f__law_field)))
    (l__law_field : K.lookup f__law_field = some ⟨oc__law_field, od__law_field, .func (PySem.W.fnOf "_law_field" "_law_field" (defArgs st__law_field) (defBody st__law_field) (defScope st__law_field) .none kV__law_field dc__law_field pm__law_field an__law_field cd__law_field ct__law_field), sl__law_field⟩)
    (c__law_field : PySem.W.codeIn K cd__law_field "_law_field" = true)
    (k__law_field : PySem.W.keepIn K (.ref f__law_field) = true)
    (a__law_parts : PySem.W.nsIn K mainGlobals "_law_parts" = some (some (.ref f__law_parts)))
    (l__law_parts : K.lookup f__law_parts = some ⟨oc__law_parts, od__law_parts, .func (PySem.W.fnOf "_law_parts" "_law_parts" (defArgs st__law_parts) (defBody st__law_parts) (defScope st__law_parts) .none kV__law_parts dc__law_parts pm__law_parts an__law_parts cd__law_parts ct__law_parts), sl__law_parts⟩)
    (c__law_parts : PySem.W.codeIn K cd__law_parts "_law_parts" = true)
    (k__law_parts : PySem.W.keepIn K (.ref f__law_parts) = true)
    (a_law : PySem.W.nsIn K mainGlobals "law" = some (some (.ref f_law)))
    (l_law : K.lookup f_law = some ⟨oc_law, od_law, .func (PySem.W.fnOf "law" "law" (defArgs st_law) (defBody st_law) (defScope st_law) .none kV_law dc_law pm_law an_law cd_law ct_law), sl_law⟩)
    (c_law : PySem.W.codeIn K cd_law "law" = true)
    (k_law : PySem.W.keepIn K (.ref f_law) = true)
    (g_LETTERS : PySem.W.nsIn K mainGlobals "LETTERS" = some (some (.str "abcdefghijklmnopqrstuvwxyz" tk_LETTERS)))
    (g_MOST_ANSWERS : PySem.W.nsIn K mainGlobals "MOST_ANSWERS" = some (some (.int 3 tk_MOST_ANSWERS)))
    (z_all : PySem.W.nsIn K mainGlobals "all" = some none)
    (z_bool : PySem.W.nsIn K mainGlobals "bool" = some none)
    (z_int : PySem.W.nsIn K mainGlobals "int" = some none)
    (z_isinstance : PySem.W.nsIn K mainGlobals "isinstance" = some none)
    (z_len : PySem.W.nsIn K mainGlobals "len" = some none)
    (z_list : PySem.W.nsIn K mainGlobals "list" = some none)
    (z_range : PySem.W.nsIn K mainGlobals "range" = some none)
    (z_set : PySem.W.nsIn K mainGlobals "set" = some none)
    (z_str : PySem.W.nsIn K mainGlobals "str" = some none)
    (z_tuple : PySem.W.nsIn K mainGlobals "tuple" = some none)
    (n : Nat) : ∃ fd : FuncData, (∀ (s : Shared) (v : Value), BindsTo s fd ⟨[v], []⟩ [("_law_script", v)]) ∧ ∀ base : Heap, K.In base → base.Ns mainGlobals mg → FnOk P w K mg base (L2.CX P w) (2 * n) fa fd ["_law_script"] (spL K (runF n).law) := by
  obtain rfl : f_law = fa := by
    have e := hfa.symm.trans (PySem.W.mg_of X G a_law)
    cases e
    rfl
  have U_is_integer := fun_mk (st := st_is_integer) l_is_integer c_is_integer k_is_integer
  have B_is_integer := U_is_integer.binds (ps := ["value"]) fun _ _ _ _ _ _ us hl => match us, hl with | [_], _ => rfl
  have U_is_name := fun_mk (st := st_is_name) l_is_name c_is_name k_is_name
  have B_is_name := U_is_name.binds (ps := ["value"]) fun _ _ _ _ _ _ us hl => match us, hl with | [_], _ => rfl
  have U_is_one_of := fun_mk (st := st_is_one_of) l_is_one_of c_is_one_of k_is_one_of
  have B_is_one_of := U_is_one_of.binds (ps := ["value", "names"]) fun _ _ _ _ _ _ us hl => match us, hl with | [_, _], _ => rfl
  have U_are_names := fun_mk (st := st_are_names) l_are_names c_are_names k_are_names
  have B_are_names := U_are_names.binds (ps := ["value", "least", "most"]) fun _ _ _ _ _ _ us hl => match us, hl with | [_, _, _], _ => rfl
  have U_is_pair := fun_mk (st := st_is_pair) l_is_pair c_is_pair k_is_pair
  have B_is_pair := U_is_pair.binds (ps := ["value"]) fun _ _ _ _ _ _ us hl => match us, hl with | [_], _ => rfl
  have U_are_fields := fun_mk (st := st_are_fields) l_are_fields c_are_fields k_are_fields
  have B_are_fields := U_are_fields.binds (ps := ["value"]) fun _ _ _ _ _ _ us hl => match us, hl with | [_], _ => rfl
  have U_is_row := fun_mk (st := st_is_row) l_is_row c_is_row k_is_row
  have B_is_row := U_is_row.binds (ps := ["value", "size"]) fun _ _ _ _ _ _ us hl => match us, hl with | [_, _], _ => rfl
  have U_is_near := fun_mk (st := st_is_near) l_is_near c_is_near k_is_near
  have B_is_near := U_is_near.binds (ps := ["value", "looks", "size"]) fun _ _ _ _ _ _ us hl => match us, hl with | [_, _, _], _ => rfl
  have U_check_field := fun_mk (st := st_check_field) l_check_field c_check_field k_check_field
  have B_check_field := U_check_field.binds (ps := ["name", "parts", "words", "names"]) fun _ _ _ _ _ _ us hl => match us, hl with | [_, _, _, _], _ => rfl
  have U_Form_init : FunD K "__init__" "Form.__init__" (defArgs st_Form_init) (defBody st_Form_init) (defScope st_Form_init) [] [("room", .int 3)] f_Form_init _ := ⟨⟨_, _, _, _, _, _, _, _, _, _, rfl, l_Form_init, c_Form_init, .inl ⟨rfl, rfl⟩, .inr ⟨D_Form_init, rfl, fun z hz => (by
    simp only [List.mem_cons, List.not_mem_nil, or_false] at hz
    rcases hz with rfl
    · exact ⟨_, kd_Form_init_room, ⟨_, rfl⟩⟩)⟩⟩, k_Form_init⟩
  have U_Form_field_names := fun_mk (st := st_Form_field_names) l_Form_field_names c_Form_field_names k_Form_field_names
  have B_Form_field_names := U_Form_field_names.binds (ps := ["self"]) fun _ _ _ _ _ _ us hl => match us, hl with | [_], _ => rfl
  have U_is_deed := fun_mk (st := st_is_deed) l_is_deed c_is_deed k_is_deed
  have B_is_deed := U_is_deed.binds (ps := ["form", "value"]) fun _ _ _ _ _ _ us hl => match us, hl with | [_, _], _ => rfl
  have U_deeds : FunD K "deeds" "deeds" (defArgs st_deeds) (defBody st_deeds) (defScope st_deeds) [] [("resets", .bl true)] f_deeds _ := ⟨⟨_, _, _, _, _, _, _, _, _, _, rfl, l_deeds, c_deeds, .inl ⟨rfl, rfl⟩, .inr ⟨D_deeds, rfl, fun z hz => (by
    simp only [List.mem_cons, List.not_mem_nil, or_false] at hz
    rcases hz with rfl
    · exact ⟨_, kd_deeds_resets, rfl⟩)⟩⟩, k_deeds⟩
  have U__law_mix := fun_mk (st := st__law_mix) l__law_mix c__law_mix k__law_mix
  have B__law_mix := U__law_mix.binds (ps := ["_law_value", "_law_k"]) fun _ _ _ _ _ _ us hl => match us, hl with | [_, _], _ => rfl
  have U__law_box := fun_mk (st := st__law_box) l__law_box c__law_box k__law_box
  have B__law_box := U__law_box.binds (ps := ["_law_script"]) fun _ _ _ _ _ _ us hl => match us, hl with | [_], _ => rfl
  have U__law_draw := fun_mk (st := st__law_draw) l__law_draw c__law_draw k__law_draw
  have B__law_draw := U__law_draw.binds (ps := ["_law_box_here", "_law_many"]) fun _ _ _ _ _ _ us hl => match us, hl with | [_, _], _ => rfl
  have U__law_same := fun_mk (st := st__law_same) l__law_same c__law_same k__law_same
  have B__law_same := U__law_same.binds (ps := ["_law_told", "_law_due"]) fun _ _ _ _ _ _ us hl => match us, hl with | [_, _], _ => rfl
  have U__law_names := fun_mk (st := st__law_names) l__law_names c__law_names k__law_names
  have B__law_names := U__law_names.binds (ps := ["_law_box_here", "_law_many"]) fun _ _ _ _ _ _ us hl => match us, hl with | [_, _], _ => rfl
  have U__law_entries := fun_mk (st := st__law_entries) l__law_entries c__law_entries k__law_entries
  have B__law_entries := U__law_entries.binds (ps := ["_law_box_here", "_law_notes", "_law_size"]) fun _ _ _ _ _ _ us hl => match us, hl with | [_, _, _], _ => rfl
  have U__law_field := fun_mk (st := st__law_field) l__law_field c__law_field k__law_field
  have B__law_field := U__law_field.binds (ps := ["_law_box_here", "_law_words", "_law_names_here", "_law_name", "_law_notes"]) fun _ _ _ _ _ _ us hl => match us, hl with | [_, _, _, _, _], _ => rfl
  have U__law_parts := fun_mk (st := st__law_parts) l__law_parts c__law_parts k__law_parts
  have B__law_parts := U__law_parts.binds (ps := ["_law_box_here"]) fun _ _ _ _ _ _ us hl => match us, hl with | [_], _ => rfl
  have U_law := fun_mk (st := st_law) l_law c_law k_law
  have B_law := U_law.binds (ps := ["_law_script"]) fun _ _ _ _ _ _ us hl => match us, hl with | [_], _ => rfl
  have KB_kb_Form_init_2_room := U_Form_init.kbinds0 (ps := ["self", "words", "fields", "room"]) 3 ["room"] [] (fun us mv ws => us ++ weave [true] mv ws) (by simp) (by simp) (fun r1 r2 r3 => Vals.append r1 (Vals.weave [true] r2 r3)) (fun _ _ _ _ _ _ us mv ws h1 h2 h3 => match us, mv, ws, h1, h2, h3 with | [_, _, _], [], [_], _, _, _ => rfl)
  have KB_kb_deeds_1_resets := U_deeds.kbinds0 (ps := ["form", "resets"]) 1 ["resets"] [] (fun us mv ws => us ++ weave [true] mv ws) (by simp) (by simp) (fun r1 r2 r3 => Vals.append r1 (Vals.weave [true] r2 r3)) (fun _ _ _ _ _ _ us mv ws h1 h2 h3 => match us, mv, ws, h1, h2, h3 with | [_], [], [_], _, _, _ => rfl)
  have KB_kb_deeds_1_ := U_deeds.kbinds0 (ps := ["form", "resets"]) 1 [] [("resets", .bl true)] (fun us mv ws => us ++ weave [false] mv ws) (by simp) (by simp) (fun r1 r2 r3 => Vals.append r1 (Vals.weave [false] r2 r3)) (fun _ _ _ _ _ _ us mv ws h1 h2 h3 => match us, mv, ws, h1, h2, h3 with | [_], [_], [], _, _, _ => ⟨_, _, _, _, _, _, rfl, rfl, rfl⟩)
  have CF : ClsF K mg CS := by
    intro c fs C hm hC
    simp only [CS, List.mem_cons, List.not_mem_nil, or_false, Prod.mk.injEq] at hm
    obtain ⟨rfl, rfl⟩ := hm
    have e := hC.symm.trans (PySem.W.mg_of X G a_Form); cases e
    exact ⟨⟨pg_Form, hd_Form, po_Form, sa_Form⟩, fun f hf => by simp only [List.mem_cons, List.not_mem_nil, or_false] at hf; rcases hf with rfl | rfl | rfl <;> assumption⟩
  let A : Ad := { f_is_integer := f_is_integer, d_is_integer := PySem.W.fnOf "is_integer" "is_integer" (defArgs st_is_integer) (defBody st_is_integer) (defScope st_is_integer) .none kV_is_integer dc_is_integer pm_is_integer an_is_integer cd_is_integer ct_is_integer, f_is_name := f_is_name, d_is_name := PySem.W.fnOf "is_name" "is_name" (defArgs st_is_name) (defBody st_is_name) (defScope st_is_name) .none kV_is_name dc_is_name pm_is_name an_is_name cd_is_name ct_is_name, f_is_one_of := f_is_one_of, d_is_one_of := PySem.W.fnOf "is_one_of" "is_one_of" (defArgs st_is_one_of) (defBody st_is_one_of) (defScope st_is_one_of) .none kV_is_one_of dc_is_one_of pm_is_one_of an_is_one_of cd_is_one_of ct_is_one_of, f_are_names := f_are_names, d_are_names := PySem.W.fnOf "are_names" "are_names" (defArgs st_are_names) (defBody st_are_names) (defScope st_are_names) .none kV_are_names dc_are_names pm_are_names an_are_names cd_are_names ct_are_names, f_is_pair := f_is_pair, d_is_pair := PySem.W.fnOf "is_pair" "is_pair" (defArgs st_is_pair) (defBody st_is_pair) (defScope st_is_pair) .none kV_is_pair dc_is_pair pm_is_pair an_is_pair cd_is_pair ct_is_pair, f_are_fields := f_are_fields, d_are_fields := PySem.W.fnOf "are_fields" "are_fields" (defArgs st_are_fields) (defBody st_are_fields) (defScope st_are_fields) .none kV_are_fields dc_are_fields pm_are_fields an_are_fields cd_are_fields ct_are_fields, f_is_row := f_is_row, d_is_row := PySem.W.fnOf "is_row" "is_row" (defArgs st_is_row) (defBody st_is_row) (defScope st_is_row) .none kV_is_row dc_is_row pm_is_row an_is_row cd_is_row ct_is_row, f_is_near := f_is_near, d_is_near := PySem.W.fnOf "is_near" "is_near" (defArgs st_is_near) (defBody st_is_near) (defScope st_is_near) .none kV_is_near dc_is_near pm_is_near an_is_near cd_is_near ct_is_near, f_check_field := f_check_field, d_check_field := PySem.W.fnOf "check_field" "check_field" (defArgs st_check_field) (defBody st_check_field) (defScope st_check_field) .none kV_check_field dc_check_field pm_check_field an_check_field cd_check_field ct_check_field, f_Form_init := f_Form_init, d_Form_init := PySem.W.fnOf "__init__" "Form.__init__" (defArgs st_Form_init) (defBody st_Form_init) (defScope st_Form_init) .none (.ref D_Form_init) dc_Form_init pm_Form_init an_Form_init cd_Form_init ct_Form_init, f_Form_field_names := f_Form_field_names, d_Form_field_names := PySem.W.fnOf "field_names" "Form.field_names" (defArgs st_Form_field_names) (defBody st_Form_field_names) (defScope st_Form_field_names) .none kV_Form_field_names dc_Form_field_names pm_Form_field_names an_Form_field_names cd_Form_field_names ct_Form_field_names, f_is_deed := f_is_deed, d_is_deed := PySem.W.fnOf "is_deed" "is_deed" (defArgs st_is_deed) (defBody st_is_deed) (defScope st_is_deed) .none kV_is_deed dc_is_deed pm_is_deed an_is_deed cd_is_deed ct_is_deed, f_deeds := f_deeds, d_deeds := PySem.W.fnOf "deeds" "deeds" (defArgs st_deeds) (defBody st_deeds) (defScope st_deeds) .none (.ref D_deeds) dc_deeds pm_deeds an_deeds cd_deeds ct_deeds, f__law_mix := f__law_mix, d__law_mix := PySem.W.fnOf "_law_mix" "_law_mix" (defArgs st__law_mix) (defBody st__law_mix) (defScope st__law_mix) .none kV__law_mix dc__law_mix pm__law_mix an__law_mix cd__law_mix ct__law_mix, f__law_box := f__law_box, d__law_box := PySem.W.fnOf "_law_box" "_law_box" (defArgs st__law_box) (defBody st__law_box) (defScope st__law_box) .none kV__law_box dc__law_box pm__law_box an__law_box cd__law_box ct__law_box, f__law_draw := f__law_draw, d__law_draw := PySem.W.fnOf "_law_draw" "_law_draw" (defArgs st__law_draw) (defBody st__law_draw) (defScope st__law_draw) .none kV__law_draw dc__law_draw pm__law_draw an__law_draw cd__law_draw ct__law_draw, f__law_same := f__law_same, d__law_same := PySem.W.fnOf "_law_same" "_law_same" (defArgs st__law_same) (defBody st__law_same) (defScope st__law_same) .none kV__law_same dc__law_same pm__law_same an__law_same cd__law_same ct__law_same, f__law_names := f__law_names, d__law_names := PySem.W.fnOf "_law_names" "_law_names" (defArgs st__law_names) (defBody st__law_names) (defScope st__law_names) .none kV__law_names dc__law_names pm__law_names an__law_names cd__law_names ct__law_names, f__law_entries := f__law_entries, d__law_entries := PySem.W.fnOf "_law_entries" "_law_entries" (defArgs st__law_entries) (defBody st__law_entries) (defScope st__law_entries) .none kV__law_entries dc__law_entries pm__law_entries an__law_entries cd__law_entries ct__law_entries, f__law_field := f__law_field, d__law_field := PySem.W.fnOf "_law_field" "_law_field" (defArgs st__law_field) (defBody st__law_field) (defScope st__law_field) .none kV__law_field dc__law_field pm__law_field an__law_field cd__law_field ct__law_field, f__law_parts := f__law_parts, d__law_parts := PySem.W.fnOf "_law_parts" "_law_parts" (defArgs st__law_parts) (defBody st__law_parts) (defScope st__law_parts) .none kV__law_parts dc__law_parts pm__law_parts an__law_parts cd__law_parts ct__law_parts, f_law := f_law, d_law := PySem.W.fnOf "law" "law" (defArgs st_law) (defBody st_law) (defScope st_law) .none kV_law dc_law pm_law an_law cd_law ct_law, c_Form := C_Form }
  have tx : Txt K mg A := { u_is_integer := U_is_integer, b_is_integer := B_is_integer, g_is_integer := PySem.W.mg_of X G a_is_integer, u_is_name := U_is_name, b_is_name := B_is_name, g_is_name := PySem.W.mg_of X G a_is_name, u_is_one_of := U_is_one_of, b_is_one_of := B_is_one_of, g_is_one_of := PySem.W.mg_of X G a_is_one_of, u_are_names := U_are_names, b_are_names := B_are_names, g_are_names := PySem.W.mg_of X G a_are_names, u_is_pair := U_is_pair, b_is_pair := B_is_pair, g_is_pair := PySem.W.mg_of X G a_is_pair, u_are_fields := U_are_fields, b_are_fields := B_are_fields, g_are_fields := PySem.W.mg_of X G a_are_fields, u_is_row := U_is_row, b_is_row := B_is_row, g_is_row := PySem.W.mg_of X G a_is_row, u_is_near := U_is_near, b_is_near := B_is_near, g_is_near := PySem.W.mg_of X G a_is_near, u_check_field := U_check_field, b_check_field := B_check_field, g_check_field := PySem.W.mg_of X G a_check_field, u_Form_init := U_Form_init, u_Form_field_names := U_Form_field_names, b_Form_field_names := B_Form_field_names, h_Form_field_names := ⟨a_Form_field_names, i_Form_field_names, k_Form_field_names⟩, u_is_deed := U_is_deed, b_is_deed := B_is_deed, g_is_deed := PySem.W.mg_of X G a_is_deed, u_deeds := U_deeds, g_deeds := PySem.W.mg_of X G a_deeds, u__law_mix := U__law_mix, b__law_mix := B__law_mix, g__law_mix := PySem.W.mg_of X G a__law_mix, u__law_box := U__law_box, b__law_box := B__law_box, g__law_box := PySem.W.mg_of X G a__law_box, u__law_draw := U__law_draw, b__law_draw := B__law_draw, g__law_draw := PySem.W.mg_of X G a__law_draw, u__law_same := U__law_same, b__law_same := B__law_same, g__law_same := PySem.W.mg_of X G a__law_same, u__law_names := U__law_names, b__law_names := B__law_names, g__law_names := PySem.W.mg_of X G a__law_names, u__law_entries := U__law_entries, b__law_entries := B__law_entries, g__law_entries := PySem.W.mg_of X G a__law_entries, u__law_field := U__law_field, b__law_field := B__law_field, g__law_field := PySem.W.mg_of X G a__law_field, u__law_parts := U__law_parts, b__law_parts := B__law_parts, g__law_parts := PySem.W.mg_of X G a__law_parts, u_law := U_law, b_law := B_law, g_law := PySem.W.mg_of X G a_law, kb_Form_init_2_room := KB_kb_Form_init_2_room, kb_deeds_1_resets := KB_kb_deeds_1_resets, kb_deeds_1_ := KB_kb_deeds_1_, g_Form := PySem.W.mg_of X G a_Form, cc_Form := ⟨pg_Form, hd_Form, po_Form, sa_Form⟩, m_Form := ⟨mk_Form, a_Form_init, i_Form_init, kc_Form⟩, cs := CF, c_LETTERS := ⟨_, PySem.W.mg_of X G g_LETTERS⟩, c_MOST_ANSWERS := ⟨_, PySem.W.mg_of X G g_MOST_ANSWERS⟩, n_all := PySem.W.mg_none_of X G z_all, n_bool := PySem.W.mg_none_of X G z_bool, n_int := PySem.W.mg_none_of X G z_int, n_isinstance := PySem.W.mg_none_of X G z_isinstance, n_len := PySem.W.mg_none_of X G z_len, n_list := PySem.W.mg_none_of X G z_list, n_range := PySem.W.mg_none_of X G z_range, n_set := PySem.W.mg_none_of X G z_set, n_str := PySem.W.mg_none_of X G z_str, n_tuple := PySem.W.mg_none_of X G z_tuple }
  exact ⟨_, fun s v => .of_eq rfl, fun base _ _ => fnL (oks_run (P := P) (w := w) (base := base) tx n).law⟩
end LW
open PySem PySem.W PyProof.Rows in
set_option maxRecDepth 100000 in
set_option maxHeartbeats 0 in
theorem PySem.Challenge.cw_wrongshown_k09_deeds_listed_holds : PySem.Challenge.rw_wrongshown_k09_deeds_listed.Holds := by
  w_on; o_law; k_head; (case hw => w_witness2)
  k_fill
  refine W3.walk3 (l := PySem.Challenge.rw_wrongshown_k09_deeds_listed) (k := 2 * LW.fuel) (x := "_law_script") rfl rfl ⟨rfl, by decide, by decide⟩ LW.law_true (fun w h Y => PySem.W.kIn_of Y) ?F
  case F =>
    intro w mg fa h KX G hmg
    refine' LW.all_mk KX G hmg ?a_Form ?pg_Form ?hd_Form ?po_Form ?sa_Form ?mk_Form ?kc_Form ?no_Form_words ?no_Form_fields ?no_Form_room ?a_is_integer ?l_is_integer ?c_is_integer ?k_is_integer ?a_is_name ?l_is_name ?c_is_name ?k_is_name ?a_is_one_of ?l_is_one_of ?c_is_one_of ?k_is_one_of ?a_are_names ?l_are_names ?c_are_names ?k_are_names ?a_is_pair ?l_is_pair ?c_is_pair ?k_is_pair ?a_are_fields ?l_are_fields ?c_are_fields ?k_are_fields ?a_is_row ?l_is_row ?c_is_row ?k_is_row ?a_is_near ?l_is_near ?c_is_near ?k_is_near ?a_check_field ?l_check_field ?c_check_field ?k_check_field ?a_Form_init ?i_Form_init ?l_Form_init ?c_Form_init ?k_Form_init ?kd_Form_init_room ?a_Form_field_names ?i_Form_field_names ?l_Form_field_names ?c_Form_field_names ?k_Form_field_names ?a_is_deed ?l_is_deed ?c_is_deed ?k_is_deed ?a_deeds ?l_deeds ?c_deeds ?k_deeds ?kd_deeds_resets ?a__law_mix ?l__law_mix ?c__law_mix ?k__law_mix ?a__law_box ?l__law_box ?c__law_box ?k__law_box ?a__law_draw ?l__law_draw ?c__law_draw ?k__law_draw ?a__law_same ?l__law_same ?c__law_same ?k__law_same ?a__law_names ?l__law_names ?c__law_names ?k__law_names ?a__law_entries ?l__law_entries ?c__law_entries ?k__law_entries ?a__law_field ?l__law_field ?c__law_field ?k__law_field ?a__law_parts ?l__law_parts ?c__law_parts ?k__law_parts ?a_law ?l_law ?c_law ?k_law ?g_LETTERS ?g_MOST_ANSWERS ?z_all ?z_bool ?z_int ?z_isinstance ?z_len ?z_list ?z_range ?z_set ?z_str ?z_tuple LW.fuel
    (case a_Form => k_is)
    (case pg_Form => k_is)
    (case hd_Form => k_is)
    (case po_Form => k_is)
    (case sa_Form => k_is)
    (case mk_Form => k_is)
    (case kc_Form => k_is)
    (case no_Form_words => k_is)
    (case no_Form_fields => k_is)
    (case no_Form_room => k_is)
    (case a_is_integer => k_is)
    (case l_is_integer => k_is)
    (case c_is_integer => k_is)
    (case k_is_integer => k_is)
    (case a_is_name => k_is)
    (case l_is_name => k_is)
    (case c_is_name => k_is)
    (case k_is_name => k_is)
    (case a_is_one_of => k_is)
    (case l_is_one_of => k_is)
    (case c_is_one_of => k_is)
    (case k_is_one_of => k_is)
    (case a_are_names => k_is)
    (case l_are_names => k_is)
    (case c_are_names => k_is)
    (case k_are_names => k_is)
    (case a_is_pair => k_is)
    (case l_is_pair => k_is)
    (case c_is_pair => k_is)
    (case k_is_pair => k_is)
    (case a_are_fields => k_is)
    (case l_are_fields => k_is)
    (case c_are_fields => k_is)
    (case k_are_fields => k_is)
    (case a_is_row => k_is)
    (case l_is_row => k_is)
    (case c_is_row => k_is)
    (case k_is_row => k_is)
    (case a_is_near => k_is)
    (case l_is_near => k_is)
    (case c_is_near => k_is)
    (case k_is_near => k_is)
    (case a_check_field => k_is)
    (case l_check_field => k_is)
    (case c_check_field => k_is)
    (case k_check_field => k_is)
    (case a_Form_init => k_is)
    (case i_Form_init => k_is)
    (case l_Form_init => k_is)
    (case c_Form_init => k_is)
    (case k_Form_init => k_is)
    (case kd_Form_init_room => k_is)
    (case a_Form_field_names => k_is)
    (case i_Form_field_names => k_is)
    (case l_Form_field_names => k_is)
    (case c_Form_field_names => k_is)
    (case k_Form_field_names => k_is)
    (case a_is_deed => k_is)
    (case l_is_deed => k_is)
    (case c_is_deed => k_is)
    (case k_is_deed => k_is)
    (case a_deeds => k_is)
    (case l_deeds => k_is)
    (case c_deeds => k_is)
    (case k_deeds => k_is)
    (case kd_deeds_resets => k_is)
    (case a__law_mix => k_is)
    (case l__law_mix => k_is)
    (case c__law_mix => k_is)
    (case k__law_mix => k_is)
    (case a__law_box => k_is)
    (case l__law_box => k_is)
    (case c__law_box => k_is)
    (case k__law_box => k_is)
    (case a__law_draw => k_is)
    (case l__law_draw => k_is)
    (case c__law_draw => k_is)
    (case k__law_draw => k_is)
    (case a__law_same => k_is)
    (case l__law_same => k_is)
    (case c__law_same => k_is)
    (case k__law_same => k_is)
    (case a__law_names => k_is)
    (case l__law_names => k_is)
    (case c__law_names => k_is)
    (case k__law_names => k_is)
    (case a__law_entries => k_is)
    (case l__law_entries => k_is)
    (case c__law_entries => k_is)
    (case k__law_entries => k_is)
    (case a__law_field => k_is)
    (case l__law_field => k_is)
    (case c__law_field => k_is)
    (case k__law_field => k_is)
    (case a__law_parts => k_is)
    (case l__law_parts => k_is)
    (case c__law_parts => k_is)
    (case k__law_parts => k_is)
    (case a_law => k_is)
    (case l_law => k_is)
    (case c_law => k_is)
    (case k_law => k_is)
    (case g_LETTERS => k_is)
    (case g_MOST_ANSWERS => k_is)
    (case z_all => k_is)
    (case z_bool => k_is)
    (case z_int => k_is)
    (case z_isinstance => k_is)
    (case z_len => k_is)
    (case z_list => k_is)
    (case z_range => k_is)
    (case z_set => k_is)
    (case z_str => k_is)
    (case z_tuple => k_is)
end
