import PyProof.Rows.All
import Wide.All
import OpenK.AllK
import Wide.FinOn
import HandS.Base
import HandS.Exc
import HandS.Words
import KE.KExcPX
import HandS.Head0
import HandS.Head1
import HandS.Head2
import HandS.HeadEnd
import HandS.HeadHook1
import HandS.HeadHook2
import HandS.HeadHook3
import HandS.ForMost
import HandS.ForExc
import KE.KeyNested
import KE.KDictKeyed
import HandS.TupAny
import HandS.TupMul
import HandS.Deep
import HandS.IsInst
import HandS.Style
import HandS.Iter
import HandS.Defaults
import HandS.SetBool
import HandS.SetKeys
import HandS.SetFor
import HandS.MakeKwOnly
import KE.GoesEnum
import HandS.Zip
import HandS.Nested
import HandS.ExcInit
import HandS.ExcSuper
import HandS.TryMany
import KE.KExcSuper
import HandS.ExcField
import HandS.ExcIs
import HandS.DictComp
import HandS.TryOnly
import PyProof.SeqIndex
import PyProof.P3In
import HandS.TupSets
import KE.SortData
import HandS.More
import HandS.Dict
import HandS.Zip0
import KE.KDictZip
import HandS.Property
import HandS.NamedTupGet
import HandS.SlotsOwn
import KE.KOpsOwn
import HandS.OwnEq
import HandS.Text
import PyProof.InstNe
import HandS.Rev
import HandS.Star
import KE.LtSeq
import HandS.TupLen
import HandS.Conv
import HandS.ListItems
import KE.KDictList
import KE.KDictDisplayH
import HandS.Strs
import PyProof.ListTruth
import KE.KCallOwn
import PyProof.Conv_bool
import HandS.Small
import KE.DataMinMax
import KE.KTryMore
import PyProof.NeKinds
import HandS.TryElse
import HandS.Walk
import HandS.Finally
import HandS.WordsDict
import HandS.Flt
import HandS.RaiseMore
import HandS.Flow
import HandS.Replace
import PySem.Challenge.RW_wrongshown_k42_whole_deed_texts
set_option Elab.async false
set_option linter.all false
set_option maxRecDepth 100000
set_option maxHeartbeats 1000000
set_option autoImplicit false
section
namespace W3
open PySem PySem.Spec PyProof.Rows
open L2
def oexB (K : PySem.W.Frag) (C : Addr) : Bool := match K.lookup C with
  | some ⟨.type t, _, .cls cd, sl⟩ => decide (t = "type") && (match cd.mro, sl.toList with
    | .ref C' :: bm, [_, _, _, _, some (.builtin n), _] => decide (C' = C) && (decide (n = "ValueError.__new__") && (!cd.hasDel && (cd.hasDict && PySem.HandSPX.refsVE bm)))
    | _, _ => false)
  | _ => false
abbrev FnE : Type := Option (Str × Str × Arguments × FuncBody × Scope × Addr × List Str × Value × Value × Addr)
def fnE (K : PySem.W.Frag) (f : Addr) : FnE := match K.lookup f with
  | some ⟨_, _, .func fd, _⟩ => some (fd.name, fd.qualname, fd.params, fd.body, fd.scope, fd.globals, fd.closure.map Prod.fst, fd.defaults, fd.kwdefaults, fd.builtins)
  | _ => none
def xeV (qual : Str) (st : Stmt) : FnE := some ("__init__", qual, defArgs st, .stmts (defBody st), defScope st, mainGlobals, ["__class__"], .none, .none, builtinsNs)
def cellB (K : PySem.W.Frag) (cc C : Addr) : Bool := match K.lookup cc with
  | some ⟨_, _, .cell (some (.ref D)), _⟩ => decide (D = C)
  | _ => false
def fileB (K : PySem.W.Frag) (c : Addr) (file : Str) : Bool := match K.lookup c with
  | some ⟨_, _, .fields vs, _⟩ => (match (vs[2]? : Option Value) with
    | some (Value.str g _) => file == g
    | _ => false)
  | _ => false
def initB (K : PySem.W.Frag) (C f : Addr) (file qual : Str) : Bool := match K.lookup f with
  | some ⟨_, _, .func fd, _⟩ => (match fd.closure, fd.code with
    | [(_, cc)], .ref c => cellB K cc C && (fileB K c file && PySem.W.codeIn K (.ref c) qual)
    | _, _ => false)
  | _ => false
def refsZ (o : Obj) : List Addr := match o.data with
  | .dict es _ => es.toList.flatMap fun e => He.refV e.val
  | .func fd => He.refV fd.code ++ (He.refV fd.kwdefaults ++ fd.closure.map Prod.snd)
  | .cls cd => cd.ns :: cd.mro.flatMap He.refV
  | _ => []
def growZ (g : Addr → Option Obj) (as : List Addr) : List Addr := as.flatMap fun a => match g a with
  | some o => refsZ o
  | none => []
def as0 : List Addr := [mainGlobals, cStatics]
def as1 (g : Addr → Option Obj) (gl : List Str) : List Addr := gl.map (He.ga (He.frG g as0))
def as2 (g : Addr → Option Obj) (gl : List Str) : List Addr := as0 ++ (as1 g gl ++ growZ g (as1 g gl))
def as3 (g : Addr → Option Obj) (gl : List Str) (ms : List (Str × Str)) : List Addr := ms.map fun p => He.ma (He.frG g (as2 g gl)) (He.ga (He.frG g (as2 g gl)) p.1) p.2
def propZ (g : Addr → Option Obj) (as : List Addr) : List Addr := as.flatMap fun a => match g a with
  | some ⟨.type n, _, .fields vs, _⟩ => if n == "property" then vs.toList.flatMap He.refV else []
  | _ => []
def as4 (g : Addr → Option Obj) (gl : List Str) (ms : List (Str × Str)) : List Addr := propZ g (as3 g gl ms)
def asZ (g : Addr → Option Obj) (gl : List Str) (ms : List (Str × Str)) : List Addr := as2 g gl ++ (as3 g gl ms ++ (growZ g (as3 g gl ms) ++ (as4 g gl ms ++ growZ g (as4 g gl ms))))
def frZ (g : Addr → Option Obj) (gl : List Str) (ms : List (Str × Str)) : PySem.W.Frag := He.frG g (asZ g gl ms)
abbrev AlZ : Type := He.AlT × (List FnE × Bool)
def obsZ (fn : List He.DefD) (ts : List He.Tab) (xs : List (PySem.W.Frag → Addr)) (bs : List (PySem.W.Frag → Bool)) (K : PySem.W.Frag) : AlZ := (He.obsT [] fn ts K, (xs.map fun f => fnE K (f K), bs.all fun b => b K))
def valZ (fn : List He.DefD) (ts : List He.Tab) (es : List FnE) (w : World) : AlZ := (He.valT fn ts w, (es, true))
def SaysZ (fn : List He.DefD) (ts : List He.Tab) (xs : List (PySem.W.Frag → Addr)) (es : List FnE) (bs : List (PySem.W.Frag → Bool)) (w : World) (K : PySem.W.Frag) : Prop := obsZ fn ts xs bs K = valZ fn ts es w
def hookZ (gl : List Str) (ms : List (Str × Str)) (fn : List He.DefD) (ts : List He.Tab) (xs : List (PySem.W.Frag → Addr)) (es : List FnE) (bs : List (PySem.W.Frag → Bool)) : PySem.W.Hook where
  α := AlZ
  obs := fun s => obsZ fn ts xs bs (frZ s.heap.get? gl ms)
  val := fun w => valZ fn ts es w
  says := fun w h => ∃ K : PySem.W.Frag, K.In h ∧ SaysZ fn ts xs es bs w K
  of := fun _ _ e => ⟨_, He.frG_in, e⟩
  keeps := fun _ _ _ ⟨K, hK, c⟩ k => ⟨K, PySem.W.Frag.In.keeps hK k, c⟩
theorem obsZ_eq {gl : List Str} {ms : List (Str × Str)} {fn : List He.DefD} {ts : List He.Tab} {xs : List (PySem.W.Frag → Addr)} {es : List FnE} {bs : List (PySem.W.Frag → Bool)} {g : Addr → Option Obj} {s : Shared} (h : ∀ a, g a = s.heap.get? a) : obsZ fn ts xs bs (frZ g gl ms) = (hookZ gl ms fn ts xs es bs).obs s := by
  have e : g = s.heap.get? := funext h
  rw [e] <;> rfl
abbrev FB : Type := PySem.W.Frag → Bool
def bF (c f : Str) (v : Option Value) : FB := fun K => decide (PySem.W.findIn K (.ref (He.ga K c)) f = some v)
def bN (n : Str) : FB := fun K => decide (PySem.W.nsIn K mainGlobals n = some none)
def bG (n : Str) : FB := fun K => decide (PySem.W.nsIn K mainGlobals n = some (some (.ref (He.fAd K (n, none)))))
def bC (n : Str) : FB := fun K => decide (PySem.W.nsIn K mainGlobals n = some (some (.ref (He.ga K n))))
def bE (a b : Str) (t : Bool) : FB := fun K => decide (PySem.W.exmOne K (.ref (He.ga K a)) (.ref (He.ga K b)) = some t)
def bT (n : Str) : FB := fun K => decide (PySem.W.typeIn K (.ref (He.ga K n)) = some (.type "type"))
def bK (n : Str) : FB := fun K => decide (PySem.W.keepIn K (.ref (He.ga K n)) = true)
section
variable {r : PySem.W.OpenRow} {q : Program} {M : Nat} {loose : List Str} {w : World} {α β : Type} {a : α} {b : β} {f : World → α} {g : World → β} {oa : PySem.W.SharedT → α} {ob : PySem.W.SharedT → β}
end
end W3
end

section
namespace LW
open PySem PySem.Spec PyProof.Rows
open L2 W3
def topS (i : Nat) : Stmt := PySem.Challenge.pw_wrongshown_k42_whole_deed_texts.main.body.getD i (.Pass ⟨0, 0, 0, 0⟩)
abbrev st_is_name : Stmt := (topS 5)
abbrev st_joined : Stmt := (topS 8)
abbrev st_split_lines : Stmt := (topS 9)
abbrev st_format_deeds : Stmt := (topS 10)
abbrev st_read_deed : Stmt := (topS 11)
abbrev st_parse_deeds : Stmt := (topS 12)
abbrev st__law_mix : Stmt := (topS 14)
abbrev st__law_box : Stmt := (topS 15)
abbrev st__law_draw : Stmt := (topS 16)
abbrev st__law_same : Stmt := (topS 17)
abbrev st__law_name : Stmt := (topS 18)
abbrev st__law_deed : Stmt := (topS 19)
abbrev st__law_line : Stmt := (topS 20)
abbrev st__law_is_name : Stmt := (topS 21)
abbrev st__law_fits : Stmt := (topS 22)
abbrev st__law_spoiled : Stmt := (topS 23)
abbrev st__law_told : Stmt := (topS 24)
abbrev st_law : Stmt := (topS 25)
abbrev st_x_InvalidText : Stmt := (inClass (topS 2) 0)
def glZ : List Str := (["is_name", "joined", "split_lines", "format_deeds", "read_deed", "parse_deeds", "_law_mix", "_law_box", "_law_draw", "_law_same", "_law_name", "_law_deed", "_law_line", "_law_is_name", "_law_fits", "_law_spoiled", "_law_told", "law", "ShownError", "InvalidText", "ANSWER_WORDS"] : List (Str))
def msZ : List (Str × Str) := ([("InvalidText", "__init__")] : List (Str × Str))
def dz_is_name : He.DefD := ⟨("is_name", none), "is_name", "is_name", defArgs st_is_name, defBody st_is_name, defScope st_is_name, [], []⟩
def dz_joined : He.DefD := ⟨("joined", none), "joined", "joined", defArgs st_joined, defBody st_joined, defScope st_joined, [], []⟩
def dz_split_lines : He.DefD := ⟨("split_lines", none), "split_lines", "split_lines", defArgs st_split_lines, defBody st_split_lines, defScope st_split_lines, [], []⟩
def dz_format_deeds : He.DefD := ⟨("format_deeds", none), "format_deeds", "format_deeds", defArgs st_format_deeds, defBody st_format_deeds, defScope st_format_deeds, [], []⟩
def dz_read_deed : He.DefD := ⟨("read_deed", none), "read_deed", "read_deed", defArgs st_read_deed, defBody st_read_deed, defScope st_read_deed, [], []⟩
def dz_parse_deeds : He.DefD := ⟨("parse_deeds", none), "parse_deeds", "parse_deeds", defArgs st_parse_deeds, defBody st_parse_deeds, defScope st_parse_deeds, [], []⟩
def dz__law_mix : He.DefD := ⟨("_law_mix", none), "_law_mix", "_law_mix", defArgs st__law_mix, defBody st__law_mix, defScope st__law_mix, [], []⟩
def dz__law_box : He.DefD := ⟨("_law_box", none), "_law_box", "_law_box", defArgs st__law_box, defBody st__law_box, defScope st__law_box, [], []⟩
def dz__law_draw : He.DefD := ⟨("_law_draw", none), "_law_draw", "_law_draw", defArgs st__law_draw, defBody st__law_draw, defScope st__law_draw, [], []⟩
def dz__law_same : He.DefD := ⟨("_law_same", none), "_law_same", "_law_same", defArgs st__law_same, defBody st__law_same, defScope st__law_same, [], []⟩
def dz__law_name : He.DefD := ⟨("_law_name", none), "_law_name", "_law_name", defArgs st__law_name, defBody st__law_name, defScope st__law_name, [], []⟩
def dz__law_deed : He.DefD := ⟨("_law_deed", none), "_law_deed", "_law_deed", defArgs st__law_deed, defBody st__law_deed, defScope st__law_deed, [], []⟩
def dz__law_line : He.DefD := ⟨("_law_line", none), "_law_line", "_law_line", defArgs st__law_line, defBody st__law_line, defScope st__law_line, [], []⟩
def dz__law_is_name : He.DefD := ⟨("_law_is_name", none), "_law_is_name", "_law_is_name", defArgs st__law_is_name, defBody st__law_is_name, defScope st__law_is_name, [], []⟩
def dz__law_fits : He.DefD := ⟨("_law_fits", none), "_law_fits", "_law_fits", defArgs st__law_fits, defBody st__law_fits, defScope st__law_fits, [], []⟩
def dz__law_spoiled : He.DefD := ⟨("_law_spoiled", none), "_law_spoiled", "_law_spoiled", defArgs st__law_spoiled, defBody st__law_spoiled, defScope st__law_spoiled, [], []⟩
def dz__law_told : He.DefD := ⟨("_law_told", none), "_law_told", "_law_told", defArgs st__law_told, defBody st__law_told, defScope st__law_told, [], []⟩
def dz_law : He.DefD := ⟨("law", none), "law", "law", defArgs st_law, defBody st_law, defScope st_law, [], []⟩
def fnZ : List He.DefD := ([dz_is_name, dz_joined, dz_split_lines, dz_format_deeds, dz_read_deed, dz_parse_deeds, dz__law_mix, dz__law_box, dz__law_draw, dz__law_same, dz__law_name, dz__law_deed, dz__law_line, dz__law_is_name, dz__law_fits, dz__law_spoiled, dz__law_told, dz_law] : List (He.DefD))
def tz_ANSWER_WORDS : He.Tab := (fun K => He.ga K "ANSWER_WORDS", ["0", "1", "2"])
def tsZ : List He.Tab := [tz_ANSWER_WORDS]
def xz_InvalidText : PySem.W.Frag → Addr := fun K => (He.ma K (He.ga K "InvalidText") "__init__")
def xsZ : List (PySem.W.Frag → Addr) := [xz_InvalidText]
def esZ : List FnE := [xeV "InvalidText.__init__" st_x_InvalidText]
def bz_0 : FB := fun K => (He.Fa.str "LETTERS" "abcdefghijklmnopqrstuvwxyz").ok K
def bz_1 : FB := fun K => initB K (He.ga K "InvalidText") (He.ma K (He.ga K "InvalidText") "__init__") (PySem.Challenge.rw_wrongshown_k42_whole_deed_texts).prog.main.file "InvalidText.__init__"
def bz_22 : FB := fun K => decide (PySem.W.nsIn K cStatics "thirdparty.any" = some none)
def bz_23 : FB := fun K => decide (PySem.W.specialIn K (.builtin "object.__class__") "__get__" = some (some (.builtin "getset_descriptor.__get__")))
def bz_24 : FB := fun K => decide (PySem.W.takesIn K (.builtin "object.__class__") = some true)
def bz_25 : FB := fun K => decide (oexB K (He.ga K "InvalidText") = true)
def bz_27 : FB := fun K => decide (PySem.W.subIn K (.ref (He.ga K "InvalidText")) (.type "BaseException") = some true)
def bz_30 : FB := fun K => decide (PySem.W.findIn K (.ref (He.ga K "InvalidText")) "__init__" = some (some (.ref (He.ma K (He.ga K "InvalidText") "__init__"))))
def bz_31 : FB := fun K => decide (PySem.W.typeIn K (.ref (He.ma K (He.ga K "InvalidText") "__init__")) = some (.type "function"))
def bz_32 : FB := fun K => decide (PySem.W.ks_superIn K (He.ga K "InvalidText") (He.ga K "InvalidText") "__init__" = some (some (.builtin "ValueError.__init__")))
def bz_33 : FB := fun K => decide (PySem.W.subIn K (.ref (He.ga K "InvalidText")) (.type "ValueError") = some true)
def bz_34 : FB := fun K => decide (PySem.W.mroIn K (He.ga K "InvalidText") (.ref (He.ga K "InvalidText")) = some true)
def bz_38 : FB := fun K => decide (PySem.W.hasDictIn K (He.ga K "InvalidText") = true)
def bz_39 : FB := fun K => decide (PySem.W.mroIn K (He.ga K "InvalidText") (.type "object") = some true)
def bz_42 : FB := fun K => decide (PySem.W.kitOne K (.ref (He.ga K "InvalidText")) (.ref (He.ga K "ShownError")) = some true)
def bz_44 : FB := fun K => decide ((match K.lookup (He.ga K "ANSWER_WORDS") with | some ⟨_, _, .dict es _, _⟩ => decide (es.toList.map (fun e => (match e.key with | .str x _ => some x | _ => none : Option Str)) = ([some "0", some "1", some "2"] : List (Option Str))) | _ => false) = true)
def bz_45 : FB := fun K => decide ((match PySem.W.nsIn K (He.ga K "ANSWER_WORDS") "0" with | some (some (.int j _)) => decide (j = 0) | _ => false) = true)
def bz_46 : FB := fun K => decide ((match PySem.W.nsIn K (He.ga K "ANSWER_WORDS") "1" with | some (some (.int j _)) => decide (j = 1) | _ => false) = true)
def bz_47 : FB := fun K => decide ((match PySem.W.nsIn K (He.ga K "ANSWER_WORDS") "2" with | some (some (.int j _)) => decide (j = 2) | _ => false) = true)
def bsZ : List FB := ([bz_0, bz_1, bG "is_name", bG "joined", bG "split_lines", bG "format_deeds", bG "read_deed", bG "parse_deeds", bG "_law_mix", bG "_law_box", bG "_law_draw", bG "_law_same", bG "_law_name", bG "_law_deed", bG "_law_line", bG "_law_is_name", bG "_law_fits", bG "_law_spoiled", bG "_law_told", bG "law", bC "ShownError", bC "InvalidText", bz_22, bz_23, bz_24, bz_25, bF "InvalidText" "__setattr__" (some (.builtin "object.__setattr__")), bz_27, bT "InvalidText", bK "InvalidText"] : List (FB)) ++ ([bz_30, bz_31, bz_32, bz_33, bz_34, bF "InvalidText" "__getattribute__" (some (.builtin "BaseException.__getattribute__")), bF "InvalidText" "__getattr__" none, bF "InvalidText" "__class__" (some (.builtin "object.__class__")), bz_38, bz_39, bF "InvalidText" "line" none, bE "InvalidText" "InvalidText" true, bz_42, bC "ANSWER_WORDS", bz_44, bz_45, bz_46, bz_47, bN "all", bN "bool", bN "enumerate", bN "int", bN "isinstance", bN "len", bN "list", bN "range", bN "str", bN "super", bN "tuple"] : List (FB))
abbrev RZ : PySem.W.OpenRow := PySem.W.OpenLaw.row PySem.Challenge.rw_wrongshown_k42_whole_deed_texts
abbrev qZ : Program := PySem.W.view RZ.prog [25]
def namesZ : List Str := (["__name__", "ShownError", "InvalidText", "__name__", "LETTERS", "is_name", "__name__", "ANSWER_WORDS", "joined", "split_lines", "format_deeds", "read_deed", "parse_deeds", "__name__", "_law_mix", "_law_box", "_law_draw", "_law_same", "_law_name", "_law_deed", "_law_line", "_law_is_name", "_law_fits", "_law_spoiled", "_law_told"] : List (Str))
abbrev hkZ : PySem.W.Hook := hookZ glZ msZ fnZ tsZ xsZ esZ bsZ
def obZ (s : PySem.W.SharedT) : AlZ := obsZ fnZ tsZ xsZ bsZ (frZ (HandSHeadRun.getT s) glZ msZ)
theorem obZ_eq (s : PySem.W.SharedT) : obZ s = hkZ.obs s.abs := obsZ_eq (HandSHeadRun.getT_eq s)
open PyProof.Rows PySem.W in
set_option maxHeartbeats 0 in
theorem runZ1 (w : World) : HandSHeadRun.RunEq RZ qZ hkZ obZ 20000 namesZ (w.withFollow "special-get-raises" false) := by
  intro os
  kernel_rfl
open PyProof.Rows PySem.W in
set_option maxHeartbeats 0 in
theorem runZ2 (w : World) : HandSHeadRun.RunEq RZ qZ hkZ obZ 20000 namesZ (w.withFollow "special-get-raises" true) := by
  intro os
  kernel_rfl
open PyProof.Rows PySem.W in
theorem runZ (w : World) : HandSHeadRun.RunEq RZ qZ hkZ obZ 20000 namesZ w := byRow2 "special-get-raises" (P := fun w => HandSHeadRun.RunEq RZ qZ hkZ obZ 20000 namesZ w) runZ1 runZ2 w
end LW
end

section
namespace W3
open PySem
inductive T where
  | non | bl (b : Bool) | int (i : Int) | str (s : Str) | tup (ts : List T) | ref (l : Nat) | fl (ts : List T) | cls (c : Str)
inductive Ob where
  | lst (ts : List T) | dic (kvs : List (T × T)) | dtk (kvs : List (T × T)) | ins (c : Str) (fs : List (Str × T))
abbrev Hh := List Ob
inductive Res (α : Type) where
  | ok (a : α) (h : Hh) | exc (c : Str) (fs : List (Str × T)) (h : Hh) | stk
def Res.bind {α β : Type} (r : Res α) (f : α → Hh → Res β) : Res β :=
  match r with
  | .ok a h => f a h
  | .exc c fs h => .exc c fs h
  | .stk => .stk
@[simp] theorem Res.bind_ok {α β : Type} (a : α) (h : Hh) (f : α → Hh → Res β) : (Res.ok a h).bind f = f a h := Eq.trans rfl rfl
@[simp] theorem Res.bind_exc {α β : Type} (c : Str) (fs : List (Str × T)) (h : Hh) (f : α → Hh → Res β) : (Res.exc c fs h : Res α).bind f = .exc c fs h := Eq.trans rfl rfl
@[simp] theorem Res.bind_stk {α β : Type} (f : α → Hh → Res β) : (Res.stk : Res α).bind f = .stk := Eq.trans rfl rfl
abbrev St3 := List (Option T)
abbrev SE := St3 → Hh → Res T
abbrev ST := St3 → Hh → Res Bool
abbrev SA := St3 → Hh → Res (List T)
def sVar (i : Nat) : SE := fun σ h => match σ[i]? with | some (some t) => .ok t h | _ => .stk
def sC (t : T) : SE := fun _ h => .ok t h
def s1 (f : T → Hh → Res T) (a : SE) : SE := fun σ h => (a σ h).bind fun x h1 => f x h1
def s2 (f : T → T → Hh → Res T) (a b : SE) : SE := fun σ h => (a σ h).bind fun x h1 => (b σ h1).bind fun y h2 => f x y h2
def sT (a : SE) : ST := fun σ h => (a σ h).bind fun x h1 => match x with | .bl b => .ok b h1 | _ => .stk
def stAnd (a b : ST) : ST := fun σ h => (a σ h).bind fun x h1 => if x = true then b σ h1 else .ok false h1
def stOr (a b : ST) : ST := fun σ h => (a σ h).bind fun x h1 => if x = true then .ok true h1 else b σ h1
def stNot (a : ST) : ST := fun σ h => (a σ h).bind fun x h1 => .ok (!x) h1
def sB (a : ST) : SE := fun σ h => (a σ h).bind fun x h1 => .ok (.bl x) h1
def sIf (c : ST) (a b : SE) : SE := fun σ h => (c σ h).bind fun x h1 => if x = true then a σ h1 else b σ h1
def sChain (f g : T → T → Hh → Res T) (a b c : SE) : SE := fun σ h => (a σ h).bind fun x h1 => (b σ h1).bind fun y h2 => (f x y h2).bind fun z h3 => match z with
  | .bl k => if k = true then (c σ h3).bind fun w h4 => g y w h4 else .ok (.bl false) h3
  | _ => .stk
def saNil : SA := fun _ h => .ok [] h
def saCons (a : SE) (r : SA) : SA := fun σ h => (a σ h).bind fun x h1 => (r σ h1).bind fun xs h2 => .ok (x :: xs) h2
def sTup (a : SA) : SE := fun σ h => (a σ h).bind fun xs h1 => if xs.length ≤ sizeLine then .ok (.tup xs) h1 else .stk
def alloc (o : Ob) (h : Hh) : Res T := .ok (.ref h.length) (h ++ [o])
def sLst (a : SA) : SE := fun σ h => (a σ h).bind fun xs h1 => if xs.length ≤ sizeLine then alloc (.lst xs) h1 else .stk
def sCl (f : List T → Hh → Res T) (a : SA) : SE := fun σ h => (a σ h).bind fun xs h1 => f xs h1
def sMt (f : T → List T → Hh → Res T) (o : SE) (a : SA) : SE := fun σ h => (o σ h).bind fun x h1 => (a σ h1).bind fun xs h2 => f x xs h2
def lstAt (h : Hh) (l : Nat) : Option (List T) := match h[l]? with | some (.lst ts) => some ts | _ => none
def insAt (h : Hh) (l : Nat) : Option (Str × List (Str × T)) := match h[l]? with | some (.ins c fs) => some (c, fs) | _ => none
def oAdd (x y : T) (h : Hh) : Res T :=
  match x, y with
  | .int i, .int j => .ok (.int (i + j)) h
  | .str i, .str j => if i.length + j.length ≤ sizeLine then .ok (.str (i ++ j)) h else .stk
  | .tup xs, .tup ys => if xs.length + ys.length ≤ sizeLine then .ok (.tup (xs ++ ys)) h else .stk
  | .ref l, .ref b => match lstAt h l, lstAt h b with
    | some xs, some zs => if xs.length + zs.length ≤ sizeLine then alloc (.lst (xs ++ zs)) h else .stk
    | _, _ => .stk
  | _, _ => .stk
def oSub (x y : T) (h : Hh) : Res T :=
  match x, y with
  | .int i, .int j => .ok (.int (i - j)) h
  | _, _ => .stk
def MulOk (i j : Int) : Prop := (-(2 ^ 64) < i ∧ i < 2 ^ 64) ∨ (-(2 ^ 64) < j ∧ j < 2 ^ 64)
def PowOk (i j : Int) : Prop := 0 ≤ j ∧ j ≤ 1000000 ∧ i.natAbs < 2 ^ 64
open Classical in
noncomputable def oMul (x y : T) (h : Hh) : Res T :=
  match x, y with
  | .int i, .int j => if MulOk i j then .ok (.int (i * j)) h else .stk
  | _, _ => .stk
def oMod (x y : T) (h : Hh) : Res T :=
  match x, y with
  | .int i, .int j => if 0 < j then .ok (.int (i % j)) h else .stk
  | _, _ => .stk
def oDiv (x y : T) (h : Hh) : Res T :=
  match x, y with
  | .int i, .int j => if 0 < j ∧ j < 1073741824 then .ok (.int (i / j)) h else .stk
  | _, _ => .stk
open Classical in
noncomputable def oPow (x y : T) (h : Hh) : Res T :=
  match x, y with
  | .int i, .int j => if PowOk i j then .ok (.int (i ^ j.toNat)) h else .stk
  | _, _ => .stk
def oNeg (x : T) (h : Hh) : Res T := match x with | .int i => .ok (.int (-i)) h | _ => .stk
def oLt (x y : T) (h : Hh) : Res T := match x, y with | .int i, .int j => .ok (.bl (decide (i < j))) h | _, _ => .stk
def oLe (x y : T) (h : Hh) : Res T := match x, y with | .int i, .int j => .ok (.bl (decide (i ≤ j))) h | _, _ => .stk
def oGt (x y : T) (h : Hh) : Res T := match x, y with | .int i, .int j => .ok (.bl (decide (j < i))) h | _, _ => .stk
def oGe (x y : T) (h : Hh) : Res T := match x, y with | .int i, .int j => .ok (.bl (decide (j ≤ i))) h | _, _ => .stk
def isNonT : T → Bool | .non => true | _ => false
def oIs (x y : T) (h : Hh) : Res T :=
  match y with
  | .non => .ok (.bl (isNonT x)) h
  | .bl b => match x with | .bl a => .ok (.bl (decide (a = b))) h | _ => .stk
  | _ => .stk
def oIsNot (x y : T) (h : Hh) : Res T :=
  match y with
  | .non => .ok (.bl (!isNonT x)) h
  | .bl b => match x with | .bl a => .ok (.bl (!decide (a = b))) h | _ => .stk
  | _ => .stk
def optL {α : Type} (f : T → Option α) : List T → Option (List α)
  | [] => some []
  | t :: ts => match f t, optL f ts with | some d, some ds => some (d :: ds) | _, _ => none
def toD (h : Hh) : Nat → T → Option PyData
  | 0 => fun _ => none
  | n + 1 => fun t => match t with
    | .non => some .none
    | .bl b => some (.bool b)
    | .int i => some (.int i)
    | .str s => some (.str s)
    | .tup ts => (optL (toD h n) ts).map .tuple
    | .fl ts => (optL (toD h n) ts).map .list
    | .ref l => match h[l]? with | some (.lst ts) => (optL (toD h n) ts).map .list | _ => none
    | .cls _ => none
def oEq (x y : T) (h : Hh) : Res T := match toD h 24 x, toD h 24 y with | some d, some e => .ok (.bl (PyData.eqv d e)) h | _, _ => .stk
def oNe (x y : T) (h : Hh) : Res T := match toD h 24 x, toD h 24 y with | some d, some e => .ok (.bl (!PyData.eqv d e)) h | _, _ => .stk
def inT (x y : T) (h : Hh) : Option Bool :=
  match x, y with
  | .str i, .str j => some (!(Builtin.Str.occurrences j i 0 j.length 1).isEmpty)
  | x, y => match toD h 24 x, toD h 24 y with
    | some d, some (.list ds) => some (ds.any fun z => PyData.eqv z d)
    | some d, some (.tuple ds) => some (ds.any fun z => PyData.eqv z d)
    | _, _ => none
def oIn (x y : T) (h : Hh) : Res T := match inT x y h with | some b => .ok (.bl b) h | none => .stk
def oNotIn (x y : T) (h : Hh) : Res T := match inT x y h with | some b => .ok (.bl (!b)) h | none => .stk
def oIx (x y : T) (h : Hh) : Res T :=
  match y with
  | .int i => match x with
    | .tup ts => match L2.atI ts i with | some t => .ok t h | none => .stk
    | .fl ts => match L2.atI ts i with | some t => .ok t h | none => .stk
    | .ref l => match lstAt h l with
      | some ts => match L2.atI ts i with | some t => .ok t h | none => .stk
      | none => .stk
    | .str z => if z.length ≤ sizeLine then (match L2.atI z.cps.toList i with | some c => .ok (.str ⟨#[c]⟩) h | none => .stk) else .stk
    | _ => .stk
  | _ => .stk
def cutT {α : Type} (xs : List α) (lo hi : Option Int) : List α := (xs.drop (HT.sIx xs.length 0 lo)).take (HT.sIx xs.length xs.length hi - HT.sIx xs.length 0 lo)
abbrev SO := St3 → Hh → Res (Option Int)
def soNone : SO := fun _ h => .ok none h
def soSome (a : SE) : SO := fun σ h => (a σ h).bind fun x h1 => match x with | .int i => .ok (some i) h1 | _ => .stk
def oSl (x : T) (lo hi : Option Int) (h : Hh) : Res T :=
  match x with
  | .tup ts => .ok (.tup (cutT ts lo hi)) h
  | .fl ts => alloc (.lst (cutT ts lo hi)) h
  | .ref l => match lstAt h l with | some ts => alloc (.lst (cutT ts lo hi)) h | none => .stk
  | .str z => if z.length ≤ sizeLine then .ok (.str (L2.cutS z lo hi)) h else .stk
  | _ => .stk
def sSl (a : SE) (lo hi : SO) : SE := fun σ h => (a σ h).bind fun x h1 => (lo σ h1).bind fun l h2 => (hi σ h2).bind fun u h3 => oSl x l u h3
def putT (f : Str) (v : T) : List (Str × T) → List (Str × T)
  | [] => [(f, v)]
  | (g, w) :: r => if g = f then (g, v) :: r else (g, w) :: putT f v r
def bLen (xs : List T) (h : Hh) : Res T :=
  match xs with
  | [.tup ts] => .ok (.int ts.length) h
  | [.fl ts] => .ok (.int ts.length) h
  | [.str z] => if z.length ≤ sizeLine then .ok (.int z.length) h else .stk
  | [.ref l] => match lstAt h l with | some ts => .ok (.int ts.length) h | none => .stk
  | _ => .stk
def bInt (xs : List T) (h : Hh) : Res T :=
  match xs with
  | [.int i] => .ok (.int i) h
  | _ => .stk
def blsOf : List T → Option (List Bool)
  | [] => some []
  | .bl b :: r => (blsOf r).map (b :: ·)
  | _ => none
def bAll (ts : List T) (h : Hh) : Res T := match blsOf ts with | some bs => .ok (.bl (bs.all id)) h | none => .stk
def bAny (ts : List T) (h : Hh) : Res T := match blsOf ts with | some bs => .ok (.bl (bs.any id)) h | none => .stk
def bTup (ts : List T) (h : Hh) : Res T := .ok (.tup ts) h
def bTuple (xs : List T) (h : Hh) : Res T :=
  match xs with
  | [.tup ts] => .ok (.tup ts) h
  | [.fl ts] => .ok (.tup ts) h
  | [.ref l] => match lstAt h l with | some ts => .ok (.tup ts) h | none => .stk
  | _ => .stk
def bList (xs : List T) (h : Hh) : Res T :=
  match xs with
  | [.tup ts] => alloc (.lst ts) h
  | [.fl ts] => alloc (.lst ts) h
  | [.ref l] => match lstAt h l with | some ts => alloc (.lst ts) h | none => .stk
  | _ => .stk
inductive Kd where | int | bool | str | tuple | list | dict
  deriving DecidableEq
def isK (k : Kd) (x : T) (h : Hh) : Option Bool :=
  match x with
  | .non => some false
  | .bl _ => some (k == .bool || k == .int)
  | .int _ => some (k == .int)
  | .str _ => some (k == .str)
  | .tup _ => some (k == .tuple)
  | .fl _ => some (k == .list)
  | .ref l => match h[l]? with
    | some (.lst _) => some (k == .list)
    | some (.dic _) => some (k == .dict)
    | some (.ins _ _) => none
    | some (.dtk _) => none
    | none => none
  | .cls _ => none
def oIsK (k : Kd) (x : T) (h : Hh) : Res T := match isK k x h with | some b => .ok (.bl b) h | none => .stk
def mAppend (x : T) (vs : List T) (h : Hh) : Res T :=
  match x, vs with
  | .ref l, [y] => match lstAt h l with
    | some ts => if ts.length < sizeLine then .ok .non (h.set l (.lst (ts ++ [y]))) else .stk
    | none => .stk
  | _, _ => .stk
def mClear (x : T) (vs : List T) (h : Hh) : Res T :=
  match x, vs with
  | .ref l, [] => match lstAt h l with
    | some _ => .ok .non (h.set l (.lst []))
    | none => .stk
  | _, _ => .stk
def mExtend (x : T) (vs : List T) (h : Hh) : Res T :=
  match x, vs with
  | .ref l, [.ref b] => match lstAt h l, lstAt h b with
    | some ts, some zs => if ts.length + zs.length ≤ sizeLine then .ok .non (h.set l (.lst (ts ++ zs))) else .stk
    | _, _ => .stk
  | _, _ => .stk
def isL (x : T) (h : Hh) : Bool := match x with | .ref l => (lstAt h l).isSome | .fl _ => true | _ => false
def sMtL (f : T → List T → Hh → Res T) (o : SE) (a : SA) : SE := fun σ h => (o σ h).bind fun x h1 => if isL x h1 = true then (a σ h1).bind fun xs h2 => f x xs h2 else .stk
def arN (n : Nat) (f : List T → Hh → Res T) (xs : List T) (h : Hh) : Res T := if xs.length = n then f xs h else .stk
def sMeth (c m : Str) (n : Nat) (f : List T → Hh → Res T) (o : SE) (a : SA) : SE := fun σ h => (o σ h).bind fun x h1 => match x with
  | .ref l => match insAt h1 l with
    | some (d, fs) => if d = c ∧ fs.lookup m = none then (a σ h1).bind fun xs h2 => arN n f (x :: xs) h2 else .stk
    | none => .stk
  | _ => .stk
def weave {α : Type} : List Bool → List α → List α → List α
  | [], _, _ => []
  | true :: r, ds, z :: zs => z :: weave r ds zs
  | true :: _, _, [] => []
  | false :: r, d :: ds, zs => d :: weave r ds zs
  | false :: _, [], _ => []
def sClK (n q : Nat) (pat : List Bool) (ds : List T) (f : List T → Hh → Res T) (a kw : SA) : SE := fun σ h => (a σ h).bind fun xs h1 => (kw σ h1).bind fun zs h2 => if xs.length = n ∧ zs.length = q then f (xs ++ weave pat ds zs) h2 else .stk
inductive Src where
  | its (ts : List T) | live (l : Nat) | z2 (l1 l2 : Nat) | z3 (l1 l2 l3 : Nat)
abbrev SI := St3 → Hh → Res Src
def Src.len (s : Src) (h : Hh) : Nat :=
  match s with
  | .its ts => ts.length
  | .live l => match lstAt h l with | some ts => ts.length | none => 0
  | .z2 l _ => match lstAt h l with | some ts => ts.length | none => 0
  | .z3 l _ _ => match lstAt h l with | some ts => ts.length | none => 0
def Src.at (s : Src) (h : Hh) (i : Nat) : Option (Option T) :=
  match s with
  | .its ts => some ts[i]?
  | .live l => match lstAt h l with | some ts => some ts[i]? | none => none
  | .z2 l1 l2 => (match lstAt h l1, lstAt h l2 with
    | some t1, some t2 => (match t1[i]?, t2[i]? with
      | some x1, some x2 => some (some (.tup [x1, x2]))
      | none, _ => some none
      | _, _ => none)
    | _, _ => none)
  | .z3 l1 l2 l3 => (match lstAt h l1, lstAt h l2, lstAt h l3 with
    | some t1, some t2, some t3 => (match t1[i]?, t2[i]?, t3[i]? with
      | some x1, some x2, some x3 => some (some (.tup [x1, x2, x3]))
      | none, _, _ => some none
      | _, _, _ => none)
    | _, _, _ => none)
def srcOf (x : T) (h : Hh) : Res Src :=
  match x with
  | .tup ts => .ok (.its ts) h
  | .fl ts => .ok (.its ts) h
  | .str z => .ok (.its (z.cps.toList.map fun c => .str ⟨#[c]⟩)) h
  | .ref l => match lstAt h l with | some _ => .ok (.live l) h | none => .stk
  | _ => .stk
def siE (a : SE) : SI := fun σ h => (a σ h).bind fun x h1 => srcOf x h1
def rangeT (lo : Int) : Nat → List T
  | 0 => []
  | n + 1 => .int lo :: rangeT (lo + 1) n
def RngOk (j : Int) : Prop := -(2 ^ 62) ≤ j ∧ j < 2 ^ 62
open Classical in
noncomputable def rngOf (xs : List T) (h1 : Hh) : Res Src := match xs with
  | [.int j] => if RngOk j then .ok (.its (rangeT 0 j.toNat)) h1 else .stk
  | _ => .stk
noncomputable def siRange1 (a : SA) : SI := fun σ h => (a σ h).bind rngOf
abbrev SG := T → St3 → Option St3
def sgName (i : Nat) : SG := fun t σ => some (σ.set i (some t))
abbrev SGs := List T → St3 → Option St3
def sgsNil : SGs := fun ts σ => match ts with | [] => some σ | _ => none
def sgsCons (g : SG) (r : SGs) : SGs := fun ts σ => match ts with
  | t :: more => match g t σ with | some σ1 => r more σ1 | none => none
  | [] => none
def sgTup (n : Nat) (g : SGs) : SG := fun t σ => match t with
  | .tup ts => if ts.length = n then g ts σ else none
  | _ => none
def wipeT (σ : St3) : List Nat → St3
  | [] => σ
  | v :: vs => (wipeT σ vs).set v none
def lcRun (s : Src) (g : SG) (tt : ST) (te : SE) (σ : St3) : Nat → Nat → List T → Hh → Res (List T)
  | k, i, acc, h => match s.at h i with
    | none => .stk
    | some none => .ok acc h
    | some (some x) => match k with
      | 0 => .stk
      | k + 1 => match g x σ with
        | none => .stk
        | some σ1 => match tt σ1 h with
          | .ok b h1 => if b = true then (match te σ1 h1 with
              | .ok t h2 => if acc.length < sizeLine then lcRun s g tt te σ k (i + 1) (acc ++ [t]) h2 else .stk
              | _ => .stk) else lcRun s g tt te σ k (i + 1) acc h1
          | _ => .stk
def stYes : ST := fun _ h => .ok true h
def saLc (si : SI) (g : SG) (tt : ST) (te : SE) (vs : List Nat) : SA := fun σ h => (si σ h).bind fun s h1 => lcRun s g tt te (wipeT σ vs) (s.len h1) 0 [] h1
def sLc (a : SA) : SE := fun σ h => (a σ h).bind fun xs h1 => alloc (.lst xs) h1
def sOver (f : List T → Hh → Res T) (a : SA) : SE := fun σ h => (a σ h).bind fun xs h1 => f xs h1
inductive Flo where
  | nx (σ : St3) (h : Hh) | rt (t : T) (h : Hh) | bk (σ : St3) (h : Hh) | ct (σ : St3) (h : Hh) | exc (c : Str) (fs : List (Str × T)) (σ : St3) (h : Hh) | stk
abbrev SS := St3 → Hh → Flo
def Flo.seq (r : Flo) (k : SS) : Flo := match r with | .nx σ h => k σ h | r => r
@[simp] theorem Flo.seq_nx (σ : St3) (h : Hh) (k : SS) : (Flo.nx σ h).seq k = k σ h := Eq.trans rfl rfl
@[simp] theorem Flo.seq_rt (t : T) (h : Hh) (k : SS) : (Flo.rt t h).seq k = .rt t h := Eq.trans rfl rfl
def Res.flo {α : Type} (r : Res α) (σ : St3) (k : α → Hh → Flo) : Flo := match r with | .ok a h => k a h | .exc c fs h => .exc c fs σ h | .stk => .stk
@[simp] theorem Res.flo_ok {α : Type} (a : α) (h : Hh) (σ : St3) (k : α → Hh → Flo) : (Res.ok a h).flo σ k = k a h := Eq.trans rfl rfl
def ssNil : SS := fun σ h => .nx σ h
def ssCons (a b : SS) : SS := fun σ h => (a σ h).seq b
def ssIf (c : ST) (a b : SS) : SS := fun σ h => (c σ h).flo σ fun x h1 => if x = true then a σ h1 else b σ h1
def ssRet (a : SE) : SS := fun σ h => (a σ h).flo σ fun x h1 => .rt x h1
def ssRetN : SS := fun _ h => .rt .non h
def ssExpr (a : SE) : SS := fun σ h => (a σ h).flo σ fun _ h1 => .nx σ h1
def ssAsg (a : SE) (g : SG) : SS := fun σ h => (a σ h).flo σ fun x h1 => match g x σ with | some σ1 => .nx σ1 h1 | none => .stk
def ssFldC (cs : List (Str × List Str)) (o v : SE) (f : Str) : SS := fun σ h => (v σ h).flo σ fun y h1 => (o σ h1).flo σ fun x h2 => match x with
  | .ref l => match insAt h2 l with
    | some (c, fs) => match cs.lookup c with
      | some as => if as.contains f && decide (fs.length < 1000) then .nx σ (h2.set l (.ins c (putT f y fs))) else .stk
      | none => .stk
    | none => .stk
  | _ => .stk
def ssSub (o i v : SE) : SS := fun σ h => (v σ h).flo σ fun y h1 => (o σ h1).flo σ fun x h2 => (i σ h2).flo σ fun k h3 => match x, k with
  | .ref l, .int n => match lstAt h3 l with
    | some ts => match L2.ixN ts.length n with | some j => .nx σ (h3.set l (.lst (ts.set j y))) | none => .stk
    | none => .stk
  | _, _ => .stk
def ssBreak : SS := fun σ h => .bk σ h
def ssCont : SS := fun σ h => .ct σ h
def forRun (s : Src) (g : SG) (b : SS) : Nat → Nat → St3 → Hh → Flo
  | k, i, σ, h => match s.at h i with
    | none => .stk
    | some none => .nx σ h
    | some (some x) => match k with
      | 0 => .stk
      | k + 1 => match g x σ with
        | none => .stk
        | some σ1 => match b σ1 h with
          | .nx σ2 h2 => forRun s g b k (i + 1) σ2 h2
          | .ct σ2 h2 => forRun s g b k (i + 1) σ2 h2
          | .bk σ2 h2 => .nx σ2 h2
          | r => r
def ssFor (si : SI) (g : SG) (b : SS) : SS := fun σ h => (si σ h).flo σ fun s h1 => forRun s g b (s.len h1) 0 σ h1
def startT (n : Nat) (ts : List T) : St3 := ts.map some ++ List.replicate (n - ts.length) none
def defRun (n : Nat) (b : SS) (ts : List T) (h : Hh) : Res T := match b (startT n ts) h with
  | .nx _ h1 => .ok .non h1
  | .rt t h1 => .ok t h1
  | .exc c fs _ h1 => .exc c fs h1
  | _ => .stk
def bMake (c : Str) (n : Nat) (f : List T → Hh → Res T) (xs : List T) (h : Hh) : Res T :=
  (arN n f (.ref h.length :: xs) (h ++ [.ins c []])).bind fun t h1 => match t with | .non => .ok (.ref h.length) h1 | _ => .stk
end W3
end

section
namespace W3
open PySem L2
def SqF (K : PySem.W.Frag) (H : Hp) (a : Addr) (xs : List V) : Prop :=
  (∃ o, H a = some (.frz o (.lst xs))) ∨
    ∃ (o : Obj) (its : Array Value) (n : Nat), K.lookup a = some o ∧ o.cls = .type "list" ∧ o.dict = none ∧ o.data = .seq its n ∧ its.size ≤ sizeLine ∧ Vals xs its.toList
theorem SqF.sq {K : PySem.W.Frag} {H : Hp} {a : Addr} {xs : List V} (h : SqF K H a xs) : SqL K H a xs := by
  rcases h with ⟨o, h⟩ | h
  · exact .inl (.inr ⟨o, h⟩)
  · exact .inr h
def SqN (K : PySem.W.Frag) (H : Hp) (a : Addr) (xs : List V) : Prop :=
  (∃ o, H a = some (.frz o (.tup xs)) ∧ o.dict = none) ∨
    ∃ (o : Obj) (its : Array Value) (n : Nat), K.lookup a = some o ∧ o.cls = .type "tuple" ∧ o.dict = none ∧ o.data = .seq its n ∧ its.size ≤ sizeLine ∧ Vals xs its.toList
theorem SqN.t {K : PySem.W.Frag} {H : Hp} {a : Addr} {xs : List V} (h : SqN K H a xs) : SqT K H a xs := by
  rcases h with ⟨o, h, _⟩ | ⟨o, its, n, h1, h2, _, h3⟩
  · exact .inl (.inr ⟨o, h⟩)
  · exact .inr ⟨o, its, n, h1, h2, h3⟩
instance {K : PySem.W.Frag} {H : Hp} {a : Addr} {xs : List V} : Coe (SqN K H a xs) (SqT K H a xs) := ⟨SqN.t⟩
abbrev Mp := Nat → Option Addr
mutual
inductive RT (K : PySem.W.Frag) (mg : Str → Option Value) (m : Mp) (H : Hp) : T → V → Prop
  | non : RT K mg m H .non .non
  | bl (b : Bool) : RT K mg m H (.bl b) (.bl b)
  | int (i : Int) : RT K mg m H (.int i) (.int i)
  | str {x : Str} : PyData.strOk x = true → RT K mg m H (.str x) (.str x)
  | tup {a : Addr} {vs : List V} {ts : List T} : SqN K H a vs → RTs K mg m H ts vs → RT K mg m H (.tup ts) (.ref a)
  | fl {a : Addr} {vs : List V} {ts : List T} : SqF K H a vs → RTs K mg m H ts vs → RT K mg m H (.fl ts) (.ref a)
  | ref {l : Nat} {a : Addr} : m l = some a → RT K mg m H (.ref l) (.ref a)
  | cls {c : Str} {C : Addr} : mg c = some (.ref C) → RT K mg m H (.cls c) (.ref C)
inductive RTs (K : PySem.W.Frag) (mg : Str → Option Value) (m : Mp) (H : Hp) : List T → List V → Prop
  | nil : RTs K mg m H [] []
  | cons {t : T} {ts : List T} {v : V} {vs : List V} : RT K mg m H t v → RTs K mg m H ts vs → RTs K mg m H (t :: ts) (v :: vs)
end
inductive RF (K : PySem.W.Frag) (mg : Str → Option Value) (m : Mp) (H : Hp) : List (Str × T) → List (Str × V) → Prop
  | nil : RF K mg m H [] []
  | cons {f : Str} {t : T} {v : V} {fs : List (Str × T)} {fv : List (Str × V)} : RT K mg m H t v → RF K mg m H fs fv → RF K mg m H ((f, t) :: fs) ((f, v) :: fv)
inductive RK (K : PySem.W.Frag) (mg : Str → Option Value) (m : Mp) (H : Hp) : List (T × T) → List (Key × V) → Prop
  | nil : RK K mg m H [] []
  | cons {f : Str} {t : T} {v : V} {fs : List (T × T)} {fv : List (Key × V)} : RT K mg m H t v → RK K mg m H fs fv → RK K mg m H ((.str f, t) :: fs) ((.inr f, v) :: fv)
  | consI {i : Int} {t : T} {v : V} {fs : List (T × T)} {fv : List (Key × V)} : RT K mg m H t v → RK K mg m H fs fv → RK K mg m H ((.int i, t) :: fs) ((.inl i, v) :: fv)
mutual
def nkT : T → Option NestedKey
  | .non => some .none
  | .bl b => some (.num (if b = true then 1 else 0))
  | .int i => some (.num i)
  | .str x => some (.text x)
  | .tup ts => (nkTs ts).map .tup
  | _ => none
def nkTs : List T → Option (List NestedKey)
  | [] => some []
  | t :: ts => match nkT t, nkTs ts with
    | some k, some ks => some (k :: ks)
    | _, _ => none
end
inductive RN (K : PySem.W.Frag) (mg : Str → Option Value) (m : Mp) (H : Hp) : List (T × T) → List (NestedKey × Addr × V) → Prop
  | nil : RN K mg m H [] []
  | cons {t u : T} {k : NestedKey} {a : Addr} {v : V} {fs : List (T × T)} {es : List (NestedKey × Addr × V)} : nkT t = some k → k.depth ≤ 8 → RT K mg m H t (.ref a) → RT K mg m H u v → RN K mg m H fs es → RN K mg m H ((t, u) :: fs) ((k, a, v) :: es)
def DtkO (wd : World) (a : Addr) (es : List (NestedKey × Addr × V)) : HO := .ext fun h => ∃ vs : List (NestedKey × Addr × Value), Paired (fun (p : NestedKey × Addr × V) (q : NestedKey × Addr × Value) => p.1 = q.1 ∧ p.2.1 = q.2.1 ∧ RelV p.2.2 q.2.2) es vs ∧
  ∃ o xs ep, h.get? a = some o ∧ o.ExactDict ∧ o.data = .dict xs ep ∧ xs.toList = vs.map (fun x => (⟨x.1.hash wd, .ref x.2.1, x.2.2⟩ : DictEntry)) ∧ (vs.map (·.1)).Nodup
structure Ext (m : Mp) (H : Hp) (m' : Mp) (H' : Hp) : Prop where
  mono : ∀ l a, m l = some a → m' l = some a
  fresh : ∀ l a, m' l = some a → m l = some a ∨ H a = none
  live : ∀ a o, H a = some o → ∃ o', H' a = some o'
  keep : ∀ a o, H a = some o → (∀ l, m l ≠ some a) → H' a = some o
  tups : ∀ a vs, H a = some (.tup vs) → H' a = some (.tup vs)
  frzs : ∀ a o u, H a = some (.frz o u) → H' a = some (.frz o u)
  xds : ∀ a fs, H a = some (.xd fs) → H' a = some (.xd fs)
theorem Ext.refl (m : Mp) (H : Hp) : Ext m H m H := ⟨fun _ _ e => e, fun _ _ e => .inl e, fun _ o e => ⟨o, e⟩, fun _ _ e _ => e, fun _ _ e => e, fun _ _ _ e => e, fun _ _ e => e⟩
theorem Ext.trans {m1 m2 m3 : Mp} {H1 H2 H3 : Hp} (a : Ext m1 H1 m2 H2) (b : Ext m2 H2 m3 H3) : Ext m1 H1 m3 H3 where
  mono := fun l x e => b.mono l x (a.mono l x e)
  fresh := fun l x e => by
    rcases b.fresh l x e with q | q
    · exact a.fresh l x q
    · cases hx : H1 x with
      | none => exact .inr rfl
      | some o =>
        obtain ⟨o', e'⟩ := a.live x o hx
        rw [q] at e'
        cases e'
  live := fun x o e => by
    obtain ⟨o', e'⟩ := a.live x o e
    exact b.live x o' e'
  keep := fun x o e n => b.keep x o (a.keep x o e n) fun l q => by
    rcases a.fresh l x q with z | z
    · exact n l z
    · rw [e] at z
      cases z
  tups := fun x vs e => b.tups x vs (a.tups x vs e)
  frzs := fun x o u e => b.frzs x o u (a.frzs x o u e)
  xds := fun x fs e => b.xds x fs (a.xds x fs e)
section
variable {K : PySem.W.Frag} {mg : Str → Option Value} {wd : World} {m m' : Mp} {H H' : Hp}
structure Tr (m : Mp) (H : Hp) (m' : Mp) (H' : Hp) : Prop where
  mono : ∀ l a, m l = some a → m' l = some a
  tups : ∀ a vs, H a = some (.tup vs) → H' a = some (.tup vs)
  frzs : ∀ a o u, H a = some (.frz o u) → H' a = some (.frz o u)
theorem Ext.tr (E : Ext m H m' H') : Tr m H m' H' := ⟨E.mono, E.tups, E.frzs⟩
theorem Tr.trans {m2 : Mp} {H2 : Hp} (a : Tr m H m' H') (b : Tr m' H' m2 H2) : Tr m H m2 H2 := ⟨fun l x e => b.mono l x (a.mono l x e), fun x vs e => b.tups x vs (a.tups x vs e), fun x o u e => b.frzs x o u (a.frzs x o u e)⟩
theorem Tr.refl : Tr m H m H := ⟨fun _ _ e => e, fun _ _ e => e, fun _ _ _ e => e⟩
theorem SqT.tr (E : Tr m H m' H') {a : Addr} {vs : List V} (h : SqT K H a vs) : SqT K H' a vs := by
  rcases h with h | h
  · rcases h with h | ⟨o, h⟩
    · exact .inl (.inl (E.tups a vs h))
    · exact .inl (.inr ⟨o, E.frzs a o _ h⟩)
  · exact .inr h
theorem SqN.tr (E : Tr m H m' H') {a : Addr} {vs : List V} (h : SqN K H a vs) : SqN K H' a vs := by
  rcases h with ⟨o, h, d⟩ | h
  · exact .inl ⟨o, E.frzs a o _ h, d⟩
  · exact .inr h
theorem SqF.tr (E : Tr m H m' H') {a : Addr} {vs : List V} (h : SqF K H a vs) : SqF K H' a vs := by
  rcases h with ⟨o, h⟩ | h
  · exact .inl ⟨o, E.frzs a o _ h⟩
  · exact .inr h
mutual
theorem RT.tr (E : Tr m H m' H') : ∀ {t : T} {v : V}, RT K mg m H t v → RT K mg m' H' t v
  | _, _, .non => .non
  | _, _, .bl b => .bl b
  | _, _, .int i => .int i
  | _, _, .str h => .str h
  | _, _, .tup h r => .tup (SqN.tr E h) (RTs.tr E r)
  | _, _, .fl h r => .fl (SqF.tr E h) (RTs.tr E r)
  | _, _, .ref h => .ref (E.mono _ _ h)
  | _, _, .cls h => .cls h
theorem RTs.tr (E : Tr m H m' H') : ∀ {ts : List T} {vs : List V}, RTs K mg m H ts vs → RTs K mg m' H' ts vs
  | _, _, .nil => .nil
  | _, _, .cons r q => .cons (RT.tr E r) (RTs.tr E q)
end
theorem RF.tr (E : Tr m H m' H') {fs : List (Str × T)} {fv : List (Str × V)} (r : RF K mg m H fs fv) : RF K mg m' H' fs fv := by
  induction r with
  | nil => exact .nil
  | cons r _ ih => exact .cons (r.tr E) ih
theorem RK.tr (E : Tr m H m' H') {fs : List (T × T)} {fv : List (Key × V)} (r : RK K mg m H fs fv) : RK K mg m' H' fs fv := by
  induction r with
  | nil => exact .nil
  | cons r _ ih => exact .cons (r.tr E) ih
  | consI r _ ih => exact .consI (r.tr E) ih
theorem RN.tr (E : Tr m H m' H') {fs : List (T × T)} {es : List (NestedKey × Addr × V)} (r : RN K mg m H fs es) : RN K mg m' H' fs es := by
  induction r with
  | nil => exact .nil
  | cons h1 h2 r1 r2 _ ih => exact .cons h1 h2 (r1.tr E) (r2.tr E) ih
theorem SqT.ext (E : Ext m H m' H') {a : Addr} {vs : List V} (h : SqT K H a vs) : SqT K H' a vs := SqT.tr E.tr h
theorem SqF.ext (E : Ext m H m' H') {a : Addr} {vs : List V} (h : SqF K H a vs) : SqF K H' a vs := SqF.tr E.tr h
theorem RT.ext (E : Ext m H m' H') {t : T} {v : V} (r : RT K mg m H t v) : RT K mg m' H' t v := r.tr E.tr
theorem RTs.ext (E : Ext m H m' H') {ts : List T} {vs : List V} (r : RTs K mg m H ts vs) : RTs K mg m' H' ts vs := r.tr E.tr
theorem RF.ext (E : Ext m H m' H') {fs : List (Str × T)} {fv : List (Str × V)} (r : RF K mg m H fs fv) : RF K mg m' H' fs fv := r.tr E.tr
theorem RTs.length : ∀ {ts : List T} {vs : List V}, RTs K mg m H ts vs → ts.length = vs.length
  | _, _, .nil => rfl
  | _, _, .cons _ q => by rw [List.length_cons, List.length_cons, q.length]
theorem RTs.get : ∀ {ts : List T} {vs : List V} {i : Nat} {t : T}, RTs K mg m H ts vs → ts[i]? = some t → ∃ v, vs[i]? = some v ∧ RT K mg m H t v
  | _, _, _, _, .nil, e => by simp at e
  | _, _, 0, _, .cons r _, e => by simp at e; subst e; exact ⟨_, rfl, r⟩
  | _, _, i + 1, t, .cons _ q, e => by
    obtain ⟨v, h1, h2⟩ := RTs.get (i := i) (t := t) q (by simpa using e)
    exact ⟨v, by simpa using h1, h2⟩
theorem RTs.append : ∀ {ts us : List T} {vs ws : List V}, RTs K mg m H ts vs → RTs K mg m H us ws → RTs K mg m H (ts ++ us) (vs ++ ws)
  | _, _, _, _, .nil, s => s
  | _, _, _, _, .cons r q, s => .cons r (RTs.append q s)
theorem RTs.take : ∀ {ts : List T} {vs : List V} (n : Nat), RTs K mg m H ts vs → RTs K mg m H (ts.take n) (vs.take n)
  | _, _, 0, _ => .nil
  | _, _, _ + 1, .nil => .nil
  | _, _, n + 1, .cons r q => .cons r (RTs.take n q)
theorem RTs.drop : ∀ {ts : List T} {vs : List V} (n : Nat), RTs K mg m H ts vs → RTs K mg m H (ts.drop n) (vs.drop n)
  | _, _, 0, r => r
  | _, _, _ + 1, .nil => .nil
  | _, _, n + 1, .cons _ q => RTs.drop n q
theorem RTs.set : ∀ {ts : List T} {vs : List V} (i : Nat) {t : T} {v : V}, RTs K mg m H ts vs → RT K mg m H t v → RTs K mg m H (ts.set i t) (vs.set i v)
  | _, _, _, _, _, .nil, _ => .nil
  | _, _, 0, _, _, .cons _ q, r => .cons r q
  | _, _, i + 1, _, _, .cons p q, r => .cons p (RTs.set i q r)
theorem RF.lookup {fs : List (Str × T)} {fv : List (Str × V)} (r : RF K mg m H fs fv) {f : Str} {t : T} (e : fs.lookup f = some t) : ∃ v, fv.lookup f = some v ∧ RT K mg m H t v := by
  induction r with
  | nil => simp [List.lookup] at e
  | @cons g u v fs fv r _ ih =>
    simp only [List.lookup] at e ⊢
    split at e
    · cases e; exact ⟨v, rfl, r⟩
    · exact ih e
theorem RF.length {fs : List (Str × T)} {fv : List (Str × V)} (r : RF K mg m H fs fv) : fs.length = fv.length := by
  induction r with
  | nil => rfl
  | cons _ _ ih => simp [ih]
theorem RF.put {fs : List (Str × T)} {fv : List (Str × V)} (r : RF K mg m H fs fv) {f : Str} {t : T} {v : V} (q : RT K mg m H t v) : RF K mg m H (putT f t fs) (putF f v fv) := by
  induction r with
  | nil => exact .cons q .nil
  | @cons g u w fs fv r rr ih =>
    unfold putT putF
    by_cases e : g = f
    · rw [if_pos e, if_pos e]; exact .cons q rr
    · rw [if_neg e, if_neg e]; exact .cons r ih
end
section
variable (K : PySem.W.Frag) (mg : Str → Option Value) (wd : World)
def OR (m : Mp) (H : Hp) (a : Addr) : Ob → Prop
  | .lst ts => ∃ vs, H a = some (.lst vs) ∧ RTs K mg m H ts vs
  | .dic kvs => ∃ ks, H a = some (.dK ks) ∧ RK K mg m H kvs ks
  | .dtk kvs => ∃ es, H a = some (DtkO wd a es) ∧ RN K mg m H kvs es ∧ (a == sysModules) = false
  | .ins c fs => ∃ C dx fv, mg c = some (.ref C) ∧ H a = some (.ins C dx fv) ∧ RF K mg m H fs fv
structure HR (m : Mp) (h : Hh) (H : Hp) : Prop where
  dom : ∀ l a, m l = some a → l < h.length
  inj : ∀ l l' a, m l = some a → m l' = some a → l = l'
  ob : ∀ l o, h[l]? = some o → ∃ a, m l = some a ∧ OR K mg wd m H a o
end
section
variable {K : PySem.W.Frag} {mg : Str → Option Value} {wd : World} {m : Mp} {H : Hp} {h : Hh}
theorem OR.some {a : Addr} {o : Ob} (r : OR K mg wd m H a o) : ∃ u, H a = some u ∧ (∀ vs, u ≠ .tup vs) ∧ (∀ ob w, u ≠ .frz ob w) ∧ (∀ fs, u ≠ .xd fs) ∧ ∀ b, u ≠ .own b := by
  cases o with
  | lst ts =>
    obtain ⟨vs, e, _⟩ := r
    exact ⟨_, e, fun _ z => (by cases z), fun _ _ z => (by cases z), fun _ z => (by cases z), fun _ z => by cases z⟩
  | dic _ =>
    obtain ⟨_, e, _⟩ := r
    exact ⟨_, e, fun _ z => (by cases z), fun _ _ z => (by cases z), fun _ z => (by cases z), fun _ z => by cases z⟩
  | dtk _ =>
    obtain ⟨_, e, _⟩ := r
    exact ⟨_, e, fun _ z => (by cases z), fun _ _ z => (by cases z), fun _ z => (by cases z), fun _ z => by cases z⟩
  | ins c fs =>
    obtain ⟨C, dx, fv, _, e, _⟩ := r
    exact ⟨_, e, fun _ z => (by cases z), fun _ _ z => (by cases z), fun _ z => (by cases z), fun _ z => by cases z⟩
theorem HR.tracked (R : HR K mg wd m h H) {l : Nat} {a : Addr} (e : m l = some a) : ∃ u, H a = some u ∧ (∀ vs, u ≠ .tup vs) ∧ (∀ ob w, u ≠ .frz ob w) ∧ (∀ fs, u ≠ .xd fs) ∧ ∀ b, u ≠ .own b := by
  have hl := R.dom l a e
  obtain ⟨a', e', r⟩ := R.ob l h[l] (by simp [hl])
  rw [e] at e'; cases e'
  exact r.some
theorem Ext.garbage (R : HR K mg wd m h H) {p : Addr} {o : HO} (hp : H p = none) : Ext m H m (upd H p o) where
  mono := fun _ _ e => e
  fresh := fun _ _ e => .inl e
  live := fun a u e => ⟨u, by rw [upd_ne (ne_of_none e hp)]; exact e⟩
  keep := fun a u e _ => by rw [upd_ne (ne_of_none e hp)]; exact e
  tups := fun a u e => by rw [upd_ne (ne_of_none e hp)]; exact e
  frzs := fun a u w e => by rw [upd_ne (ne_of_none e hp)]; exact e
  xds := fun a u e => by rw [upd_ne (ne_of_none e hp)]; exact e
theorem OR.moveT {m' : Mp} {H' : Hp} (E : Tr m H m' H') {a : Addr} {o : Ob} (r : OR K mg wd m H a o) (ha : H' a = H a) : OR K mg wd m' H' a o := by
  cases o with
  | lst ts =>
    obtain ⟨vs, e, r⟩ := r
    exact ⟨vs, ha.trans e, r.tr E⟩
  | dic _ =>
    obtain ⟨z, e, r⟩ := r
    exact ⟨z, ha.trans e, r.tr E⟩
  | dtk _ =>
    obtain ⟨z, e, r, q⟩ := r
    exact ⟨z, ha.trans e, r.tr E, q⟩
  | ins c fs =>
    obtain ⟨C, dx, fv, g, e, r⟩ := r
    exact ⟨C, dx, fv, g, ha.trans e, r.tr E⟩
theorem OR.move {m' : Mp} {H' : Hp} (E : Ext m H m' H') {a : Addr} {o : Ob} (r : OR K mg wd m H a o) (ha : H' a = H a) : OR K mg wd m' H' a o := by
  cases o with
  | lst ts =>
    obtain ⟨vs, e, r⟩ := r
    exact ⟨vs, ha.trans e, r.ext E⟩
  | dic _ =>
    obtain ⟨z, e, r⟩ := r
    exact ⟨z, ha.trans e, r.tr E.tr⟩
  | dtk _ =>
    obtain ⟨z, e, r, q⟩ := r
    exact ⟨z, ha.trans e, r.tr E.tr, q⟩
  | ins c fs =>
    obtain ⟨C, dx, fv, g, e, r⟩ := r
    exact ⟨C, dx, fv, g, ha.trans e, r.ext E⟩
theorem HR.garbage (R : HR K mg wd m h H) {p : Addr} {o : HO} (hp : H p = none) : HR K mg wd m h (upd H p o) where
  dom := R.dom
  inj := R.inj
  ob := fun l u e => by
    obtain ⟨a, e1, r⟩ := R.ob l u e
    obtain ⟨w, hw, _⟩ := r.some
    exact ⟨a, e1, r.move (Ext.garbage R hp) (upd_ne (ne_of_none hw hp))⟩
def Mp.put (m : Mp) (l : Nat) (p : Addr) : Mp := fun k => if k = l then some p else m k
theorem Mp.put_same {l : Nat} {p : Addr} : m.put l p l = some p := by unfold Mp.put; rw [if_pos rfl]
theorem Mp.put_ne {l k : Nat} {p : Addr} (e : k ≠ l) : m.put l p k = m k := by unfold Mp.put; rw [if_neg e]
theorem Ext.alloc (R : HR K mg wd m h H) {p : Addr} {o : HO} (hp : H p = none) : Ext m H (m.put h.length p) (upd H p o) where
  mono := fun l a e => by rw [Mp.put_ne (Nat.ne_of_lt (R.dom l a e))]; exact e
  fresh := fun l a e => by
    by_cases hl : l = h.length
    · subst hl; rw [Mp.put_same] at e; cases e; exact .inr hp
    · rw [Mp.put_ne hl] at e; exact .inl e
  live := (Ext.garbage R hp).live
  keep := (Ext.garbage R hp).keep
  tups := (Ext.garbage R hp).tups
  frzs := (Ext.garbage R hp).frzs
  xds := (Ext.garbage R hp).xds
theorem HR.alloc (R : HR K mg wd m h H) {p : Addr} {o : HO} {u : Ob} (hp : H p = none) (new : OR K mg wd (m.put h.length p) (upd H p o) p u) : HR K mg wd (m.put h.length p) (h ++ [u]) (upd H p o) where
  dom := fun l a e => by
    rw [List.length_append, List.length_singleton]
    by_cases hl : l = h.length
    · omega
    · rw [Mp.put_ne hl] at e; have := R.dom l a e; omega
  inj := fun l l' a e e' => by
    by_cases hl : l = h.length
    · by_cases hl' : l' = h.length
      · rw [hl, hl']
      · rw [hl, Mp.put_same] at e; cases e
        rw [Mp.put_ne hl'] at e'
        obtain ⟨w, hw, _⟩ := R.tracked e'
        rw [hp] at hw; cases hw
    · by_cases hl' : l' = h.length
      · rw [hl', Mp.put_same] at e'; cases e'
        rw [Mp.put_ne hl] at e
        obtain ⟨w, hw, _⟩ := R.tracked e
        rw [hp] at hw; cases hw
      · rw [Mp.put_ne hl] at e; rw [Mp.put_ne hl'] at e'
        exact R.inj l l' a e e'
  ob := fun l w e => by
    by_cases hl : l < h.length
    · rw [List.getElem?_append_left hl] at e
      obtain ⟨a, e1, r⟩ := R.ob l w e
      obtain ⟨z, hz, _⟩ := r.some
      exact ⟨a, (Ext.alloc (o := o) R hp).mono l a e1, r.move (Ext.alloc R hp) (upd_ne (ne_of_none hz hp))⟩
    · have : l = h.length := by
        have := (List.getElem?_eq_some_iff.mp e).1
        rw [List.length_append, List.length_singleton] at this
        omega
      subst this
      simp at e
      subst e
      exact ⟨p, Mp.put_same, new⟩
theorem Ext.write (R : HR K mg wd m h H) {l : Nat} {a : Addr} {o : HO} (e : m l = some a) : Ext m H m (upd H a o) := by
  obtain ⟨u, hu, n1, n2, n3, n4⟩ := R.tracked e
  have ne : ∀ b w, H b = some w → b = a → w = u := fun b w q z => by subst z; rw [hu] at q; exact (Option.some.inj q).symm
  refine ⟨fun _ _ e => e, fun _ _ e => .inl e, fun b w q => ?_, fun b w q n => ?_, fun b vs q => ?_, fun b w v q => ?_, fun b fs q => ?_⟩
  · by_cases hb : b = a
    · exact ⟨o, by rw [hb]; exact upd_same⟩
    · exact ⟨w, by rw [upd_ne hb]; exact q⟩
  · rw [upd_ne (fun z => n l (by rw [z]; exact e))]; exact q
  · rw [upd_ne (fun z => n1 vs (ne b _ q z).symm)]; exact q
  · rw [upd_ne (fun z => n2 w v (ne b _ q z).symm)]; exact q
  · rw [upd_ne (fun z => n3 fs (ne b _ q z).symm)]; exact q
theorem HR.write (R : HR K mg wd m h H) {l : Nat} {a : Addr} {o : HO} {u : Ob} (e : m l = some a) (new : OR K mg wd m (upd H a o) a u) : HR K mg wd m (h.set l u) (upd H a o) where
  dom := fun k b q => by rw [List.length_set]; exact R.dom k b q
  inj := R.inj
  ob := fun k w q => by
    by_cases hk : l = k
    · subst hk
      rw [List.getElem?_set_self (R.dom l a e)] at q
      cases q
      exact ⟨a, e, new⟩
    · rw [List.getElem?_set_ne hk] at q
      obtain ⟨b, e1, r⟩ := R.ob k w q
      have hb : b ≠ a := fun z => hk (R.inj l k a e (z ▸ e1))
      exact ⟨b, e1, r.move (Ext.write R e) (upd_ne hb)⟩
theorem Tr.out {D : Addr} {vs ws : List V} (e : H D = some (.lst vs)) : Tr m H m (upd H D (.lst ws)) :=
  ⟨fun _ _ q => q, fun a us q => by rw [upd_ne (ne_of q e (by intro z; cases z))]; exact q, fun a o u q => by rw [upd_ne (ne_of q e (by intro z; cases z))]; exact q⟩
theorem HR.out (R : HR K mg wd m h H) {D : Addr} {vs ws : List V} (e : H D = some (.lst vs)) (n : ∀ l, m l ≠ some D) : HR K mg wd m h (upd H D (.lst ws)) where
  dom := R.dom
  inj := R.inj
  ob := fun l u q => by
    obtain ⟨a, e1, r⟩ := R.ob l u q
    exact ⟨a, e1, r.moveT (Tr.out e) (upd_ne (fun z => n l (by rw [← z]; exact e1)))⟩
theorem Ext.out {m0 : Mp} {H0 : Hp} (E : Ext m0 H0 m H) {D : Addr} {o : HO} (hD : H0 D = none) : Ext m0 H0 m (upd H D o) where
  mono := E.mono
  fresh := E.fresh
  live := fun a u e => by
    obtain ⟨w, q⟩ := E.live a u e
    exact ⟨w, by rw [upd_ne (ne_of_none e hD)]; exact q⟩
  keep := fun a u e n => by rw [upd_ne (ne_of_none e hD)]; exact E.keep a u e n
  tups := fun a u e => by rw [upd_ne (ne_of_none e hD)]; exact E.tups a u e
  frzs := fun a u w e => by rw [upd_ne (ne_of_none e hD)]; exact E.frzs a u w e
  xds := fun a u e => by rw [upd_ne (ne_of_none e hD)]; exact E.xds a u e
theorem HR.lst (R : HR K mg wd m h H) {l : Nat} {a : Addr} {ts : List T} (e : m l = some a) (hl : lstAt h l = some ts) : ∃ vs, H a = some (.lst vs) ∧ RTs K mg m H ts vs := by
  unfold lstAt at hl
  split at hl
  · cases hl
    rename_i q
    obtain ⟨b, e1, r⟩ := R.ob l _ q
    rw [e] at e1; cases e1
    exact r
  · cases hl
theorem HR.ins (R : HR K mg wd m h H) {l : Nat} {a : Addr} {c : Str} {fs : List (Str × T)} (e : m l = some a) (hl : insAt h l = some (c, fs)) : ∃ C dx fv, mg c = some (.ref C) ∧ H a = some (.ins C dx fv) ∧ RF K mg m H fs fv := by
  unfold insAt at hl
  split at hl
  · cases hl
    rename_i q
    obtain ⟨b, e1, r⟩ := R.ob l _ q
    rw [e] at e1; cases e1
    exact r
  · cases hl
end
structure Pq where
  p : Mp → Hp → Prop
  st : ∀ {m H m' H'}, Ext m H m' H' → p m H → p m' H'
def PqT : Pq := ⟨fun _ _ => True, fun _ _ => trivial⟩
section
variable (K : PySem.W.Frag) (mg : Str → Option Value) (wd : World)
def XR (m : Mp) (H : Hp) (c : Str) (fs : List (Str × T)) (cls : Value) (d : Option Addr) : Prop :=
  mg c = some cls ∧ ((fs = [] ∧ d = none) ∨ ∃ dd fv, d = some dd ∧ H dd = some (.xd fv) ∧ RF K mg m H fs fv)
def SR (m : Mp) (H : Hp) (σ : St3) (σV : St) : Prop := σ.length = σV.length ∧ ∀ (i : Nat) (t : T), σ[i]? = some (some t) → ∃ v : V, σV[i]? = some (some v) ∧ RT K mg m H t v
structure At (P : Pq) (m : Mp) (H : Hp) (σV : St) (σ : St3) (h : Hh) : Prop where
  sr : SR K mg m H σ σV
  hr : HR K mg wd m h H
  pr : P.p m H
def Out {α β : Type} (rel : Mp → Hp → α → β → Prop) (W : WX) (σV : St) (Q : β → Hp → Prop) (m : Mp) (H : Hp) : Res α → Prop
  | .ok a h' => ∀ b m' H', Ext m H m' H' → rel m' H' a b → HR K mg wd m' h' H' → Q b H'
  | .exc c fs h' => ∀ cls d m' H', Ext m H m' H' → XR K mg m' H' c fs cls d → HR K mg wd m' h' H' → W cls d σV H'
  | .stk => False
def tG {α β : Type} (rel : Mp → Hp → α → β → Prop) (P : Pq) (W : WX) (se : St3 → Hh → Res α) : St → Hp → (β → Hp → Prop) → Prop := fun σV H Q =>
  ∃ m h σ, At K mg wd P m H σV σ h ∧ Out K mg wd rel W σV Q m H (se σ h)
abbrev tI (P : Pq) (W : WX) (se : SE) : TE := tG K mg wd (RT K mg) P W se
abbrev tTst (P : Pq) (W : WX) (se : ST) : TT := tG K mg wd (fun _ _ a b => a = b) P W se
abbrev tAr (P : Pq) (W : WX) (se : SA) : TA := tG K mg wd (RTs K mg) P W se
end
section
variable {K : PySem.W.Frag} {mg : Str → Option Value} {wd : World} {m m' : Mp} {H H' : Hp} {h : Hh} {P : Pq} {W : WX} {σV : St} {σ : St3}
theorem SR.ext (E : Ext m H m' H') (r : SR K mg m H σ σV) : SR K mg m' H' σ σV := ⟨r.1, fun i t e => by
  obtain ⟨v, q, z⟩ := r.2 i t e
  exact ⟨v, q, z.ext E⟩⟩
theorem At.ext (E : Ext m H m' H') (a : At K mg wd P m H σV σ h) {h' : Hh} (R : HR K mg wd m' h' H') : At K mg wd P m' H' σV σ h' := ⟨a.sr.ext E, R, P.st E a.pr⟩
theorem Out.ext {α β : Type} {rel : Mp → Hp → α → β → Prop} {Q : β → Hp → Prop} {r : Res α} (E : Ext m H m' H') (o : Out K mg wd rel W σV Q m H r) : Out K mg wd rel W σV Q m' H' r := by
  cases r with
  | ok a h' => exact fun b m2 H2 E2 => o b m2 H2 (E.trans E2)
  | exc c fs h' => exact fun cls d m2 H2 E2 => o cls d m2 H2 (E.trans E2)
  | stk => exact o
theorem Out.mono {α β : Type} {rel : Mp → Hp → α → β → Prop} {Q Q' : β → Hp → Prop} {r : Res α} (hq : ∀ b H, Q b H → Q' b H) (o : Out K mg wd rel W σV Q m H r) : Out K mg wd rel W σV Q' m H r := by
  cases r with
  | ok a h' => exact fun b m2 H2 E r R => hq _ _ (o b m2 H2 E r R)
  | exc c fs h' => exact o
  | stk => exact o
theorem Out.bind {α β γ δ : Type} {rel : Mp → Hp → γ → δ → Prop} {rel1 : Mp → Hp → α → β → Prop} {Q : δ → Hp → Prop} {r : Res α} {f : α → Hh → Res γ} (o : Out K mg wd rel W σV Q m H (r.bind f)) :
    Out K mg wd rel1 W σV (fun b H1 => ∃ m1 h1 a, Ext m H m1 H1 ∧ rel1 m1 H1 a b ∧ HR K mg wd m1 h1 H1 ∧ Out K mg wd rel W σV Q m1 H1 (f a h1)) m H r := by
  cases r with
  | ok a h' => exact fun b m1 H1 E q R => ⟨m1, h', a, E, q, R, o.ext E⟩
  | exc c fs h' => exact o
  | stk => exact o
theorem tG.mono {α β : Type} {rel : Mp → Hp → α → β → Prop} {se : St3 → Hh → Res α} {Q Q' : β → Hp → Prop} (hq : ∀ b H, Q b H → Q' b H) (t : tG K mg wd rel P W se σV H Q) : tG K mg wd rel P W se σV H Q' := by
  obtain ⟨m, h, σ, a, o⟩ := t
  exact ⟨m, h, σ, a, o.mono hq⟩
theorem At.first {α β γ δ : Type} {rel : Mp → Hp → γ → δ → Prop} {rel1 : Mp → Hp → α → β → Prop} {Q : δ → Hp → Prop} {se : St3 → Hh → Res α} {f : α → Hh → Res γ} {Q1 : β → Hp → Prop} (A : At K mg wd P m H σV σ h) (o : Out K mg wd rel W σV Q m H ((se σ h).bind f))
    (k : ∀ m1 h1 a b H1, Ext m H m1 H1 → rel1 m1 H1 a b → At K mg wd P m1 H1 σV σ h1 → Out K mg wd rel W σV Q m1 H1 (f a h1) → Q1 b H1) : tG K mg wd rel1 P W se σV H Q1 := by
  refine ⟨m, h, σ, A, (Out.bind (rel1 := rel1) o).mono fun b H1 ⟨m1, h1, a, E, r, R, o1⟩ => k m1 h1 a b H1 E r (A.ext E R) o1⟩
theorem PE.imp {X : Cx} {e : Expr} {t t' : TE} (h : PE X e t) (k : ∀ σ H Q, t' σ H Q → t σ H Q) : PE X e t' := ⟨fun pins s σ H Q I hw => h.run pins s σ H Q I (k _ _ _ hw)⟩
theorem PT.imp {X : Cx} {e : Expr} {t t' : TT} (h : PT X e t) (k : ∀ σ H Q, t' σ H Q → t σ H Q) : PT X e t' := ⟨fun pins s σ H Q I hw => h.run pins s σ H Q I (k _ _ _ hw)⟩
theorem PW.imp {X : Cx} {e : Expr} {t t' : TT} (h : PW X e t) (k : ∀ σ H Q, t' σ H Q → t σ H Q) : PW X e t' := ⟨fun wh pins s σ H Q I hw => h.run wh pins s σ H Q I (k _ _ _ hw)⟩
theorem PA.imp {X : Cx} {e : List Expr} {t t' : TA} (h : PA X e t) (k : ∀ σ H Q, t' σ H Q → t σ H Q) : PA X e t' := ⟨fun pos pins s σ H Q I hw => h.run pos pins s σ H Q I (k _ _ _ hw)⟩
theorem PS.imp {X : Cx} {e : Stmt} {t t' : TS} (h : PS X e t) (k : ∀ D σ H, t' D σ H → t D σ H) : PS X e t' := ⟨fun pins s σ H D I hw => h.run pins s σ H D I (k _ _ _ hw)⟩
theorem PSs.imp {X : Cx} {e : List Stmt} {t t' : TS} (h : PSs X e t) (k : ∀ D σ H, t' D σ H → t D σ H) : PSs X e t' := ⟨fun pins s σ H D I hw => h.run pins s σ H D I (k _ _ _ hw)⟩
end
end W3
end

section
namespace W3
open PySem PySem.Spec PyProof.Rows
open L2
abbrev QN (Q : VK) (H : Hp) (xs : List V) : Prop := ∀ p ob, H p = none → ob.dict = none → Q (.ref p) (upd H p (.frz ob (.tup xs)))
section
variable {X : Cx} {pins : List (Addr × Obj)} {σ : L2.St} {H : Hp} {s : Shared} {Q : VK}
theorem ep_tup (I : L2.Inv X pins σ H s) {its : List Value} {xs : List V} (r : Vals xs its) (hz : xs.length ≤ sizeLine) (q : QN Q H xs) :
    EP X pins σ Q (.ref s.heap.objs.size) { s with heap := s.heap.push { cls := .type "tuple", data := .seq its.toArray } } :=
  ⟨.ref s.heap.objs.size, _, I.laid (t' := s.toks) (o := .frz { cls := .type "tuple", data := .seq its.toArray } (.tup xs)) (fun _ _ w => Heap.get?_push_of_some _ w) (Nat.le_refl _) ⟨Heap.get?_push_size _ rfl, hz, its, r, IsTup.new _ _⟩, rfl, q _ _ (I.hok.fresh (Nat.le_refl _)) rfl⟩
end
section
variable {X : Cx} {es : List Expr} {t : TA} {pos : Pos}
def tTupN (t : TA) : TE := fun σ H Q => t σ H fun xs H1 => xs.length ≤ sizeLine ∧ QN Q H1 xs
theorem pe_tupN {k} (h : PA X es t) : PE X (.Tuple es k pos) (tTupN t) := ⟨fun pins s σ H Q I hq =>
  wpAny_Tuple_spliced (thn (h.run pos pins s σ H _ I hq) fun us s1 ⟨xs, H1, I1, r, z, q⟩ => ⟨r.length ▸ z, ep_tup I1 r z q⟩)⟩
theorem call_tupleN : CallR X (.type "tuple") (fun xs H Q => ∃ p ys, xs = [.ref p] ∧ ((SqL X.K H p ys ∧ QN Q H ys) ∨ (SqT X.K H p ys ∧ Q (.ref p) H))) := by
  intro pins s σ H xs us Q I r h
  obtain ⟨p, ys, rfl, h⟩ := h
  obtain ⟨u, rfl, rx⟩ := vals1 r
  cases rx
  rcases h with ⟨hq, q⟩ | ⟨hq, q⟩
  · obtain ⟨its, r2, pl, hz⟩ := I.list hq
    have ln := r2.length
    exact call_tuple_list pl.isList (fun h2 kp => ep_tup (I.kept (t' := s.toks) kp) r2 hz q) (by simp only [List.size_toArray]; omega)
  · obtain ⟨its, r2, pl, hz⟩ := I.tuple hq
    exact call_tuple_same pl ⟨.ref p, _, I, rfl, q⟩
theorem sl_tupN : SlR X (fun x lo hi H Q => ∃ a xs, x = .ref a ∧ SqT X.K H a xs ∧ (HT.sIx xs.length 0 lo = 0 ∧ HT.sIx xs.length xs.length hi = xs.length → Q (.ref a) H) ∧
    (¬ (HT.sIx xs.length 0 lo = 0 ∧ HT.sIx xs.length xs.length hi = xs.length) → QN Q H (cutV xs lo hi))) := by
  intro pins s σ H x v vl vu lo hi sl Q I rx hs pl pu h
  obtain ⟨a, xs, rfl, hx, q1, q2⟩ := h
  cases rx
  obtain ⟨its, r, ht, hz⟩ := I.tuple hx
  have ln : its.toArray.size = xs.length := by rw [List.size_toArray]; exact r.length.symm
  refine ⟨"tuple", _, PyProof.Rows.slot_tuple_getitem.lookup, ht.typeIs, ?_⟩
  by_cases hw : HT.sIx xs.length 0 lo = 0 ∧ HT.sIx xs.length xs.length hi = xs.length
  · exact getItem_tuple_whole ht hs pl pu (by rw [ln]; exact hw) ⟨.ref a, _, I, rfl, q1 hw⟩
  · refine HT.getItem_tuple_cut ht hs pl pu (by rw [ln]; exact hw) ?_ (by rw [ln]; exact hz)
    rw [ln]
    exact ep_tup I ((r.drop (HT.sIx xs.length 0 lo)).take (HT.sIx xs.length xs.length hi - HT.sIx xs.length 0 lo)) (Nat.le_trans (cutV_length xs lo hi) hz) (q2 hw)
theorem op_catN : OpR X (binaryOp .Add) (fun x y H Q => ∃ a b xs ys, x = .ref a ∧ y = .ref b ∧ SqT X.K H a xs ∧ SqT X.K H b ys ∧ xs.length + ys.length ≤ sizeLine ∧
    (xs = [] → Q (.ref b) H) ∧ (xs ≠ [] → ys = [] → Q (.ref a) H) ∧ (xs ≠ [] → ys ≠ [] → QN Q H (xs ++ ys))) := by
  intro pins s σ H x y v u Q I rx ry h
  obtain ⟨a, b, xs, ys, rfl, rfl, ha, hb, hz, q0, q1, q2⟩ := h
  cases rx
  cases ry
  obtain ⟨its, r1, p1, _⟩ := I.tuple ha
  obtain ⟨its2, r2, p2, _⟩ := I.tuple hb
  by_cases hx : xs = []
  · subst hx
    cases r1
    exact cat_tup0 p1 p2 ⟨.ref b, _, I, rfl, q0 rfl⟩
  · exact HT.cat_tup p1 p2 (fun z => hx (r1.nil_iff.mp z)) (fun z => ⟨.ref a, _, I, rfl, q1 hx (r2.nil_iff.mp z)⟩) (fun z => ep_tup I (r1.append r2) (by rw [List.length_append]; exact hz) (q2 hx fun w => z (r2.nil_iff.mpr w))) (by rw [← r1.length, ← r2.length]; exact hz)
end
end W3
end

section
namespace W3
open PySem PySem.Spec PyProof.Rows
open L2
abbrev DE (X : Cx) (P : Pq) (W : WX) (e : Expr) (se : SE) : Prop := PE X e (tI X.K X.mg X.w P W se)
abbrev DT (X : Cx) (P : Pq) (W : WX) (e : Expr) (se : ST) : Prop := PT X e (tTst X.K X.mg X.w P W se)
abbrev DW (X : Cx) (P : Pq) (W : WX) (e : Expr) (se : ST) : Prop := PW X e (tTst X.K X.mg X.w P W se)
abbrev DA (X : Cx) (P : Pq) (W : WX) (es : List Expr) (se : SA) : Prop := PA X es (tAr X.K X.mg X.w P W se)
def OutP (K : PySem.W.Frag) (mg : Str → Option Value) (wd : World) (Q : VK) (m : Mp) (H : Hp) : Res T → Prop
  | .ok t h' => ∀ v m' H', Ext m H m' H' → RT K mg m' H' t v → HR K mg wd m' h' H' → Q v H'
  | _ => False
def NoX2 (f : T → T → Hh → Res T) : Prop := ∀ x y h c fs h', f x y h ≠ .exc c fs h'
def NoX1 (f : T → Hh → Res T) : Prop := ∀ x h c fs h', f x h ≠ .exc c fs h'
def NoXL (f : List T → Hh → Res T) : Prop := ∀ x h c fs h', f x h ≠ .exc c fs h'
def NoXM (f : T → List T → Hh → Res T) : Prop := ∀ x y h c fs h', f x y h ≠ .exc c fs h'
theorem Out.outP {K : PySem.W.Frag} {mg : Str → Option Value} {wd : World} {W : WX} {σV : L2.St} {Q : VK} {m : Mp} {H : Hp} {r : Res T} (o : Out K mg wd (RT K mg) W σV Q m H r) (n : ∀ c fs h', r ≠ .exc c fs h') : OutP K mg wd Q m H r := by
  cases r with
  | ok t h' => exact o
  | exc c fs h' => exact absurd rfl (n c fs h')
  | stk => exact o
def rP2 (K : PySem.W.Frag) (mg : Str → Option Value) (wd : World) (f : T → T → Hh → Res T) : R2 := fun x y H Q => ∃ m h tx ty, RT K mg m H tx x ∧ RT K mg m H ty y ∧ HR K mg wd m h H ∧ OutP K mg wd Q m H (f tx ty h)
def rP1 (K : PySem.W.Frag) (mg : Str → Option Value) (wd : World) (f : T → Hh → Res T) : V → Hp → VK → Prop := fun x H Q => ∃ m h tx, RT K mg m H tx x ∧ HR K mg wd m h H ∧ OutP K mg wd Q m H (f tx h)
def rPL (K : PySem.W.Frag) (mg : Str → Option Value) (wd : World) (f : List T → Hh → Res T) : List V → Hp → VK → Prop := fun xs H Q => ∃ m h ts, RTs K mg m H ts xs ∧ HR K mg wd m h H ∧ OutP K mg wd Q m H (f ts h)
def rPM (K : PySem.W.Frag) (mg : Str → Option Value) (wd : World) (f : T → List T → Hh → Res T) : V → List V → Hp → VK → Prop := fun x xs H Q => ∃ m h t ts, RT K mg m H t x ∧ RTs K mg m H ts xs ∧ HR K mg wd m h H ∧ OutP K mg wd Q m H (f t ts h)
section
variable {X : Cx} {P : Pq} {W : WX} {a b c : Expr} {sa sb sc : SE} {pos : Pos}
theorem de_var {i : Nat} {x : Str} (hN : X.N[i]? = some x) (hv : Vis X.env.scope x) (hd : (x == ("__debug__" : Str)) = false := by decide) (hcd : (x == ("__classdict__" : Str)) = false := by decide) : DE X P W (.Name x pos) (sVar i) :=
  PE.imp (pe_var hN hv hd hcd) fun σV H Q ⟨m, h, σ, A, o⟩ => by
    unfold sVar at o
    split at o
    · rename_i t e
      obtain ⟨v, ev, r⟩ := A.sr.2 i t e
      exact ⟨v, ev, o v m H (Ext.refl _ _) r A.hr⟩
    · exact False.elim o
theorem de_c {t : T} {v : V} (h : PE X a (tC v)) (r : ∀ m H, RT X.K X.mg m H t v) : DE X P W a (sC t) :=
  PE.imp h fun σV H Q ⟨m, h, σ, A, o⟩ => o v m H (Ext.refl _ _) (r _ _) A.hr
theorem de_int {i j} : DE X P W (.Constant (.int i) j pos) (sC (.int i)) := de_c pe_int fun _ _ => .int i
theorem de_bl {i j} : DE X P W (.Constant (.bool i) j pos) (sC (.bl i)) := de_c pe_bl fun _ _ => .bl i
theorem de_non {j} : DE X P W (.Constant .none j pos) (sC .non) := de_c pe_non fun _ _ => .non
theorem de_str {x : Str} {j} (h : PyData.strOk x = true := by decide +kernel) : DE X P W (.Constant (.str x) j pos) (sC (.str x)) := de_c pe_str fun _ _ => .str h
theorem de_glob {x : Str} {t : T} {v : V} {u : Value} (hg : Gl X x) (hm : X.mg x = some u) (r : RelV v u) (rt : ∀ m H, RT X.K X.mg m H t v) (hd : (x == ("__debug__" : Str)) = false := by decide) : DE X P W (.Name x pos) (sC t) :=
  de_c (pe_glob hg hm r hd) rt
theorem two {f : T → T → Hh → Res T} (hf : NoX2 f) {σV : L2.St} {H : Hp} {Q : VK} (h : tI X.K X.mg X.w P W (s2 f sa sb) σV H Q) :
    tI X.K X.mg X.w P W sa σV H fun x H1 => tI X.K X.mg X.w P W sb σV H1 fun y H2 => rP2 X.K X.mg X.w f x y H2 Q := by
  obtain ⟨m, h, σ, A, o⟩ := h
  refine A.first (rel1 := RT X.K X.mg) o fun m1 h1 t1 x H1 E1 r1 A1 o1 => ?_
  refine A1.first (rel1 := RT X.K X.mg) o1 fun m2 h2 t2 y H2 E2 r2 A2 o2 => ?_
  exact ⟨m2, h2, t1, t2, r1.ext E2, r2, A2.hr, o2.outP (hf t1 t2 h2)⟩
theorem one {f : T → Hh → Res T} (hf : NoX1 f) {σV : L2.St} {H : Hp} {Q : VK} (h : tI X.K X.mg X.w P W (s1 f sa) σV H Q) :
    tI X.K X.mg X.w P W sa σV H fun x H1 => rP1 X.K X.mg X.w f x H1 Q := by
  obtain ⟨m, h, σ, A, o⟩ := h
  refine A.first (rel1 := RT X.K X.mg) o fun m1 h1 t1 x H1 E1 r1 A1 o1 => ?_
  exact ⟨m1, h1, t1, r1, A1.hr, o1.outP (hf t1 h1)⟩
theorem de_op {op : Operator} {f : T → T → Hh → Res T} (ho : OpR X (binaryOp op) (rP2 X.K X.mg X.w f)) (hf : NoX2 f) (ha : DE X P W a sa) (hb : DE X P W b sb) : DE X P W (.BinOp a op b pos) (s2 f sa sb) :=
  PE.imp (pe_op ho ha hb) fun σV H Q h => two hf h
theorem de_un {op : UnaryOp} {f : T → Hh → Res T} (ho : UnR X (unaryOp op) (rP1 X.K X.mg X.w f)) (hf : NoX1 f) (ha : DE X P W a sa) : DE X P W (.UnaryOp op a pos) (s1 f sa) :=
  PE.imp (pe_un ho ha) fun σV H Q h => one hf h
theorem de_cmp {op : CmpOp} {f : T → T → Hh → Res T} (ho : OpR X (compareOp op) (rP2 X.K X.mg X.w f)) (hf : NoX2 f) (ha : DE X P W a sa) (hb : DE X P W b sb) (hm : behindInMarks op b = false) : DE X P W (.Compare a [op] [b] pos) (s2 f sa sb) :=
  PE.imp (pe_cmpR ho ha hb hm) fun σV H Q h => two hf h
theorem dt_cmp {op : CmpOp} {f : T → T → Hh → Res T} (ho : OpR X (compareOp op) (rP2 X.K X.mg X.w f)) (hf : NoX2 f) (ha : DE X P W a sa) (hb : DE X P W b sb) (hm : behindInMarks op b = false) : DT X P W (.Compare a [op] [b] pos) (sT (s2 f sa sb)) :=
  PT.imp (pt_cmpR ho ha hb hm) fun σV H Q ⟨m, h, σ, A, o⟩ => by
    refine two hf (A.first (rel1 := RT X.K X.mg) o fun m1 h1 t x H1 E1 r A1 o1 => ?_)
    cases r with
    | bl k => exact ⟨k, rfl, o1 k m1 H1 (Ext.refl _ _) rfl A1.hr⟩
    | _ => exact False.elim o1
theorem nx_add : NoX2 oAdd := fun x y h c fs h' e => by
  unfold oAdd alloc at e
  (repeat' split at e) <;> cases e
theorem nx_sub : NoX2 oSub := fun x y h c fs h' e => by unfold oSub at e; (repeat' split at e) <;> cases e
theorem nx_mul : NoX2 oMul := fun x y h c fs h' e => by unfold oMul at e; (repeat' split at e) <;> cases e
theorem nx_mod : NoX2 oMod := fun x y h c fs h' e => by unfold oMod at e; (repeat' split at e) <;> cases e
theorem nx_div : NoX2 oDiv := fun x y h c fs h' e => by unfold oDiv at e; (repeat' split at e) <;> cases e
theorem nx_pow : NoX2 oPow := fun x y h c fs h' e => by unfold oPow at e; (repeat' split at e) <;> cases e
theorem nx_lt : NoX2 oLt := fun x y h c fs h' e => by unfold oLt at e; (repeat' split at e) <;> cases e
theorem nx_le : NoX2 oLe := fun x y h c fs h' e => by unfold oLe at e; (repeat' split at e) <;> cases e
theorem nx_neg : NoX1 oNeg := fun x h c fs h' e => by unfold oNeg at e; (repeat' split at e) <;> cases e
theorem nx_eq : NoX2 oEq := fun x y h c fs h' e => by unfold oEq at e; (repeat' split at e) <;> cases e
theorem nx_ne : NoX2 oNe := fun x y h c fs h' e => by unfold oNe at e; (repeat' split at e) <;> cases e
theorem nx_in : NoX2 oIn := fun x y h c fs h' e => by unfold oIn at e; (repeat' split at e) <;> cases e
theorem nx_ix : NoX2 oIx := fun x y h c fs h' e => by unfold oIx at e; (repeat' split at e) <;> cases e
theorem os_int {sem : Value → Value → Sem Value} {C : Int → Int → Prop} {g : Int → Int → V} {gt : Int → Int → T} {f : T → T → Hh → Res T} (ho : OpR X sem (rI C g)) (hg : ∀ i j m H, RT X.K X.mg m H (gt i j) (g i j))
    (hf : ∀ x y h t h', f x y h = .ok t h' → ∃ i j, x = .int i ∧ y = .int j ∧ C i j ∧ t = gt i j ∧ h' = h) : OpR X sem (rP2 X.K X.mg X.w f) := by
  intro pins s σ H x y v u Q I rx ry ⟨m, h, tx, ty, r1, r2, R, o⟩
  cases e : f tx ty h with
  | ok t h' =>
    rw [e] at o
    obtain ⟨i, j, rfl, rfl, hc, rfl, rfl⟩ := hf _ _ _ _ _ e
    cases r1
    cases r2
    exact ho pins s σ H _ _ v u Q I rx ry ⟨i, j, rfl, rfl, hc, o _ m H (Ext.refl _ _) (hg i j m H) R⟩
  | exc c fs h' => rw [e] at o; exact False.elim o
  | stk => rw [e] at o; exact False.elim o
theorem rI_of0 {sem : Value → Value → Sem Value} {g : Int → Int → V} (ho : OpR X sem (rI0 g)) : OpR X sem (rI (fun _ _ => True) g) := by
  intro pins s σ H x y v u Q I rx ry ⟨i, j, e1, e2, _, q⟩
  exact ho pins s σ H x y v u Q I rx ry ⟨i, j, e1, e2, q⟩
theorem os_sub : OpR X (binaryOp .Sub) (rP2 X.K X.mg X.w oSub) := os_int (gt := fun i j => .int (i - j)) (rI_of0 op_sub) (fun _ _ _ _ => .int _) fun x y h t h' e => by
  unfold oSub at e; split at e
  · cases e; exact ⟨_, _, rfl, rfl, trivial, rfl, rfl⟩
  · cases e
theorem os_mul : OpR X (binaryOp .Mult) (rP2 X.K X.mg X.w oMul) := os_int (gt := fun i j => .int (i * j)) op_mul (fun _ _ _ _ => .int _) fun x y h t h' e => by
  unfold oMul at e; split at e
  · split at e
    · rename_i hc; cases e; exact ⟨_, _, rfl, rfl, hc, rfl, rfl⟩
    · cases e
  · cases e
theorem os_mod : OpR X (binaryOp .Mod) (rP2 X.K X.mg X.w oMod) := os_int (gt := fun i j => .int (i % j)) op_mod (fun _ _ _ _ => .int _) fun x y h t h' e => by
  unfold oMod at e; split at e
  · split at e
    · rename_i hc; cases e; exact ⟨_, _, rfl, rfl, hc, rfl, rfl⟩
    · cases e
  · cases e
theorem os_div : OpR X (binaryOp .FloorDiv) (rP2 X.K X.mg X.w oDiv) := os_int (gt := fun i j => .int (i / j)) op_fdiv (fun _ _ _ _ => .int _) fun x y h t h' e => by
  unfold oDiv at e; split at e
  · split at e
    · rename_i hc; cases e; exact ⟨_, _, rfl, rfl, hc, rfl, rfl⟩
    · cases e
  · cases e
theorem os_pow : OpR X (binaryOp .Pow) (rP2 X.K X.mg X.w oPow) := os_int (gt := fun i j => .int (i ^ j.toNat)) op_pow (fun _ _ _ _ => .int _) fun x y h t h' e => by
  unfold oPow at e; split at e
  · split at e
    · rename_i hc; cases e; exact ⟨_, _, rfl, rfl, hc, rfl, rfl⟩
    · cases e
  · cases e
theorem os_lt : OpR X (compareOp .Lt) (rP2 X.K X.mg X.w oLt) := os_int (gt := fun i j => .bl (decide (i < j))) (rI_of0 op_lt) (fun _ _ _ _ => .bl _) fun x y h t h' e => by
  unfold oLt at e; split at e
  · cases e; exact ⟨_, _, rfl, rfl, trivial, rfl, rfl⟩
  · cases e
theorem os_le : OpR X (compareOp .LtE) (rP2 X.K X.mg X.w oLe) := os_int (gt := fun i j => .bl (decide (i ≤ j))) (rI_of0 op_le) (fun _ _ _ _ => .bl _) fun x y h t h' e => by
  unfold oLe at e; split at e
  · cases e; exact ⟨_, _, rfl, rfl, trivial, rfl, rfl⟩
  · cases e
theorem us_neg : UnR X (unaryOp .USub) (rP1 X.K X.mg X.w oNeg) := by
  intro pins s σ H x v Q I rx ⟨m, h, tx, r1, R, o⟩
  cases r1 with
  | int i => exact un_neg pins s σ H _ v Q I rx ⟨i, rfl, o _ m H (Ext.refl _ _) (.int _) R⟩
  | _ => exact False.elim o
theorem OutP.newTup {K : PySem.W.Frag} {mg : Str → Option Value} {wd : World} {Q : VK} {m : Mp} {H : Hp} {h : Hh} {ts : List T} {vs : List V} (R : HR K mg wd m h H) (r : RTs K mg m H ts vs) (o : OutP K mg wd Q m H (.ok (.tup ts) h)) {p : Addr} {ob : Obj} (hp : H p = none) (hd : ob.dict = none) : Q (.ref p) (upd H p (.frz ob (.tup vs))) :=
  o _ m _ (Ext.garbage R hp) (.tup (.inl ⟨ob, upd_same, hd⟩) (r.ext (Ext.garbage R hp))) (R.garbage hp)
theorem OutP.newLst {K : PySem.W.Frag} {mg : Str → Option Value} {wd : World} {Q : VK} {m : Mp} {H : Hp} {h : Hh} {ts : List T} {vs : List V} (R : HR K mg wd m h H) (r : RTs K mg m H ts vs) (o : OutP K mg wd Q m H (alloc (.lst ts) h)) {p : Addr} (hp : H p = none) : Q (.ref p) (upd H p (.lst vs)) :=
  o _ _ _ (Ext.alloc R hp) (.ref Mp.put_same) (R.alloc hp ⟨vs, upd_same, r.ext (Ext.alloc R hp)⟩)
theorem strOk_append {x y : Str} (hx : PyData.strOk x = true) (hy : PyData.strOk y = true) : PyData.strOk (x ++ y) = true := by
  unfold PyData.strOk at *
  show (x.cps ++ y.cps).all _ = true
  rw [Array.all_append, hx, hy]; rfl
theorem os_add : OpR X (binaryOp .Add) (rP2 X.K X.mg X.w oAdd) := by
  intro pins s σ H x y v u Q I rx ry ⟨m, h, tx, ty, r1, r2, R, o⟩
  cases r1 with
  | int i =>
    cases r2 with
    | int j => exact op_add pins s σ H _ _ v u Q I rx ry ⟨i, j, rfl, rfl, o _ m H (Ext.refl _ _) (.int _) R⟩
    | _ => exact False.elim o
  | str hi =>
    cases r2 with
    | str hj =>
      rename_i i j
      have o' : OutP X.K X.mg X.w Q m H (if i.length + j.length ≤ sizeLine then .ok (.str (i ++ j)) h else .stk) := o
      split at o'
      · rename_i hz; exact op_add_str pins s σ H _ _ v u Q I rx ry ⟨_, _, rfl, rfl, hz, o' _ m H (Ext.refl _ _) (.str (strOk_append hi hj)) R⟩
      · exact False.elim o'
    | _ => exact False.elim o
  | tup ha r =>
    cases r2 with
    | tup hb q =>
      rename_i a vs xs b ws ys
      have o' : OutP X.K X.mg X.w Q m H (if xs.length + ys.length ≤ sizeLine then .ok (.tup (xs ++ ys)) h else .stk) := o
      split at o'
      · rename_i hz
        rw [r.length, q.length] at hz
        refine op_catN pins s σ H _ _ v u Q I rx ry ⟨_, _, _, _, rfl, rfl, ha, hb, hz, fun e => ?_, fun e1 e2 => ?_, fun e1 e2 p ob hp hd => ?_⟩
        · subst e; cases r; exact o' _ m H (Ext.refl _ _) (.tup hb q) R
        · subst e2; cases q; rw [List.append_nil] at o'; exact o' _ m H (Ext.refl _ _) (.tup ha r) R
        · exact OutP.newTup R (r.append q) o' hp hd
      · exact False.elim o'
    | _ => exact False.elim o
  | ref e1 =>
    cases r2 with
    | ref e2 =>
      rename_i l a k b
      have o' : OutP X.K X.mg X.w Q m H (match lstAt h l, lstAt h k with
        | some xs, some zs => if xs.length + zs.length ≤ sizeLine then alloc (.lst (xs ++ zs)) h else .stk
        | _, _ => .stk) := o
      split at o'
      · rename_i xs zs q1 q2
        split at o'
        · rename_i hz
          obtain ⟨vs, g1, r1⟩ := R.lst e1 q1
          obtain ⟨ws, g2, r2⟩ := R.lst e2 q2
          rw [r1.length, r2.length] at hz
          exact op_cat pins s σ H _ _ v u Q I rx ry ⟨_, _, _, _, rfl, rfl, g1, g2, hz, fun p hp => OutP.newLst R (r1.append r2) o' hp⟩
        · exact False.elim o'
      · exact False.elim o'
    | _ => exact False.elim o
  | _ => exact False.elim o
end
end W3
end

section
namespace W3
open PySem PySem.Spec PyProof.Rows
open L2
section
variable {K : PySem.W.Frag} {mg : Str → Option Value} {wd : World} {m : Mp} {H : Hp} {h : Hh}
theorem optL_dp {n : Nat} {f : T → Option PyData} (hf : ∀ t v d, RT K mg m H t v → f t = some d → Dp K H v d ∧ d.canLay0 = true ∧ d.depth ≤ n) :
    ∀ {ts : List T} {vs : List V} {ds : List PyData}, RTs K mg m H ts vs → optL f ts = some ds → DpAll K H vs ds ∧ PyData.canLayAll0 ds = true ∧ PyData.depthAll ds ≤ n
  | _, _, _, .nil, e => by cases e; exact ⟨.nil, by simp [PyData.canLayAll0], by simp [PyData.depthAll]⟩
  | _, _, _, .cons (t := t) (ts := ts) r q, e => by
    unfold optL at e
    cases h1 : f t with
    | none => rw [h1] at e; simp at e
    | some d =>
      cases h2 : optL f ts with
      | none => rw [h1, h2] at e; simp at e
      | some ds =>
        rw [h1, h2] at e
        cases e
        obtain ⟨a1, a2, a3⟩ := hf _ _ _ r h1
        obtain ⟨b1, b2, b3⟩ := optL_dp hf q h2
        refine ⟨.cons a1 b1, by simp [PyData.canLayAll0, a2, b2], ?_⟩
        simp only [PyData.depthAll]
        omega
theorem toD_dp (R : HR K mg wd m h H) : ∀ (n : Nat) (t : T) (v : V) (d : PyData), RT K mg m H t v → toD h n t = some d → Dp K H v d ∧ d.canLay0 = true ∧ d.depth ≤ n
  | 0, _, _, _, _, e => by simp [toD] at e
  | n + 1, _, _, d, r, e => by
    have ih := toD_dp R n
    cases r with
    | non => cases e; exact ⟨.non, by simp [PyData.canLay0], by simp [PyData.depth]⟩
    | bl b => cases e; exact ⟨.bl b, by simp [PyData.canLay0], by simp [PyData.depth]⟩
    | int b => cases e; exact ⟨.int b, by simp [PyData.canLay0], by simp [PyData.depth]⟩
    | str b => cases e; exact ⟨.str _, by simpa [PyData.canLay0] using b, by simp [PyData.depth]⟩
    | @tup a vs ts hq rr =>
      have e' : (optL (toD h n) ts).map PyData.tuple = some d := e
      cases q : optL (toD h n) ts with
      | none => rw [q] at e'; cases e'
      | some ds =>
        rw [q] at e'; cases e'
        obtain ⟨b1, b2, b3⟩ := optL_dp ih rr q
        exact ⟨.tup hq b1, by simpa [PyData.canLay0] using b2, by simp only [PyData.depth]; omega⟩
    | @fl a vs ts hq rr =>
      have e' : (optL (toD h n) ts).map PyData.list = some d := e
      cases q : optL (toD h n) ts with
      | none => rw [q] at e'; cases e'
      | some ds =>
        rw [q] at e'; cases e'
        obtain ⟨b1, b2, b3⟩ := optL_dp ih rr q
        exact ⟨.lst hq.sq b1, by simpa [PyData.canLay0] using b2, by simp only [PyData.depth]; omega⟩
    | @ref l a hq =>
      have e' : (match h[l]? with | some (.lst ts) => (optL (toD h n) ts).map PyData.list | _ => none) = some d := e
      split at e'
      · rename_i ts hl
        obtain ⟨vs, g, rr⟩ := R.lst hq (show lstAt h l = some ts by unfold lstAt; rw [hl])
        cases q : optL (toD h n) ts with
        | none => rw [q] at e'; cases e'
        | some ds =>
          rw [q] at e'; cases e'
          obtain ⟨b1, b2, b3⟩ := optL_dp ih rr q
          exact ⟨.lst (SqL.of g) b1, by simpa [PyData.canLay0] using b2, by simp only [PyData.depth]; omega⟩
      · cases e'
    | cls hq => cases e
theorem toD_shaped (R : HR K mg wd m h H) {t : T} {v : V} {d : PyData} (r : RT K mg m H t v) (e : toD h 24 t = some d) : Dp K H v d ∧ SeqAt.shaped d = true := by
  obtain ⟨a, b, c⟩ := toD_dp R 24 t v d r e
  refine ⟨a, ?_⟩
  unfold SeqAt.shaped
  rw [b, decide_eq_true (by omega : d.depth ≤ 64)]
  rfl
end
section
variable {X : Cx} {P : Pq} {W : WX} {a b c : Expr} {sa sb sc : SE} {pos : Pos} {es : List Expr} {ar : SA} {ta tb : ST} {rest : List Expr}
theorem os_eq (hu : X.A.units + 65 < cLine) : OpR X (compareOp .Eq) (rP2 X.K X.mg X.w oEq) := by
  intro pins s σ H x y v u Q I rx ry ⟨m, h, tx, ty, r1, r2, R, o⟩
  unfold oEq at o
  split at o
  · rename_i d e q1 q2
    obtain ⟨d1, s1⟩ := toD_shaped R r1 q1
    obtain ⟨d2, s2⟩ := toD_shaped R r2 q2
    exact op_eqD (by omega) pins s σ H x y v u Q I rx ry ⟨d, e, d1, d2, s1, s2, o _ m H (Ext.refl _ _) (.bl _) R⟩
  · exact False.elim o
theorem os_ne (hu : X.A.units + 65 < cLine) : OpR X (compareOp .NotEq) (rP2 X.K X.mg X.w oNe) := by
  intro pins s σ H x y v u Q I rx ry ⟨m, h, tx, ty, r1, r2, R, o⟩
  unfold oNe at o
  split at o
  · rename_i d e q1 q2
    obtain ⟨d1, s1⟩ := toD_shaped R r1 q1
    obtain ⟨d2, s2⟩ := toD_shaped R r2 q2
    exact op_neD (by omega) pins s σ H x y v u Q I rx ry ⟨d, e, d1, d2, s1, s2, o _ m H (Ext.refl _ _) (.bl _) R⟩
  · exact False.elim o
theorem in_run (hu : X.A.units + 65 < cLine) {pins : List (Addr × Obj)} {s : Shared} {σ : L2.St} {H : Hp} {x y : V} {v u : Value} {m : Mp} {h : Hh} {tx ty : T} {k : Bool} (I : L2.Inv X pins σ H s) (rx : RelV x v) (ry : RelV y u) (r1 : RT X.K X.mg m H tx x)
    (r2 : RT X.K X.mg m H ty y) (R : HR X.K X.mg X.w m h H) (e : inT tx ty h = some k) {Q : Value → Shared → Prop} (q : Q (.bool k) s) : wpAny (model X.prog X.w) X.A (compareOp .In v u) Q X.xe s := by
  have deep : (match toD h 24 tx, toD h 24 ty with
    | some d, some (.list ds) => some (ds.any fun z => PyData.eqv z d)
    | some d, some (.tuple ds) => some (ds.any fun z => PyData.eqv z d)
    | _, _ => none) = some k → wpAny (model X.prog X.w) X.A (compareOp .In v u) Q X.xe s := by
    intro e
    split at e
    · rename_i d ds q1 q2
      cases e
      obtain ⟨d1, s1⟩ := toD_shaped R r1 q1
      obtain ⟨d2, s2⟩ := toD_shaped R r2 q2
      obtain ⟨as, p1⟩ := Dp.reads I d x v d1 rx
      obtain ⟨bs, p2⟩ := Dp.reads I (.list ds) y u d2 ry
      exact SeqAt.in_list_reads p2 p1 (SeqAt.canLay_of_shaped s2) (SeqAt.canLay_of_shaped s1) (room_in_shaped s1 hu) q
    · rename_i d ds q1 q2
      cases e
      obtain ⟨d1, s1⟩ := toD_shaped R r1 q1
      obtain ⟨d2, s2⟩ := toD_shaped R r2 q2
      obtain ⟨as, p1⟩ := Dp.reads I d x v d1 rx
      obtain ⟨bs, p2⟩ := Dp.reads I (.tuple ds) y u d2 ry
      exact SeqAt.in_tuple_reads p2 p1 (SeqAt.canLay_of_shaped s2) (SeqAt.canLay_of_shaped s1) (room_in_shaped s1 hu) q
    · cases e
  cases r1 with
  | str h1 =>
    cases r2 with
    | str h2 =>
      cases e
      obtain ⟨t, rfl⟩ := rx
      obtain ⟨t', rfl⟩ := ry
      exact in_str q
    | _ => exact deep e
  | _ => exact deep e
theorem os_in (hu : X.A.units + 65 < cLine) : OpR X (compareOp .In) (rP2 X.K X.mg X.w oIn) := by
  intro pins s σ H x y v u Q I rx ry ⟨m, h, tx, ty, r1, r2, R, o⟩
  unfold oIn at o
  split at o
  · rename_i k q
    exact in_run hu I rx ry r1 r2 R q ⟨.bl k, H, I, rfl, o _ m H (Ext.refl _ _) (.bl _) R⟩
  · exact False.elim o
theorem nx_is : NoX2 oIs := fun x y h c fs h' e => by unfold oIs at e; (repeat' split at e) <;> cases e
theorem isNon_iff {m : Mp} {H : Hp} {t : T} {v : V} (r : RT X.K X.mg m H t v) : decide (v = .non) = isNonT t := by
  cases r <;> first | rfl | simp [isNonT]
theorem os_is : OpR X (compareOp .Is) (rP2 X.K X.mg X.w oIs) := by
  intro pins s σ H x y v u Q I rx ry ⟨m, h, tx, ty, r1, r2, R, o⟩
  cases r2 with
  | non =>
    have o' : OutP X.K X.mg X.w Q m H (.ok (.bl (isNonT tx)) h) := o
    refine op_isN pins s σ H x _ v u Q I rx ry ⟨rfl, ?_⟩
    rw [isNon_iff r1]
    exact o' _ m H (Ext.refl _ _) (.bl _) R
  | bl k =>
    cases r1 with
    | bl j => exact op_isBl pins s σ H _ _ v u Q I rx ry ⟨j, k, rfl, rfl, o _ m H (Ext.refl _ _) (.bl _) R⟩
    | _ => exact False.elim o
  | _ => exact False.elim o
theorem dt_val (ha : DE X P W a sa) (he : ∀ whole, isTrue a X.env whole = (do let v ← whole; standAt a.pos; holding [v] (truthy v)) := by intro _; rfl) : DT X P W a (sT sa) :=
  PT.imp (pt_val ha he) fun σV H Q ⟨m, h, σ, A, o⟩ => by
    refine A.first (rel1 := RT X.K X.mg) o fun m1 h1 t x H1 E1 r A1 o1 => ?_
    cases r with
    | bl k => exact ⟨k, rfl, o1 k m1 H1 (Ext.refl _ _) rfl A1.hr⟩
    | _ => exact False.elim o1
theorem tt_and {σV : L2.St} {H : Hp} {Q : Bool → Hp → Prop} (h : tTst X.K X.mg X.w P W (stAnd ta tb) σV H Q) : tAnd (tTst X.K X.mg X.w P W ta) (tTst X.K X.mg X.w P W tb) σV H Q := by
  obtain ⟨m, h, σ, A, o⟩ := h
  refine A.first (rel1 := fun _ _ a b => a = b) o fun m1 h1 t x H1 E1 r A1 o1 => ?_
  subst r
  cases t with
  | true => rw [if_pos rfl]; rw [if_pos rfl] at o1; exact ⟨m1, h1, σ, A1, o1⟩
  | false => rw [if_neg Bool.false_ne_true]; rw [if_neg Bool.false_ne_true] at o1; exact o1 _ m1 H1 (Ext.refl _ _) rfl A1.hr
theorem tt_or {σV : L2.St} {H : Hp} {Q : Bool → Hp → Prop} (h : tTst X.K X.mg X.w P W (stOr ta tb) σV H Q) : tOr (tTst X.K X.mg X.w P W ta) (tTst X.K X.mg X.w P W tb) σV H Q := by
  obtain ⟨m, h, σ, A, o⟩ := h
  refine A.first (rel1 := fun _ _ a b => a = b) o fun m1 h1 t x H1 E1 r A1 o1 => ?_
  subst r
  cases t with
  | true => rw [if_pos rfl]; rw [if_pos rfl] at o1; exact o1 _ m1 H1 (Ext.refl _ _) rfl A1.hr
  | false => rw [if_neg Bool.false_ne_true]; rw [if_neg Bool.false_ne_true] at o1; exact ⟨m1, h1, σ, A1, o1⟩
theorem dw_and1 (ha : DT X P W a ta) : DW X P W (.BoolOp .And [a] pos) ta := pw_and1 ha
theorem dw_or1 (ha : DT X P W a ta) : DW X P W (.BoolOp .Or [a] pos) ta := pw_or1 ha
theorem dw_and (ha : DT X P W a ta) (hb : DW X P W (.BoolOp .And (b :: rest) pos) tb) : DW X P W (.BoolOp .And (a :: b :: rest) pos) (stAnd ta tb) := PW.imp (pw_and ha hb) fun _ _ _ h => tt_and h
theorem dw_or (ha : DT X P W a ta) (hb : DW X P W (.BoolOp .Or (b :: rest) pos) tb) : DW X P W (.BoolOp .Or (a :: b :: rest) pos) (stOr ta tb) := PW.imp (pw_or ha hb) fun _ _ _ h => tt_or h
theorem dt_w {e : Expr} (h : DW X P W e ta) : DT X P W e ta := h.pt
theorem dt_not (ha : DT X P W a ta) : DT X P W (.UnaryOp .Not a pos) (stNot ta) := PT.imp (pt_not ha) fun σV H Q ⟨m, h, σ, A, o⟩ => by
  refine A.first (rel1 := fun _ _ a b => a = b) o fun m1 h1 t x H1 E1 r A1 o1 => ?_
  subst r
  exact o1 _ m1 H1 (Ext.refl _ _) rfl A1.hr
theorem de_and1 (ha : DE X P W a sa) : DE X P W (.BoolOp .And [a] pos) sa := pe_one ha
theorem de_and (ha : DE X P W a sa) (hb : DE X P W (.BoolOp .And (b :: rest) pos) sb) : DE X P W (.BoolOp .And (a :: b :: rest) pos) (sIf (sT sa) sb (sC (.bl false))) :=
  PE.imp (pe_and ha hb) fun σV H Q ⟨m, h, σ, A, o⟩ => by
    have o' : Out X.K X.mg X.w (RT X.K X.mg) W σV Q m H ((sa σ h).bind fun t h1 => match t with | .bl k => (if k = true then sb σ h1 else .ok (.bl false) h1) | _ => .stk) := by
      have e : sIf (sT sa) sb (sC (.bl false)) σ h = ((sa σ h).bind fun t h1 => match t with | .bl k => (if k = true then sb σ h1 else .ok (.bl false) h1) | _ => .stk) := by
        unfold sIf sT sC
        cases sa σ h with
        | ok t h1 => cases t <;> rfl
        | exc c fs h1 => rfl
        | stk => rfl
      rw [e] at o; exact o
    refine A.first (rel1 := RT X.K X.mg) o' fun m1 h1 t x H1 E1 r A1 o1 => ?_
    cases r with
    | bl k =>
      refine ⟨k, rfl, ?_⟩
      cases k with
      | true => exact ⟨m1, h1, σ, A1, o1⟩
      | false => exact o1 _ m1 H1 (Ext.refl _ _) (.bl _) A1.hr
    | _ => exact False.elim o1
theorem de_if (hc : DT X P W c ta) (ha : DE X P W a sa) (hb : DE X P W b sb) : DE X P W (.IfExp c a b pos) (sIf ta sa sb) := PE.imp (pe_ifExp hc ha hb) fun σV H Q ⟨m, h, σ, A, o⟩ => by
  refine A.first (rel1 := fun _ _ a b => a = b) o fun m1 h1 t x H1 E1 r A1 o1 => ?_
  subst r
  cases t with
  | true => exact ⟨m1, h1, σ, A1, o1⟩
  | false => exact ⟨m1, h1, σ, A1, o1⟩
theorem chain {f g : T → T → Hh → Res T} (hf : NoX2 f) (hg : NoX2 g) {σV : L2.St} {H : Hp} {Q : VK} (h : tI X.K X.mg X.w P W (sChain f g sa sb sc) σV H Q) :
    tChain (rP2 X.K X.mg X.w f) (rP2 X.K X.mg X.w g) (tI X.K X.mg X.w P W sa) (tI X.K X.mg X.w P W sb) (tI X.K X.mg X.w P W sc) σV H Q := by
  obtain ⟨m, h, σ, A, o⟩ := h
  refine A.first (rel1 := RT X.K X.mg) o fun m1 h1 t1 x H1 E1 r1 A1 o1 => ?_
  refine A1.first (rel1 := RT X.K X.mg) o1 fun m2 h2 t2 y H2 E2 r2 A2 o2 => ?_
  refine ⟨m2, h2, t1, t2, r1.ext E2, r2, A2.hr, ?_⟩
  have o3 := (Out.bind (rel1 := RT X.K X.mg) o2).outP (hf t1 t2 h2)
  cases e : f t1 t2 h2 with
  | exc c fs h' => exact absurd e (hf _ _ _ _ _ _)
  | stk => rw [e] at o3; exact False.elim o3
  | ok z h3 =>
    rw [e] at o3
    intro v m3 H3 E3 rv R3
    obtain ⟨m4, h4, z', E4, rz, R4, o4⟩ := o3 v m3 H3 E3 rv R3
    cases rz with
    | bl k =>
      refine ⟨k, rfl, ?_⟩
      have A4 := A2.ext E4 R4
      cases k with
      | true =>
        refine A4.first (rel1 := RT X.K X.mg) o4 fun m5 h5 t5 w H5 E5 r5 A5 o5 => ?_
        exact ⟨m5, h5, t2, t5, (r2.ext E4).ext E5, r5, A5.hr, o5.outP (hg _ _ _)⟩
      | false => exact o4 _ m4 H3 (Ext.refl _ _) (.bl _) R4
    | _ => exact False.elim o4
theorem da_nil : DA X P W [] saNil := PA.imp pa_nil fun σV H Q ⟨m, h, σ, A, o⟩ => o [] m H (Ext.refl _ _) .nil A.hr
theorem da_cons (ha : DE X P W a sa) (hr : DA X P W es ar) (hs : starEach (a :: es) X.env = (false, eval a X.env) :: starEach es X.env := by rfl) : DA X P W (a :: es) (saCons sa ar) :=
  PA.imp (pa_cons ha hr hs) fun σV H Q ⟨m, h, σ, A, o⟩ => by
    refine A.first (rel1 := RT X.K X.mg) o fun m1 h1 t1 x H1 E1 r1 A1 o1 => ?_
    refine A1.first (rel1 := RTs X.K X.mg) o1 fun m2 h2 t2 y H2 E2 r2 A2 o2 => ?_
    exact o2 _ m2 H2 (Ext.refl _ _) (.cons (r1.ext E2) r2) A2.hr
theorem de_tup {x1} (h : DA X P W es ar) : DE X P W (.Tuple es x1 pos) (sTup ar) := PE.imp (pe_tupN h) fun σV H Q ⟨m, h, σ, A, o⟩ => by
  refine A.first (rel1 := RTs X.K X.mg) o fun m1 h1 t1 x H1 E1 r1 A1 o1 => ?_
  split at o1
  · rename_i hz
    refine ⟨by rw [← r1.length]; exact hz, fun p ob hp hd => ?_⟩
    exact OutP.newTup A1.hr r1 (o1.outP (fun _ _ _ z => by cases z)) hp hd
  · exact False.elim o1
theorem de_lst (h : DA X P W es ar) : DE X P W (.List es pos) (sLst ar) := PE.imp (pe_lst h) fun σV H Q ⟨m, h, σ, A, o⟩ => by
  refine A.first (rel1 := RTs X.K X.mg) o fun m1 h1 t1 x H1 E1 r1 A1 o1 => ?_
  split at o1
  · rename_i hz
    refine ⟨by rw [← r1.length]; exact hz, fun p hp => ?_⟩
    exact OutP.newLst A1.hr r1 (o1.outP (fun _ _ _ z => by cases z)) hp
  · exact False.elim o1
end
end W3
end

section
namespace W3
open PySem PySem.Spec PyProof.Rows
open L2
section
variable {X : Cx} {P : Pq} {W : WX} {a b c : Expr} {sa sb sc : SE} {pos p2 : Pos} {es : List Expr} {ar : SA} {ta tb : ST} {rest : List Expr}
theorem de_chain {op op' : CmpOp} {f g : T → T → Hh → Res T} (ho : OpR X (compareOp op) (rP2 X.K X.mg X.w f)) (ho' : OpR X (compareOp op') (rP2 X.K X.mg X.w g)) (hf : NoX2 f) (hg : NoX2 g) (ha : DE X P W a sa) (hb : DE X P W b sb) (hc : DE X P W c sc)
    (hm : lastMarks [op, op'] [b, c] = false := by with_unfolding_all rfl) : DE X P W (.Compare a [op, op'] [b, c] pos) (sChain f g sa sb sc) := PE.imp (pe_chain ho ho' ha hb hc hm) fun _ _ _ h => chain hf hg h
theorem dt_chain {op op' : CmpOp} {f g : T → T → Hh → Res T} (ho : OpR X (compareOp op) (rP2 X.K X.mg X.w f)) (ho' : OpR X (compareOp op') (rP2 X.K X.mg X.w g)) (hf : NoX2 f) (hg : NoX2 g) (ha : DE X P W a sa) (hb : DE X P W b sb) (hc : DE X P W c sc)
    (hm : lastMarks [op, op'] [b, c] = false := by with_unfolding_all rfl) : DT X P W (.Compare a [op, op'] [b, c] pos) (sT (sChain f g sa sb sc)) := PT.imp (pt_chain ho ho' ha hb hc hm) fun σV H Q ⟨m, h, σ, A, o⟩ => by
  refine chain hf hg (A.first (rel1 := RT X.K X.mg) o fun m1 h1 t x H1 E1 r A1 o1 => ?_)
  cases r with
  | bl k => exact ⟨k, rfl, o1 k m1 H1 (Ext.refl _ _) rfl A1.hr⟩
  | _ => exact False.elim o1
theorem RTs.atI {m : Mp} {H : Hp} {ts : List T} {vs : List V} (r : RTs X.K X.mg m H ts vs) {i : Int} {t : T} (e : L2.atI ts i = some t) : ∃ v, L2.atI vs i = some v ∧ RT X.K X.mg m H t v := by
  unfold L2.atI at e ⊢
  rw [← r.length]
  cases q : ixN ts.length i with
  | none => rw [q] at e; cases e
  | some j =>
    rw [q] at e
    exact r.get (show ts[j]? = some t from e)
theorem strOk_one {c : Nat} {z : Str} (hz : PyData.strOk z = true) {i : Int} (e : L2.atI z.cps.toList i = some c) : PyData.strOk ⟨#[c]⟩ = true := by
  obtain ⟨j, _, h, _⟩ := atI_get e
  have hm : c ∈ z.cps.toList := List.mem_of_getElem? h
  unfold PyData.strOk at *
  rw [← Array.all_toList, List.all_eq_true] at hz
  have := hz c hm
  simpa using this
theorem ixs : IxR X (rP2 X.K X.mg X.w oIx) := by
  intro value slice pins s σ H x y v u Q I rx ry ⟨m, h, tx, ty, r1, r2, R, o⟩ hs
  cases r2 with
  | int i =>
    cases r1 with
    | @tup a vs ts hq r =>
      have o' : OutP X.K X.mg X.w Q m H (match L2.atI ts i with | some t => .ok t h | none => .stk) := o
      split at o'
      · rename_i t e
        obtain ⟨w, e2, rw⟩ := r.atI e
        exact ix_tup value slice pins s σ H _ _ v u Q I rx ry ⟨_, _, i, w, rfl, rfl, hq, e2, o' _ m H (Ext.refl _ _) rw R⟩ hs
      · exact False.elim o'
    | @fl a vs ts hq r =>
      have o' : OutP X.K X.mg X.w Q m H (match L2.atI ts i with | some t => .ok t h | none => .stk) := o
      split at o'
      · rename_i t e
        obtain ⟨w, e2, rw⟩ := r.atI e
        exact ix_list value slice pins s σ H _ _ v u Q I rx ry ⟨_, _, i, w, rfl, rfl, hq.sq, e2, o' _ m H (Ext.refl _ _) rw R⟩ hs
      · exact False.elim o'
    | @ref l a e1 =>
      have o' : OutP X.K X.mg X.w Q m H (match lstAt h l with
        | some ts => (match L2.atI ts i with | some t => .ok t h | none => .stk)
        | none => .stk) := o
      split at o'
      · rename_i ts q1
        obtain ⟨vs, g1, r1⟩ := R.lst e1 q1
        split at o'
        · rename_i t e
          obtain ⟨w, e2, rw⟩ := r1.atI e
          exact ix_list value slice pins s σ H _ _ v u Q I rx ry ⟨_, _, i, w, rfl, rfl, SqL.of g1, e2, o' _ m H (Ext.refl _ _) rw R⟩ hs
        · exact False.elim o'
      · exact False.elim o'
    | @str z hz =>
      have o' : OutP X.K X.mg X.w Q m H (if z.length ≤ sizeLine then (match L2.atI z.cps.toList i with | some c => .ok (.str ⟨#[c]⟩) h | none => .stk) else .stk) := o
      split at o'
      · rename_i hl
        split at o'
        · rename_i c e
          exact ix_str value slice pins s σ H _ _ v u Q I rx ry ⟨z, i, c, rfl, rfl, hl, e, o' _ m H (Ext.refl _ _) (.str (strOk_one hz e)) R⟩ hs
        · exact False.elim o'
      · exact False.elim o'
    | _ => exact False.elim o
  | _ => cases r1 <;> exact False.elim o
theorem de_ix (ha : DE X P W a sa) (hb : DE X P W b sb) (hs : PlainIx b := by intro _ _; rfl) : DE X P W (.Subscript a b pos) (s2 oIx sa sb) :=
  PE.imp (pe_ix ixs ha hb hs) fun σV H Q h => two nx_ix h
theorem RTs.cut {m : Mp} {H : Hp} {ts : List T} {vs : List V} (r : RTs X.K X.mg m H ts vs) (lo hi : Option Int) : RTs X.K X.mg m H (cutT ts lo hi) (cutV vs lo hi) := by
  unfold cutT cutV
  rw [← r.length]
  exact (r.drop _).take _
abbrev DO (X : Cx) (P : Pq) (W : WX) (e : Option Expr) (se : SO) : Prop := PO X e (tG X.K X.mg X.w (fun _ _ a b => a = b) P W se)
theorem PO.imp {e : Option Expr} {t t' : TO} (h : PO X e t) (k : ∀ σ H Q, t' σ H Q → t σ H Q) : PO X e t' := ⟨fun pins s σ H Q I hw => h.run pins s σ H Q I (k _ _ _ hw)⟩
theorem do_none : DO X P W none soNone := PO.imp po_none fun σV H Q ⟨m, h, σ, A, o⟩ => o none m H (Ext.refl _ _) rfl A.hr
theorem do_some (h : DE X P W a sa) : DO X P W (some a) (soSome sa) := PO.imp (po_some h) fun σV H Q ⟨m, h, σ, A, o⟩ => by
  refine A.first (rel1 := RT X.K X.mg) o fun m1 h1 t x H1 E1 r A1 o1 => ?_
  cases r with
  | int i => exact ⟨i, rfl, o1 (some i) m1 H1 (Ext.refl _ _) rfl A1.hr⟩
  | _ => exact False.elim o1
def rPS (K : PySem.W.Frag) (mg : Str → Option Value) (wd : World) : V → Option Int → Option Int → Hp → VK → Prop := fun x lo hi H Q => ∃ m h t, RT K mg m H t x ∧ HR K mg wd m h H ∧ OutP K mg wd Q m H (oSl t lo hi h)
theorem strOk_cut {z : Str} (hz : PyData.strOk z = true) (lo hi : Option Int) : PyData.strOk (L2.cutS z lo hi) = true := by
  unfold PyData.strOk at hz ⊢
  rw [Array.all_eq_true_iff_forall_mem] at hz ⊢
  intro c hc
  refine hz c ?_
  unfold L2.cutS at hc
  have := List.mem_of_mem_drop (List.mem_of_mem_take (List.mem_toArray.mp hc))
  exact Array.mem_toList_iff.mp this
theorem sls : SlR X (rPS X.K X.mg X.w) := by
  intro pins s σ H x v vl vu lo hi sl Q I rx hs pl pu ⟨m, h, t, r, R, o⟩
  cases r with
  | @tup a vs ts hq r =>
    refine sl_tupN pins s σ H _ v vl vu lo hi sl Q I rx hs pl pu ⟨a, vs, rfl, hq, fun ⟨e1, e2⟩ => ?_, fun _ p ob hp hd => ?_⟩
    · have hc : cutV vs lo hi = vs := by
        unfold cutV; rw [e1, e2]; simp
      have hr := r.cut lo hi
      rw [hc] at hr
      exact o _ m H (Ext.refl _ _) (.tup hq hr) R
    · exact OutP.newTup R (r.cut lo hi) o hp hd
  | @fl a vs ts hq r => exact sl_list pins s σ H _ v vl vu lo hi sl Q I rx hs pl pu ⟨a, vs, rfl, hq.sq, fun p hp => OutP.newLst R (r.cut lo hi) o hp⟩
  | @ref l a e1 =>
    have o' : OutP X.K X.mg X.w Q m H (match lstAt h l with | some ts => alloc (.lst (cutT ts lo hi)) h | none => .stk) := o
    split at o'
    · rename_i ts q1
      obtain ⟨vs, g1, r1⟩ := R.lst e1 q1
      exact sl_list pins s σ H _ v vl vu lo hi sl Q I rx hs pl pu ⟨a, vs, rfl, SqL.of g1, fun p hp => OutP.newLst R (r1.cut lo hi) o' hp⟩
    · exact False.elim o'
  | @str z hz =>
    have o' : OutP X.K X.mg X.w Q m H (if z.length ≤ sizeLine then .ok (.str (L2.cutS z lo hi)) h else .stk) := o
    split at o'
    · rename_i hl
      exact sl_str pins s σ H _ v vl vu lo hi sl Q I rx hs pl pu ⟨z, rfl, hl, o' _ m H (Ext.refl _ _) (.str (strOk_cut hz lo hi)) R⟩
    · exact False.elim o'
  | _ => exact False.elim o
theorem nx_sl (t : T) (lo hi : Option Int) (h : Hh) : ∀ c fs h', oSl t lo hi h ≠ .exc c fs h' := fun c fs h' e => by unfold oSl alloc at e; (repeat' split at e) <;> cases e
theorem de_sl {lo hi : Option Expr} {sl sh : SO} (ha : DE X P W a sa) (hl : DO X P W lo sl) (hh : DO X P W hi sh) : DE X P W (.Subscript a (.Slice lo hi none p2) pos) (sSl sa sl sh) :=
  PE.imp (pe_slice sls ha hl hh) fun σV H Q ⟨m, h, σ, A, o⟩ => by
    refine A.first (rel1 := RT X.K X.mg) o fun m1 h1 t x H1 E1 r A1 o1 => ?_
    refine A1.first (rel1 := fun _ _ a b => a = b) o1 fun m2 h2 l l' H2 E2 r2 A2 o2 => ?_
    refine A2.first (rel1 := fun _ _ a b => a = b) o2 fun m3 h3 u u' H3 E3 r3 A3 o3 => ?_
    subst r2; subst r3
    exact ⟨m3, h3, t, (r.ext E2).ext E3, A3.hr, o3.outP (nx_sl _ _ _ _)⟩
def ClsF (K : PySem.W.Frag) (mg : Str → Option Value) (cs : List (Str × List Str)) : Prop := ∀ c fs C, (c, fs) ∈ cs → mg c = some (.ref C) → Cls K C ∧ ∀ f ∈ fs, NoAttr K C f
theorem args_of {f : List T → Hh → Res T} (hf : NoXL f) {σV : L2.St} {H : Hp} {Q : VK} (h : tI X.K X.mg X.w P W (sCl f ar) σV H Q) : tAr X.K X.mg X.w P W ar σV H fun xs H1 => rPL X.K X.mg X.w f xs H1 Q := by
  obtain ⟨m, h, σ, A, o⟩ := h
  refine A.first (rel1 := RTs X.K X.mg) o fun m1 h1 t1 x H1 E1 r1 A1 o1 => ?_
  exact ⟨m1, h1, t1, r1, A1.hr, o1.outP (hf _ _)⟩
theorem de_callB {id : String} {x : Str} {p : Pos} {f : List T → Hh → Res T} (hc : CallR X (.builtin id) (rPL X.K X.mg X.w f)) (hf : NoXL f) (hg : Gl X x) (hm : X.mg x = none) (hv : bootBuiltins x = some (.builtin id)) (ha : DA X P W (a :: es) ar) (hn : x ≠ "__name__" := by decide) (hdb : (x == ("__debug__" : Str)) = false := by decide)
    (he : starEach (a :: es) X.env = (false, eval a X.env) :: starEach es X.env := by rfl) (hpl : (backTo pos (starEach es X.env)).any (·.1) = false := by rfl) : DE X P W (.Call (.Name x p) (a :: es) [] pos) (sCl f ar) :=
  PE.imp (pe_callB hc hg hm hv ha hn hdb he hpl) fun σV H Q h => args_of hf h
theorem de_callTy {T' : String} {x : Str} {p : Pos} {f : List T → Hh → Res T} (hc : CallR X (.type T') (rPL X.K X.mg X.w f)) (hf : NoXL f) (hg : Gl X x) (hm : X.mg x = none) (hv : bootBuiltins x = some (.type T')) (ha : DA X P W (a :: es) ar) (hn : x ≠ "__name__" := by decide) (hdb : (x == ("__debug__" : Str)) = false := by decide)
    (he : starEach (a :: es) X.env = (false, eval a X.env) :: starEach es X.env := by rfl) (hpl : (backTo pos (starEach es X.env)).any (·.1) = false := by rfl) : DE X P W (.Call (.Name x p) (a :: es) [] pos) (sCl f ar) :=
  PE.imp (pe_callTy hc hg hm hv ha hn hdb he hpl) fun σV H Q h => args_of hf h
theorem nx_len : NoXL bLen := fun x h c fs h' e => by unfold bLen at e; (repeat' split at e) <;> cases e
theorem nx_bint : NoXL bInt := fun x h c fs h' e => by unfold bInt at e; (repeat' split at e) <;> cases e
theorem nx_tuple : NoXL bTuple := fun x h c fs h' e => by unfold bTuple at e; (repeat' split at e) <;> cases e
theorem nx_list : NoXL bList := fun x h c fs h' e => by unfold bList alloc at e; (repeat' split at e) <;> cases e
theorem RTs.one {m : Mp} {H : Hp} {t : T} {vs : List V} (r : RTs X.K X.mg m H [t] vs) : ∃ v, vs = [v] ∧ RT X.K X.mg m H t v := by
  cases r with
  | cons r q => cases q; exact ⟨_, rfl, r⟩
theorem cs_len : CallR X (.builtin "len") (rPL X.K X.mg X.w bLen) := by
  intro pins s σ H xs us Q I ru ⟨m, h, ts, r, R, o⟩
  unfold bLen at o
  split at o
  · obtain ⟨v, rfl, r1⟩ := r.one
    cases r1 with
    | tup hq r2 => exact call_len_seq pins s σ H _ us Q I ru ⟨_, _, rfl, .inr hq, by rw [← r2.length]; exact o _ m H (Ext.refl _ _) (.int _) R⟩
  · obtain ⟨v, rfl, r1⟩ := r.one
    cases r1 with
    | fl hq r2 => exact call_len_seq pins s σ H _ us Q I ru ⟨_, _, rfl, .inl hq.sq, by rw [← r2.length]; exact o _ m H (Ext.refl _ _) (.int _) R⟩
  · obtain ⟨v, rfl, r1⟩ := r.one
    split at o
    · rename_i hz
      cases r1 with
      | str hq => exact call_len_str pins s σ H _ us Q I ru ⟨_, rfl, hz, o _ m H (Ext.refl _ _) (.int _) R⟩
    · exact False.elim o
  · obtain ⟨v, rfl, r1⟩ := r.one
    split at o
    · rename_i ts q1
      cases r1 with
      | ref e1 =>
        obtain ⟨vs, g1, r2⟩ := R.lst e1 q1
        exact call_len_seq pins s σ H _ us Q I ru ⟨_, _, rfl, .inl (SqL.of g1), by rw [← r2.length]; exact o _ m H (Ext.refl _ _) (.int _) R⟩
    · exact False.elim o
  · exact False.elim o
theorem cs_int : CallR X (.type "int") (rPL X.K X.mg X.w bInt) := by
  intro pins s σ H xs us Q I ru ⟨m, h, ts, r, R, o⟩
  unfold bInt at o
  split at o
  · obtain ⟨v, rfl, r1⟩ := r.one
    cases r1 with
    | int i => exact call_int1 pins s σ H _ us Q I ru (.inl ⟨_, rfl, o _ m H (Ext.refl _ _) (.int _) R⟩)
  · exact False.elim o
theorem cs_tuple : CallR X (.type "tuple") (rPL X.K X.mg X.w bTuple) := by
  intro pins s σ H xs us Q I ru ⟨m, h, ts, r, R, o⟩
  unfold bTuple at o
  split at o
  · obtain ⟨v, rfl, r1⟩ := r.one
    cases r1 with
    | tup hq r2 => exact call_tupleN pins s σ H _ us Q I ru ⟨_, _, rfl, .inr ⟨hq.t, o _ m H (Ext.refl _ _) (.tup hq r2) R⟩⟩
  · obtain ⟨v, rfl, r1⟩ := r.one
    cases r1 with
    | fl hq r2 => exact call_tupleN pins s σ H _ us Q I ru ⟨_, _, rfl, .inl ⟨hq.sq, fun p ob hp hd => OutP.newTup R r2 o hp hd⟩⟩
  · obtain ⟨v, rfl, r1⟩ := r.one
    split at o
    · rename_i ts q1
      cases r1 with
      | ref e1 =>
        obtain ⟨vs, g1, r2⟩ := R.lst e1 q1
        exact call_tupleN pins s σ H _ us Q I ru ⟨_, _, rfl, .inl ⟨SqL.of g1, fun p ob hp hd => OutP.newTup R r2 o hp hd⟩⟩
    · exact False.elim o
  · exact False.elim o
theorem cs_list : CallR X (.type "list") (rPL X.K X.mg X.w bList) := by
  intro pins s σ H xs us Q I ru ⟨m, h, ts, r, R, o⟩
  unfold bList at o
  split at o
  · obtain ⟨v, rfl, r1⟩ := r.one
    cases r1 with
    | tup hq r2 => exact call_list_of pins s σ H _ us Q I ru ⟨_, _, rfl, .inr hq, fun p hp => OutP.newLst R r2 o hp⟩
  · obtain ⟨v, rfl, r1⟩ := r.one
    cases r1 with
    | fl hq r2 => exact call_list_of pins s σ H _ us Q I ru ⟨_, _, rfl, .inl hq.sq, fun p hp => OutP.newLst R r2 o hp⟩
  · obtain ⟨v, rfl, r1⟩ := r.one
    split at o
    · rename_i ts q1
      cases r1 with
      | ref e1 =>
        obtain ⟨vs, g1, r2⟩ := R.lst e1 q1
        exact call_list_of pins s σ H _ us Q I ru ⟨_, _, rfl, .inl (SqL.of g1), fun p hp => OutP.newLst R r2 o hp⟩
    · exact False.elim o
  · exact False.elim o
end
end W3
end

section
namespace W3
open PySem PySem.Spec PyProof.Rows
open L2
structure SrcJ (K : PySem.W.Frag) (mg : Str → Option Value) (wd : World) (m : Mp) (H : Hp) (s : Src) (J : It) : Prop where
  go : ∀ m' h' H' i x, Tr m H m' H' → HR K mg wd m' h' H' → s.at h' i = some (some x) → J.go i H' ∧ ∀ y H2, J.yld i H' y H2 → Ext m' H' m' H2 ∧ HR K mg wd m' h' H2 ∧ RT K mg m' H2 x y
  stop : ∀ m' h' H' i, Tr m H m' H' → HR K mg wd m' h' H' → s.at h' i = some none → J.stop i H'
theorem SrcJ.ext {K : PySem.W.Frag} {mg : Str → Option Value} {wd : World} {m m1 : Mp} {H H1 : Hp} {s : Src} {J : It} (S : SrcJ K mg wd m H s J) (E : Ext m H m1 H1) : SrcJ K mg wd m1 H1 s J :=
  ⟨fun m' h' H' i x E' => S.go m' h' H' i x (E.tr.trans E'), fun m' h' H' i E' => S.stop m' h' H' i (E.tr.trans E')⟩
section
variable {K : PySem.W.Frag} {mg : Str → Option Value} {wd : World} {m : Mp} {H : Hp}
theorem srcj_tup {a : Addr} {vs : List V} {ts : List T} (hq : SqT K H a vs) (r : RTs K mg m H ts vs) : SrcJ K mg wd m H (.its ts) (Itt K a) where
  go := fun m' h' H' i x E R e => by
    have e' : ts[i]? = some x := Option.some.inj e
    obtain ⟨v, ev, rv⟩ := r.get e'
    refine ⟨⟨vs, v, SqT.tr E hq, ev⟩, fun y H2 ⟨e1, e2⟩ => ?_⟩
    subst e1
    have := e2 vs (SqT.tr E hq)
    rw [ev] at this; cases this
    exact ⟨Ext.refl _ _, R, rv.tr E⟩
  stop := fun m' h' H' i E R e => by
    have e' : ts[i]? = none := Option.some.inj e
    refine ⟨vs, SqT.tr E hq, ?_⟩
    rw [← r.length]
    exact List.getElem?_eq_none_iff.mp e'
theorem srcj_fl {a : Addr} {vs : List V} {ts : List T} (hq : SqF K H a vs) (r : RTs K mg m H ts vs) : SrcJ K mg wd m H (.its ts) (Itl K a) where
  go := fun m' h' H' i x E R e => by
    have e' : ts[i]? = some x := Option.some.inj e
    obtain ⟨v, ev, rv⟩ := r.get e'
    refine ⟨⟨vs, v, (SqF.tr E hq).sq, ev⟩, fun y H2 ⟨e1, e2⟩ => ?_⟩
    subst e1
    have := e2 vs (SqF.tr E hq).sq
    rw [ev] at this; cases this
    exact ⟨Ext.refl _ _, R, rv.tr E⟩
  stop := fun m' h' H' i E R e => by
    have e' : ts[i]? = none := Option.some.inj e
    refine ⟨vs, (SqF.tr E hq).sq, ?_⟩
    rw [← r.length]
    exact List.getElem?_eq_none_iff.mp e'
theorem srcj_live {l : Nat} {a : Addr} (hl : m l = some a) : SrcJ K mg wd m H (.live l) (Itl K a) where
  go := fun m' h' H' i x E R e => by
    have e' : (match lstAt h' l with | some ts => some ts[i]? | none => none) = some (some x) := e
    split at e'
    · rename_i ts q
      have e2 : ts[i]? = some x := Option.some.inj e'
      obtain ⟨vs, g, r⟩ := R.lst (E.mono _ _ hl) q
      obtain ⟨v, ev, rv⟩ := r.get e2
      refine ⟨⟨vs, v, SqL.of g, ev⟩, fun y H2 ⟨e1, e2⟩ => ?_⟩
      subst e1
      have := e2 vs (SqL.of g)
      rw [ev] at this; cases this
      exact ⟨Ext.refl _ _, R, rv⟩
    · cases e'
  stop := fun m' h' H' i E R e => by
    have e' : (match lstAt h' l with | some ts => some ts[i]? | none => none) = some none := e
    split at e'
    · rename_i ts q
      have e2 : ts[i]? = none := Option.some.inj e'
      obtain ⟨vs, g, r⟩ := R.lst (E.mono _ _ hl) q
      refine ⟨vs, SqL.of g, ?_⟩
      rw [← r.length]
      exact List.getElem?_eq_none_iff.mp e2
    · cases e'
theorem rangeT_get : ∀ (n : Nat) (lo : Int) (i : Nat), (rangeT lo n)[i]? = if i < n then some (.int (lo + i)) else none
  | 0, lo, i => by simp [rangeT]
  | n + 1, lo, 0 => by simp [rangeT]
  | n + 1, lo, i + 1 => by
    show (rangeT (lo + 1) n)[i]? = _
    rw [rangeT_get n (lo + 1) i]
    by_cases h : i < n
    · rw [if_pos h, if_pos (by omega)]
      congr 2
      push_cast
      omega
    · rw [if_neg h, if_neg (by omega)]
theorem srcj_range (lo : Int) (n : Nat) : SrcJ K mg wd m H (.its (rangeT lo n)) (Itr lo n) where
  go := fun m' h' H' i x E R e => by
    have e' : (rangeT lo n)[i]? = some x := Option.some.inj e
    rw [rangeT_get] at e'
    split at e'
    · rename_i hi
      cases e'
      refine ⟨hi, fun y H2 ⟨e1, e2⟩ => ?_⟩
      subst e1; subst e2
      exact ⟨Ext.refl _ _, R, .int _⟩
    · cases e'
  stop := fun m' h' H' i E R e => by
    have e' : (rangeT lo n)[i]? = none := Option.some.inj e
    rw [rangeT_get] at e'
    split at e'
    · cases e'
    · rename_i hi
      exact Nat.le_of_not_lt hi
theorem srcj_str {z : Str} (hz : PyData.strOk z = true) : SrcJ K mg wd m H (.its (z.cps.toList.map fun c => .str ⟨#[c]⟩)) (Its z) where
  go := fun m' h' H' i x E R e => by
    have e' : (z.cps.toList.map fun c => T.str ⟨#[c]⟩)[i]? = some x := Option.some.inj e
    rw [List.getElem?_map] at e'
    cases q : z.cps.toList[i]? with
    | none => rw [q] at e'; cases e'
    | some c =>
      rw [q] at e'
      have e2 : T.str ⟨#[c]⟩ = x := Option.some.inj e'
      subst e2
      have hi : i < z.cps.size := by
        have := (List.getElem?_eq_some_iff.mp q).1
        simpa using this
      refine ⟨hi, fun y H2 ⟨e1, c', e3, e4⟩ => ?_⟩
      subst e1; subst e4
      have e5 : z.cps[i]? = some c := by rw [← Array.getElem?_toList]; exact q
      rw [e5] at e3; cases e3
      refine ⟨Ext.refl _ _, R, .str ?_⟩
      unfold PyData.strOk at *
      rw [← Array.all_toList, List.all_eq_true] at hz
      have := hz c (List.mem_of_getElem? q)
      simpa using this
  stop := fun m' h' H' i E R e => by
    have e' : (z.cps.toList.map fun c => T.str ⟨#[c]⟩)[i]? = none := Option.some.inj e
    have := List.getElem?_eq_none_iff.mp e'
    show z.cps.size ≤ i
    simpa using this
end
abbrev DI (X : Cx) (P : Pq) (W : WX) (tg iter : Expr) (si : SI) : Prop := PI X tg iter (tG X.K X.mg X.w (SrcJ X.K X.mg X.w) P W si)
section
variable {X : Cx} {P : Pq} {W : WX} {a b c tg iter : Expr} {sa sb sc : SE} {pos : Pos} {es : List Expr} {ar : SA} {si : SI} {ta tb : ST} {rest : List Expr}
theorem PI.imp {tg iter : Expr} {t t' : TI} (h : PI X tg iter t) (k : ∀ σ H R, t' σ H R → t σ H R) : PI X tg iter t' := ⟨fun pins s σ H R I hw => h.run pins s σ H R I (k _ _ _ hw)⟩
theorem iList_and {tl : TE} (hl : PE X iter tl) : PI X tg iter (fun σ H R => tl σ H fun x H1 => (∃ a, x = .ref a ∧ (∃ xs, SqL X.K H1 a xs) ∧ R (Itl X.K a) H1) ∨ (∃ a, x = .ref a ∧ (∃ xs, SqT X.K H1 a xs) ∧ R (Itt X.K a) H1) ∨ ∃ z, x = .str z ∧ R (Its z) H1) := by
  refine ⟨fun pins s σ H R I h => ?_⟩
  refine thn (hl.run pins s σ H _ I h) fun v s1 ⟨x, H1, I1, r1, q1⟩ => ?_
  rcases q1 with ⟨a, e, ⟨xs, hq⟩, q⟩ | ⟨a, e, ⟨xs, hq⟩, q⟩ | ⟨z, e, q⟩
  · subst e
    cases r1
    obtain ⟨its, rv, p, hz⟩ := I1.list hq
    refine wpAny_pyIter_list p.isList ?_
    refine ⟨s1.heap.objs.size, [s1.heap.objs.size], _, _, H1, rfl, I1.kept (t' := s1.toks) fun b o e => Heap.get?_push_of_some _ e, turn_list a _, ⟨_, Heap.get?_push_size _ rfl, rfl, rfl⟩, fun b hb => ?_, q⟩
    have e : b = s1.heap.objs.size := by simpa using hb
    subst e
    exact I1.fpOk (Nat.le_refl _) (I1.hok.fresh (Nat.le_refl _))
  · subst e
    cases r1
    obtain ⟨its, rv, p, hz⟩ := I1.tuple hq
    refine wpAny_pyIter_tuple (show s1.heap.IsTuple a its.toArray from p) ?_
    refine ⟨s1.heap.objs.size, [s1.heap.objs.size], _, _, H1, rfl, I1.kept (t' := s1.toks) fun b o e => Heap.get?_push_of_some _ e, turn_tuple a _, ⟨_, Heap.get?_push_size _ rfl, rfl, rfl⟩, fun b hb => ?_, q⟩
    have e : b = s1.heap.objs.size := by simpa using hb
    subst e
    exact I1.fpOk (Nat.le_refl _) (I1.hok.fresh (Nat.le_refl _))
  · subst e
    obtain ⟨t, rfl⟩ := r1
    cases ha : z.cps.all (· < 128)
    · exact wpAny_pyIter_wide ha (pi_one (tk := s1.toks) I1 _ (turn_str _ z t "str_iterator" (.inr rfl)) ⟨_, Heap.get?_push_size _ rfl, rfl, rfl⟩ q)
    · exact wpAny_pyIter_ascii ha (pi_one (tk := s1.toks) I1 _ (turn_str _ z t "str_ascii_iterator" (.inl rfl)) ⟨_, Heap.get?_push_size _ rfl, rfl, rfl⟩ q)
theorem di_e (ha : DE X P W iter sa) : DI X P W tg iter (siE sa) := PI.imp (iList_and ha) fun σV H R ⟨m, h, σ, A, o⟩ => by
  refine A.first (rel1 := RT X.K X.mg) o fun m1 h1 t x H1 E1 r A1 o1 => ?_
  cases r with
  | @tup a vs ts hq r => exact .inr (.inl ⟨a, rfl, ⟨vs, hq⟩, o1 _ m1 H1 (Ext.refl _ _) (srcj_tup hq r) A1.hr⟩)
  | @fl a vs ts hq r => exact .inl ⟨a, rfl, ⟨vs, hq.sq⟩, o1 _ m1 H1 (Ext.refl _ _) (srcj_fl hq r) A1.hr⟩
  | @str z hz => exact .inr (.inr ⟨z, rfl, o1 _ m1 H1 (Ext.refl _ _) (srcj_str hz) A1.hr⟩)
  | @ref l a e1 =>
    have o' : Out X.K X.mg X.w (SrcJ X.K X.mg X.w) W σV R m1 H1 (match lstAt h1 l with | some _ => .ok (.live l) h1 | none => .stk) := o1
    split at o'
    · rename_i ts q1
      obtain ⟨vs, g1, r1⟩ := A1.hr.lst e1 q1
      exact .inl ⟨a, rfl, ⟨vs, SqL.of g1⟩, o' _ m1 H1 (Ext.refl _ _) (srcj_live e1) A1.hr⟩
    · exact False.elim o'
  | _ => exact False.elim o1
theorem di_range1 {p : Pos} (hg : Gl X "range") (hm : X.mg "range" = none) (ha : DA X P W [a] ar) (hs : starEach [a] X.env = [(false, eval a X.env)] := by rfl) : DI X P W tg (.Call (.Name "range" p) [a] [] pos) (siRange1 ar) :=
  PI.imp (pi_range1 hg hm ha hs) fun σV H R ⟨m, h, σ, A, o⟩ => by
    refine A.first (rel1 := RTs X.K X.mg) o fun m1 h1 ts x H1 E1 r A1 o1 => ?_
    unfold rngOf at o1
    split at o1
    · obtain ⟨v, rfl, r1⟩ := r.one
      cases r1 with
      | int _ =>
        rename_i j
        split at o1
        · rename_i hj
          exact ⟨j, rfl, hj.1, hj.2, o1 _ m1 H1 (Ext.refl _ _) (srcj_range 0 j.toNat) A1.hr⟩
        · exact False.elim o1
    · exact False.elim o1
def Only3 (is : List Nat) (σV σV' : L2.St) : Prop := σV'.length = σV.length ∧ ∀ j, j ∉ is → σV'[j]? = σV[j]?
def tTg (K : PySem.W.Frag) (mg : Str → Option Value) (wd : World) (P : Pq) (is : List Nat) (g : SG) : TG := fun v σV H Q => ∃ m h σ t, At K mg wd P m H σV σ h ∧ RT K mg m H t v ∧
  (match g t σ with | some σ' => ∀ σV', SR K mg m H σ' σV' → Only3 is σV σV' → Q σV' H | none => False)
def tTgs (K : PySem.W.Frag) (mg : Str → Option Value) (wd : World) (P : Pq) (is : List Nat) (g : SGs) : TGs := fun vs σV H Q => ∃ m h σ ts, At K mg wd P m H σV σ h ∧ RTs K mg m H ts vs ∧
  (match g ts σ with | some σ' => ∀ σV', SR K mg m H σ' σV' → Only3 is σV σV' → Q σV' H | none => False)
abbrev DG (X : Cx) (P : Pq) (tg : Expr) (is : List Nat) (g : SG) : Prop := PG X tg (tTg X.K X.mg X.w P is g)
abbrev DGs (X : Cx) (P : Pq) (ts : List Expr) (is : List Nat) (g : SGs) : Prop := PGs X ts (tTgs X.K X.mg X.w P is g)
theorem PG.imp {tg : Expr} {t t' : TG} (h : PG X tg t) (k : ∀ v σ H Q, t' v σ H Q → t v σ H Q) : PG X tg t' := ⟨fun pins s σ H v u Q I r hw => h.run pins s σ H v u Q I r (k _ _ _ _ hw)⟩
theorem PGs.imp {tg : List Expr} {t t' : TGs} (h : PGs X tg t) (k : ∀ v σ H Q, t' v σ H Q → t v σ H Q) : PGs X tg t' := ⟨fun pins s σ H v u Q I r hw => h.run pins s σ H v u Q I r (k _ _ _ _ hw)⟩
theorem SR.set {m : Mp} {H : Hp} {σ : St3} {σV : L2.St} (r : SR X.K X.mg m H σ σV) {t : T} {v : V} (q : RT X.K X.mg m H t v) (i : Nat) : SR X.K X.mg m H (σ.set i (some t)) (σV.set i (some v)) := by
  refine ⟨by rw [List.length_set, List.length_set]; exact r.1, fun j u e => ?_⟩
  by_cases hj : i = j
  · subst hj
    by_cases hi : i < σ.length
    · rw [List.getElem?_set_self hi] at e
      cases e
      exact ⟨v, by rw [List.getElem?_set_self (by rw [← r.1]; exact hi)], q⟩
    · rw [List.getElem?_eq_none (by rw [List.length_set]; omega)] at e
      cases e
  · rw [List.getElem?_set_ne hj] at e
    obtain ⟨w, e2, q2⟩ := r.2 j u e
    exact ⟨w, by rw [List.getElem?_set_ne hj]; exact e2, q2⟩
theorem dg_name {i : Nat} {x : Str} (hN : X.N.Nodup) (hi : X.N[i]? = some x) (hx : Loc X.env.scope x) (hf : X.fn x = true ∨ X.env.scope.names.lookup x = some .local := by first | exact .inl rfl | exact .inr rfl | assumption) : DG X P (.Name x pos) [i] (sgName i) :=
  PG.imp (pg_name hN hi hx hf) fun v σV H Q ⟨m, h, σ, t, A, r, q⟩ => by
    refine q (σV.set i (some v)) (A.sr.set r i) ⟨List.length_set, fun j hj => ?_⟩
    rw [List.getElem?_set_ne (fun e => hj (by simp [e]))]
theorem dgs_nil : DGs X P [] [] sgsNil := PGs.imp pgs_nil fun vs σV H Q ⟨m, h, σ, ts, A, r, q⟩ => by
  cases r with
  | nil => exact ⟨rfl, q σV A.sr ⟨rfl, fun _ _ => rfl⟩⟩
  | cons _ _ => exact False.elim q
theorem dgs_cons {e : Expr} {is js : List Nat} {g : SG} {gs : SGs} (h1 : DG X P e is g) (h2 : DGs X P es js gs) (hs : (assignEach (e :: es) X.env).map (·.2) = assign e X.env :: (assignEach es X.env).map (·.2) := by rfl) : DGs X P (e :: es) (is ++ js) (sgsCons g gs) :=
  PGs.imp (pgs_cons h1 h2 hs) fun vs σV H Q ⟨m, h, σ, ts, A, r, q⟩ => by
    cases r with
    | nil => exact False.elim q
    | @cons t ts v vs r rr =>
      refine ⟨v, vs, rfl, m, h, σ, t, A, r, ?_⟩
      have q' : (match (match g t σ with | some σ1 => gs ts σ1 | none => none) with | some σ' => ∀ σV', SR X.K X.mg m H σ' σV' → Only3 (is ++ js) σV σV' → Q σV' H | none => False) := q
      cases e1 : g t σ with
      | none => rw [e1] at q'; exact q'
      | some σ1 =>
        rw [e1] at q'
        intro σV1 s1 o1
        refine ⟨m, h, σ1, ts, ⟨s1, A.hr, A.pr⟩, rr, ?_⟩
        have q2 : (match gs ts σ1 with | some σ' => ∀ σV', SR X.K X.mg m H σ' σV' → Only3 (is ++ js) σV σV' → Q σV' H | none => False) := q'
        cases e2 : gs ts σ1 with
        | none => rw [e2] at q2; exact q2
        | some σ2 =>
          rw [e2] at q2
          intro σV2 s2 o2
          refine q2 σV2 s2 ⟨o2.1.trans o1.1, fun j hj => ?_⟩
          have hj' : j ∉ is ∧ j ∉ js := by simpa [not_or] using hj
          exact (o2.2 j hj'.2).trans (o1.2 j hj'.1)
theorem dg_tup {k n : Nat} {is : List Nat} {gs : SGs} (hc : X.calm = true) (h : DGs X P es is gs) (hn : (assignEach es X.env).length = n := by rfl) (hst : (assignEach es X.env).findIdx? (·.1) = none := by rfl) : DG X P (.Tuple es k pos) is (sgTup n gs) :=
  PG.imp (pg_tup hc h hn hst) fun v σV H Q ⟨m, h, σ, t, A, r, q⟩ => by
    cases r with
    | @tup a vs ts hq r =>
      have q' : (match (if ts.length = n then gs ts σ else none) with | some σ' => ∀ σV', SR X.K X.mg m H σ' σV' → Only3 is σV σV' → Q σV' H | none => False) := q
      split at q'
      · rename_i σ' e
        split at e
        · rename_i hl
          refine ⟨a, vs, rfl, hq, by rw [← r.length]; exact hl, m, h, σ, ts, A, r, ?_⟩
          rw [e]; exact q'
        · cases e
      · exact False.elim q'
    | _ => exact False.elim q
def relL (K : PySem.W.Frag) (mg : Str → Option Value) (H0 : Hp) (m : Mp) (H : Hp) (ts : List T) (v : V) : Prop :=
  ∃ D vs, v = .ref D ∧ H0 D = none ∧ H D = some (.lst vs) ∧ RTs K mg m H ts vs ∧ ∀ l, m l ≠ some D
def tL (K : PySem.W.Frag) (mg : Str → Option Value) (wd : World) (P : Pq) (W : WX) (sa : SA) : TE := fun σV H Q => tG K mg wd (relL K mg H) P W sa σV H Q
abbrev DL (X : Cx) (P : Pq) (W : WX) (e : Expr) (sa : SA) : Prop := PE X e (tL X.K X.mg X.w P W sa)
abbrev DTs (X : Cx) (P : Pq) (W : WX) (es : List Expr) (se : ST) : Prop := PTs X es (tTst X.K X.mg X.w P W se)
theorem PTs.imp {es : List Expr} {t t' : TT} (h : PTs X es t) (k : ∀ σ H Q, t' σ H Q → t σ H Q) : PTs X es t' := ⟨fun pins s σ H Q I hw => h.run pins s σ H Q I (k _ _ _ hw)⟩
theorem dts_nil : DTs X P W [] stYes := PTs.imp pts_nil fun σV H Q ⟨m, h, σ, A, o⟩ => o true m H (Ext.refl _ _) rfl A.hr
def WF : WX := fun _ _ _ _ => False
theorem SR.wipe {m : Mp} {H : Hp} {σ : St3} {σV : L2.St} (r : SR X.K X.mg m H σ σV) : ∀ vs : List Nat, SR X.K X.mg m H (wipeT σ vs) (L2.wipe σV vs)
  | [] => r
  | v :: vs => by
    have ih := SR.wipe r vs
    refine ⟨by unfold wipeT L2.wipe; rw [List.length_set, List.length_set]; exact ih.1, fun j u e => ?_⟩
    unfold wipeT at e
    unfold L2.wipe
    by_cases hj : v = j
    · subst hj
      by_cases hi : v < (wipeT σ vs).length
      · rw [List.getElem?_set_self hi] at e; cases e
      · rw [List.getElem?_eq_none (by rw [List.length_set]; omega)] at e; cases e
    · rw [List.getElem?_set_ne hj] at e ⊢
      exact ih.2 j u e
theorem wipe_get (σV : L2.St) : ∀ (vs : List Nat) (j : Nat), (L2.wipe σV vs)[j]? = if j ∈ vs ∧ j < σV.length then some none else σV[j]?
  | [], j => by simp [L2.wipe]
  | v :: vs, j => by
    unfold L2.wipe
    by_cases hj : v = j
    · subst hj
      by_cases hi : v < σV.length
      · rw [List.getElem?_set_self (by rw [wipe_length]; exact hi), if_pos ⟨List.mem_cons_self, hi⟩]
      · rw [List.getElem?_eq_none (by rw [List.length_set, wipe_length]; omega), if_neg (fun z => hi z.2), List.getElem?_eq_none (by omega)]
    · rw [List.getElem?_set_ne hj, wipe_get σV vs j]
      have : (j ∈ v :: vs ∧ j < σV.length) ↔ (j ∈ vs ∧ j < σV.length) := by
        simp only [List.mem_cons]
        constructor
        · rintro ⟨z | z, w⟩
          · exact absurd z.symm hj
          · exact ⟨z, w⟩
        · rintro ⟨z, w⟩; exact ⟨.inr z, w⟩
      by_cases hh : j ∈ vs ∧ j < σV.length
      · rw [if_pos hh, if_pos (this.mpr hh)]
      · rw [if_neg hh, if_neg (fun z => hh (this.mp z))]
theorem wipe_only {is vs : List Nat} {σV σV' : L2.St} (hs : ∀ i ∈ is, i ∈ vs) (o : Only3 is (L2.wipe σV vs) σV') : L2.wipe σV' vs = L2.wipe σV vs := by
  apply List.ext_getElem?
  intro j
  rw [wipe_get, wipe_get]
  have hl : σV'.length = σV.length := by rw [o.1, wipe_length]
  by_cases hj : j ∈ vs ∧ j < σV.length
  · rw [if_pos (by rw [hl]; exact hj), if_pos hj]
  · rw [if_neg (by rw [hl]; exact hj), if_neg hj]
    by_cases hj2 : j ∈ vs
    · have : ¬ j < σV.length := fun z => hj ⟨hj2, z⟩
      rw [List.getElem?_eq_none (by omega), List.getElem?_eq_none (by omega)]
    · rw [o.2 j (fun z => hj2 (hs j z)), wipe_get, if_neg (fun z => hj2 z.1)]
theorem lc_read {is vs : List Nat} {g : SG} {tt : ST} {te : SE} (his : ∀ i ∈ is, i ∈ vs) {σV : L2.St} {H : Hp} {Q : VK} (h : tL X.K X.mg X.w P W (saLc si g tt te vs) σV H Q) :
    tLc (tG X.K X.mg X.w (SrcJ X.K X.mg X.w) P W si) (tTg X.K X.mg X.w P is g) (tTst X.K X.mg X.w P WF tt) (tI X.K X.mg X.w P WF te) vs σV H Q := by
  obtain ⟨m, h, σ, A, o⟩ := h
  refine A.first (rel1 := SrcJ X.K X.mg X.w) o fun m1 h1 s J H1 E1 S A1 o1 D hD => ?_
  have hD0 : H D = none := by
    cases q : H D with
    | none => rfl
    | some u =>
      obtain ⟨w, e⟩ := E1.live D u q
      rw [hD] at e; cases e
  refine ⟨fun i k H' => ∃ m' h' acc accV, Ext m1 H1 m' H' ∧ HR X.K X.mg X.w m' h' H' ∧ H' D = some (.lst accV) ∧ RTs X.K X.mg m' H' acc accV ∧ (∀ l, m' l ≠ some D) ∧
    Out X.K X.mg X.w (relL X.K X.mg H) W σV Q m1 H1 (lcRun s g tt te (wipeT σ vs) k i acc h'), ⟨s.len h1, m1, h1, [], [], Ext.garbage A1.hr hD, A1.hr.garbage hD, upd_same, .nil, fun l e => ?_, o1⟩, ?_⟩
  · obtain ⟨u, e2, _⟩ := A1.hr.tracked e
    rw [hD] at e2; cases e2
  rintro i k H' ⟨m', h', acc, accV, E', R', hDl, racc, nD, o'⟩
  unfold lcRun at o'
  cases es : s.at h' i with
  | none => rw [es] at o'; exact False.elim o'
  | some ox =>
    cases ox with
    | none =>
      rw [es] at o'
      exact .inl ⟨S.stop m' h' H' i E'.tr R' es, o' _ m' H' E' ⟨D, accV, rfl, hD0, hDl, racc, nD⟩ R'⟩
    | some x =>
      rw [es] at o'
      cases k with
      | zero => exact False.elim o'
      | succ k =>
        obtain ⟨jg, jy⟩ := S.go m' h' H' i x E'.tr R' es
        refine .inr ⟨jg, _, fun H'' q => ⟨k, Nat.lt_succ_self k, q⟩, fun y H2 hy => ?_⟩
        obtain ⟨E2, R2, rx⟩ := jy y H2 hy
        have A2 : At X.K X.mg X.w P m' H2 (L2.wipe σV vs) (wipeT σ vs) h' := ⟨((A1.sr.ext (E'.trans E2)).wipe vs), R2, P.st (E'.trans E2) A1.pr⟩
        refine ⟨m', h', wipeT σ vs, x, A2, rx, ?_⟩
        have keepD : ∀ {m3 H3}, Ext m' H2 m3 H3 → H3 D = some (.lst accV) ∧ ∀ l, m3 l ≠ some D := fun {m3 H3} E3 => by
          have d2 : H2 D = some (.lst accV) := E2.keep D _ hDl nD
          refine ⟨E3.keep D _ d2 nD, fun l e => ?_⟩
          rcases E3.fresh l D e with z | z
          · exact nD l z
          · rw [d2] at z; cases z
        dsimp only at o'
        cases eg : g x (wipeT σ vs) with
        | none => rw [eg] at o'; exact False.elim o'
        | some σ1 =>
          rw [eg] at o'
          intro σV1 s1 only
          refine ⟨wipe_only his only, m', h', σ1, ⟨s1, R2, A2.pr⟩, ?_⟩
          dsimp only at o'
          cases et : tt σ1 h' with
          | exc c fs h3 => rw [et] at o'; exact False.elim o'
          | stk => rw [et] at o'; exact False.elim o'
          | ok b h3 =>
            rw [et] at o'
            dsimp only at o'
            intro b' m3 H3 E3 eb R3
            subst eb
            cases b with
            | false =>
              rw [if_neg Bool.false_ne_true] at o' ⊢
              obtain ⟨d3, n3⟩ := keepD E3
              exact ⟨m3, h3, acc, accV, (E'.trans E2).trans E3, R3, d3, (racc.ext E2).ext E3, n3, o'⟩
            | true =>
              rw [if_pos rfl] at o' ⊢
              refine ⟨m3, h3, σ1, ⟨s1.ext E3, R3, P.st E3 A2.pr⟩, ?_⟩
              cases ee : te σ1 h3 with
              | exc c fs h4 => rw [ee] at o'; exact False.elim o'
              | stk => rw [ee] at o'; exact False.elim o'
              | ok t h4 =>
                rw [ee] at o'
                dsimp only at o'
                intro y' m4 H4 E4 rt R4
                obtain ⟨d4, n4⟩ := keepD (E3.trans E4)
                split at o'
                · rename_i hz
                  refine ⟨accV, d4, by rw [← racc.length]; exact hz, m4, h4, acc ++ [t], accV ++ [y'], ?_, R4.out d4 n4, upd_same, ?_, n4, o'⟩
                  · exact Ext.out (((E'.trans E2).trans E3).trans E4) hD
                  · have r4 := (((racc.ext E2).ext E3).ext E4).append (.cons rt .nil)
                    exact r4.tr (Tr.out d4)
                · exact False.elim o'
theorem dl_lc {elt : Expr} {ifs : List Expr} {scope : Scope} {own : List (Str × Nat)} {is : List Nat} {g : SG} {tt : ST} {te : SE} (hc : X.calm = true) (hN : X.N.Nodup) (hi : DI X P W tg iter si) (ok : BlkOk X.N X.env.scope scope own)
    (hg : ∀ (s : Shared) (H : Hp) (C : Addr) (cl : List (Str × Addr)) (fp : List Addr), DG (X.blk s H scope (compEnvC scope cl C X.env) fp) P tg is g)
    (ht : ∀ (s : Shared) (H : Hp) (C : Addr) (cl : List (Str × Addr)) (fp : List Addr), DTs (X.blk s H scope (compEnvC scope cl C X.env) fp) P WF ifs tt)
    (he : ∀ (s : Shared) (H : Hp) (C : Addr) (cl : List (Str × Addr)) (fp : List Addr), DE (X.blk s H scope (compEnvC scope cl C X.env) fp) P WF elt te)
    (his : ∀ i ∈ is, i ∈ own.map (·.2) := by decide) (hs : ∀ x, foldedSetIterable iter X.env x = pure x := by intro _; rfl) :
    DL X P W (.ListComp elt [⟨tg, iter, ifs, 0⟩] scope pos) (saLc si g tt te (own.map (·.2))) := by
  exact PE.imp (pe_lc (own := own) (wi := tG X.K X.mg X.w (SrcJ X.K X.mg X.w) P W si) (g := tTg X.K X.mg X.w P is g) (tt := tTst X.K X.mg X.w P WF tt) (te := tI X.K X.mg X.w P WF te) hc hN hi ok hg ht he hs) fun σV H Q h => lc_read his h
theorem lc_keep {sa : SA} {σV : L2.St} {H : Hp} {Q : VK} (h : tI X.K X.mg X.w P W (sLc sa) σV H Q) : tL X.K X.mg X.w P W sa σV H Q := by
  obtain ⟨m, h, σ, A, o⟩ := h
  refine ⟨m, h, σ, A, ?_⟩
  unfold sLc at o
  cases e : sa σ h with
  | exc c fs h1 => rw [e] at o; exact o
  | stk => rw [e] at o; exact o
  | ok ts h1 =>
    rw [e] at o
    rintro v m1 H1 E1 ⟨D, vs, rfl, hD, d1, r1, n1⟩ R1
    have o' : Out X.K X.mg X.w (RT X.K X.mg) W σV Q m H (alloc (.lst ts) h1) := o
    have hne : ∀ l a, m1 l = some a → l ≠ h1.length := fun l a e => Nat.ne_of_lt (R1.dom l a e)
    have E2 : Ext m H (m1.put h1.length D) H1 := ⟨fun l a e => by rw [Mp.put_ne (hne l a (E1.mono l a e))]; exact E1.mono l a e, fun l a e => by
        by_cases hl : l = h1.length
        · subst hl; rw [Mp.put_same] at e; cases e; exact .inr hD
        · rw [Mp.put_ne hl] at e; exact E1.fresh l a e, E1.live, E1.keep, E1.tups, E1.frzs, E1.xds⟩
    have T2 : Tr m1 H1 (m1.put h1.length D) H1 := ⟨fun l a e => by rw [Mp.put_ne (hne l a e)]; exact e, fun _ _ q => q, fun _ _ _ q => q⟩
    refine o' _ (m1.put h1.length D) H1 E2 (.ref Mp.put_same) ⟨fun l a e => ?_, fun l l' a e e' => ?_, fun l u q => ?_⟩
    · rw [List.length_append, List.length_singleton]
      by_cases hl : l = h1.length
      · omega
      · rw [Mp.put_ne hl] at e; have := R1.dom l a e; omega
    · by_cases hl : l = h1.length
      · by_cases hl' : l' = h1.length
        · rw [hl, hl']
        · rw [hl, Mp.put_same] at e; cases e
          rw [Mp.put_ne hl'] at e'
          exact absurd e' (n1 l')
      · by_cases hl' : l' = h1.length
        · rw [hl', Mp.put_same] at e'; cases e'
          rw [Mp.put_ne hl] at e
          exact absurd e (n1 l)
        · rw [Mp.put_ne hl] at e; rw [Mp.put_ne hl'] at e'
          exact R1.inj l l' a e e'
    · by_cases hl : l < h1.length
      · rw [List.getElem?_append_left hl] at q
        obtain ⟨a, e1, r⟩ := R1.ob l u q
        exact ⟨a, T2.mono l a e1, r.moveT T2 rfl⟩
      · have : l = h1.length := by
          have := (List.getElem?_eq_some_iff.mp q).1
          rw [List.length_append, List.length_singleton] at this
          omega
        subst this
        simp at q
        subst q
        exact ⟨D, Mp.put_same, vs, d1, r1.tr T2⟩
theorem de_lc {e : Expr} {sa : SA} (h : DL X P W e sa) : DE X P W e (sLc sa) := PE.imp h fun σV H Q h => lc_keep h
end
end W3
end

section
namespace W3
open PySem PySem.Spec PyProof.Rows
open L2
section
variable (K : PySem.W.Frag) (mg : Str → Option Value) (wd : World)
def OutS (W : WX) (D : Ends) (m : Mp) (H : Hp) : Flo → Prop
  | .nx σ' h' => ∀ σV' m' H', Ext m H m' H' → SR K mg m' H' σ' σV' → HR K mg wd m' h' H' → D.nx σV' H'
  | .rt t h' => ∀ v m' H', Ext m H m' H' → RT K mg m' H' t v → HR K mg wd m' h' H' → D.rt v H'
  | .bk σ' h' => ∀ σV' m' H', Ext m H m' H' → SR K mg m' H' σ' σV' → HR K mg wd m' h' H' → D.bk σV' H'
  | .ct σ' h' => ∀ σV' m' H', Ext m H m' H' → SR K mg m' H' σ' σV' → HR K mg wd m' h' H' → D.ct σV' H'
  | .exc c fs σ' h' => ∀ cls d σV' m' H', Ext m H m' H' → SR K mg m' H' σ' σV' → XR K mg m' H' c fs cls d → HR K mg wd m' h' H' → W cls d σV' H'
  | .stk => False
def tS (P : Pq) (W : WX) (ss : SS) : TS := fun D σV H => ∃ m h σ, At K mg wd P m H σV σ h ∧ OutS K mg wd W D m H (ss σ h)
end
abbrev DS (X : Cx) (P : Pq) (W : WX) (st : Stmt) (ss : SS) : Prop := PS X st (tS X.K X.mg X.w P W ss)
abbrev DSs (X : Cx) (P : Pq) (W : WX) (st : List Stmt) (ss : SS) : Prop := PSs X st (tS X.K X.mg X.w P W ss)
section
variable {K : PySem.W.Frag} {mg : Str → Option Value} {wd : World} {m m' : Mp} {H H' : Hp} {h : Hh} {P : Pq} {W : WX} {σV : L2.St} {σ : St3} {D : Ends}
theorem OutS.ext {r : Flo} (E : Ext m H m' H') (o : OutS K mg wd W D m H r) : OutS K mg wd W D m' H' r := by
  cases r with
  | nx σ h => exact fun v m2 H2 E2 => o v m2 H2 (E.trans E2)
  | rt σ h => exact fun v m2 H2 E2 => o v m2 H2 (E.trans E2)
  | bk σ h => exact fun v m2 H2 E2 => o v m2 H2 (E.trans E2)
  | ct σ h => exact fun v m2 H2 E2 => o v m2 H2 (E.trans E2)
  | exc c fs σ h => exact fun c d v m2 H2 E2 => o c d v m2 H2 (E.trans E2)
  | stk => exact o
theorem At.flo {α β : Type} {rel1 : Mp → Hp → α → β → Prop} {se : St3 → Hh → Res α} {k : α → Hh → Flo} {Q1 : β → Hp → Prop} (A : At K mg wd P m H σV σ h) (o : OutS K mg wd W D m H ((se σ h).flo σ k))
    (q : ∀ m1 h1 a b H1, Ext m H m1 H1 → rel1 m1 H1 a b → At K mg wd P m1 H1 σV σ h1 → OutS K mg wd W D m1 H1 (k a h1) → Q1 b H1) : tG K mg wd rel1 P W se σV H Q1 := by
  refine ⟨m, h, σ, A, ?_⟩
  cases e : se σ h with
  | ok a h1 =>
    rw [e] at o
    exact fun b m1 H1 E1 r1 R1 => q m1 h1 a b H1 E1 r1 (A.ext E1 R1) (OutS.ext E1 o)
  | exc c fs h1 =>
    rw [e] at o
    exact fun cls d m1 H1 E1 x R1 => o cls d σV m1 H1 E1 (A.sr.ext E1) x R1
  | stk => rw [e] at o; exact o
end
section
variable {X : Cx} {P : Pq} {W : WX} {a b c tg iter : Expr} {sa sb sc : SE} {pos pos' : Pos} {es : List Expr} {ar : SA} {si : SI} {ta tb : ST} {st : Stmt} {rest body : List Stmt} {x1 x2 : SS}
theorem ds_nil : DSs X P W [] ssNil := PSs.imp pss_nil fun D σV H ⟨m, h, σ, A, o⟩ => o σV m H (Ext.refl _ _) A.sr A.hr
theorem ds_cons (h1 : DS X P W st x1) (h2 : DSs X P W rest x2) : DSs X P W (st :: rest) (ssCons x1 x2) := PSs.imp (pss_cons h1 h2) fun D σV H ⟨m, h, σ, A, o⟩ => by
  refine ⟨m, h, σ, A, ?_⟩
  have o' : OutS X.K X.mg X.w W D m H ((x1 σ h).seq x2) := o
  cases e : x1 σ h with
  | nx σ1 h1 =>
    rw [e] at o'
    exact fun σV1 m1 H1 E1 s1 R1 => ⟨m1, h1, σ1, ⟨s1, R1, P.st E1 A.pr⟩, OutS.ext E1 o'⟩
  | rt t h1 => rw [e] at o'; exact o'
  | bk σ1 h1 => rw [e] at o'; exact o'
  | ct σ1 h1 => rw [e] at o'; exact o'
  | exc c fs σ1 h1 => rw [e] at o'; exact o'
  | stk => rw [e] at o'; exact o'
theorem ds_if {p q : List Stmt} (hc : DT X P W c ta) (ha : DSs X P W p x1) (hb : DSs X P W q x2) : DS X P W (.If c p q pos) (ssIf ta x1 x2) := PS.imp (ps_if hc ha hb) fun D σV H ⟨m, h, σ, A, o⟩ => by
  refine A.flo (rel1 := fun _ _ a b => a = b) o fun m1 h1 t x H1 E1 r A1 o1 => ?_
  subst r
  cases t with
  | true => exact ⟨m1, h1, σ, A1, o1⟩
  | false => exact ⟨m1, h1, σ, A1, o1⟩
theorem ds_ret (ha : DE X P W a sa) : DS X P W (.Return (some a) pos) (ssRet sa) := PS.imp (ps_ret ha) fun D σV H ⟨m, h, σ, A, o⟩ => by
  refine A.flo (rel1 := RT X.K X.mg) o fun m1 h1 t x H1 E1 r A1 o1 => ?_
  exact o1 x m1 H1 (Ext.refl _ _) r A1.hr
theorem ds_expr (ha : DE X P W a sa) (hs : swapsWith a none pos.line X.env = pure false := by rfl) : DS X P W (.Expr a pos) (ssExpr sa) := PS.imp (ps_expr ha hs) fun D σV H ⟨m, h, σ, A, o⟩ => by
  refine A.flo (rel1 := RT X.K X.mg) o fun m1 h1 t x H1 E1 r A1 o1 => ?_
  exact o1 σV m1 H1 (Ext.refl _ _) A1.sr A1.hr
theorem ds_set {i : Nat} {x : Str} (hN : X.N.Nodup) (hi : X.N[i]? = some x) (hx : Loc X.env.scope x) (ha : DE X P W a sa) (hs : swapsWith a (some (.Name x pos')) pos.line X.env = pure false := by rfl) (hf : X.fn x = true ∨ X.env.scope.names.lookup x = some .local := by first | exact .inl rfl | exact .inr rfl | assumption) :
    DS X P W (.Assign [.Name x pos'] a pos) (ssAsg sa (sgName i)) := PS.imp (ps_set hN hi hx ha hs hf) fun D σV H ⟨m, h, σ, A, o⟩ => by
  refine A.flo (rel1 := RT X.K X.mg) o fun m1 h1 t x H1 E1 r A1 o1 => ?_
  exact o1 _ m1 H1 (Ext.refl _ _) (A1.sr.set r i) A1.hr
theorem ds_setLc {i : Nat} {y : Str} {py : Pos} {elt : Expr} {ifs : List Expr} {scope : Scope} {own : List (Str × Nat)} {spos : Pos} {is : List Nat} {g : SG} {tt : ST} {te : SE} (hc : X.calm = true) (hN : X.N.Nodup) (hy : X.N[i]? = some y) (hyl : X.env.scope.names.lookup y = some .local)
    (hsw : swapsWith (.ListComp elt [⟨tg, iter, ifs, 0⟩] scope pos) (some (.Name y py)) spos.line X.env = pure true) (hi : DI X P W tg iter si) (ok : BlkOk X.N X.env.scope scope own)
    (hg : ∀ (s : Shared) (H : Hp) (C : Addr) (cl : List (Str × Addr)) (fp : List Addr), DG (X.blk s H scope (compEnvC scope cl C X.env) fp) P tg is g)
    (ht : ∀ (s : Shared) (H : Hp) (C : Addr) (cl : List (Str × Addr)) (fp : List Addr), DTs (X.blk s H scope (compEnvC scope cl C X.env) fp) P WF ifs tt)
    (he : ∀ (s : Shared) (H : Hp) (C : Addr) (cl : List (Str × Addr)) (fp : List Addr), DE (X.blk s H scope (compEnvC scope cl C X.env) fp) P WF elt te)
    (his : ∀ i ∈ is, i ∈ own.map (·.2) := by decide) (hs : ∀ x, foldedSetIterable iter X.env x = pure x := by intro _; rfl) :
    DS X P W (.Assign [.Name y py] (.ListComp elt [⟨tg, iter, ifs, 0⟩] scope pos) spos) (ssAsg (sLc (saLc si g tt te (own.map (·.2)))) (sgName i)) := by
  refine PS.imp (ps_setLc (own := own) (i := i) (wi := tG X.K X.mg X.w (SrcJ X.K X.mg X.w) P W si) (g := tTg X.K X.mg X.w P is g) (tt := tTst X.K X.mg X.w P WF tt) (te := tI X.K X.mg X.w P WF te) hc hN hy hyl hsw hi ok hg ht he hs) fun D σV H h => ?_
  refine lc_read his (lc_keep ?_)
  obtain ⟨m, h, σ, A, o⟩ := h
  refine A.flo (rel1 := RT X.K X.mg) o fun m1 h1 t x H1 E1 r A1 o1 => ?_
  exact o1 _ m1 H1 (Ext.refl _ _) (A1.sr.set r i) A1.hr
end
end W3
end

section
namespace W3
open PySem PySem.Spec PyProof.Rows
open L2
section
variable {X : Cx} {P : Pq} {W : WX} {a b c tg iter : Expr} {sa sb sc : SE} {pos pos' : Pos} {es : List Expr} {ar : SA} {si : SI} {ta tb : ST} {st : Stmt} {rest body : List Stmt} {x1 x2 : SS}
theorem ds_for {is : List Nat} {g : SG} (hp : PassesOwn (model X.prog X.w) X.A X.env X.xe) (hc : X.calm = true) (hi : DI X P W tg iter si) (hg : DG X P tg is g) (hb : DSs X P W body x1)
    (hs : ∀ x, foldedSetIterable iter X.env x = pure x := by intro _; rfl) : DS X P W (.For tg iter body [] pos) (ssFor si g x1) := PS.imp (ps_for hp hc hi hg hb hs) fun D σV H ⟨m, h, σ, A, o⟩ => by
  refine A.flo (rel1 := SrcJ X.K X.mg X.w) o fun m1 h1 s J H1 E1 S A1 o1 => ?_
  refine ⟨fun i k σV' H' => ∃ m' h' σ', Ext m1 H1 m' H' ∧ At X.K X.mg X.w P m' H' σV' σ' h' ∧ OutS X.K X.mg X.w W D m1 H1 (forRun s g x1 k i σ' h'), ⟨s.len h1, m1, h1, σ, Ext.refl _ _, A1, o1⟩, ?_⟩
  rintro i k σV' H' ⟨m', h', σ', E', A', o'⟩
  unfold forRun at o'
  cases es : s.at h' i with
  | none => rw [es] at o'; exact False.elim o'
  | some ox =>
    cases ox with
    | none =>
      rw [es] at o'
      exact .inl ⟨S.stop m' h' H' i E'.tr A'.hr es, o' σV' m' H' E' A'.sr A'.hr⟩
    | some x =>
      rw [es] at o'
      cases k with
      | zero => exact False.elim o'
      | succ k =>
        obtain ⟨jg, jy⟩ := S.go m' h' H' i x E'.tr A'.hr es
        refine .inr ⟨jg, _, fun σV2 H'' q => ⟨k, Nat.lt_succ_self k, q⟩, fun y H2 hy => ?_⟩
        obtain ⟨E2, R2, rx⟩ := jy y H2 hy
        have A2 : At X.K X.mg X.w P m' H2 σV' σ' h' := A'.ext E2 R2
        refine ⟨m', h', σ', x, A2, rx, ?_⟩
        dsimp only at o'
        cases eg : g x σ' with
        | none => rw [eg] at o'; exact False.elim o'
        | some σ1 =>
          rw [eg] at o'
          intro σV1 s1 _
          refine ⟨m', h', σ1, ⟨s1, R2, A2.pr⟩, ?_⟩
          dsimp only at o'
          have up : ∀ {r : Flo}, OutS X.K X.mg X.w W D m1 H1 r → OutS X.K X.mg X.w W D m' H2 r := fun q => OutS.ext (E'.trans E2) q
          cases eb : x1 σ1 h' with
          | nx σ2 h2 =>
            rw [eb] at o'
            exact fun σV3 m3 H3 E3 s3 R3 => ⟨m3, h2, σ2, (E'.trans E2).trans E3, ⟨s3, R3, P.st E3 A2.pr⟩, o'⟩
          | ct σ2 h2 =>
            rw [eb] at o'
            exact fun σV3 m3 H3 E3 s3 R3 => ⟨m3, h2, σ2, (E'.trans E2).trans E3, ⟨s3, R3, P.st E3 A2.pr⟩, o'⟩
          | bk σ2 h2 => rw [eb] at o'; exact up o'
          | rt t h2 => rw [eb] at o'; exact up (r := .rt t h2) o'
          | exc c fs σ2 h2 => rw [eb] at o'; exact up (r := .exc c fs σ2 h2) o'
          | stk => rw [eb] at o'; exact o'
theorem ds_sub {o i v : Expr} {so si' sv : SE} (ho : DE X P W o so) (hi : DE X P W i si') (hv : DE X P W v sv) (hs : swapsWithSole [.Subscript o i pos'] v pos.line X.env = pure false := by rfl) (hw : swappedStores [.Subscript o i pos'] v X.env = pure none := by rfl)
    (h1 : (assignEach [.Subscript o i pos'] X.env).map (·.2) = [assign (.Subscript o i pos') X.env] := by rfl)
    (ha : ∀ v, assign (.Subscript o i pos') X.env v = (do
      let ov ← holding [v] (eval o X.env)
      let iv ← holding [v, ov] (eval i X.env)
      standAt pos'
      holding [v, ov, iv] (setItem ov iv v)
      release [v, ov, iv] []) := by intro _; rfl) : DS X P W (.Assign [.Subscript o i pos'] v pos) (ssSub so si' sv) := by
  refine PS.imp (ps_asg hv (pg_sub ho hi set_list ha) hs hw h1) fun D σV H ⟨m, h, σ, A, o⟩ => ?_
  refine A.flo (rel1 := RT X.K X.mg) o fun m1 h1 t1 y H1 E1 r1 A1 o1 => ?_
  refine A1.flo (rel1 := RT X.K X.mg) o1 fun m2 h2 t2 x H2 E2 r2 A2 o2 => ?_
  refine A2.flo (rel1 := RT X.K X.mg) o2 fun m3 h3 t3 k H3 E3 r3 A3 o3 => ?_
  have r2' := r2.ext E3
  cases r2' with
  | @ref l a e1 =>
    cases r3 with
    | int n =>
      have o' : OutS X.K X.mg X.w W D m3 H3 (match lstAt h3 l with
        | some ts => (match L2.ixN ts.length n with | some j => .nx σ (h3.set l (.lst (ts.set j t1))) | none => .stk)
        | none => .stk) := o3
      split at o'
      · rename_i ts q1
        obtain ⟨vs, g1, rv⟩ := A3.hr.lst e1 q1
        split at o'
        · rename_i j q2
          rw [rv.length] at q2
          refine ⟨a, vs, n, j, rfl, rfl, g1, q2, ?_⟩
          have Ew : Ext m3 H3 m3 (upd H3 a (.lst (vs.set j y))) := Ext.write A3.hr e1
          exact o' σV m3 _ Ew (A3.sr.ext Ew) (A3.hr.write e1 ⟨_, upd_same, ((rv.set j ((r1.ext E2).ext E3)).ext Ew)⟩)
        · exact False.elim o'
      · exact False.elim o'
    | _ => exact False.elim o3
  | _ => exact False.elim o3
theorem nx_append : NoXM mAppend := fun x y h c fs h' e => by unfold mAppend at e; (repeat' split at e) <;> cases e
theorem nx_extend : NoXM mExtend := fun x y h c fs h' e => by unfold mExtend at e; (repeat' split at e) <;> cases e
def MtS (X : Cx) (id : String) (f : T → List T → Hh → Res T) : Prop :=
  ∀ (pins : List (Addr × Obj)) (s : Shared) (σ : L2.St) (H : Hp) (x : V) (xs : List V) (v : Value) (us : List Value) (Q : VK), L2.Inv X pins σ H s → RelV x v → Vals xs us → rPM X.K X.mg X.w f x xs H Q →
    wpAny (model X.prog X.w) X.A (call (.builtin id) (v :: us)) (EP X pins σ Q) X.xe s
theorem ms_append : MtS X "list.append" mAppend := by
  intro pins s σ H x xs v us Q I rx rs ⟨m, h, t, ts, r, rr, R, o⟩
  cases r with
  | @ref l a e1 =>
    cases rr with
    | nil => exact False.elim o
    | cons r1 r2 =>
      cases r2 with
      | cons _ _ => exact False.elim o
      | nil =>
        rename_i t1 v1
        have o' : OutP X.K X.mg X.w Q m H (match lstAt h l with
          | some ts => if ts.length < sizeLine then .ok .non (h.set l (.lst (ts ++ [t1]))) else .stk
          | none => .stk) := o
        split at o'
        · rename_i ts q1
          obtain ⟨vs, g1, rv⟩ := R.lst e1 q1
          split at o'
          · rename_i hz
            refine mt_append pins s σ H _ _ v us Q I rx rs ⟨a, vs, v1, rfl, rfl, g1, by rw [← rv.length]; exact hz, ?_⟩
            have Ew : Ext m H m (upd H a (.lst (vs ++ [v1]))) := Ext.write R e1
            exact o' .non m _ Ew .non (R.write e1 ⟨_, upd_same, (rv.append (.cons r1 .nil)).ext Ew⟩)
          · exact False.elim o'
        · exact False.elim o'
  | _ => exact False.elim o
theorem ms_extend : MtS X "list.extend" mExtend := by
  intro pins s σ H x xs v us Q I rx rs ⟨m, h, t, ts, r, rr, R, o⟩
  cases r with
  | @ref l a e1 =>
    cases rr with
    | nil => exact False.elim o
    | cons r1 r2 =>
      cases r2 with
      | cons _ _ => cases r1 <;> exact False.elim o
      | nil =>
        cases r1 with
        | @ref k b e2 =>
          have o' : OutP X.K X.mg X.w Q m H (match lstAt h l, lstAt h k with
            | some ts, some zs => if ts.length + zs.length ≤ sizeLine then .ok .non (h.set l (.lst (ts ++ zs))) else .stk
            | _, _ => .stk) := o
          split at o'
          · rename_i ts zs q1 q2
            obtain ⟨vs, g1, rv⟩ := R.lst e1 q1
            obtain ⟨ws, g2, rw⟩ := R.lst e2 q2
            split at o'
            · rename_i hz
              refine mt_extend pins s σ H _ _ v us Q I rx rs ⟨a, b, vs, ws, rfl, rfl, g1, g2, by rw [← rv.length, ← rw.length]; exact hz, ?_⟩
              have Ew : Ext m H m (upd H a (.lst (vs ++ ws))) := Ext.write R e1
              exact o' .non m _ Ew .non (R.write e1 ⟨_, upd_same, (rv.append rw).ext Ew⟩)
            · exact False.elim o'
          · exact False.elim o'
        | _ => exact False.elim o
  | _ => exact False.elim o
end
end W3
end

section
namespace W3
open PySem PySem.Spec PyProof.Rows
open L2
section
variable {X : Cx} {P : Pq} {W : WX} {a b c o e : Expr} {sa sb sc so : SE} {pos pos' apos cpos p : Pos} {es : List Expr} {ar : SA}
theorem mt_read {f : T → List T → Hh → Res T} (hf : NoXM f) {σV : L2.St} {H : Hp} {Q : VK} (h : tI X.K X.mg X.w P W (sMtL f so ar) σV H Q) :
    tI X.K X.mg X.w P W so σV H fun x H1 => tyV X.K "list" x H1 ∧ tAr X.K X.mg X.w P W ar σV H1 fun xs H2 => rPM X.K X.mg X.w f x xs H2 Q := by
  obtain ⟨m, h, σ, A, o⟩ := h
  refine A.first (rel1 := RT X.K X.mg) o fun m1 h1 t x H1 E1 r A1 o1 => ?_
  split at o1
  · rename_i hl
    refine ⟨?_, ?_⟩
    · cases r with
      | @ref l a e1 =>
        have hl' : (lstAt h1 l).isSome = true := hl
        obtain ⟨ts, q⟩ := Option.isSome_iff_exists.mp hl'
        obtain ⟨vs, g, _⟩ := A1.hr.lst e1 q
        exact .inl ⟨rfl, vs, SqL.of g⟩
      | @fl a vs ts hq _ => exact .inl ⟨rfl, vs, hq.sq⟩
      | _ => cases hl
    · refine A1.first (rel1 := RTs X.K X.mg) o1 fun m2 h2 ts xs H2 E2 r2 A2 o2 => ?_
      exact ⟨m2, h2, t, ts, r.ext E2, r2, A2.hr, o2.outP (hf _ _ _)⟩
  · exact False.elim o1
theorem de_mt {id : String} {name : Str} {f : T → List T → Hh → Res T} (hm : MtS X id f) (hf : NoXM f) (pa : PlainAttrs "list") (slot : Slot "list" name id) (hty : typeOf (.builtin id) = pure (.type "method_descriptor")) (ho : DE X P W o so) (ha : DA X P W (e :: es) ar)
    (hbase : attributeBase o name X.env (eval o X.env) = eval o X.env := by rfl)
    (hfew : ((backTo cpos (starEach (e :: es) X.env)).all (fun x => !x.1) && (backToKw cpos (keywordEach [] X.env)).all (fun x => x.1.isSome)
      && decide ((e :: es).length + ([] : List Keyword).length + (if ([] : List Keyword).isEmpty then 0 else 1) < 30)) = true := by rfl)
    (hline : (apos.endLine == cpos.line) = true := by rfl) (hs : starEach (e :: es) X.env = (false, eval e X.env) :: starEach es X.env := by rfl) (hplain : (backTo cpos (starEach es X.env)).any (·.1) = false := by rfl) :
    DE X P W (.Call (.Attribute o name apos) (e :: es) [] cpos) (sMtL f so ar) :=
  PE.imp (pe_bm (r := rPM X.K X.mg X.w f) pa slot hty hm ho ha hbase hfew hline hs hplain) fun σV H Q h => mt_read hf h
def spT (K : PySem.W.Frag) (mg : Str → Option Value) (wd : World) (n : Nat) (f : List T → Hh → Res T) : Sp := fun vs H Q E => vs.length = n ∧ ∃ m h ts, RTs K mg m H ts vs ∧ HR K mg wd m h H ∧
  (match f ts h with
    | .ok t h' => ∀ v m' H', Ext m H m' H' → RT K mg m' H' t v → HR K mg wd m' h' H' → Q v H'
    | .exc c fs h' => ∀ cls d m' H', Ext m H m' H' → XR K mg m' H' c fs cls d → HR K mg wd m' h' H' → E cls d H'
    | .stk => False)
theorem SR.start {K : PySem.W.Frag} {mg : Str → Option Value} {m : Mp} {H : Hp} {ts : List T} {vs : List V} (N : List Str) (r : RTs K mg m H ts vs) : SR K mg m H (startT N.length ts) (L2.start N vs) := by
  unfold startT L2.start
  rw [r.length]
  refine ⟨by rw [List.length_append, List.length_append, List.length_map, List.length_map, List.length_replicate, List.length_replicate, r.length], fun i t e => ?_⟩
  by_cases hi : i < vs.length
  · have hi' : i < ts.length := by rw [r.length]; exact hi
    rw [List.getElem?_append_left (by rw [List.length_map]; exact hi'), List.getElem?_map] at e
    cases q : ts[i]? with
    | none => rw [q] at e; cases e
    | some u =>
      rw [q] at e
      have e2 : u = t := Option.some.inj (Option.some.inj e)
      subst e2
      obtain ⟨v, q2, rv⟩ := r.get q
      exact ⟨v, by rw [List.getElem?_append_left (by rw [List.length_map]; exact hi), List.getElem?_map, q2]; rfl, rv⟩
  · rw [List.getElem?_append_right (by rw [List.length_map, r.length]; omega), List.getElem?_replicate] at e
    split at e
    · cases e
    · cases e
abbrev cxD (P : Program) (w : World) (K : PySem.W.Frag) (mg : Str → Option Value) (base : Heap) (N : List Str) (qual : Str) (sc : Scope) (f : Addr) (cdv : Value) (A : Around) (outer : List Env) (s : Shared) (H : Hp) (E : XK) : Cx :=
  cxOf (L2.CX P w) P w K mg base N qual sc f cdv A outer s H E
abbrev wD (E : XK) : WX := fun cls d _ H => E cls d H
theorem def_read {K : PySem.W.Frag} {mg : Str → Option Value} {wd : World} {N ps : List Str} {ss : SS} {vs : List V} {H : Hp} {Q : VK} {E : XK} (h : spT K mg wd ps.length (defRun N.length ss) vs H Q E) : tS K mg wd PqT (wD E) ss { nx := fun _ H' => Q .non H', rt := Q } (L2.start N vs) H := by
  obtain ⟨_, m, h, ts, r, R, o⟩ := h
  refine ⟨m, h, startT N.length ts, ⟨SR.start N r, R, trivial⟩, ?_⟩
  unfold defRun at o
  cases e : ss (startT N.length ts) h with
  | nx σ1 h1 => rw [e] at o; exact fun σV' m' H' E' _ R' => o .non m' H' E' .non R'
  | rt t h1 => rw [e] at o; exact o
  | exc c fs σ1 h1 => rw [e] at o; exact fun cls d _ m' H' E' _ x R' => o cls d m' H' E' x R'
  | bk σ1 h1 => rw [e] at o; exact False.elim o
  | ct σ1 h1 => rw [e] at o; exact False.elim o
  | stk => rw [e] at o; exact False.elim o
theorem fn_T {P : Program} {w : World} {K : PySem.W.Frag} {mg : Str → Option Value} {base : Heap} {x qual : Str} {st : Stmt} {f : Addr} {fd : FuncData} {N ps : List Str} {k : Nat} {ss : SS} (F : Fun K x qual st f fd) (S : FnScope N ps (defScope st))
    (hbody : ∀ (cdv : Value) (A : Around) (outer : List Env) (s : Shared) (H : Hp) (E : XK), Room k (cxD P w K mg base N qual (defScope st) f cdv A outer s H E).A → Takes (cxD P w K mg base N qual (defScope st) f cdv A outer s H E) (wD E) →
      PassesOwn (model P w) (cxD P w K mg base N qual (defScope st) f cdv A outer s H E).A (cxD P w K mg base N qual (defScope st) f cdv A outer s H E).env (cxD P w K mg base N qual (defScope st) f cdv A outer s H E).xe →
      DSs (cxD P w K mg base N qual (defScope st) f cdv A outer s H E) PqT (wD E) (defBody st) ss) : FnOk P w K mg base (L2.CX P w) (k + 1) f fd ps (spT K mg w ps.length (defRun N.length ss)) :=
  F.okX S (fun vs H Q E h => h.1) fun cdv A outer s H vs Q E hr h => ⟨_, hbody cdv A outer s H E hr (takes_of rfl rfl rfl rfl) (passes_of rfl), def_read h⟩
theorem de_call {x : Str} {k : Nat} {f : Addr} {fd : FuncData} {ps : List Str} {ff : List T → Hh → Res T} (F : FnOk X.prog X.w X.K X.mg X.base (L2.CX X.prog X.w) k f fd ps (spT X.K X.mg X.w ps.length ff)) (hr : Room k X.A) (hg : Gl X x) (hm : X.mg x = some (.ref f))
    (hk : PySem.W.keepIn X.K (.ref f) = true) (hb : Binds X.K fd ps []) (tk : Takes X W) (ha : DA X P W (a :: es) ar) (hdb : (x == ("__debug__" : Str)) = false := by decide)
    (he : starEach (a :: es) X.env = (false, eval a X.env) :: starEach es X.env := by rfl) (hpl : (backTo pos (starEach es X.env)).any (·.1) = false := by rfl) :
    DE X P W (.Call (.Name x p) (a :: es) [] pos) (sCl (arN ps.length ff) ar) :=
  PE.imp (pe_callS F hr hg hm hk hb (fun σ => passAt tk σ) ha hdb he hpl) fun σV H Q ⟨m, h, σ, A, o⟩ => by
    refine A.first (rel1 := RTs X.K X.mg) o fun m1 h1 ts xs H1 E1 r A1 o1 => ?_
    unfold arN at o1
    split at o1
    · rename_i hl
      refine ⟨by rw [← r.length]; exact hl, m1, h1, ts, r, A1.hr, ?_⟩
      cases e : ff ts h1 with
      | ok t h2 => rw [e] at o1; exact o1
      | exc c fs h2 => rw [e] at o1; exact o1
      | stk => rw [e] at o1; exact o1
    · exact False.elim o1
theorem RTs.weave {K : PySem.W.Frag} {mg : Str → Option Value} {m : Mp} {H : Hp} : ∀ (pat : List Bool) {ds zs : List T} {dv zv : List V}, RTs K mg m H ds dv → RTs K mg m H zs zv → RTs K mg m H (weave pat ds zs) (weave pat dv zv)
  | [], _, _, _, _, _, _ => .nil
  | true :: r, _, _, _, _, d, .cons q z => .cons q (RTs.weave r d z)
  | true :: _, _, _, _, _, _, .nil => .nil
  | false :: r, _, _, _, _, .cons q d, z => .cons q (RTs.weave r d z)
  | false :: _, _, _, _, _, .nil, _ => .nil
theorem Vals.weave : ∀ (pat : List Bool) {ds zs : List V} {dv zv : List Value}, Vals ds dv → Vals zs zv → Vals (W3.weave pat ds zs) (W3.weave pat dv zv)
  | [], _, _, _, _, _, _ => .nil
  | true :: r, _, _, _, _, d, .cons q z => .cons q (Vals.weave r d z)
  | true :: _, _, _, _, _, _, .nil => .nil
  | false :: r, _, _, _, _, .cons q d, z => .cons q (Vals.weave r d z)
  | false :: _, _, _, _, _, .nil, _ => .nil
theorem PK.imp {kws : List Keyword} {t t' : TA} (h : PK X kws t) (k : ∀ σ H Q, t' σ H Q → t σ H Q) : PK X kws t' := ⟨fun pos pins s σ H Q I hw => h.run pos pins s σ H Q I (k _ _ _ hw)⟩
end
end W3
end

section
namespace W3
open PySem PySem.Spec PyProof.Rows
open L2
section
variable {X : Cx} {P : Pq} {W : WX} {a b c o e : Expr} {sa sb sc so : SE} {pos pos' apos cpos p : Pos} {es : List Expr} {ar : SA}
def bMakeK (c : Str) (q n : Nat) (pat : List Bool) (ds : List T) (f : List T → Hh → Res T) (a kw : SA) : SE := fun σ h => (a σ h).bind fun xs h1 => (kw σ h1).bind fun zs h2 => if xs.length = n ∧ zs.length = q then bMake c (n + 1 + pat.length) f (xs ++ weave pat ds zs) h2 else .stk
end
end W3
end

section
namespace W3
open PySem PySem.Spec PyProof.Rows
open L2
def Kd.nm : Kd → String
  | .int => "int" | .bool => "bool" | .str => "str" | .tuple => "tuple" | .list => "list" | .dict => "dict"
section
variable {X : Cx} {P : Pq} {W : WX} {a b c o e : Expr} {sa sb sc so : SE} {pos pos' apos cpos p p2 : Pos} {es : List Expr} {ar : SA}
theorem ty_of {m : Mp} {H : Hp} {h : Hh} {t : T} {v : V} {k : Kd} {r : Bool} (R : HR X.K X.mg X.w m h H) (q : RT X.K X.mg m H t v) (e : isK k t h = some r) : ∃ n : String, TyX X.K H v (.type n) ∧ kitB n k.nm = some r := by
  cases q with
  | non => exact ⟨_, .base .non, by cases e; cases k <;> decide +kernel⟩
  | bl b => exact ⟨_, .base (.bl b), by cases e; cases k <;> decide +kernel⟩
  | int b => exact ⟨_, .base (.int b), by cases e; cases k <;> decide +kernel⟩
  | str b => exact ⟨_, .base (.str _), by cases e; cases k <;> decide +kernel⟩
  | @tup a vs ts hq _ =>
    refine ⟨"tuple", ?_, by cases e; cases k <;> decide +kernel⟩
    rcases hq with ⟨ob, z, _⟩ | ⟨ob, its, n, hk, hc, _⟩
    · exact .fTuple z
    · exact .kTuple hk hc
  | @fl a vs ts hq _ =>
    refine ⟨"list", ?_, by cases e; cases k <;> decide +kernel⟩
    rcases hq with ⟨ob, z⟩ | ⟨ob, its, n, hk, hc, _⟩
    · exact .base (.frz z)
    · exact .kList hk hc
  | @ref l a e1 =>
    have e' : (match h[l]? with
      | some (.lst _) => some (k == .list)
      | some (.dic _) => some (k == .dict)
      | some (.ins _ _) => none
      | some (.dtk _) => none
      | none => none) = some r := e
    split at e'
    · rename_i ts q1
      obtain ⟨b, e2, vs, g, _⟩ := R.ob l _ q1
      rw [e1] at e2; cases e2
      exact ⟨"list", .base (.lst g), by cases e'; cases k <;> decide +kernel⟩
    · rename_i ts q1
      obtain ⟨b, e2, _, g, _⟩ := R.ob l _ q1
      rw [e1] at e2; cases e2
      exact ⟨"dict", .base (.dK g), by cases e'; cases k <;> decide +kernel⟩
    · cases e'
    · cases e'
    · cases e'
  | cls _ => cases e
theorem nx_isk (k : Kd) : NoX1 (oIsK k) := fun x h c fs h' e => by unfold oIsK at e; (repeat' split at e) <;> cases e
theorem de_isk (k : Kd) {x : Str} (hx : bootBuiltins x = some (.type k.nm)) (hg : Gl X "isinstance") (hm : X.mg "isinstance" = none) (hgx : Gl X x) (hmx : X.mg x = none) (ha : DE X P W a sa) (hn : x ≠ "__name__" := by decide) (hdx : (x == ("__debug__" : Str)) = false := by decide)
    (he : starEach [a, .Name x p2] X.env = (false, eval a X.env) :: starEach [.Name x p2] X.env := by rfl) (hpl : (backTo pos (starEach [.Name x p2] X.env)).any (·.1) = false := by rfl) (hs2 : starEach [.Name x p2] X.env = (false, eval (.Name x p2) X.env) :: starEach [] X.env := by rfl) :
    DE X P W (.Call (.Name "isinstance" p) [a, .Name x p2] [] pos) (s1 (oIsK k) sa) :=
  PE.imp (pe_callB call_isi hg hm boot_isinstance (pa_cons ha (pa_cons (pe_bltn (v := .ty k.nm) hgx hmx hx rfl hn hdx) pa_nil hs2) he) (by decide) (by decide) he hpl) fun σV H Q h => by
    refine tG.mono (fun v H1 hq => ?_) (one (nx_isk k) h)
    obtain ⟨m, h, t, r, R, o⟩ := hq
    unfold oIsK at o
    split at o
    · rename_i b e
      obtain ⟨n, ty, kb⟩ := ty_of R r e
      exact ⟨v, .ty k.nm, .type n, .type k.nm, b, rfl, .ty _, ty, kit_ty kb, o _ m H1 (Ext.refl _ _) (.bl _) R⟩
    · exact False.elim o
def sDic0 : SE := fun _ h => alloc (.dic []) h
def rLst (K : PySem.W.Frag) (mg : Str → Option Value) (wd : World) (f : List T → Hh → Res T) : List V → Hp → VK → Prop := fun xs H Q => ∃ m h ts D vs, xs = [.ref D] ∧ H D = some (.lst vs) ∧ RTs K mg m H ts vs ∧ HR K mg wd m h H ∧ OutP K mg wd Q m H (f ts h)
theorem over_read {f : List T → Hh → Res T} (hf : NoXL f) {σV : L2.St} {H : Hp} {Q : VK} (h : tI X.K X.mg X.w P W (sOver f ar) σV H Q) : tL X.K X.mg X.w P W ar σV H fun x H1 => rLst X.K X.mg X.w f [x] H1 Q := by
  obtain ⟨m, h, σ, A, o⟩ := h
  refine A.first (rel1 := relL X.K X.mg H) o fun m1 h1 ts x H1 E1 r1 A1 o1 => ?_
  obtain ⟨D, vs, rfl, _, hD, rr, _⟩ := r1
  exact ⟨m1, h1, ts, D, vs, rfl, hD, rr, A1.hr, o1.outP (hf _ _)⟩
theorem de_overB {id : String} {x : Str} {f : List T → Hh → Res T} (hc : CallR X (.builtin id) (rLst X.K X.mg X.w f)) (hf : NoXL f) (hg : Gl X x) (hm : X.mg x = none) (hv : bootBuiltins x = some (.builtin id)) (ha : DL X P W a ar) (hn : x ≠ "__name__" := by decide) (hdb : (x == ("__debug__" : Str)) = false := by decide)
    (he : starEach [a] X.env = (false, eval a X.env) :: starEach [] X.env := by rfl) (hpl : (backTo pos (starEach [] X.env)).any (·.1) = false := by rfl) : DE X P W (.Call (.Name x p) [a] [] pos) (sOver f ar) :=
  PE.imp (pe_callB hc hg hm hv (pa_cons ha pa_nil he) hn hdb he hpl) fun σV H Q h => over_read hf h
theorem bls_of {m : Mp} {H : Hp} : ∀ {ts : List T} {vs : List V} {bs : List Bool}, RTs X.K X.mg m H ts vs → blsOf ts = some bs → vs = bs.map V.bl
  | _, _, _, .nil, e => by cases e; rfl
  | _, _, bs, .cons (t := t) (ts := ts) r q, e => by
    cases r with
    | bl b =>
      have e' : (blsOf ts).map (b :: ·) = some bs := e
      cases z : blsOf ts with
      | none => rw [z] at e'; cases e'
      | some cs =>
        rw [z] at e'; cases e'
        rw [bls_of q z]; rfl
    | _ => cases e
theorem nx_all : NoXL bAll := fun x h c fs h' e => by unfold bAll at e; (repeat' split at e) <;> cases e
theorem cl_all (hc : X.calm = true) : CallR X (.builtin "all") (rLst X.K X.mg X.w bAll) := by
  intro pins s σ H xs us Q I ru hq
  obtain ⟨m, h, ts, D, vs, rfl, hD, r, R, o⟩ := hq
  unfold bAll at o
  split at o
  · rename_i bs e
    have := bls_of r e
    subst this
    exact cr_all hc pins s σ H _ us Q I ru ⟨D, bs, rfl, SqL.of hD, o _ m H (Ext.refl _ _) (.bl _) R⟩
  · exact False.elim o
end
end W3
end

section
namespace W3
open PySem PySem.Spec PyProof.Rows
open L2
instance decMemK (k : Key) (l : List Key) : Decidable (k ∈ l) := decidable_of_iff (l.any (fun j => decide (j = k)) = true) (by simp [List.any_eq_true])
section
variable {X : Cx}
end
end W3
end

section
namespace W3
open PySem PySem.Spec PyProof.Rows
open L2
section
variable {P : Program} {w : World} {A : Around} {E : Value → Shared → Prop} {s : Shared}
abbrev KeysAre (P : Program) (w : World) (ks : List Key) (vs : List Value) : Prop := Paired (fun k v => RelV (kV k) v) ks vs
theorem KeysAre.get {ks : List Key} {vs : List Value} (r : KeysAre P w ks vs) : ∀ {i : Nat} {v : Value}, vs[i]? = some v → ∃ k, ks[i]? = some k ∧ RelV (kV k) v := by
  induction r with
  | nil => intro i v e; simp at e
  | cons r _ ih =>
    intro i v e
    cases i with
    | zero => simp at e; subst e; exact ⟨_, rfl, r⟩
    | succ i => exact ih (by simpa using e)
end
end W3
end

section
namespace W3
open PySem PySem.Spec PyProof.Rows
open L2
section
variable {X : Cx} {P : Pq} {W : WX} {a b c o e tg iter : Expr} {sa sb sc so : SE} {pos pos' apos cpos p p2 q2 : Pos} {es : List Expr} {ar : SA} {si : SI}
end
end W3
end

section
namespace W3
open PySem PySem.Spec PyProof.Rows
open L2
theorem hu65 {k : Nat} {A : Around} (hr : Room k A) : A.units + 65 < cLine := by have := hr.un; omega
section
variable {X : Cx} {P : Pq} {W : WX} {a b c o e : Expr} {sa sb sc so : SE} {pos pos' : Pos} {st : Stmt}
theorem dv (i : Nat) {x : Str} (hN : X.N[i]? = some x := by rfl) (hv : Vis X.env.scope x := by first | exact Or.inl rfl | exact Or.inr (Or.inl rfl) | exact Or.inr (Or.inr rfl)) (hd : (x == ("__debug__" : Str)) = false := by decide) (hcd : (x == ("__classdict__" : Str)) = false := by decide) :
    DE X P W (.Name x pos) (sVar i) := de_var hN hv hd hcd
theorem dgs {x s : Str} (hm : ∃ t, X.mg x = some (.str s t)) (hs : PyData.strOk s = true) (hg : Gl X x := by rfl) (hd : (x == ("__debug__" : Str)) = false := by decide) : DE X P W (.Name x pos) (sC (.str s)) := by
  obtain ⟨t, hm⟩ := hm
  exact de_glob (v := .str s) hg hm ⟨_, rfl⟩ (fun _ _ => .str hs) hd
def ssStk : SS := fun _ _ => .stk
end
theorem sqF_of {K : PySem.W.Frag} {H : Hp} {a : Addr} {xs : List V} (hO : Only H) (h : SqL K H a xs) : SqF K H a xs := by
  rcases h with (h | ⟨o, h⟩) | h
  · rcases hO a with z | ⟨o, ys, z⟩
    · rw [z] at h; cases h
    · rw [z] at h; cases h
  · exact .inl ⟨o, h⟩
  · exact .inr h
theorem rts_ints {K : PySem.W.Frag} {mg : Str → Option Value} {m : Mp} {H : Hp} : ∀ ns : List Int, RTs K mg m H (ns.map T.int) (ns.map V.int)
  | [] => .nil
  | n :: ns => .cons (.int n) (rts_ints ns)
theorem sp_law {K : PySem.W.Frag} {mg : Str → Option Value} {wd : World} {f : List T → Hh → Res T} (hf : ∀ ns : List Int, ns.length ≤ 63 → ∃ h', f [.fl (ns.map T.int)] [] = .ok (.bl true) h') {H : Hp} {a : Addr} {ns : List Int} (hl : ns.length ≤ 63) (hO : Only H)
    (hS : SqL K H a (ns.map V.int)) : spT K mg wd 1 f [.ref a] H (fun v _ => v = .bl true) fun _ _ _ => False := by
  refine ⟨rfl, fun _ => none, [], [.fl (ns.map T.int)], .cons (.fl (sqF_of hO hS) (rts_ints ns)) .nil, ⟨fun l a e => (by cases e), fun l l' a e => (by cases e), fun l o e => by simp at e⟩, ?_⟩
  obtain ⟨h', e⟩ := hf ns hl
  rw [e]
  intro v m' H' _ r _
  cases r
  rfl
end W3
namespace W3
open PySem PySem.Spec PyProof.Rows
open L2
def spL (K : PySem.W.Frag) (f : List T → Hh → Res T) : Sp := fun vs H Q E => ∀ mg wd, spT K mg wd 1 f vs H Q E
theorem fnL {P : Program} {w : World} {K : PySem.W.Frag} {mg : Str → Option Value} {base : Heap} {CX : CXT} {k : Nat} {fa : Addr} {fd : FuncData} {ps : List Str} {f : List T → Hh → Res T} (F : FnOk P w K mg base CX k fa fd ps (spT K mg w 1 f)) : FnOk P w K mg base CX k fa fd ps (spL K f) :=
  F.imp fun _ _ _ _ h => h mg w
end W3
namespace W3
open PySem PySem.Spec PyProof.Rows
open L2
end W3
end

section
namespace W3
open PySem PySem.Spec PyProof.Rows
open L2
def lc2Run (s : Src) (g : SG) (tt : ST) (si1 : SI) (g1 : SG) (tt1 : ST) (te : SE) (vs1 : List Nat) (σ : St3) : Nat → Nat → List T → Hh → Res (List T)
  | k, i, acc, h => match s.at h i with
    | none => .stk
    | some none => .ok acc h
    | some (some x) => match k with
      | 0 => .stk
      | k + 1 => match g x σ with
        | none => .stk
        | some σ1 => match tt σ1 h with
          | .ok b h1 => if b = true then (match si1 σ1 h1 with
              | .ok s1 h2 => (match lcRun s1 g1 tt1 te (wipeT σ1 vs1) (s1.len h2) 0 acc h2 with
                | .ok acc' h3 => lc2Run s g tt si1 g1 tt1 te vs1 σ k (i + 1) acc' h3
                | _ => .stk)
              | _ => .stk) else lc2Run s g tt si1 g1 tt1 te vs1 σ k (i + 1) acc h1
          | _ => .stk
def saLc2 (si : SI) (g : SG) (tt : ST) (si1 : SI) (g1 : SG) (tt1 : ST) (te : SE) (vs vs1 : List Nat) : SA := fun σ h => (si σ h).bind fun s h1 => lc2Run s g tt si1 g1 tt1 te vs1 (wipeT σ vs) (s.len h1) 0 [] h1
section
variable {X : Cx} {P : Pq} {W : WX} {a b c tg iter tg1 iter1 : Expr} {sa sb sc : SE} {pos : Pos} {es : List Expr} {ar : SA} {si si1 : SI} {ta tb : ST} {rest : List Expr}
end
section
variable {X : Cx} {P : Pq} {W : WX} {a b c o e : Expr} {sa sb sc so : SE} {pos pos' apos cpos tpos p p2 p3 : Pos} {es : List Expr} {ar : SA}
end
end W3
end

section
namespace PySem
open Builtin
open AutoSeq1 (wpAny_loadPart')
end PySem
namespace W3
open PySem PySem.Spec PyProof.Rows
open L2
def enumL : Nat → List T → List T
  | _, [] => []
  | i, t :: ts => .tup [.int i, t] :: enumL (i + 1) ts
section
variable {K : PySem.W.Frag} {mg : Str → Option Value} {wd : World} {m : Mp} {H : Hp}
end
def enumOf (xs : List T) (h : Hh) : Res Src := match xs with | [.tup ts] => .ok (.its (enumL 0 ts)) h | _ => .stk
def siEnum (a : SA) : SI := fun σ h => (a σ h).bind enumOf
section
variable {X : Cx} {P : Pq} {W : WX} {a b c : Expr} {ar : SA} {pos : Pos}
end
theorem RTs.two {K : PySem.W.Frag} {mg : Str → Option Value} {m : Mp} {H : Hp} {t u : T} {vs : List V} (r : RTs K mg m H [t, u] vs) : ∃ v w, vs = [v, w] ∧ RT K mg m H t v ∧ RT K mg m H u w := by
  cases r with
  | cons r1 rr =>
    cases rr with
    | cons r2 rn => cases rn; exact ⟨_, _, rfl, r1, r2⟩
end W3
end

section
namespace W3
open PySem PySem.Spec PyProof.Rows PySem.W
open L2
structure ExF (prog : Program) (K : PySem.W.Frag) (C f c cc : Addr) (fd : FuncData) : Prop where
  oex : OexC K C
  fn : ∃ oc od osl, K.lookup f = some ⟨oc, od, .func fd, osl⟩
  code : ∃ ccl cdd vs ccs file tf, K.lookup c = some ⟨ccl, cdd, .fields vs, ccs⟩ ∧ vs[2]? = some (.str file tf) ∧ ((prog.main.file : Str) == file) = true
  cell : ∃ cl cld csl, K.lookup cc = some ⟨cl, cld, .cell (some (.ref C)), csl⟩
  sup : PySem.W.ks_superIn K C C "__init__" = some (some (.builtin "ValueError.__init__"))
  subV : PySem.W.subIn K (.ref C) (.type "ValueError") = some true
  subC : PySem.W.mroIn K C (.ref C) = some true
  opq : PySem.W.nsIn K cStatics "thirdparty.any" = some none
  top : (prog.main.scope.names.lookup ("super" : Str)).isSome = false
theorem boot_super : bootBuiltins "super" = some (.type "super") := by decide +kernel
theorem clsIn_of {K : PySem.W.Frag} {C : Addr} (T : OexC K C) : ∃ cd, PySem.W.clsIn K C = some cd := by
  obtain ⟨nm, q, N, bs, bm, sn, sub, ab, col, dd, k0, k1, k2, k3, k5, hC, hbm⟩ := T.cls
  unfold PySem.W.clsIn
  rw [hC]
  exact ⟨_, rfl⟩
theorem call_mwV {prog : Program} {w : World} {A : Around} {E : Value → Shared → Prop} {h : Heap} {g : Array GenState} {d : Drawn} {t : Nat} {os : OsState} {nm q : Str} {C N : Addr} {bs bm : List Value} {hdct : Bool} {sn : List Str} {sub : List Value} {ab : Bool} {col : Option Bool} {dd : Option Addr} {k0 k1 k2 k3 k5 : Option Value}
    {u e t0 : Addr} {rest : List Value} {Q : Value → Shared → Prop} (hC : h.get? C = some (excClassObj nm q C N bs bm hdct sn sub ab col dd k0 k1 k2 k3 k5 "ValueError.__new__")) (he : h.get? e = some (HandSPX.excO C t0)) (hu : h.get? u = some (kxs_mw "ValueError.__init__" e)) (hrest : rest.length ≤ sizeLine)
    (hq : ∀ h' t1, (∀ b o, b ≠ e → h.get? b = some o → h'.get? b = some o) → h'.get? e = some (HandSPX.excO C t1) → Q .none ⟨h', g, d, t, os⟩) : wpAny (model prog w) A (call (.ref u) rest) Q E ⟨h, g, d, t, os⟩ := by
  refine wpAny_call (codeAny_of_tree ?_)
  show wpAny _ A.in1 (callAny (.ref u) ⟨rest, []⟩) _ _ _
  simp only [callAny]
  refine wpAny_bind (wpAny_load hu ?_)
  simp only [kxs_mw, show (Value.type "method-wrapper" == Value.type "method" || Value.type "method-wrapper" == Value.type "builtin_function_or_method" || Value.type "method-wrapper" == Value.type "method-wrapper") = true by decide, if_true]
  refine W.KFB.if_so (by decide) ?_
  refine wpAny_bind (ESX.check_bound F.excBase_ValueError hC he rfl ?_)
  refine wpAny_bind (wpAny_pure (wpAny_pure ?_))
  refine ⟨Code.quiet_builtin _ (by decide +kernel), codeAny_builtin F.excBase_ValueError.initEntry ?_⟩
  rw [Around.under_plainId F.excBase_ValueError.init.plain _]
  wp_walk
  refine hq _ h.objs.size (fun b o hb ho => ?_) ?_
  · rw [Heap.get?_update_other _ _ (Ne.symm hb)]
    exact Heap.get?_push_of_some _ ho
  · rw [Heap.get?_update_self _ (Heap.get?_push_of_some _ he) rfl]
    rfl
section
variable {X : Cx} {pins : List (Addr × Obj)} {σ : L2.St} {H : Hp} {s : Shared}
theorem exc_first {C f c cc a : Addr} {fd : FuncData} {body : List Stmt} {p0 p1 p2 apos cpos pos : Pos} {j : Nat} {txt : Str} {ar : Arg} {pl : Sem Bool} (F : ExF X.prog X.K C f c cc fd) (I : L2.Inv X pins σ H s)
    (hfu : X.env.func = some f) (hco : X.env.code = .ref c) (hcl : X.env.cells.lookup ("__class__" : Str) = some cc) (hks : X.env.kindOf "super" = some .globalImplicit) (hkc : X.env.kindOf "__class__" = some .free)
    (hp : (fd.params.posonlyargs ++ fd.params.args).head? = some ar) (hN : X.N[0]? = some ar.arg) (hka : X.env.kindOf ar.arg = some .local) (h0 : σ[0]? = some (some (.ref a))) (hm : X.mg "super" = none) (ea : H a = some (exo a C none))
    (hi : interactive X.env = false) (hs : swapsWith (.Call (.Attribute (.Call (.Name "super" p0) [] [] p1) "__init__" apos) [.Constant (.str txt) j p2] [] cpos) none pos.line X.env = pure false)
    (hmc : eval (.Call (.Attribute (.Call (.Name "super" p0) [] [] p1) "__init__" apos) [.Constant (.str txt) j p2] [] cpos) X.env = (do
      let ov ← attributeBase (.Call (.Name "super" p0) [] [] p1) "__init__" X.env (eval (.Call (.Name "super" p0) [] [] p1) X.env)
      standAt apos.atName
      let (f, first) ← holding [ov] (getMethod ov "__init__" pl)
      callWith cpos f first (backTo cpos (starEach [.Constant (.str txt) j p2] X.env)) []))
    (he : starEach [.Constant (.str txt) j p2] X.env = (false, eval (.Constant (.str txt) j p2) X.env) :: starEach [] X.env) (hpl : (backTo cpos (starEach [] X.env)).any (·.1) = false) :
    _root_.PySem.wpAt (model X.prog X.w) X.A (.func body X.env) (exec (.Expr (.Call (.Attribute (.Call (.Name "super" p0) [] [] p1) "__init__" apos) [.Constant (.str txt) j p2] [] cpos) pos) X.env) (fun fl s' => fl = .next ∧ L2.Inv X pins σ H s') X.xe s := by
  obtain ⟨oc, od, osl, hf⟩ := F.fn
  obtain ⟨ccl, cdd, vs, ccs, file, tf, hcode, hvs, hfile⟩ := F.code
  obtain ⟨cl, cld, csl, hcell⟩ := F.cell
  obtain ⟨nm, q, N, bs, bm, sn, sub, ab, col, dd, k0, k1, k2, k3, k5, hC, hbm⟩ := F.oex.cls
  have K1 := I.kIn
  refine ks_wpAt_Expr_any ?_ hi hs
  refine ks_wpAt_MethodCall (pl := pl) ?_ hmc
  refine ks_wpAt_super_base hks hkc (by decide) hfu (K1 _ _ hf) rfl hp hco (K1 _ _ hcode) rfl hvs hfile F.top ?_
  obtain ⟨mb, b1, b2⟩ := I.mod.blt
  refine ks_loadName_global I.ok.kind hks (Calls.loadGlobal_builtin (by rw [I.ok.glob]; exact I.mod.glob.keeps I.bk) hm (by rw [I.ok.blt]; exact b1.keeps I.bk) ((b2 "super" (by decide)).trans boot_super) ⟨rfl, ?_⟩)
  refine wpAny_loadName_free I.ok.kind hkc hcl ⟨_, K1 _ _ hcell, rfl⟩ ?_
  obtain ⟨m, hn, hl⟩ := I.loc
  obtain ⟨u, ru, lk⟩ := hl 0 ar.arg (.ref a) hN h0 (.inl hka)
  obtain rfl : u = .ref a := ru
  have hmv : m ar.arg = some (.ref a) := by
    rcases lk with ⟨_, z⟩ | ⟨z | z, _⟩
    · exact z
    · rw [hka] at z; cases z
    · rw [hka] at z; cases z
  refine wpAny_loadName_local I.ok.kind hka hn hmv ?_
  obtain ⟨hp', g, d, t, os⟩ := s
  obtain ⟨t1, hx⟩ := exo_at I.hok ea
  have hC' := K1 _ _ hC
  refine ks_wpAny_isType_cls hC' rfl ⟨rfl, ?_⟩
  refine ks_wpAny_call_super hC' rfl hx rfl (fun _ z => by cases z) (looks_mroIn K1 F.subC) fun h1 e1 k1 => ?_
  have I1 : L2.Inv X pins σ H ⟨h1, g, d, t, os⟩ := I.kept (t' := t) k1
  have K2 := I1.kIn
  obtain ⟨cd, hcd⟩ := clsIn_of F.oex
  have hsup := F.sup
  unfold ks_superIn at hsup
  rw [hcd] at hsup
  have hInst : Looks (model X.prog X.w) h1 (isInstance (.ref a) (.type "ValueError")) true := by
    have LT : Looks (model X.prog X.w) h1 (typeOf (.ref a)) (.ref C) := fun A Q E s k q => wpAny_typeOf_ref (k _ _ (k1 _ _ hx)) q
    exact LT.andThen (looks_subIn K2 F.subV)
  have hne : a ≠ C := fun z => by
    rw [z, hC'] at hx
    cases hx
  refine kxs_getMethod kxs_ValueError e1 (looks_opaque K2 F.opq) (l₀ := cd.mro) (fun A Q E s k q => wpAny_bind ((looks_clsIn K2 hcd) A _ E s k (wpAny_pure q))) rfl K2 hsup hInst hne (by decide) ?_
  have k2 : ∀ b o, h1.get? b = some o → (h1.push (kxs_mw "ValueError.__init__" a)).get? b = some o := fun b o e => Heap.get?_push_of_some _ e
  have I2 : L2.Inv X pins σ H ⟨h1.push (kxs_mw "ValueError.__init__" a), g, d, t + 1, os⟩ := I1.kept (t' := t + 1) k2
  have hu : (h1.push (kxs_mw "ValueError.__init__" a)).get? h1.objs.size = some (kxs_mw "ValueError.__init__" a) := Heap.get?_push_at rfl rfl
  refine kxs_callWith (i := "ValueError.__init__") (x := a) ?_ ?_
  · rw [he]
    show (false || (backTo cpos (starEach [] X.env)).any (·.1)) = false
    rw [hpl]; rfl
  rw [he]
  refine Calls.evalArgs_plain ?_
  refine Calls.spliced_cons (Calls.Constant_str (k := j) (pos := p2) (Calls.spliced_nil ⟨hu, ?_⟩))
  obtain ⟨t2, hx2⟩ := exo_at (I2.tok (t + 2)).hok ea
  refine call_mwV (I2.kIn _ _ hC) hx2 hu (by show 1 ≤ sizeLine; decide) fun h' t3 k3 hx3 => ⟨rfl, ?_⟩
  have J := (I2.tok (t + 2)).write (t' := t + 2) (x := a) (e := a) (o := exo a C none) (by rw [ea]; exact True.intro) (.inl rfl) k3 ⟨_, hx3⟩ (exo_ok hx3)
  have eu : upd H a (exo a C none) = H := by
    funext b
    by_cases hb : b = a
    · rw [hb, upd_same, ea]
    · rw [upd_ne hb]
  rw [eu] at J
  exact J
end
abbrev nfE (name qual : Str) (params : Arguments) (body : List Stmt) (scope : Scope) (cc c : Addr) : NdefX.NF := ⟨name, qual, params, body, scope, [("__class__", cc)], c⟩
abbrev fdE (name qual : Str) (params : Arguments) (body : List Stmt) (scope : Scope) (cc c : Addr) (doc pm ct : Value) (an : Option Addr) : FuncData := PySem.W.fnX name qual params body scope [("__class__", cc)] .none .none doc pm an (.ref c) ct
theorem fn_exc {CX : CXT} {P : Program} {w : World} {K : PySem.W.Frag} {mg : Str → Option Value} {base : Heap} {k : Nat} {f c cc C : Addr} {name qual : Str} {params : Arguments} {rest : List Stmt} {scope : Scope} {doc pm ct : Value} {an : Option Addr} {N ps : List Str} {sp : Sp} {ar : Arg} {pl : Sem Bool}
    {p0 p1 p2 apos cpos pos : Pos} {j : Nat} {txt : Str}
    (F : ExF P K C f c cc (fdE name qual params (.Expr (.Call (.Attribute (.Call (.Name "super" p0) [] [] p1) "__init__" apos) [.Constant (.str txt) j p2] [] cpos) pos :: rest) scope cc c doc pm ct an))
    (hcd : PySem.W.codeIn K (.ref c) qual = true) (S : NdefX.NScope N ps ["__class__"] scope) (len : ∀ vs H Q E, sp vs H Q E → vs.length = ps.length) (hks : scope.names.lookup ("super" : Str) = some .globalImplicit)
    (hp : (params.posonlyargs ++ params.args).head? = some ar) (hN : N[0]? = some ar.arg) (hka : scope.names.lookup ar.arg = some .local) (hm : mg "super" = none)
    (hline : ∀ L : Addr, interactive (NdefX.envF (nfE name qual params (.Expr (.Call (.Attribute (.Call (.Name "super" p0) [] [] p1) "__init__" apos) [.Constant (.str txt) j p2] [] cpos) pos :: rest) scope cc c) f L) = false ∧ swapsWith (.Call (.Attribute (.Call (.Name "super" p0) [] [] p1) "__init__" apos) [.Constant (.str txt) j p2] [] cpos) none pos.line (NdefX.envF (nfE name qual params (.Expr (.Call (.Attribute (.Call (.Name "super" p0) [] [] p1) "__init__" apos) [.Constant (.str txt) j p2] [] cpos) pos :: rest) scope cc c) f L) = pure false ∧
      eval (.Call (.Attribute (.Call (.Name "super" p0) [] [] p1) "__init__" apos) [.Constant (.str txt) j p2] [] cpos) (NdefX.envF (nfE name qual params (.Expr (.Call (.Attribute (.Call (.Name "super" p0) [] [] p1) "__init__" apos) [.Constant (.str txt) j p2] [] cpos) pos :: rest) scope cc c) f L) = (do
        let ov ← attributeBase (.Call (.Name "super" p0) [] [] p1) "__init__" (NdefX.envF (nfE name qual params (.Expr (.Call (.Attribute (.Call (.Name "super" p0) [] [] p1) "__init__" apos) [.Constant (.str txt) j p2] [] cpos) pos :: rest) scope cc c) f L) (eval (.Call (.Name "super" p0) [] [] p1) (NdefX.envF (nfE name qual params (.Expr (.Call (.Attribute (.Call (.Name "super" p0) [] [] p1) "__init__" apos) [.Constant (.str txt) j p2] [] cpos) pos :: rest) scope cc c) f L))
        standAt apos.atName
        let (g, first) ← holding [ov] (getMethod ov "__init__" pl)
        callWith cpos g first (backTo cpos (starEach [.Constant (.str txt) j p2] (NdefX.envF (nfE name qual params (.Expr (.Call (.Attribute (.Call (.Name "super" p0) [] [] p1) "__init__" apos) [.Constant (.str txt) j p2] [] cpos) pos :: rest) scope cc c) f L))) []))
    (hbody : ∀ (A : Around) (outer : List Env) (s : Shared) (H : Hp) (vs : List V) (Q : VK) (E : XK), sp vs H Q E → ∃ a, vs[0]? = some (.ref a) ∧ H a = some (exo a C none) ∧
      ∃ t, PSs (NdefX.ncx CX P w K mg base N (nfE name qual params (.Expr (.Call (.Attribute (.Call (.Name "super" p0) [] [] p1) "__init__" apos) [.Constant (.str txt) j p2] [] cpos) pos :: rest) scope cc c) f A outer s H E) rest t ∧ t { nx := fun _ H' => Q .non H', rt := Q } (NdefX.startF N vs [none]) H) :
    FnOk P w K mg base CX (k + 1) f (fdE name qual params (.Expr (.Call (.Attribute (.Call (.Name "super" p0) [] [] p1) "__init__" apos) [.Constant (.str txt) j p2] [] cpos) pos :: rest) scope cc c doc pm ct an) ps sp := by
  refine ⟨len, fun A outer s H args us vs Q E hr e0 hb r hsp => ?_⟩
  obtain ⟨oc, od, osl, lk⟩ := F.fn
  obtain ⟨cl, cld, csl, hcell⟩ := F.cell
  have hl := len _ _ _ _ hsp
  have KX : K.In s.heap := e0.mod.kin.keeps fun b o e => (e0.bs b o e).1
  have lim : s.heap.NoLimit := e0.mod.nolimit.keeps fun b o e => (e0.bs b o e).1
  obtain ⟨a, h0, ea, t, ht, hq⟩ := hbody A outer s H vs Q E hsp
  have hcc := e0.mod.kin _ _ hcell
  have CA : NdefX.CellsAt [(("__class__" : Str), cc)] ["__class__"] [none] s.heap H := by
    have one : ∀ (y : Str) (c' : Addr), ([(("__class__" : Str), cc)] : List (Str × Addr)).lookup y = some c' → c' = cc ∧ y = "__class__" := fun y c' e => by
      simp only [List.lookup] at e
      split at e
      · rename_i q
        cases e
        exact ⟨rfl, by simpa using q⟩
      · cases e
    refine ⟨rfl, fun y c' e => ?_, fun x y c' e1 e2 => ?_, fun i y e => ?_⟩
    · obtain ⟨rfl, _⟩ := one y c' e
      exact ⟨(e0.bs _ _ hcc).2, _, _, (e0.bs _ _ hcc).1, rfl⟩
    · rw [(one x c' e1).2, (one y c' e2).2]
    · cases i with
      | zero =>
        simp at e
        subst e
        exact ⟨cc, by simp [List.lookup], fun v z => by simp at z⟩
      | succ i => simp at e
  refine ks_codeAny_call_defAt hr.depth (KX _ _ lk) rfl lim (PySem.W.codeRec_of KX hcd) rfl hb S.nocell (fun ⟨n, v⟩ hy => S.par n (List.of_mem_zip hy).1) (fun h₁ hns hk => ?_) S.co S.gen S.kind
  have I : L2.Inv (NdefX.ncx CX P w K mg base N (nfE name qual params (.Expr (.Call (.Attribute (.Call (.Name "super" p0) [] [] p1) "__init__" apos) [.Constant (.str txt) j p2] [] cpos) pos :: rest) scope cc c) f A outer s H E) [] (NdefX.startF N vs [none]) H { s with heap := h₁, toks := s.toks + (ps.zip us).length } := NdefX.inv_startN S hr.hd e0 hl r CA hns hk
  obtain ⟨hi, hs, hmc⟩ := hline s.heap.objs.size
  have hs0 : (NdefX.startF N vs [none])[0]? = some (some (.ref a)) := by
    unfold NdefX.startF
    cases vs with
    | nil => simp at h0
    | cons v vs => simp at h0; subst h0; simp
  refine ks_wpAt_execs_cons (ks_wpAt_mono (exc_first (X := NdefX.ncx CX P w K mg base N (nfE name qual params (.Expr (.Call (.Attribute (.Call (.Name "super" p0) [] [] p1) "__init__" apos) [.Constant (.str txt) j p2] [] cpos) pos :: rest) scope cc c) f A outer s H E) F I rfl rfl (by simp [NdefX.ncx, List.lookup]) hks (S.frk _ (by simp)) hp hN hka hs0 hm ea hi hs hmc rfl rfl) (fun fl s' z => ?_) fun e s' z => z)
  obtain ⟨rfl, J⟩ := z
  refine wpAt_of_wpAny (wpAny_mono (ht.run [] s' _ H _ J hq) (fun fl s2 hs2 => ?_) fun e s2 z => z)
  have fin : ∀ {σ' : L2.St} {H' : Hp} {v : V} {u : Value}, L2.Inv (NdefX.ncx CX P w K mg base N (nfE name qual params (.Expr (.Call (.Attribute (.Call (.Name "super" p0) [] [] p1) "__init__" apos) [.Constant (.str txt) j p2] [] cpos) pos :: rest) scope cc c) f A outer s H E) [] σ' H' s2 → L2.RelV v u → Q v H' → CE outer P w H s Q u s2 :=
    fun {σ' H' v u} J rv q => ⟨v, H', J.os, J.bare, J.base, J.hok, rv, q⟩
  cases fl with
  | ret u =>
    obtain ⟨v, σ', H', J, rv, q⟩ := hs2
    exact fin J rv q
  | next =>
    obtain ⟨σ', H', J, q⟩ := hs2
    exact fin (v := V.non) (u := Value.none) J rfl q
  | brk =>
    obtain ⟨_, _, _, q⟩ := hs2
    exact False.elim q
  | cont =>
    obtain ⟨_, _, _, q⟩ := hs2
    exact False.elim q
end W3
end

section
namespace W3
open PySem PySem.Spec PyProof.Rows PySem.W
open L2
def spE1 (C : Addr) (f1 : Str) : Sp := fun vs H Q E => ∃ (a : Addr) (y1 : V), vs = [.ref a, y1] ∧ H a = some (exo a C none) ∧ ∀ dx, H dx = none → dx ≠ a → Q .non (upd (upd H dx (exd dx [(f1, y1)])) a (exo a C (some dx)))
section
variable {X : Cx} {q1 q2 q3 q4 r1 r2 r3 r4 : Pos} {sf a1 a2 f1 f2 : Str} {C : Addr}
theorem body1 {σ : L2.St} {H : Hp} {D : Ends} (T : OexC X.K C) (n1 : PySem.W.findIn X.K (.ref C) f1 = some none) (hN0 : X.N[0]? = some sf) (hN1 : X.N[1]? = some a1) (v0 : Vis X.env.scope sf) (v1 : Vis X.env.scope a1) (hd0 : (sf == ("__debug__" : Str)) = false) (hc0 : (sf == ("__classdict__" : Str)) = false) (hd1 : (a1 == ("__debug__" : Str)) = false) (hc1 : (a1 == ("__classdict__" : Str)) = false)
    (hs : swapsWith (.Name a1 q3) (some (.Attribute (.Name sf q1) f1 q2)) q4.line X.env = pure false) {a : Addr} {y1 : V} (e0 : σ[0]? = some (some (.ref a))) (e1 : σ[1]? = some (some y1)) (ea : H a = some (exo a C none)) (q : ∀ dx, H dx = none → dx ≠ a → D.nx σ (upd (upd H dx (exd dx [(f1, y1)])) a (exo a C (some dx)))) :
    ∃ t, PSs X [.Assign [.Attribute (.Name sf q1) f1 q2] (.Name a1 q3) q4] t ∧ t D σ H :=
  ⟨_, pss_one (ps_ost (pe_var (i := 0) hN0 v0 hd0 hc0) (pe_var (i := 1) hN1 v1 hd1 hc1) hs), ⟨y1, e1, .ref a, e0, a, C, rfl, T, n1, .inl ⟨ea, q⟩⟩⟩
end
def ssRaiseX (c : Str) (ns : List Str) (a : SA) : SS := fun σ h => (a σ h).flo σ fun xs h1 => if xs.length = ns.length then .exc c (ns.zip xs).reverse σ h1 else .stk
section
variable {X : Cx} {P : Pq} {W : WX} {e : Expr} {es : List Expr} {ar : SA} {x : Str} {C fI : Addr} {k : Nat} {fd : FuncData} {ps : List Str} {p pos pos' : Pos}
theorem exc_out {m : Mp} {H : Hp} {h : Hh} {σV : L2.St} {σ : St3} {D : Ends} {fs : List (Str × T)} {fv : List (Str × V)} {c : Str} (A : At X.K X.mg X.w P m H σV σ h) (hm : X.mg c = some (.ref C)) (o : OutS X.K X.mg X.w W D m H (.exc c fs σ h)) (r : RF X.K X.mg m H fs fv) {d : Addr} (hd : H d = none) : W (.ref C) (some d) σV (upd H d (.xd fv)) := by
  have E := Ext.garbage (o := .xd fv) A.hr hd
  exact o (.ref C) (some d) σV m _ E (A.sr.ext E) ⟨hm, .inr ⟨d, fv, rfl, upd_same, r.ext E⟩⟩ (A.hr.garbage hd)
theorem ds_raise1 {f1 : Str} (hc : X.calm = true) (tk : Takes X W) (T : OexC X.K C) (iC : PySem.W.findIn X.K (.ref C) "__init__" = some (some (.ref fI))) (tI : PySem.W.typeIn X.K (.ref fI) = some (.type "function"))
    (F1 : FnOk X.prog X.w X.K X.mg X.base (L2.CX X.prog X.w) k fI fd ps (spE1 C f1)) (hr : Room (k + 1) X.A) (hb : Binds X.K fd ps []) (hg : Gl X x) (hm : X.mg x = some (.ref C)) (ha : DA X P W (e :: es) ar)
    (hdb : (x == ("__debug__" : Str)) = false := by decide) (he : starEach (e :: es) X.env = (false, eval e X.env) :: starEach es X.env := by rfl) (hpl : (backTo pos (starEach es X.env)).any (·.1) = false := by rfl) :
    DS X P W (.Raise (some (.Call (.Name x p) (e :: es) [] pos)) none pos') (ssRaiseX x [f1] ar) := by
  refine PS.imp (ps_raise hc tk (pmk_oex T iC tI F1 hr hb .nil (passes_call tk fun _ _ _ _ z => z.elim) hg hm ha hdb he hpl)) fun D σV H ⟨m, h, σ, A, o⟩ => ?_
  refine A.flo (rel1 := RTs X.K X.mg) o fun m1 h1 ts vs H1 E1 r A1 o1 => ?_
  split at o1
  · rename_i hl
    match ts, hl with
    | [t], _ =>
      obtain ⟨v, rfl, rv⟩ := r.one
      refine ⟨by simp, fun a hn => ⟨a, v, rfl, upd_same, fun dx hdx hne => ⟨rfl, dx, [(f1, v)], upd_same, ?_, ?_, ?_⟩⟩⟩
      · rw [upd_ne hne, upd_same]
      · rw [upd_ne hne] at hdx; exact hdx
      · have hdx' : H1 dx = none := by rw [upd_ne hne] at hdx; exact hdx
        have eq : upd (del (upd (upd (upd H1 a (exo a C none)) dx (exd dx [(f1, v)])) a (exo a C (some dx))) a) dx (.xd [(f1, v)]) = upd H1 dx (.xd [(f1, v)]) := by
          funext b
          by_cases hb : b = dx
          · rw [hb, upd_same, upd_same]
          · rw [upd_ne hb, upd_ne hb]
            by_cases hb2 : b = a
            · rw [hb2, del_same, hn]
            · rw [del_ne hb2, upd_ne hb2, upd_ne hb, upd_ne hb2]
        rw [eq]
        exact exc_out A1 hm o1 (.cons rv .nil) hdx'
  · exact False.elim o1
end
end W3
end

section
namespace W3
open PySem PySem.Spec PyProof.Rows
open L2
abbrev Tsu := Addr → Value → Option Addr → TS
def wManyA (K : PySem.W.Frag) (Wout : WX) (D : Ends) : List (Value × Option Nat × Tsu) → WX
  | [] => Wout
  | (c, none, ts) :: r => fun cls d σ H => ∃ b, PySem.W.exmOne K cls c = some b ∧ (b = true → ∀ a, H a = none → ts a cls d D σ H) ∧ (b = false → wManyA K Wout D r cls d σ H)
  | (c, some i, ts) :: r => fun cls d σ H => ∃ b, PySem.W.exmOne K cls c = some b ∧ (b = true → ∀ a, H a = none → ts a cls d { nx := fun σ' H' => D.nx (σ'.set i none) H', rt := D.rt, bk := fun σ' H' => D.bk (σ'.set i none) H', ct := fun σ' H' => D.ct (σ'.set i none) H' } (σ.set i (some (.ref a))) H) ∧ (b = false → wManyA K Wout D r cls d σ H)
inductive HdsA (X : Cx) : List ExceptHandler → List (Value × Option Nat × Tsu) → Prop
  | nil : HdsA X [] []
  | cons {x : Str} {c : Value} {ts : Tsu} {b₀ : Stmt} {suite : List Stmt} {np pos' : Pos} {hds : List ExceptHandler} {l : List (Value × Option Nat × Tsu)} (hc : Names X x c)
      (hsu : ∀ (a : Addr) (oe : Obj) (cls : Value) (d : Option Addr) (pn : List (Addr × Obj)), Zc cls d oe → (∃ vs, oe.data = .fields vs) → PSs (X.suite a ((a, oe) :: pn)) (b₀ :: suite) (ts a cls d)) (r : HdsA X hds l) :
      HdsA X (.ExceptHandler (some (.Name x np)) none (b₀ :: suite) pos' :: hds) ((c, none, ts) :: l)
  | cas {x n : Str} {i : Nat} {c : Value} {ts : Tsu} {b₀ : Stmt} {suite : List Stmt} {np pos' : Pos} {hds : List ExceptHandler} {l : List (Value × Option Nat × Tsu)} (hi : X.N[i]? = some n) (hln : X.env.kindOf n = some .local) (hc : Names X x c)
      (hsu : ∀ (a : Addr) (oe : Obj) (cls : Value) (d : Option Addr) (pn : List (Addr × Obj)), Zc cls d oe → (∃ vs, oe.data = .fields vs) → PSs (X.suite a ((a, oe) :: pn)) (b₀ :: suite) (ts a cls d)) (r : HdsA X hds l) :
      HdsA X (.ExceptHandler (some (.Name x np)) (some n) (b₀ :: suite) pos' :: hds) ((c, some i, ts) :: l)
section
variable {X : Cx} {body : List Stmt} {h₀ : ExceptHandler} {hds : List ExceptHandler} {l : List (Value × Option Nat × Tsu)} {pos : Pos} {tb : WX → TS} {Wout : WX}
theorem ps_tryA (hs : X.stack = X.env :: X.outer) (hf : X.env.frame = some X.env.locals) (hN : X.N.Nodup) (tk : Takes X Wout)
    (hb : ∀ (W : WX) (pn : List (Addr × Obj)) (xe : Value → Shared → Prop), Takes (X.tr pn xe) W → PassesOwn (model X.prog X.w) X.A X.env xe → PSs (X.tr pn xe) body (tb W))
    (hh : HdsA X (h₀ :: hds) l) : PS X (.Try body (h₀ :: hds) [] [] pos) (fun D σ H => tb (wManyA X.K Wout D l) D σ H) := by
  refine ⟨fun pins s σ H D I h => ?_⟩
  have ok := I.ok
  have hfr : X.A.frames = some (X.env :: X.outer) := by rw [ok.frames, hs]
  refine wpAny_Try_except ?_
  refine wpAny_mono ((hb (wManyA X.K Wout D l) (X.pn ++ pins) (fun e s₁ => wpAny (model X.prog X.w) X.A (noteFrame e X.env) (fun _ s₂ => wpAny (model X.prog X.w) X.A (setFlight e none) (fun _ s₃ =>
    wpAny (model X.prog X.w) X.A (handleBy e X.env (h₀ :: hds)) (SP X pins D) X.xe s₃) X.xe s₂) X.xe s₁) (fun u s' xx => ?_) PassesOwn.looking).run [] s σ H D (I.toTry _) h) (fun f s1 hsp => ?_) (fun e s1 he => he)
  · obtain ⟨a, B, sI, pins', σ', H', cls, d, rfl, J', nb, up, sky, na, os, ag, w⟩ := xx
    have J : L2.Inv X pins σ' H' sI := J'.ofTry ok
    have sky' : Sky B (X.env :: X.outer) a (Zc cls d) X.env.locals s'.heap := by rw [← hs]; exact sky
    show wpAny (model X.prog X.w) X.A (noteFrame (.ref a) X.env) _ _ _
    refine Sky.land Zc.steady hfr hf sky' fun h3 fl3 up3 => ?_
    have J3 : L2.Inv X pins σ' H' { s' with heap := h3 } := J.landed nb fl3.1 (up.trans up3) os ag
    obtain ⟨oe3, vs3, he3, hz3, hd3⟩ := fl3.there
    have notFr : ∀ {h : Heap} {o : Obj} {vs : Array Value}, h.FunFrames B (X.env :: X.outer) → h.get? a = some o → o.data = .fields vs → a ∉ frs (X.env :: X.outer) := fun {h o vs} ff e dd hm => by
      obtain ⟨_, o', e', hnf⟩ := ff.mem hm
      rw [e] at e'; cases e'
      exact hnf _ dd
    have nfr := notFr fl3.2.2.1 he3 hd3
    have nL : a ≠ X.env.locals := fun z => nfr (List.mem_filterMap.mpr ⟨X.env, List.mem_cons_self, by rw [hf, z]⟩)
    have nF : a ∉ X.fs := fun hm => by
      obtain ⟨e, he, q⟩ := List.mem_filterMap.mp hm
      exact nfr (List.mem_filterMap.mpr ⟨e, List.mem_cons_of_mem _ he, q⟩)
    have S3 := J3.suite he3 hd3 na nL nF
    have LT : PySem.W.Looks (model X.prog X.w) h3 (typeOf (.ref a)) cls := fun A Q E s k q => wpAny_typeOf_ref (k _ _ he3) (by rw [hz3.1]; exact q)
    have test : ∀ {x : Str} {c : Value} {np : Pos} {Q : Value → Shared → Prop} {E : Value → Shared → Prop}, Names X x c → Q c { s' with heap := h3 } → wpAny (model X.prog X.w) (X.A.mark (some (.ref a))) (eval (.Name x np) X.env) Q E { s' with heap := h3 } := fun {x c np Q E} hc q => by
      obtain ⟨hg, hdbg, hm | ⟨hm, hv, hnn⟩⟩ := hc
      · exact ld_glob (X := X.suite a ((a, oe3) :: (X.pn ++ pins))) S3 hg hm q hdbg
      · exact ld_blt (X := X.suite a ((a, oe3) :: (X.pn ++ pins))) S3 hg hm hv q hnn hdbg
    have go : ∀ {hds' : List ExceptHandler} {l' : List (Value × Option Nat × Tsu)}, HdsA X hds' l' → wManyA X.K Wout D l' cls d σ' H' →
        wpAny (model X.prog X.w) X.A (handleBy (.ref a) X.env hds') (SP X pins D) X.xe { s' with heap := h3 } := by
      intro hds' l' hk
      induction hk with
      | nil =>
        intro w
        refine wpAny_handleBy_nil ?_
        obtain ⟨k1, k2, k3, oe, vs, T, oT, ts', he, hz, hd, h1, hr⟩ := id fl3
        unfold PySem.passOn
        refine wpAny_bind (wpAny_field he hd h1 ?_)
        rw [if_neg (show ¬ ((Value.ref T == Value.none) = true) from by simp)]
        have fin : wpAny (model X.prog X.w) X.A (setFlight (.ref a) X.env.frame) (fun _ s4 => wpAny (model X.prog X.w) X.A (throw (.ref a) : Sem Flow) (SP X pins D) X.xe s4) X.xe { s' with heap := h3 } := by
          rw [hf]
          refine HandSPX.setFlight_upZ fl3 fun h4 hh4 up4 => wpAny_throw (tk _ _ ?_)
          exact ⟨a, B, sI, pins, σ', H', cls, d, rfl, J, nb, (up.trans up3).trans up4, .inr (.inr (by rw [hs]; exact hh4)), na, os, ag, w⟩
        first
          | exact wpAny_bind (wpAny_pure (wpAny_bind fin))
          | exact wpAny_bind fin
      | @cons x c ts b₀ suite np pos' hds2 l2 hc hsu r ih =>
        intro w
        obtain ⟨b, hb1, hyes, hno⟩ := w
        refine wpAny_handleBy_cons (codeAny_handlers_test ?_) (by intro q; cases q)
        have LM := PySem.W.exm_one (M := model X.prog X.w) (J3.kIn) LT hb1
        refine test hc (LM.here ?_)
        cases b with
        | true =>
          refine codeAny_handlers_suite ?_
          refine HandSPX.lands_againZ fl3 fun h4 fl4 up4 => ?_
          have J4 : L2.Inv X pins σ' H' { s' with heap := h4 } := J.landed nb fl4.1 ((up.trans up3).trans up4) os ag
          obtain ⟨oe4, vs4, he4, hz4, hd4⟩ := fl4.there
          have S4 := J4.suite he4 hd4 na nL nF
          refine wpAny_mono ((hsu a oe4 cls d (X.pn ++ pins) hz4 ⟨_, hd4⟩).run [] _ _ H' _ S4 (hyes rfl a na)) (fun f s6 hsp => ?_) (fun _ _ z => False.elim z)
          cases f with
          | next =>
            obtain ⟨σ6, H6, S6, q6⟩ := hsp
            exact ⟨_, _, S6.unsuite ok, q6⟩
          | brk =>
            obtain ⟨σ6, H6, S6, q6⟩ := hsp
            exact ⟨_, _, S6.unsuite ok, q6⟩
          | cont =>
            obtain ⟨σ6, H6, S6, q6⟩ := hsp
            exact ⟨_, _, S6.unsuite ok, q6⟩
          | ret u =>
            obtain ⟨v6, σ6, H6, S6, r6, q6⟩ := hsp
            exact ⟨_, _, _, S6.unsuite ok, r6, q6⟩
        | false =>
          show wpAny _ X.A (handleBy (.ref a) X.env hds2) _ _ _
          exact ih (hno rfl)
      | @cas x n i c ts b₀ suite np pos' hds2 l2 hi hln hc hsu r ih =>
        intro w
        obtain ⟨b, hb1, hyes, hno⟩ := w
        have hloc : Loc X.env.scope n := .inl hln
        refine wpAny_handleBy_cons (codeAny_handlers_test ?_) (by intro q; cases q)
        have LM := PySem.W.exm_one (M := model X.prog X.w) (J3.kIn) LT hb1
        refine test hc (LM.here ?_)
        cases b with
        | true =>
          refine codeAny_handlers_suite_as ?_
          refine HandSPX.lands_againZ fl3 fun h4 fl4 up4 => ?_
          have J4 : L2.Inv X pins σ' H' { s' with heap := h4 } := J.landed nb fl4.1 ((up.trans up3).trans up4) os ag
          obtain ⟨oe4, vs4, he4, hz4, hd4⟩ := fl4.there
          have S4 := J4.suite he4 hd4 na nL nF
          refine store_ok (X := X.suite a ((a, oe4) :: (X.pn ++ pins))) (v := .ref a) S4 hN hi hloc rfl (fun s5 S5 => ?_) (.inr hln)
          refine wpAny_mono ((hsu a oe4 cls d (X.pn ++ pins) hz4 ⟨_, hd4⟩).run [] s5 _ H' _ S5 (hyes rfl a na)) (fun f s6 hsp => ?_) (fun _ _ z => False.elim z)
          have end_ : ∀ {σ6 : L2.St} {H6 : Hp} {Q : Shared → Prop}, L2.Inv (X.suite a ((a, oe4) :: (X.pn ++ pins))) [] σ6 H6 s6 → (∀ s7, L2.Inv X pins (σ6.set i none) H6 s7 → Q s7) →
              wpAny (model X.prog X.w) X.A (do bindName X.env n .none; unbindBehindTheSuite X.env n pos') (fun _ s7 => Q s7) X.xe s6 := fun {σ6 H6 Q} S6 hq => gone_ok (S6.unsuite ok) hN hi hln hq
          cases f with
          | next =>
            obtain ⟨σ6, H6, S6, q6⟩ := hsp
            exact end_ S6 fun s7 J7 => ⟨_, _, J7, q6⟩
          | brk =>
            obtain ⟨σ6, H6, S6, q6⟩ := hsp
            exact end_ S6 fun s7 J7 => ⟨_, _, J7, q6⟩
          | cont =>
            obtain ⟨σ6, H6, S6, q6⟩ := hsp
            exact end_ S6 fun s7 J7 => ⟨_, _, J7, q6⟩
          | ret u =>
            obtain ⟨v6, σ6, H6, S6, r6, q6⟩ := hsp
            exact end_ S6 fun s7 J7 => ⟨_, _, _, J7, r6, q6⟩
        | false =>
          show wpAny _ X.A (handleBy (.ref a) X.env hds2) _ _ _
          exact ih (hno rfl)
    exact go hh w
  · cases f with
    | next =>
      obtain ⟨σ', H', J', q⟩ := hsp
      exact wpAny_execs_nil ⟨σ', H', J'.ofTry ok, q⟩
    | brk =>
      obtain ⟨σ', H', J', q⟩ := hsp
      exact ⟨σ', H', J'.ofTry ok, q⟩
    | cont =>
      obtain ⟨σ', H', J', q⟩ := hsp
      exact ⟨σ', H', J'.ofTry ok, q⟩
    | ret u =>
      obtain ⟨v, σ', H', J', r, q⟩ := hsp
      exact ⟨v, σ', H', J'.ofTry ok, r, q⟩
end
abbrev XSub := List (Str × List Str)
structure Hdl where
  x : Str
  sl : Option Nat
  k : Str → List (Str × T) → SS
def clrF : Option Nat → Flo → Flo
  | none, .exc _ _ _ _ => .stk
  | none, r => r
  | some i, .nx σ h => .nx (σ.set i none) h
  | some i, .bk σ h => .bk (σ.set i none) h
  | some i, .ct σ h => .ct (σ.set i none) h
  | some _, .rt t h => .rt t h
  | some _, _ => .stk
def slSet : Option Nat → St3 → St3 | none, σ => σ | some i, σ => σ.set i none
def tryGo (XS : XSub) : List Hdl → Str → List (Str × T) → SS
  | [], c, fs => fun σ h => .exc c fs σ h
  | hd :: r, c, fs => fun σ h => match XS.lookup c with
    | none => .stk
    | some ss => if ss.contains hd.x then clrF hd.sl (hd.k c fs (slSet hd.sl σ) h) else tryGo XS r c fs σ h
def ssTryX (XS : XSub) (a : SS) (hs : List Hdl) : SS := fun σ h => match a σ h with
  | .exc c fs σ1 h1 => tryGo XS hs c fs σ1 h1
  | r => r
def tHG {α β : Type} (K : PySem.W.Frag) (mg : Str → Option Value) (wd : World) (sl : Option Nat) (a : Addr) (c : Str) (fs : List (Str × T)) (cls : Value) (d : Option Addr) (rel : Mp → Hp → α → β → Prop) (se : St3 → Hh → Res α) : L2.St → Hp → (β → Hp → Prop) → Prop := fun σV H Q =>
  ∃ m h σ, At K mg wd PqT m H σV σ h ∧ (∀ i, sl = some i → i < σV.length → σV[i]? = some (some (.ref a))) ∧ XR K mg m H c fs cls d ∧ Out K mg wd rel WF σV Q m H (se σ h)
def tH (K : PySem.W.Frag) (mg : Str → Option Value) (wd : World) (sl : Option Nat) (a : Addr) (c : Str) (fs : List (Str × T)) (cls : Value) (d : Option Addr) (ss : SS) : TS := fun D σV H =>
  ∃ m h σ, At K mg wd PqT m H σV σ h ∧ (∀ i, sl = some i → i < σV.length → σV[i]? = some (some (.ref a))) ∧ XR K mg m H c fs cls d ∧ OutS K mg wd WF D m H (ss σ h)
def HOk (X : Cx) (XS : XSub) (sl : Option Nat) (suite : List Stmt) (k : Str → List (Str × T) → SS) : Prop := ∀ (a : Addr) (oe : Obj) (cls : Value) (d : Option Addr) (pn : List (Addr × Obj)) (c : Str) (ss : List Str) (fs : List (Str × T)), Zc cls d oe → (∃ vs, oe.data = .fields vs) → XS.lookup c = some ss → X.mg c = some cls →
  PSs (X.suite a ((a, oe) :: pn)) suite (tH X.K X.mg X.w sl a c fs cls d (k c fs))
def Catches (X : Cx) (XS : XSub) (x : Str) (cv : Value) : Prop := ∀ c ss cls, XS.lookup c = some ss → X.mg c = some cls → PySem.W.exmOne X.K cls cv = some (ss.contains x)
inductive DHs (X : Cx) (XS : XSub) : List ExceptHandler → List Hdl → Prop
  | nil : DHs X XS [] []
  | cons {x : Str} {cv : Value} {b₀ : Stmt} {suite : List Stmt} {np pos' : Pos} {hds : List ExceptHandler} {l : List Hdl} {k : Str → List (Str × T) → SS} (hc : Names X x cv) (hx : Catches X XS x cv) (hk : HOk X XS none (b₀ :: suite) k) (r : DHs X XS hds l) :
      DHs X XS (.ExceptHandler (some (.Name x np)) none (b₀ :: suite) pos' :: hds) (⟨x, none, k⟩ :: l)
  | cas {x n : Str} {i : Nat} {cv : Value} {b₀ : Stmt} {suite : List Stmt} {np pos' : Pos} {hds : List ExceptHandler} {l : List Hdl} {k : Str → List (Str × T) → SS} (hi : X.N[i]? = some n) (hln : X.env.kindOf n = some .local) (hc : Names X x cv) (hx : Catches X XS x cv)
      (hk : HOk X XS (some i) (b₀ :: suite) k) (r : DHs X XS hds l) :
      DHs X XS (.ExceptHandler (some (.Name x np)) (some n) (b₀ :: suite) pos' :: hds) (⟨x, some i, k⟩ :: l)
section
variable {X : Cx} {P : Pq} {W : WX}
theorem SR.setN {m : Mp} {H : Hp} {σ : St3} {σV : L2.St} (r : SR X.K X.mg m H σ σV) (i : Nat) (o : Option V) : SR X.K X.mg m H (σ.set i none) (σV.set i o) := by
  refine ⟨by rw [List.length_set, List.length_set]; exact r.1, fun j u e => ?_⟩
  by_cases hj : i = j
  · subst hj
    by_cases hi : i < σ.length
    · rw [List.getElem?_set_self hi] at e; cases e
    · rw [List.getElem?_eq_none (by rw [List.length_set]; omega)] at e; cases e
  · rw [List.getElem?_set_ne hj] at e
    obtain ⟨w, e2, q2⟩ := r.2 j u e
    exact ⟨w, by rw [List.getElem?_set_ne hj]; exact e2, q2⟩
def tsOf (X : Cx) (XS : XSub) (sl : Option Nat) (k : Str → List (Str × T) → SS) : Tsu := fun a cls d D σV H => ∃ c ss fs, XS.lookup c = some ss ∧ X.mg c = some cls ∧ tH X.K X.mg X.w sl a c fs cls d (k c fs) D σV H
theorem hok_ps {XS : XSub} {sl : Option Nat} {suite : List Stmt} {k : Str → List (Str × T) → SS} (hk : HOk X XS sl suite k) (a : Addr) (oe : Obj) (cls : Value) (d : Option Addr) (pn : List (Addr × Obj)) (hz : Zc cls d oe) (hv : ∃ vs, oe.data = .fields vs) :
    PSs (X.suite a ((a, oe) :: pn)) suite (tsOf X XS sl k a cls d) :=
  ⟨fun pins s σ H D I ⟨c, ss, fs, h1, h2, h⟩ => (hk a oe cls d pn c ss fs hz hv h1 h2).run pins s σ H D I h⟩
theorem dhs_go {XS : XSub} {D : Ends} : ∀ {hds : List ExceptHandler} {l : List Hdl}, DHs X XS hds l → ∃ lv : List (Value × Option Nat × Tsu), HdsA X hds lv ∧ ∀ {c : Str} {fs : List (Str × T)} {σ1 : St3} {h1 : Hh} {m : Mp} {H : Hp} {cls : Value} {d : Option Addr} {σV : L2.St},
    SR X.K X.mg m H σ1 σV → XR X.K X.mg m H c fs cls d → HR X.K X.mg X.w m h1 H → OutS X.K X.mg X.w W D m H (tryGo XS l c fs σ1 h1) → wManyA X.K W D lv cls d σV H
  | _, _, .nil => ⟨[], .nil, fun {c fs σ1 h1 m H cls d σV} sr xr hr o => o cls d σV m H (Ext.refl _ _) sr xr hr⟩
  | _, _, .cons (k := k) hc hx hk r => by
    obtain ⟨lv, hl, go⟩ := dhs_go (D := D) r
    refine ⟨_ :: lv, .cons hc (fun a oe cls d pn hz hv => hok_ps hk a oe cls d pn hz hv) hl, fun {c fs σ1 h1 m H cls d σV} sr xr hr o => ?_⟩
    unfold tryGo at o
    dsimp only at o
    split at o
    · exact False.elim o
    · rename_i ss hss
      refine ⟨_, hx c ss cls hss xr.1, fun hb a na => ⟨c, ss, fs, hss, xr.1, m, h1, σ1, ⟨sr, hr, trivial⟩, (fun i z => nomatch z), xr, ?_⟩, fun hb => go sr xr hr ?_⟩
      · rw [if_pos hb] at o
        show OutS X.K X.mg X.w WF D m H (k c fs σ1 h1)
        have o' : OutS X.K X.mg X.w W D m H (clrF none (k c fs σ1 h1)) := o
        cases e : k c fs σ1 h1 with
        | nx σ2 h2 => rw [e] at o'; exact o'
        | rt t h2 => rw [e] at o'; exact o'
        | bk σ2 h2 => rw [e] at o'; exact o'
        | ct σ2 h2 => rw [e] at o'; exact o'
        | exc _ _ _ _ => rw [e] at o'; exact False.elim o'
        | stk => rw [e] at o'; exact o'
      · rw [if_neg (by rw [hb]; exact Bool.false_ne_true)] at o; exact o
  | _, _, .cas (k := k) (i := i) hi hln hc hx hk r => by
    obtain ⟨lv, hl, go⟩ := dhs_go (D := D) r
    refine ⟨_ :: lv, .cas hi hln hc (fun a oe cls d pn hz hv => hok_ps hk a oe cls d pn hz hv) hl, fun {c fs σ1 h1 m H cls d σV} sr xr hr o => ?_⟩
    unfold tryGo at o
    dsimp only at o
    split at o
    · exact False.elim o
    · rename_i ss hss
      refine ⟨_, hx c ss cls hss xr.1, fun hb a na => ⟨c, ss, fs, hss, xr.1, m, h1, σ1.set i none, ⟨sr.setN i _, hr, trivial⟩, (fun i' z hlt => ?_), xr, ?_⟩, fun hb => go sr xr hr ?_⟩
      · cases z
        rw [List.length_set] at hlt
        rw [List.getElem?_set_self hlt]
      · rw [if_pos hb] at o
        show OutS X.K X.mg X.w WF _ m H (k c fs (σ1.set i none) h1)
        have o' : OutS X.K X.mg X.w W D m H (clrF (some i) (k c fs (σ1.set i none) h1)) := o
        cases e : k c fs (σ1.set i none) h1 with
        | nx σ2 h2 => rw [e] at o'; exact fun σV2 m2 H2 E2 s2 R2 => o' _ m2 H2 E2 (s2.setN i none) R2
        | rt t h2 => rw [e] at o'; exact o'
        | bk σ2 h2 => rw [e] at o'; exact fun σV2 m2 H2 E2 s2 R2 => o' _ m2 H2 E2 (s2.setN i none) R2
        | ct σ2 h2 => rw [e] at o'; exact fun σV2 m2 H2 E2 s2 R2 => o' _ m2 H2 E2 (s2.setN i none) R2
        | exc _ _ _ _ => rw [e] at o'; exact False.elim o'
        | stk => rw [e] at o'; exact o'
      · rw [if_neg (by rw [hb]; exact Bool.false_ne_true)] at o; exact o
theorem ds_try {XS : XSub} {body : List Stmt} {h₀ : ExceptHandler} {hds : List ExceptHandler} {x1 : SS} {l : List Hdl} {pos : Pos} (hs : X.stack = X.env :: X.outer) (hf : X.env.frame = some X.env.locals) (hN : X.N.Nodup) (tk : Takes X W)
    (hb : ∀ (W : WX) (pn : List (Addr × Obj)) (xe : Value → Shared → Prop), Takes (X.tr pn xe) W → PassesOwn (model X.prog X.w) X.A X.env xe → DSs (X.tr pn xe) P W body x1) (hh : DHs X XS (h₀ :: hds) l) :
    DS X P W (.Try body (h₀ :: hds) [] [] pos) (ssTryX XS x1 l) := by
  refine ⟨fun pins s σV H D I h => ?_⟩
  obtain ⟨lv, hl, go⟩ := dhs_go (W := W) (D := D) hh
  refine (ps_tryA (tb := fun W => tS X.K X.mg X.w P W x1) hs hf hN tk hb hl).run pins s σV H D I ?_
  obtain ⟨m, h, σ, A, o⟩ := h
  refine ⟨m, h, σ, A, ?_⟩
  unfold ssTryX at o
  cases e : x1 σ h with
  | nx σ1 h1 => rw [e] at o; exact o
  | rt t h1 => rw [e] at o; exact o
  | bk σ1 h1 => rw [e] at o; exact o
  | ct σ1 h1 => rw [e] at o; exact o
  | stk => rw [e] at o; exact o
  | exc c fs σ1 h1 =>
    rw [e] at o
    exact fun cls d σV' m' H' E sr xr hr => go sr xr hr (OutS.ext E o)
end
end W3
end

section
namespace PySem.W
open PySem PySem.Spec PySem.Calls PyProof.Rows
section
variable {prog : Program} {w : World} {A : Around} {E : Value → Shared → Prop} {s : Shared} {K : Frag} {x D : Addr} {ox : Obj} {od : Option Obj}
theorem findObj_dataW {C : Addr} {name : Str} {a g : Value} (hc : (clsIn K C).isSome = true) (ha : findIn K (.ref C) name = some (some a)) (hg : specialIn K a "__get__" = some (some g)) (ht : takesIn K a = some true) : findObj K C od name = some (.bind g a) := by
  obtain ⟨cd, hc⟩ := Option.isSome_iff_exists.mp hc
  unfold findObj
  rw [hc, Option.bind_some, ha, Option.bind_some]
  simp [hg, ht]
theorem kin_classW {Q : Option Value → Shared → Prop} (hga : findIn K (.ref D) "__getattribute__" = some (some (.builtin "BaseException.__getattribute__"))) (hgt : findIn K (.ref D) "__getattr__" = some none) (hsub : subIn K (.ref D) (.type "BaseException") = some true)
    (hdct : hasDictIn K D = true) (ha : findIn K (.ref D) "__class__" = some (some (.builtin "object.__class__")))
    (hn : specialIn K (.builtin "object.__class__") "__get__" = some (some (.builtin "getset_descriptor.__get__"))) (htk : takesIn K (.builtin "object.__class__") = some true) (hm : mroIn K D (.type "object") = some true)
    (X : K.In s.heap) (I : InstAt s.heap x ox D od) (h : Q (some (.ref D)) { s with toks := s.toks + 1 }) : wpAny (model prog w) A (getAttr? (.ref x) "__class__") Q E s := by
  have hf : findObj K D od "__class__" = some (.bind (.builtin "getset_descriptor.__get__") (.builtin "object.__class__")) := findObj_dataW (by obtain ⟨cd, hc, _⟩ := any_some hdct; rw [hc]; rfl) ha hn htk
  obtain ⟨hp, g, d, t, os⟩ := s
  have L0 := I.type (M := model prog w)
  have L1 := looks_findIn (M := model prog w) X hga
  have L2 := looks_findIn (M := model prog w) X hgt
  have L3 := looks_find (M := model prog w) X I hf
  have sub : Looks (model prog w) hp (isInstance (.ref x) (.type "BaseException")) true := L0.andThen (looks_subIn X hsub)
  have hx0 : (false && onTheHeap (Value.builtin "BaseException.__getattribute__")) = false := rfl
  have hx2 : (Value.builtin "BaseException.__getattribute__" == Value.builtin "object.__getattribute__") = false := by decide +kernel
  have hx1 : (onTheHeap (Value.ref D) && Value.builtin "BaseException.__getattribute__" == Value.builtin "object.__getattribute__") = false := by rw [hx2]; rfl
  unfold getAttr? getAttrBy? getAttrBy
  refine wpAny_bind (wpAny_mkText (wpAny_bind (wpAny_attempt (wpAny_holding (wpAny_bind (L0.at (wpAny_bind (L1.at ?_))))))))
  show wpAny _ _ (if (onTheHeap (Value.ref D) && Value.builtin "BaseException.__getattribute__" == Value.builtin "object.__getattribute__") = true then _ else _) _ _ _
  rw [hx1, if_neg Bool.false_ne_true]
  unfold getAttrByItsOwn hookBefore
  refine wpAny_bind ?_
  rw [if_pos (show onTheHeap (Value.ref D) = true from rfl)]
  refine L2.at ?_
  refine wpAny_bind (wpAny_attempt (wpAny_holding ?_))
  unfold callGetattribute
  rw [hx0, if_neg Bool.false_ne_true]
  unfold boundAndCalled
  rw [PySem.F.excAttr_ValueError.ga.bind (.ref x)]
  refine wpAny_bind (wpAny_pure ?_)
  show wpAny _ _ (call (.builtin "BaseException.__getattribute__") [.ref x, .str "__class__" t]) _ _ _
  refine wpAny_call (codeAny_call_builtin PySem.F.excAttr_ValueError.ga.plain PySem.F.entry_bexc_ga ?_)
  refine @check_slot (model prog w) _ _ ⟨hp, g, d, t + 1, os⟩ "BaseException.__getattribute__" "BaseException" "__getattribute__" (.ref x) [.str "__class__" t] [] _ (by decide +kernel) (by decide +kernel) sub (PySem.F.args_bexc_ga (.ref x) (.str "__class__" t)) ?_
  unfold Builtin.«object.__getattribute__»
  refine wpAny_bind (wpAny_of_eq (a := ((Value.ref x : Value), [Value.str "__class__" t])) (by first | rfl | (simp only [slotArgs]; rfl)) ?_)
  refine wpAny_bind (wpAny_pure (wpAny_bind (L0.at (wpAny_bind (L3.at ?_)))))
  show wpAny _ _ (holding [Value.builtin "object.__class__"] (call (.builtin "getset_descriptor.__get__") [.builtin "object.__class__", .ref x, .ref D]) >>= ret) _ _ _
  refine wpAny_bind (wpAny_holding (wpAny_call (class_get (s := ⟨hp, g, d, t + 1, os⟩) (ox := ox) (od := od) X I hm ?_)))
  refine wpAny_pure ?_
  show wpAny _ _ (handedOut (.ref D)) _ _ _
  rw [handedOut_of (v := .ref D) rfl]
  first
    | exact wpAny_pure (wpAny_pure h)
    | exact wpAny_pure h
    | exact wpAny_pure (wpAny_bind (wpAny_pure (wpAny_pure h)))
theorem kitx_excW (hga : findIn K (.ref D) "__getattribute__" = some (some (.builtin "BaseException.__getattribute__"))) (hgt : findIn K (.ref D) "__getattr__" = some none) (hsub : subIn K (.ref D) (.type "BaseException") = some true) (hdct : hasDictIn K D = true) (ha : findIn K (.ref D) "__class__" = some (some (.builtin "object.__class__")))
    (hn : specialIn K (.builtin "object.__class__") "__get__" = some (some (.builtin "getset_descriptor.__get__"))) (htk : takesIn K (.builtin "object.__class__") = some true) (hm : mroIn K D (.type "object") = some true) :
    KitX K (.ref x) (.ref D) (fun h => InstAt h x ox D od) where
  ty := fun _ _ _ I => I.type
  it := fun _ _ X _ => by
    obtain ⟨cdD, hcD, _⟩ := any_some hdct
    unfold clsIn at hcD
    split at hcD
    · rename_i c' d' cd' sl' ho
      intro A' Q' E' s' k q
      unfold isType loadHead
      exact wpAny_bind (wpAny_loadPart (k _ _ (X _ _ ho)) (wpAny_pure q))
    · cases hcD
  ne := fun h tp dd its n sl X htp => by
    obtain ⟨cdD, hcD, _⟩ := any_some hdct
    refine Bool.eq_false_iff.mpr fun q => ?_
    have e : D = tp := Value.ref.inj (beq_iff_eq.mp q)
    subst e
    unfold clsIn at hcD
    split at hcD
    · rename_i c' d' cd' sl' ho
      have z := (X _ _ ho).symm.trans htp
      cases z
    · cases hcD
  ca := fun X I k => kin_classW hga hgt hsub hdct ha hn htk hm X I k
end
end PySem.W
namespace W3
open PySem PySem.Spec PyProof.Rows
open L2
theorem call_isX {X : Cx} {a D : Addr} {oe : Obj} {d : Option Addr} {pn : List (Addr × Obj)} (C : ExcC X.K D) (hz : Zc (.ref D) d oe) (hf : ∃ vs, oe.data = .fields vs) : CallR (X.suite a ((a, oe) :: pn)) (.builtin "isinstance") (fun xs H Q => (∀ dd, d = some dd → ∃ fv, H dd = some (.xd fv)) ∧ rIsE X.K D a xs H Q) := by
  intro pins s σ H xs us Q I r ⟨hdd, h⟩
  obtain ⟨c, cv, b, rfl, hcv, e, q⟩ := h
  cases r with
  | cons rx rr =>
    cases rr with
    | cons rt rr =>
      cases rr
      cases rx
      have ec := hcv _ rt
      subst ec
      obtain ⟨hget, _⟩ := I.pin (a, oe) (List.mem_append.mpr (.inl List.mem_cons_self))
      obtain ⟨vs, hv⟩ := hf
      have J : ∃ od, PySem.W.InstAt s.heap a oe D od := by
        obtain ⟨oc, od, oda, osl⟩ := oe
        obtain ⟨h1, h2⟩ := hz
        dsimp only at h1 h2 hv
        subst h1 h2 hv
        cases od with
        | none => exact ⟨none, hget, rfl, rfl, trivial⟩
        | some dd =>
          obtain ⟨fv, hx⟩ := hdd dd rfl
          obtain ⟨mA, hns, _⟩ := I.hok dd _ hx
          obtain ⟨o, es, ep, ho, _⟩ := hns
          exact ⟨some o, hget, rfl, rfl, ho⟩
      obtain ⟨od, J⟩ := J
      exact PySem.W.kia_one (PySem.W.kitx_excW C.hg C.hk C.hs C.hd C.ha C.hn C.ht C.hm) I.kIn J e (fun z => nomatch z) fun tk => ⟨.bl b, H, I.kept (t' := tk) fun _ _ z => z, rfl, q⟩
def sXf (fs : List (Str × T)) (f : Str) : SE := fun _ h => match fs.lookup f with | some t => .ok t h | none => .stk
section
variable {X : Cx} {a : Addr} {oe : Obj} {pn : List (Addr × Obj)} {sl : Option Nat} {c : Str} {fs : List (Str × T)} {cls : Value} {d : Option Addr} {e : Expr} {es : List Expr} {se : SE} {ar : SA} {pos p p1 p2 : Pos}
abbrev HE (X : Cx) (a : Addr) (oe : Obj) (pn : List (Addr × Obj)) (sl : Option Nat) (c : Str) (fs : List (Str × T)) (cls : Value) (d : Option Addr) (e : Expr) (se : SE) : Prop := PE (X.suite a ((a, oe) :: pn)) e (tHG X.K X.mg X.w sl a c fs cls d (RT X.K X.mg) se)
abbrev HA (X : Cx) (a : Addr) (oe : Obj) (pn : List (Addr × Obj)) (sl : Option Nat) (c : Str) (fs : List (Str × T)) (cls : Value) (d : Option Addr) (es : List Expr) (se : SA) : Prop := PA (X.suite a ((a, oe) :: pn)) es (tHG X.K X.mg X.w sl a c fs cls d (RTs X.K X.mg) se)
theorem he_lift (h : DE (X.suite a ((a, oe) :: pn)) PqT WF e se) : HE X a oe pn sl c fs cls d e se := PE.imp h fun σV H Q ⟨m, h, σ, A, _, _, o⟩ => ⟨m, h, σ, A, o⟩
theorem XR.ext {m m' : Mp} {H H' : Hp} (x : XR X.K X.mg m H c fs cls d) (E : Ext m H m' H') : XR X.K X.mg m' H' c fs cls d := by
  refine ⟨x.1, ?_⟩
  rcases x.2 with z | ⟨dd, fv, h1, h2, h3⟩
  · exact .inl z
  · exact .inr ⟨dd, fv, h1, E.xds _ _ h2, h3.ext E⟩
theorem he_fld {i : Nat} {n f : Str} {C : Addr} (hN : X.N[i]? = some n) (hv : Vis X.env.scope n) (T : XfC X.K C) (hno : PySem.W.findIn X.K (.ref C) f = some none) (hcl : cls = .ref C) (hz : Zc cls d oe) (hf : ∃ vs, oe.data = .fields vs)
    (hd : (n == ("__debug__" : Str)) = false := by decide) (hcd : (n == ("__classdict__" : Str)) = false := by decide) (hb : attributeBase (.Name n p) f X.env (eval (.Name n p) X.env) = eval (.Name n p) X.env := by rfl) :
    HE X a oe pn (some i) c fs cls d (.Attribute (.Name n p) f pos) (sXf fs f) := by
  refine ⟨fun pins s σV H Q I ⟨m, h, σ, A, hi, xr, o⟩ => ?_⟩
  refine (pe_xf T hno hz hf (pe_var (X := X.suite a ((a, oe) :: pn)) (i := i) hN hv hd hcd) hb).run pins s σV H Q I ?_
  have hl : i < σV.length := by
    rw [I.len]
    exact (List.getElem?_eq_some_iff.mp hN).1
  have o' : Out X.K X.mg X.w (RT X.K X.mg) WF σV Q m H (match fs.lookup f with | some t => .ok t h | none => .stk) := o
  split at o'
  · rename_i t ht
    rcases xr.2 with ⟨z, _⟩ | ⟨dd, fv, h1, h2, h3⟩
    · rw [z] at ht; cases ht
    · obtain ⟨v, hv', rv⟩ := h3.lookup ht
      exact ⟨.ref a, hi i rfl hl, rfl, hcl, dd, fv, v, h1, h2, hv', o' v m H (Ext.refl _ _) rv A.hr⟩
  · exact False.elim o'
theorem he_isi {i : Nat} {n x : Str} {D : Addr} {cv : Addr} {b : Bool} (hN : X.N[i]? = some n) (hv : Vis X.env.scope n) (C : ExcC X.K D) (hcl : cls = .ref D) (hz : Zc cls d oe) (hf : ∃ vs, oe.data = .fields vs) (hg : Gl X "isinstance") (hm : X.mg "isinstance" = none) (hgx : Gl X x) (hmx : X.mg x = some (.ref cv)) (hk : PySem.W.kitOne X.K (.ref D) (.ref cv) = some b)
    (hd : (n == ("__debug__" : Str)) = false := by decide) (hcd : (n == ("__classdict__" : Str)) = false := by decide) (hdx : (x == ("__debug__" : Str)) = false := by decide)
    (he : starEach [.Name n p1, .Name x p2] X.env = (false, eval (.Name n p1) X.env) :: starEach [.Name x p2] X.env := by rfl) (hpl : (backTo pos (starEach [.Name x p2] X.env)).any (·.1) = false := by rfl) (hs2 : starEach [.Name x p2] X.env = (false, eval (.Name x p2) X.env) :: starEach [] X.env := by rfl) :
    HE X a oe pn (some i) c fs cls d (.Call (.Name "isinstance" p) [.Name n p1, .Name x p2] [] pos) (sC (.bl b)) := by
  subst hcl
  refine ⟨fun pins s σV H Q I ⟨m, h, σ, A, hi, xr, o⟩ => ?_⟩
  refine (pe_callB (X := X.suite a ((a, oe) :: pn)) (call_isX C hz hf) hg hm boot_isinstance (pa_cons (pe_var (X := X.suite a ((a, oe) :: pn)) (i := i) hN hv hd hcd) (pa_cons (pe_glob (X := X.suite a ((a, oe) :: pn)) (v := .ref cv) hgx hmx rfl hdx) pa_nil hs2) he) (by decide) (by decide) he hpl).run pins s σV H Q I ?_
  have hl : i < σV.length := by
    rw [I.len]
    exact (List.getElem?_eq_some_iff.mp hN).1
  refine ⟨.ref a, hi i rfl hl, fun dd hdd => ?_, .ref cv, .ref cv, b, rfl, fun u hu => hu, hk, o _ m H (Ext.refl _ _) (.bl b) A.hr⟩
  rcases xr.2 with ⟨_, z⟩ | ⟨dd', fv, h1, h2, h3⟩
  · rw [z] at hdd; cases hdd
  · rw [h1] at hdd; cases hdd; exact ⟨fv, h2⟩
theorem ha_nil : HA X a oe pn sl c fs cls d [] saNil := PA.imp pa_nil fun σV H Q ⟨m, h, σ, A, _, _, o⟩ => o [] m H (Ext.refl _ _) .nil A.hr
theorem ha_cons (h1 : HE X a oe pn sl c fs cls d e se) (h2 : HA X a oe pn sl c fs cls d es ar) (hs : starEach (e :: es) X.env = (false, eval e X.env) :: starEach es X.env := by rfl) : HA X a oe pn sl c fs cls d (e :: es) (saCons se ar) :=
  PA.imp (pa_cons h1 h2 hs) fun σV H Q ⟨m, h, σ, A, hi, xr, o⟩ => by
    refine ⟨m, h, σ, A, hi, xr, ?_⟩
    refine (Out.bind (rel1 := RT X.K X.mg) o).mono fun b H1 ⟨m1, h1, t, E, r, R, o1⟩ => ?_
    refine ⟨m1, h1, σ, A.ext E R, hi, xr.ext E, ?_⟩
    refine (Out.bind (rel1 := RTs X.K X.mg) o1).mono fun bs H2 ⟨m2, h2, ts, E2, r2, R2, o2⟩ => ?_
    exact o2 _ m2 H2 (Ext.refl _ _) (.cons (r.ext E2) r2) R2
theorem he_tup {x1} (h : HA X a oe pn sl c fs cls d es ar) : HE X a oe pn sl c fs cls d (.Tuple es x1 pos) (sTup ar) := PE.imp (pe_tupN h) fun σV H Q ⟨m, h, σ, A, hi, xr, o⟩ => by
  refine ⟨m, h, σ, A, hi, xr, ?_⟩
  refine (Out.bind (rel1 := RTs X.K X.mg) o).mono fun bs H1 ⟨m1, h1, ts, E, r, R, o1⟩ => ?_
  split at o1
  · rename_i hz
    exact ⟨by rw [← r.length]; exact hz, fun p ob hp hd => OutP.newTup R r (o1.outP (fun _ _ _ z => by cases z)) hp hd⟩
  · exact False.elim o1
end
section
variable {X : Cx} {XS : XSub} {sl : Option Nat} {e : Expr} {pos py : Pos}
abbrev HEs (X : Cx) (XS : XSub) (sl : Option Nat) (e : Expr) (se : Str → List (Str × T) → SE) : Prop := ∀ (a : Addr) (oe : Obj) (cls : Value) (d : Option Addr) (pn : List (Addr × Obj)) (c : Str) (ss : List Str) (fs : List (Str × T)), Zc cls d oe → (∃ vs, oe.data = .fields vs) → XS.lookup c = some ss → X.mg c = some cls → HE X a oe pn sl c fs cls d e (se c fs)
theorem hok_ret {se : Str → List (Str × T) → SE} (h : HEs X XS sl e se) : HOk X XS sl [.Return (some e) pos] (fun c fs => ssRet (se c fs)) := fun a oe cls d pn c ss fs hz hf hl hm =>
  PSs.imp (pss_one (ps_ret (h a oe cls d pn c ss fs hz hf hl hm))) fun D σV H ⟨m, h, σ, A, hi, xr, o⟩ => by
    refine ⟨m, h, σ, A, hi, xr, ?_⟩
    have o' : OutS X.K X.mg X.w WF D m H ((se c fs σ h).flo σ fun x h1 => .rt x h1) := o
    cases e1 : se c fs σ h with
    | ok t h1 => rw [e1] at o'; exact fun v m1 H1 E r R => o' v m1 H1 E r R
    | exc _ _ h1 => rw [e1] at o'; exact fun cls d m1 H1 E x R => o' cls d σV m1 H1 E (A.sr.ext E) x R
    | stk => rw [e1] at o'; exact o'
end
end W3
end

section
namespace W3
open PySem PySem.Spec PyProof.Rows
open L2
theorem bindsE {K : PySem.W.Frag} {fd : FuncData} {ps : List Str} (h : ∀ us : List Value, us.length = ps.length → bindArgs fd ⟨us, []⟩ = pure (ps.zip us)) : Binds K fd ps [] := by
  intro s us _ hl
  rw [List.append_nil] at hl ⊢
  exact .of_eq (h us hl)
abbrev envE (name qual : Str) (st : Stmt) (cc c f L : Addr) : Env := NdefX.envF (nfE name qual (defArgs st) (defBody st) (defScope st) cc c) f L
abbrev supS (p0 p1 p2 apos cpos pos : Pos) (j : Nat) (txt : Str) : Stmt := .Expr (.Call (.Attribute (.Call (.Name "super" p0) [] [] p1) "__init__" apos) [.Constant (.str txt) j p2] [] cpos) pos
abbrev stoS (sf f1 a1 : Str) (q1 q2 q3 q4 : Pos) : Stmt := .Assign [.Attribute (.Name sf q1) f1 q2] (.Name a1 q3) q4
def LineE (name qual : Str) (st : Stmt) (cc c f : Addr) (p0 p1 p2 apos cpos pos : Pos) (j : Nat) (txt : Str) (pl : Sem Bool) : Prop := ∀ L : Addr, interactive (envE name qual st cc c f L) = false ∧
  swapsWith (.Call (.Attribute (.Call (.Name "super" p0) [] [] p1) "__init__" apos) [.Constant (.str txt) j p2] [] cpos) none pos.line (envE name qual st cc c f L) = pure false ∧
  eval (.Call (.Attribute (.Call (.Name "super" p0) [] [] p1) "__init__" apos) [.Constant (.str txt) j p2] [] cpos) (envE name qual st cc c f L) = (do
    let ov ← attributeBase (.Call (.Name "super" p0) [] [] p1) "__init__" (envE name qual st cc c f L) (eval (.Call (.Name "super" p0) [] [] p1) (envE name qual st cc c f L))
    standAt apos.atName
    let (g, first) ← holding [ov] (getMethod ov "__init__" pl)
    callWith cpos g first (backTo cpos (starEach [.Constant (.str txt) j p2] (envE name qual st cc c f L))) [])
theorem exc_ok1 {P : Program} {w : World} {K : PySem.W.Frag} {mg : Str → Option Value} {base : Heap} {f c cc C : Addr} {st : Stmt} {name qual sf a1 f1 txt : Str} {doc pm ct : Value} {an : Option Addr} {ar : Arg} {pl : Sem Bool} {p0 p1 p2 apos cpos pos q1 q2 q3 q4 : Pos} {j : Nat}
    (F : ExF P K C f c cc (fdE name qual (defArgs st) (defBody st) (defScope st) cc c doc pm ct an)) (hb : defBody st = [supS p0 p1 p2 apos cpos pos j txt, stoS sf f1 a1 q1 q2 q3 q4]) (hcd : PySem.W.codeIn K (.ref c) qual = true)
    (S : NdefX.NScope [sf, a1, "__class__"] [sf, a1] ["__class__"] (defScope st)) (hks : (defScope st).names.lookup ("super" : Str) = some .globalImplicit) (hp : ((defArgs st).posonlyargs ++ (defArgs st).args).head? = some ar) (har : ar.arg = sf) (hm : mg "super" = none) (hline : LineE name qual st cc c f p0 p1 p2 apos cpos pos j txt pl)
    (n1 : PySem.W.findIn K (.ref C) f1 = some none) (hs1 : ∀ L, swapsWith (.Name a1 q3) (some (.Attribute (.Name sf q1) f1 q2)) q4.line (envE name qual st cc c f L) = pure false)
    (hd0 : (sf == ("__debug__" : Str)) = false := by decide) (hc0 : (sf == ("__classdict__" : Str)) = false := by decide) (hd1 : (a1 == ("__debug__" : Str)) = false := by decide) (hc1 : (a1 == ("__classdict__" : Str)) = false := by decide) :
    FnOk P w K mg base (L2.CX P w) 1 f (fdE name qual (defArgs st) (defBody st) (defScope st) cc c doc pm ct an) [sf, a1] (spE1 C f1) := by
  unfold LineE at hline
  simp only [hb] at F hline hs1 ⊢
  refine fn_exc (k := 0) (pl := pl) F hcd S (fun vs H Q E ⟨a, y1, e, _⟩ => by rw [e]; rfl) hks hp (by rw [har]; rfl) (by rw [har]; exact S.par _ (by simp)) hm hline ?_
  rintro A outer s H vs Q E ⟨a, y1, rfl, ea, q⟩
  exact ⟨a, rfl, ea, body1 F.oex n1 rfl rfl (.inl (S.par _ (by simp))) (.inl (S.par _ (by simp))) hd0 hc0 hd1 hc1 (hs1 _) rfl rfl ea q⟩
def CatchesK (K : PySem.W.Frag) (mg : Str → Option Value) (XS : XSub) (x : Str) (cv : Value) : Prop := ∀ c ss cls, XS.lookup c = some ss → mg c = some cls → PySem.W.exmOne K cls cv = some (ss.contains x)
def XfAll (K : PySem.W.Frag) (mg : Str → Option Value) (XS : XSub) (FL : List Str) : Prop := ∀ c ss cls, XS.lookup c = some ss → mg c = some cls → ∃ C, cls = .ref C ∧ XfC K C ∧ ExcC K C ∧ ∀ f ∈ FL, PySem.W.findIn K (.ref C) f = some none
def IsAll (K : PySem.W.Frag) (mg : Str → Option Value) (XS : XSub) (x : Str) (cv : Addr) : Prop := ∀ c ss cls C, XS.lookup c = some ss → mg c = some cls → cls = .ref C → PySem.W.kitOne K (.ref C) (.ref cv) = some (ss.contains x)
def ssOf (XS : XSub) (c : Str) : List Str := (XS.lookup c).getD []
section
variable {X : Cx} {XS : XSub} {sl : Option Nat} {i : Nat} {n f x : Str} {FL : List Str} {p p1 p2 pos : Pos} {e : Expr} {es : List Expr} {se : SE} {sx : Str → List (Str × T) → SE} {ar : Str → List (Str × T) → SA}
theorem hx_lift (h : ∀ (a : Addr) (oe : Obj) (pn : List (Addr × Obj)), DE (X.suite a ((a, oe) :: pn)) PqT WF e se) : HEs X XS sl e (fun _ _ => se) := fun a oe cls d pn c ss fs _ _ _ _ => he_lift (h a oe pn)
theorem hx_fld (A : XfAll X.K X.mg XS FL) (hf : f ∈ FL) (hN : X.N[i]? = some n) (hv : Vis X.env.scope n) (hd : (n == ("__debug__" : Str)) = false := by decide) (hcd : (n == ("__classdict__" : Str)) = false := by decide) (hb : attributeBase (.Name n p) f X.env (eval (.Name n p) X.env) = eval (.Name n p) X.env := by rfl) :
    HEs X XS (some i) (.Attribute (.Name n p) f pos) (fun _ fs => sXf fs f) := fun a oe cls d pn c ss fs hz hv' hl hm => by
  obtain ⟨C, h1, h2, h3, h4⟩ := A c ss cls hl hm
  exact he_fld hN hv h2 (h4 f hf) h1 hz hv' hd hcd hb
theorem hx_isi {cv : Addr} (A : XfAll X.K X.mg XS FL) (I : IsAll X.K X.mg XS x cv) (hN : X.N[i]? = some n) (hv : Vis X.env.scope n) (hg : Gl X "isinstance") (hm : X.mg "isinstance" = none) (hgx : Gl X x) (hmx : X.mg x = some (.ref cv))
    (hd : (n == ("__debug__" : Str)) = false := by decide) (hcd : (n == ("__classdict__" : Str)) = false := by decide) (hdx : (x == ("__debug__" : Str)) = false := by decide)
    (he : starEach [.Name n p1, .Name x p2] X.env = (false, eval (.Name n p1) X.env) :: starEach [.Name x p2] X.env := by rfl) (hpl : (backTo pos (starEach [.Name x p2] X.env)).any (·.1) = false := by rfl) (hs2 : starEach [.Name x p2] X.env = (false, eval (.Name x p2) X.env) :: starEach [] X.env := by rfl) :
    HEs X XS (some i) (.Call (.Name "isinstance" p) [.Name n p1, .Name x p2] [] pos) (fun c _ => sC (.bl ((ssOf XS c).contains x))) := fun a oe cls d pn c ss fs hz hv' hl hmc => by
  obtain ⟨C, h1, h2, h3, h4⟩ := A c ss cls hl hmc
  have hk := I c ss cls C hl hmc h1
  have : ssOf XS c = ss := by unfold ssOf; rw [hl]; rfl
  show HE X a oe pn (some i) c fs cls d _ (sC (T.bl ((ssOf XS c).contains x)))
  rw [this]
  exact he_isi hN hv h3 h1 hz hv' hg hm hgx hmx hk hd hcd hdx he hpl hs2
abbrev HAs (X : Cx) (XS : XSub) (sl : Option Nat) (es : List Expr) (ar : Str → List (Str × T) → SA) : Prop := ∀ (a : Addr) (oe : Obj) (cls : Value) (d : Option Addr) (pn : List (Addr × Obj)) (c : Str) (ss : List Str) (fs : List (Str × T)), Zc cls d oe → (∃ vs, oe.data = .fields vs) → XS.lookup c = some ss → X.mg c = some cls → HA X a oe pn sl c fs cls d es (ar c fs)
theorem hxa_nil : HAs X XS sl [] (fun _ _ => saNil) := fun _ _ _ _ _ _ _ _ _ _ _ _ => ha_nil
theorem hxa_cons (h1 : HEs X XS sl e sx) (h2 : HAs X XS sl es ar) (hs : starEach (e :: es) X.env = (false, eval e X.env) :: starEach es X.env := by rfl) : HAs X XS sl (e :: es) (fun c fs => saCons (sx c fs) (ar c fs)) :=
  fun a oe cls d pn c ss fs hz hv hl hm => ha_cons (h1 a oe cls d pn c ss fs hz hv hl hm) (h2 a oe cls d pn c ss fs hz hv hl hm) hs
theorem hx_tup {x1} (h : HAs X XS sl es ar) : HEs X XS sl (.Tuple es x1 pos) (fun c fs => sTup (ar c fs)) := fun a oe cls d pn c ss fs hz hv hl hm => he_tup (h a oe cls d pn c ss fs hz hv hl hm)
end
end W3
end

section
namespace W3
open PySem PySem.Spec PyProof.Rows
open L2
def XAll (P : Str → List Str → Prop) : XSub → Prop
  | [] => True
  | (c, ss) :: r => P c ss ∧ XAll P r
theorem XAll.look {P : Str → List Str → Prop} : ∀ {XS : XSub}, XAll P XS → ∀ {c ss}, XS.lookup c = some ss → P c ss
  | [], _, _, _, e => by simp at e
  | (c, ss) :: r, h, c', ss', e => by
    simp only [List.lookup] at e
    split at e
    · rename_i q
      cases e
      obtain rfl : c' = c := by simpa using q
      exact h.1
    · exact h.2.look e
theorem catches_of {K : PySem.W.Frag} {mg : Str → Option Value} {XS : XSub} {x : Str} {cv : Value} (h : XAll (fun c ss => ∃ cls, mg c = some cls ∧ PySem.W.exmOne K cls cv = some (ss.contains x)) XS) : CatchesK K mg XS x cv := fun c ss cls hl hm => by
  obtain ⟨cls', h1, h2⟩ := h.look hl
  rw [hm] at h1; cases h1; exact h2
theorem xfall_of {K : PySem.W.Frag} {mg : Str → Option Value} {XS : XSub} {FL : List Str} (h : XAll (fun c ss => ∃ C, mg c = some (.ref C) ∧ XfC K C ∧ ExcC K C ∧ ∀ f ∈ FL, PySem.W.findIn K (.ref C) f = some none) XS) : XfAll K mg XS FL := fun c ss cls hl hm => by
  obtain ⟨C, h1, h2⟩ := h.look hl
  rw [hm] at h1; cases h1; exact ⟨C, rfl, h2⟩
theorem isall_of {K : PySem.W.Frag} {mg : Str → Option Value} {XS : XSub} {x : Str} {cv : Addr} (h : XAll (fun c ss => ∃ C, mg c = some (.ref C) ∧ PySem.W.kitOne K (.ref C) (.ref cv) = some (ss.contains x)) XS) : IsAll K mg XS x cv := fun c ss cls C hl hm e => by
  obtain ⟨C', h1, h2⟩ := h.look hl
  rw [hm] at h1; cases h1; cases e; exact h2
end W3
end

section
namespace W3
open PySem PySem.Spec PyProof.Rows
open L2
def dicB (h : Hh) : T → Bool | .ref l => (match h[l]? with | some (.dic []) => true | _ => false) | _ => false
def oNeD (x y : T) (h : Hh) : Res T := if dicB h x = true ∧ dicB h y = true then .ok (.bl false) h else oNe x y h
section
variable {X : Cx}
end
def bIntB (xs : List T) (h : Hh) : Res T :=
  match xs with
  | [.int i] => .ok (.int i) h
  | [.bl b] => .ok (.int (if b then 1 else 0)) h
  | _ => .stk
@[simp] theorem e_intB_b (b : Bool) (h : Hh) : bIntB [.bl b] h = .ok (.int (if b then 1 else 0)) h := Eq.trans rfl rfl
@[simp] theorem e_intB_i (i : Int) (h : Hh) : bIntB [.int i] h = .ok (.int i) h := Eq.trans rfl rfl
end W3
end

section
namespace W3
open PySem PySem.Spec PyProof.Rows
open L2
section
variable {X : Cx} {XS : XSub} {sl : Option Nat} {e1 e2 : Expr} {pos p1 p2 : Pos} {rest : List Stmt}
end
section
variable {X : Cx} {XS : XSub} {i q : Nat} {n x1 x2 : Str} {FL : List Str} {p p1 p2 p3 tpos pos : Pos}
end
end W3
end

section
namespace L2
open PySem PySem.Spec PyProof.Rows
end L2
namespace L2
open PySem PySem.Spec PyProof.Rows
section
variable {X : Cx}
end
end L2
namespace W3
open PySem PySem.Spec PyProof.Rows
open L2
noncomputable def oMulT (x y : T) (h : Hh) : Res T :=
  match x, y with
  | .tup ts, .int k => if ts ≠ [] ∧ 1 ≤ k ∧ k ≤ 1000 ∧ ts.length ≤ 1000 then .ok (.tup (List.replicate k.toNat ts).flatten) h else .stk
  | x, y => oMul x y h
theorem RTs.app {K : PySem.W.Frag} {mg : Str → Option Value} {m : Mp} {H : Hp} : ∀ {ts : List T} {vs : List V} {ts' : List T} {vs' : List V}, RTs K mg m H ts vs → RTs K mg m H ts' vs' → RTs K mg m H (ts ++ ts') (vs ++ vs')
  | _, _, _, _, .nil, r => r
  | _, _, _, _, .cons a b, r => .cons a (RTs.app b r)
@[simp] theorem e_mulT_i (i : Int) (y : T) (h : Hh) : oMulT (.int i) y h = oMul (.int i) y h := by unfold oMulT; rfl
end W3
end

section
namespace W3
open PySem PySem.Spec PyProof.Rows
open L2
abbrev SGH := T → St3 → Hh → Option St3
def sgLst (n : Nat) (g : SGs) : SGH := fun t σ h => match t with
  | .ref l => match lstAt h l with | some ts => if ts.length = n then g ts σ else none | none => none
  | _ => none
def forRunH (s : Src) (g : SGH) (b : SS) : Nat → Nat → St3 → Hh → Flo
  | k, i, σ, h => match s.at h i with
    | none => .stk
    | some none => .nx σ h
    | some (some x) => match k with
      | 0 => .stk
      | k + 1 => match g x σ h with
        | none => .stk
        | some σ1 => match b σ1 h with
          | .nx σ2 h2 => forRunH s g b k (i + 1) σ2 h2
          | .ct σ2 h2 => forRunH s g b k (i + 1) σ2 h2
          | .bk σ2 h2 => .nx σ2 h2
          | r => r
def ssForH (si : SI) (g : SGH) (b : SS) : SS := fun σ h => (si σ h).flo σ fun s h1 => forRunH s g b (s.len h1) 0 σ h1
section
variable {X : Cx} {P : Pq} {W : WX} {tg iter : Expr} {si : SI} {body : List Stmt} {x1 : SS} {pos : Pos} {es : List Expr}
end
end W3
end

section
namespace W3
open PySem PySem.Spec PyProof.Rows
open L2
def isT : T → Bool | .tup _ => true | _ => false
def sMtA (f : T → List T → Hh → Res T) (o : SE) (a : SA) : SE := fun σ h => (o σ h).bind fun x h1 => if (isL x h1 || isT x) = true then (a σ h1).bind fun xs h2 => f x xs h2 else .stk
section
variable {X : Cx} {P : Pq} {W : WX} {o e : Expr} {so : SE} {apos cpos : Pos} {es : List Expr} {ar : SA}
end
end W3
end

section
namespace W3
open PySem PySem.Spec PyProof.Rows
open L2
abbrev TKs := List Key
abbrev hTk (P : Program) (w : World) (k : TKs) : Int := tupleKeyHash (mixKind P w) k
abbrev IsTk (P : Program) (w : World) (h : Heap) (k : TKs) (b : Addr) : Prop := IsTupleKey (mixKind P w) h k b
section
variable {P : Program} {w : World} {A : Around} {E : Value → Shared → Prop} {s : Shared}
end
abbrev TkL := List (Addr × TKs)
def rowTk (P : Program) (w : World) (p : Addr × TKs) : Int × Value := (hTk P w p.2, .ref p.1)
structure SetTk (P : Program) (w : World) (h : Heap) (a : Addr) (L : TkL) (es : Array (Int × Value)) (ep : Nat) (t : SetTable) : Prop where
  at_ : ∃ o, h.get? a = some o ∧ o.ExactSet ∧ o.data = .set es ep t
  rows : es.toList = L.map (rowTk P w)
  tab : TabOk t ((L.map (rowTk P w)).map (·.1))
  nd : (L.map (·.2)).Nodup
  tup : ∀ p ∈ L, IsTk P w h p.2 p.1
  room : L.length * 5 < t.mask * 3
  few : L.length < 64
section
variable {P : Program} {w : World} {A : Around} {E : Value → Shared → Prop} {s : Shared} {a : Addr} {L : TkL} {es : Array (Int × Value)} {ep : Nat} {t : SetTable}
theorem rows_size (h : es.toList = L.map (rowTk P w)) : es.size = L.length := by
  rw [← Array.length_toList, h, List.length_map]
theorem fits_of (e : t.place.size = es.size) (d : t.dummies = #[]) (m : es.size ≤ t.mask) : t.fits es.size = true := by
  unfold SetTable.fits SetTable.fill
  rw [d, Bool.and_eq_true, beq_iff_eq, decide_eq_true_eq]
  exact ⟨e, by show t.place.size + 0 ≤ t.mask; omega⟩
theorem SetTk.fits (R : SetTk P w s.heap a L es ep t) : t.fits es.size = true := by
  have z1 := R.tab.sz
  have z2 := rows_size R.rows
  have z3 := R.room
  simp only [List.length_map] at z1
  exact fits_of (by omega) R.tab.dm (by omega)
end
structure Has (ks : TkL) (i : Nat) (L : TkL) : Prop where
  sub : ∀ p ∈ L, p ∈ ks.take i
  all : ∀ p ∈ ks.take i, p.2 ∈ L.map (·.2)
  le : L.length ≤ i
theorem Has.next {ks L L2 : TkL} {i : Nat} {x : Addr × TKs} (g : Has ks i L) (h : ks[i]? = some x) (c : (x.2 ∈ L.map (·.2) ∧ L2 = L) ∨ (x.2 ∉ L.map (·.2) ∧ L2.Perm (x :: L))) : Has ks (i + 1) L2 := by
  have et : ks.take (i + 1) = ks.take i ++ [x] := by rw [List.take_add_one, h]; rfl
  rcases c with ⟨hm, rfl⟩ | ⟨_, pm⟩
  · refine ⟨fun p hp => by rw [et]; exact List.mem_append_left _ (g.sub p hp), fun p hp => ?_, Nat.le_succ_of_le g.le⟩
    rw [et] at hp
    rcases List.mem_append.mp hp with z | z
    · exact g.all p z
    · rw [List.mem_singleton.mp z]; exact hm
  · refine ⟨fun p hp => ?_, fun p hp => ?_, by rw [pm.length_eq, List.length_cons]; exact Nat.succ_le_succ g.le⟩
    · rw [et]
      rcases List.mem_cons.mp (pm.mem_iff.mp hp) with e | z
      · rw [e]; exact List.mem_append_right _ (List.mem_singleton.mpr rfl)
      · exact List.mem_append_left _ (g.sub p z)
    · rw [(pm.map (·.2)).mem_iff, List.map_cons]
      rw [et] at hp
      rcases List.mem_append.mp hp with z | z
      · exact .tail _ (g.all p z)
      · rw [List.mem_singleton.mp z]; exact .head _
section
variable {P : Program} {w : World} {A : Around} {E : Value → Shared → Prop} {s : Shared}
theorem SetTk.keep {h h2 : Heap} {a : Addr} {L : TkL} {es : Array (Int × Value)} {ep : Nat} {t : SetTable} (R : SetTk P w h a L es ep t) (ha : ∀ o, h.get? a = some o → h2.get? a = some o) (ht : ∀ p ∈ L, IsTk P w h2 p.2 p.1) : SetTk P w h2 a L es ep t :=
  let ⟨o, e, r⟩ := R.at_
  ⟨⟨o, ha o e, r⟩, R.rows, R.tab, R.nd, ht, R.room, R.few⟩
end
end W3
end

section
namespace W3
open PySem PySem.Spec PyProof.Rows
open L2
instance decMemTk (k : TKs) (l : List TKs) : Decidable (k ∈ l) := decidable_of_iff (l.any (fun j => decide (j = k)) = true) (by simp [List.any_eq_true])
section
variable {X : Cx} {P : Pq} {W : WX} {a : Expr} {sa : SE} {pos p p2 q2 : Pos}
end
end W3
end

section
namespace W3
open PySem PySem.Spec PyProof.Rows
open L2
section
variable {prog : Program} {w : World} {A : Around} {E : Value → Shared → Prop} {s : Shared}
end
section
variable {X : Cx} {P : Pq} {W : WX}
def alikeB (ds : List PyData) : Bool := ds.all fun d => ds.all fun e => PySem.W.alike d e
def isTup1 : PyData → Bool | .tuple (_ :: _) => true | _ => false
def isOth : PyData → Bool | .none => false | .tuple _ => false | _ => true
def sortableB (ds : List PyData) : Bool := ds.all isTup1 || ds.all isOth
abbrev leT (a b : T × PyData) : Bool := PySem.W.dataLe false (fun b : T × PyData => b.2) a b
def sortT (ts : List T) (ds : List PyData) : List T := ((ts.zip ds).mergeSort leT).map (·.1)
def bSortI (ts : List T) (h : Hh) : Res T := match optL (toD h 24) ts with
  | some ds => if alikeB ds = true ∧ sortableB ds = true ∧ ts.length ≤ 1000 then alloc (.lst (sortT ts ds)) h else .stk
  | none => .stk
def bSorted (xs : List T) (h : Hh) : Res T := match xs with
  | [.tup ts] => bSortI ts h
  | [.fl ts] => bSortI ts h
  | [.ref l] => (match lstAt h l with | some ts => bSortI ts h | none => .stk)
  | _ => .stk
end
end W3
end

section
namespace W3
open PySem PySem.Spec PyProof.Rows
open L2
def zipL : List T → List T → List T
  | x :: xs, y :: ys => .tup [x, y] :: zipL xs ys
  | _, _ => []
section
variable {K : PySem.W.Frag} {mg : Str → Option Value} {wd : World} {m : Mp} {H : Hp}
end
def zipOf (xs : List T) (h : Hh) : Res Src := match xs with | [.tup ts, .tup us] => .ok (.its (zipL ts us)) h | _ => .stk
def siZip (a : SA) : SI := fun σ h => (a σ h).bind zipOf
section
variable {X : Cx} {P : Pq} {W : WX} {a b c : Expr} {ar : SA} {sb : SE} {pos p : Pos}
def KIs (K : PySem.W.Frag) (mg : Str → Option Value) (a : Addr) (t : T) : Prop := ∀ m H, RT K mg m H t (.ref a)
inductive StrsK : List Str → List Value → Prop
  | nil : StrsK [] []
  | cons {s : Str} {t : Tok} {ss : List Str} {vs : List Value} : StrsK ss vs → StrsK (s :: ss) (.str s t :: vs)
end
end W3
namespace W3
open PySem PySem.Spec PyProof.Rows
open L2
inductive KRows (K : PySem.W.Frag) (w : World) (mg : Str → Option Value) (a : Addr) : List (Str × T) → Prop
  | nil : KRows K w mg a []
  | cons {k : Str} {t : T} {r : List (Str × T)} : (∃ b, KDct K w a k (.ref b) ∧ KIs K mg b t) → KRows K w mg a r → KRows K w mg a ((k, t) :: r)
end W3
end

section
namespace W3
open PySem L2
theorem RTs.eraseIdx {K : PySem.W.Frag} {mg : Str → Option Value} {m : Mp} {H : Hp} : ∀ {ts : List T} {vs : List V} (i : Nat), RTs K mg m H ts vs → RTs K mg m H (ts.eraseIdx i) (vs.eraseIdx i)
  | _, _, _, .nil => .nil
  | _, _, 0, .cons _ q => q
  | _, _, i + 1, .cons p q => .cons p (RTs.eraseIdx i q)
def mPop (x : T) (vs : List T) (h : Hh) : Res T :=
  match x, vs with
  | .ref l, [.int i] => (match lstAt h l with
    | some ts => if 0 ≤ i ∧ i < 1000000 then (match ts[i.toNat]? with | some t => .ok t (h.set l (.lst (ts.eraseIdx i.toNat))) | none => .stk) else .stk
    | none => .stk)
  | _, _ => .stk
section
variable {X : Cx}
def ssPar2 (i j : Nat) (sa : SA) : SS := fun σ h => (sa σ h).flo σ fun xs h1 => match xs with | [x, y] => .nx ((σ.set i (some x)).set j (some y)) h1 | _ => .stk
end
@[simp] theorem e_ssPar2 (i j : Nat) (sa : SA) (σ : St3) (h : Hh) : ssPar2 i j sa σ h = (sa σ h).flo σ fun xs h1 => match xs with | [x, y] => .nx ((σ.set i (some x)).set j (some y)) h1 | _ => .stk := Eq.trans rfl rfl
@[simp] theorem e_pop (l : Nat) (i : Int) (h : Hh) : mPop (.ref l) [.int i] h = match lstAt h l with
    | some ts => if 0 ≤ i ∧ i < 1000000 then (match ts[i.toNat]? with | some t => .ok t (h.set l (.lst (ts.eraseIdx i.toNat))) | none => .stk) else .stk
    | none => .stk := Eq.trans rfl rfl
end W3
end

section
namespace W3
open PySem PySem.Spec PyProof.Rows
open L2
theorem funOfD {K : PySem.W.Frag} {x qual : Str} {st : Stmt} {f : Addr} {fd : FuncData} (F : FunD K x qual (defArgs st) (defBody st) (defScope st) [] [] f fd) : Fun K x qual st f fd := by
  obtain ⟨⟨oc, od, dV, kV, doc, pm, an, cdv, ct, osl, e, l, c, d, k⟩, kp⟩ := F
  have h : dV = .none := by
    rcases d with ⟨_, h⟩ | ⟨h, _⟩
    · exact h
    · exact absurd rfl h
  subst h
  exact ⟨⟨oc, od, kV, doc, pm, an, cdv, ct, osl, e, l, c⟩, kp⟩
theorem oexB_ok {K : PySem.W.Frag} {C : Addr} (h : oexB K C = true) : ∃ nm q N bs bm sn sub ab col dd k0 k1 k2 k3 k5, K.lookup C = some (excClassObj nm q C N bs bm true sn sub ab col dd k0 k1 k2 k3 k5 "ValueError.__new__") ∧ PySem.HandSPX.refsVE bm = true := by
  unfold oexB at h
  split at h
  · rename_i t dd cd sl ho
    obtain ⟨h1, h2⟩ := He.ba h
    have e1 := of_decide_eq_true h1
    subst e1
    split at h2
    · rename_i C' bm k0 k1 k2 k3 n k5 hm hs
      obtain ⟨a1, h3⟩ := He.ba h2
      obtain ⟨a2, h4⟩ := He.ba h3
      obtain ⟨a3, h5⟩ := He.ba h4
      obtain ⟨a4, a5⟩ := He.ba h5
      have e1 := of_decide_eq_true a1
      have e2 := of_decide_eq_true a2
      obtain ⟨nm, bs, mro, ns, qn, hd, sn, sub, ab, col, del⟩ := cd
      dsimp only at hm a3 a4
      have e3 : del = false := by simpa using a3
      subst e1 e2 e3 a4 hm
      have hsl : sl = #[k0, k1, k2, k3, some (.builtin "ValueError.__new__"), k5] := by
        obtain ⟨l⟩ := sl
        simp only at hs
        rw [hs]
      subst hsl
      exact ⟨nm, qn, ns, bs, bm, sn, sub, ab, col, dd, k0, k1, k2, k3, k5, ho, a5⟩
    · cases h2
  · cases h
structure XInit (prog : Program) (K : PySem.W.Frag) (C f : Addr) (qual : Str) (st : Stmt) : Prop where
  ex : ∃ (cc c : Addr) (doc pm ct : Value) (an : Option Addr), (∃ oc od osl, K.lookup f = some ⟨oc, od, .func (fdE "__init__" qual (defArgs st) (defBody st) (defScope st) cc c doc pm ct an), osl⟩) ∧
    (∃ ccl cdd vs ccs file tf, K.lookup c = some ⟨ccl, cdd, .fields vs, ccs⟩ ∧ vs[2]? = some (.str file tf) ∧ ((prog.main.file : Str) == file) = true) ∧
    (∃ cl cld csl, K.lookup cc = some ⟨cl, cld, .cell (some (.ref C)), csl⟩) ∧ PySem.W.codeIn K (.ref c) qual = true
theorem xinit_of {prog : Program} {K : PySem.W.Frag} {C f : Addr} {qual : Str} {st : Stmt} (e : fnE K f = xeV qual st) (h : initB K C f prog.main.file qual = true) : XInit prog K C f qual st := by
  unfold fnE xeV at e
  unfold initB at h
  cases q : K.lookup f with
  | none => rw [q] at h; cases h
  | some o =>
    obtain ⟨oc, od, dt, osl⟩ := o
    rw [q] at h e
    cases dt with
    | func fd =>
      obtain ⟨n1, n2, n3, n4, n5, n6, n7, n8, n9, n10, n11, n12, n13, n14, n15⟩ := fd
      dsimp only at h e
      simp only [Option.some.injEq, Prod.mk.injEq] at e
      obtain ⟨h1, h2, h3, h4, h5, h6, h7, h8, h9, h10⟩ := e
      split at h
      · rename_i x cc c
        have hx : x = ("__class__" : Str) := List.head_eq_of_cons_eq h7
        subst h1 h2 h3 h4 h5 h6 h8 h9 h10 hx
        obtain ⟨b1, b2⟩ := He.ba h
        obtain ⟨b2, b3⟩ := He.ba b2
        refine ⟨cc, c, _, _, _, _, ⟨_, _, _, q⟩, ?_, ?_, b3⟩
        · unfold fileB at b2
          split at b2
          · rename_i ho
            split at b2
            · rename_i hv
              exact ⟨_, _, _, _, _, _, ho, hv, b2⟩
            · cases b2
          · cases b2
        · unfold cellB at b1
          split at b1
          · rename_i ho
            have := of_decide_eq_true b1
            subst this
            exact ⟨_, _, _, ho⟩
          · cases b1
      · cases h
    | _ => cases h
section
variable {fn : List He.DefD} {ts : List He.Tab} {xs : List (PySem.W.Frag → Addr)} {es : List FnE} {bs : List (PySem.W.Frag → Bool)} {w : World} {K : PySem.W.Frag}
theorem SaysZ.t (c : SaysZ fn ts xs es bs w K) : He.SaysT [] fn ts w K := congrArg (fun z : AlZ => z.1) c
theorem SaysZ.b (c : SaysZ fn ts xs es bs w K) (i : Nat) {b : PySem.W.Frag → Bool} (h : bs[i]? = some b := by rfl) : b K = true := by
  have c1 : (bs.all fun b => b K) = true := congrArg (fun z : AlZ => z.2.2) c
  exact List.all_eq_true.mp c1 b (List.mem_of_getElem? h)
theorem SaysZ.o (c : SaysZ fn ts xs es bs w K) (i : Nat) {p : PySem.W.Frag → Prop} {d : ∀ K, Decidable (p K)} (h : bs[i]? = some fun K => @decide (p K) (d K)) : p K := @of_decide_eq_true (p K) (d K) (c.b i h)
theorem SaysZ.x (c : SaysZ fn ts xs es bs w K) (i : Nat) {f : PySem.W.Frag → Addr} {e : FnE} (h : xs[i]? = some f := by rfl) (he : es[i]? = some e := by rfl) : fnE K (f K) = e := by
  have c1 : xs.map (fun f => fnE K (f K)) = es := congrArg (fun z : AlZ => z.2.1) c
  have c2 : (xs.map fun f => fnE K (f K))[i]? = es[i]? := by rw [c1]
  rw [List.getElem?_map, h, he] at c2
  exact Option.some.inj c2
end
theorem walk3E {l : PySem.W.OpenLaw} {q : Program} {loose : List Str} {XP : (Str → Option Value) → Heap → Prop} {YP : World → Heap → Prop} {d : DefRec} {f : List T → Hh → Res T} {k : Nat} {x : Str} (hn : l.most = some 63) (hdf : d.params.defaults = []) (hr : Room k callerA)
    (hf : ∀ ns : List Int, ns.length ≤ 63 → ∃ h', f [.fl (ns.map T.int)] [] = .ok (.bl true) h')
    (F : ∀ (w : World) (mg : Str → Option Value) (fa : Addr) (h : Heap), YP w h → h.Ns mainGlobals mg → mg d.name = some (.ref fa) →
      ∃ (K : PySem.W.Frag) (fd : FuncData), K.In h ∧ (∀ (s : Shared) (u : Value), BindsTo s fd ⟨[u], []⟩ [(x, u)]) ∧ ∀ base : Heap, K.In base → base.Ns mainGlobals mg → FnOk l.prog w K mg base (L2.CX l.prog w) k fa fd [x] (spL K f)) :
    PySem.W.WalkO q loose XP YP l.row.toRowW d [] (fun f vs => PySem.call f vs) := by
  refine Att.attach_call hn hdf fun w s₀ s₁ mg mb fa o pm cd doc a vs ns G Y ho hd hcd hmg hobj hints hlen hg => ?_
  obtain ⟨K, fd, KX, hb, hF⟩ := F w mg fa _ Y G.T.g hmg
  exact law_call KX G.T.g G.T.b G.T.builtins G.T.nolimit hg hobj hints (Nat.le_trans hlen (by decide)) hr hF hb (fun H hO hS mg => fun wd => sp_law hf hlen hO hS) fun H e s' z => by
    obtain ⟨_, _, _, _, _, _, _, _, _, _, _, _, z⟩ := z
    exact z.elim
end W3
end

section
namespace W3
open PySem PySem.Spec PyProof.Rows
open L2
def dgetT : List (T × T) → Str → Option T
  | [], _ => none
  | (.str s, t) :: r, k => if s = k then some t else dgetT r k
  | _ :: r, k => dgetT r k
def dsetT : List (T × T) → Str → T → List (T × T)
  | [], _, _ => []
  | (.str s, u) :: r, k, t => (.str s, if s = k then t else u) :: dsetT r k t
  | p :: r, k, t => p :: dsetT r k t
def dputT (kvs : List (T × T)) (k : Str) (t : T) : List (T × T) := if (dgetT kvs k).isSome = true then dsetT kvs k t else kvs ++ [(.str k, t)]
section
variable {K : PySem.W.Frag} {mg : Str → Option Value} {wd : World} {m : Mp} {H : Hp} {kvs : List (T × T)} {ks : List (Key × V)}
theorem RK.get (r : RK K mg m H kvs ks) (k : Str) : (∀ t, dgetT kvs k = some t → ∃ v, valV ks (.inr k) = some v ∧ RT K mg m H t v) ∧ (dgetT kvs k = none → valV ks (.inr k) = none) := by
  induction r with
  | nil => exact ⟨fun t e => (by cases e), fun _ => rfl⟩
  | @cons f t v fs fv r _ ih =>
    by_cases e : f = k
    · subst e
      refine ⟨fun u h => ?_, fun h => ?_⟩
      · simp only [dgetT, if_true] at h
        cases h
        exact ⟨v, valV_pos rfl, r⟩
      · simp [dgetT] at h
    · have ne : ¬ ((Sum.inr f : Key) = .inr k) := fun z => e (Sum.inr.inj z)
      have e1 : dgetT ((.str f, t) :: fs) k = dgetT fs k := by simp only [dgetT]; rw [if_neg e]
      rw [e1, valV_neg (p := (Sum.inr f, v)) ne]
      exact ih
  | @consI i t v fs fv r _ ih =>
    have ne : ¬ ((Sum.inl i : Key) = .inr k) := fun z => by cases z
    have e1 : dgetT ((.int i, t) :: fs) k = dgetT fs k := rfl
    rw [e1, valV_neg (p := (Sum.inl i, v)) ne]
    exact ih
theorem RK.isSome (r : RK K mg m H kvs ks) (k : Str) : (dgetT kvs k).isSome = (valV ks (.inr k)).isSome := by
  obtain ⟨h1, h2⟩ := r.get k
  cases e : dgetT kvs k with
  | none => rw [h2 e]; rfl
  | some t =>
    obtain ⟨v, h, _⟩ := h1 t e
    rw [h]
    rfl
theorem RK.length (r : RK K mg m H kvs ks) : kvs.length = ks.length := by
  induction r with
  | nil => rfl
  | cons _ _ ih => simp [ih]
  | consI _ _ ih => simp [ih]
theorem RK.snoc (r : RK K mg m H kvs ks) {k : Str} {t : T} {v : V} (q : RT K mg m H t v) : RK K mg m H (kvs ++ [(.str k, t)]) (ks ++ [(.inr k, v)]) := by
  induction r with
  | nil => exact .cons q .nil
  | cons r _ ih => exact .cons r ih
  | consI r _ ih => exact .consI r ih
theorem RK.set (r : RK K mg m H kvs ks) {k : Str} {t : T} {v : V} (q : RT K mg m H t v) : RK K mg m H (dsetT kvs k t) (ks.map fun kv => if kv.1 = (.inr k : Key) then (kv.1, v) else kv) := by
  induction r with
  | nil => exact .nil
  | @cons f u w fs fv r _ ih =>
    simp only [dsetT, List.map_cons]
    by_cases e : f = k
    · subst e
      rw [if_pos rfl, if_pos rfl]
      exact .cons q ih
    · rw [if_neg e, if_neg (fun z => e (Sum.inr.inj z))]
      exact .cons r ih
  | @consI i u w fs fv r _ ih =>
    simp only [dsetT, List.map_cons]
    rw [if_neg (fun z => by cases z)]
    exact .consI r ih
theorem RK.put (r : RK K mg m H kvs ks) {k : Str} {t : T} {v : V} (q : RT K mg m H t v) : RK K mg m H (dputT kvs k t) (putK ks (.inr k) v) := by
  unfold dputT putK
  rw [valV_any, ← r.isSome k]
  split
  · exact r.set q
  · exact r.snoc q
theorem HR.dic {h : Hh} (R : HR K mg wd m h H) {l : Nat} {a : Addr} (e : m l = some a) (hl : h[l]? = some (.dic kvs)) : ∃ ks, H a = some (.dK ks) ∧ RK K mg m H kvs ks := by
  obtain ⟨b, e1, r⟩ := R.ob l _ hl
  rw [e] at e1
  cases e1
  exact r
end
def dicAt (h : Hh) (l : Nat) : Option (List (T × T)) := match h[l]? with | some (.dic kvs) => some kvs | _ => none
def oDGet (x k : T) (h : Hh) : Res T := match x, k with
  | .ref l, .str s => (match dicAt h l with
    | some kvs => (match dgetT kvs s with | some t => .ok t h | none => .stk)
    | none => .stk)
  | _, _ => .stk
def oDIn (k x : T) (h : Hh) : Res T := match x, k with
  | .ref l, .str s => (match dicAt h l with
    | some kvs => .ok (.bl (dgetT kvs s).isSome) h
    | none => .stk)
  | _, _ => .stk
def ssDSub (so si sv : SE) : SS := fun σ h => (sv σ h).flo σ fun y h1 => (so σ h1).flo σ fun x h2 => (si σ h2).flo σ fun k h3 => match x, k with
  | .ref l, .str s => (match dicAt h3 l with
    | some kvs => if kvs.length < 1000 then .nx σ (h3.set l (.dic (dputT kvs s y))) else .stk
    | none => .stk)
  | _, _ => .stk
section
variable {X : Cx} {P : Pq} {W : WX} {a b c : Expr} {sa sb sc : SE} {pos p : Pos}
end
end W3
end

section
namespace W3
open PySem
open Sem (wp)
section
variable {prog : Program} {w : World} {A : Around} {E : Value → Shared → Prop} {s : Shared}
end
section
variable {prog : Program} {w : World}
end
end W3
namespace W3
open PySem PySem.Spec PyProof.Rows
open L2
end W3
namespace W3
open PySem PySem.Spec PyProof.Rows
open L2
def mkvT : List T → List T → Option (List (Str × T))
  | [], [] => some []
  | .str s :: ts, u :: us => (mkvT ts us).map ((s, u) :: ·)
  | _, _ => none
def dmrgT (acc : List (T × T)) (fs : List (Str × T)) : List (T × T) := fs.foldl (fun acc p => dputT acc p.1 p.2) acc
def dicZ (xs : List T) (h : Hh) : Res T := match xs with
  | [.tup ts, .tup us] => (match mkvT ts us with
    | some fs => alloc (.dic (dmrgT [] fs)) h
    | none => .stk)
  | _ => .stk
def sDicZ (ar : SA) : SE := fun σ h => (ar σ h).bind dicZ
section
variable {X : Cx} {P : Pq} {W : WX} {a b : Expr} {ar : SA} {pos pos2 p p2 : Pos}
end
end W3
end

section
namespace W3
open PySem PySem.Spec PyProof.Rows
open L2
structure DPs (X : Cx) (P : Pq) (W : WX) (pos : Pos) (keys : List (Option Expr)) (values : List Expr) (ks : List Str) (ar : SA) : Prop where
  ex : ∃ trs, PPs X pos keys values trs ∧ ∀ (σV : L2.St) (H : Hp) (Q : List (V × V) → Hp → Prop), tAr X.K X.mg X.w P W ar σV H (fun vs H1 => Q (List.zipWith (fun k v => (V.str k, v)) ks vs) H1) → tPairs trs σV H Q
section
variable {X : Cx} {P : Pq} {W : WX} {sa : SE} {ar : SA} {pos p : Pos} {v : Expr} {keys : List (Option Expr)} {values : List Expr} {k : Str} {ks : List Str} {j : Nat}
def sDisp (ks : List Str) (ar : SA) : SE := fun σ h => (ar σ (h ++ [.dic []])).bind fun xs h2 => match dicAt h2 h.length with
  | some [] => if xs.length = ks.length ∧ ks.length ≤ 15 then .ok (.ref h.length) (h2.set h.length (.dic (dmrgT [] (ks.zip xs)))) else .stk
  | _ => .stk
end
end W3
namespace W3
open PySem PySem.Spec PyProof.Rows
open L2
def ssPar3 (i j l : Nat) (sa : SA) : SS := fun σ h => (sa σ h).flo σ fun xs h1 => match xs with | [x, y, z] => .nx (((σ.set i (some x)).set j (some y)).set l (some z)) h1 | _ => .stk
section
variable {X : Cx}
end
@[simp] theorem e_ssPar3 (i j l : Nat) (sa : SA) (σ : St3) (h : Hh) : ssPar3 i j l sa σ h = (sa σ h).flo σ fun xs h1 => match xs with | [x, y, z] => .nx (((σ.set i (some x)).set j (some y)).set l (some z)) h1 | _ => .stk := Eq.trans rfl rfl
@[simp] theorem e_dget (l : Nat) (s : Str) (h : Hh) : oDGet (.ref l) (.str s) h = match dicAt h l with
    | some kvs => (match dgetT kvs s with | some t => .ok t h | none => .stk)
    | none => .stk := Eq.trans rfl rfl
@[simp] theorem e_din (l : Nat) (s : Str) (h : Hh) : oDIn (.str s) (.ref l) h = match dicAt h l with
    | some kvs => .ok (.bl (dgetT kvs s).isSome) h
    | none => .stk := Eq.trans rfl rfl
@[simp] theorem e_ssDSub (so si sv : SE) (σ : St3) (h : Hh) : ssDSub so si sv σ h = (sv σ h).flo σ fun y h1 => (so σ h1).flo σ fun x h2 => (si σ h2).flo σ fun k h3 => match x, k with
    | .ref l, .str s => (match dicAt h3 l with
      | some kvs => if kvs.length < 1000 then .nx σ (h3.set l (.dic (dputT kvs s y))) else .stk
      | none => .stk)
    | _, _ => .stk := Eq.trans rfl rfl
@[simp] theorem e_sDicZ (ar : SA) (σ : St3) (h : Hh) : sDicZ ar σ h = (ar σ h).bind dicZ := Eq.trans rfl rfl
@[simp] theorem e_dicZ (ts us : List T) (h : Hh) : dicZ [.tup ts, .tup us] h = match mkvT ts us with
    | some fs => alloc (.dic (dmrgT [] fs)) h
    | none => .stk := Eq.trans rfl rfl
@[simp] theorem e_sDisp (ks : List Str) (ar : SA) (σ : St3) (h : Hh) : sDisp ks ar σ h = (ar σ (h ++ [.dic []])).bind fun xs h2 => match dicAt h2 h.length with
    | some [] => if xs.length = ks.length ∧ ks.length ≤ 15 then .ok (.ref h.length) (h2.set h.length (.dic (dmrgT [] (ks.zip xs)))) else .stk
    | _ => .stk := Eq.trans rfl rfl
end W3
end

section
namespace RZ4
open PySem
open PySem.Sem (wp)
open RZ
structure At4 (z TI TO i1 i2 i3 i4 l1 l2 l3 l4 : Nat) : Prop where
  e2 : i2 = i1 + 1
  e3 : i3 = i1 + 2
  e4 : i4 = i1 + 3
  eI : TI = i1 + 4
  eO : TO = i1 + 5
  ez : z = i1 + 6
  f1 : l1 < i1
  f2 : l2 < i1
  f3 : l3 < i1
  f4 : l4 < i1
section
variable {prog : Program} {w : World} {A : Around} {E : Value → Shared → Prop} {s : Shared}
end
section
variable {prog : Program} {w : World} {A : Around} {E : Value → Shared → Prop} {s : Shared}
end
end RZ4
end

section
namespace W3
open PySem PySem.Spec PyProof.Rows
open L2
open RZ4
def zip4L : List T → List T → List T → List T → List T
  | x :: xs, y :: ys, u :: us, v :: vs => .tup [x, y, u, v] :: zip4L xs ys us vs
  | _, _, _, _ => []
section
variable {K : PySem.W.Frag} {mg : Str → Option Value} {wd : World} {m : Mp} {H : Hp}
end
def zip4Of (xs : List T) (h : Hh) : Res Src := match xs with
  | [.tup t1, .tup t2, .tup t3, .tup t4] => if t2.length = t1.length ∧ t3.length = t1.length ∧ t4.length = t1.length then .ok (.its (zip4L t1 t2 t3 t4)) h else .stk
  | _ => .stk
def siZip4 (a : SA) : SI := fun σ h => (a σ h).bind zip4Of
@[simp] theorem e_siZip4 (a : SA) (σ : St3) (h : Hh) : siZip4 a σ h = (a σ h).bind zip4Of := Eq.trans rfl rfl
section
variable {X : Cx} {P : Pq} {W : WX} {a b c d : Expr} {ar : SA} {pos p : Pos}
end
end W3
end

section
namespace W3
open PySem PySem.Spec PyProof.Rows
open L2
def ssAsgH (a : SE) (g : SGH) : SS := fun σ h => (a σ h).flo σ fun x h1 => match g x σ h1 with | some σ' => .nx σ' h1 | none => .stk
section
variable {X : Cx} {P : Pq} {W : WX} {tg a : Expr} {sa : SE} {pos : Pos}
end
@[simp] theorem e_ssAsgH (a : SE) (g : SGH) (σ : St3) (h : Hh) : ssAsgH a g σ h = (a σ h).flo σ fun x h1 => match g x σ h1 with | some σ' => .nx σ' h1 | none => .stk := Eq.trans rfl rfl
@[simp] theorem e_sgLst (n : Nat) (g : SGs) (l : Nat) (σ : St3) (h : Hh) : sgLst n g (.ref l) σ h = match lstAt h l with | some ts => if ts.length = n then g ts σ else none | none => none := Eq.trans rfl rfl
end W3
end

section
namespace OwLen
open PySem PySem.Spec PyProof.Rows
section
variable {prog : Program} {w : World} {A : Around} {E : Value → Shared → Prop} {s : Shared} {K : PySem.W.Frag} {x C D f : Addr} {ox od : Obj} {odd : Option Obj}
end
end OwLen
namespace L2
open PySem PySem.Spec PyProof.Rows
section
variable {X : Cx} {CX : CXT} {k : Nat} {C g : Addr} {fd : FuncData} {ps : List Str} {sp : Sp} {E : XK}
end
end L2
end

section
namespace W3
open PySem PySem.Spec PyProof.Rows
open L2
def fLen (cn : Str) (ff : List T → Hh → Res T) (xs : List T) (h : Hh) : Res T := match xs with
  | [.ref l] => (match insAt h l with
    | some (d, _) => if d = cn then (match ff [.ref l] h with
      | .ok (.int i) h' => if 0 ≤ i ∧ i < 2 ^ 63 then .ok (.int i) h' else .stk
      | _ => .stk) else .stk
    | none => bLen [.ref l] h)
  | _ => bLen xs h
def sProp (cn : Str) (ff : List T → Hh → Res T) (so : SE) : SE := fun σ h => (so σ h).bind fun x h1 => match x with
  | .ref l => (match insAt h1 l with
    | some (d, _) => if d = cn then (match ff [.ref l] h1 with | .ok t h2 => .ok t h2 | _ => .stk) else .stk
    | none => .stk)
  | _ => .stk
@[simp] theorem e_sProp (cn : Str) (ff : List T → Hh → Res T) (so : SE) (σ : St3) (h : Hh) : sProp cn ff so σ h = (so σ h).bind fun x h1 => match x with
  | .ref l => (match insAt h1 l with
    | some (d, _) => if d = cn then (match ff [.ref l] h1 with | .ok t h2 => .ok t h2 | _ => .stk) else .stk
    | none => .stk)
  | _ => .stk := Eq.trans rfl rfl
end W3
end

section
namespace W3
open PySem PySem.Spec PyProof.Rows
open L2
end W3
end

section
namespace W3
open PySem PySem.Spec PyProof.Rows
open L2
def fGet (cn : Str) (ff : List T → Hh → Res T) (x i : T) (h : Hh) : Res T := match x with
  | .ref l => (match insAt h l with
    | some (d, _) => if d = cn then ff [.ref l, i] h else .stk
    | none => oIx (.ref l) i h)
  | _ => oIx x i h
def fIn (cn : Str) (ff : List T → Hh → Res T) (y x : T) (h : Hh) : Res T := match x with
  | .ref l => (match insAt h l with
    | some (d, _) => if d = cn then (match ff [.ref l, y] h with
      | .ok (.bl b) h' => .ok (.bl b) h'
      | _ => .stk) else .stk
    | none => oIn y (.ref l) h)
  | _ => oIn y x h
def fNotIn (cn : Str) (ff : List T → Hh → Res T) (y x : T) (h : Hh) : Res T := match x with
  | .ref l => (match insAt h l with
    | some (d, _) => if d = cn then (match ff [.ref l, y] h with
      | .ok (.bl b) h' => .ok (.bl (!b)) h'
      | _ => .stk) else .stk
    | none => oNotIn y (.ref l) h)
  | _ => oNotIn y x h
def ssSetO (cn : Str) (ff : List T → Hh → Res T) (o i v : SE) : SS := fun σ h => (v σ h).flo σ fun y h1 => (o σ h1).flo σ fun x h2 => (i σ h2).flo σ fun k h3 => match x with
  | .ref l => (match insAt h3 l with
    | some (d, _) => if d = cn then (ff [.ref l, k, y] h3).flo σ fun _ h4 => .nx σ h4 else .stk
    | none => .stk)
  | _ => .stk
section
variable {X : Cx} {P : Pq} {W : WX} {a b : Expr} {sa sb : SE} {pos : Pos} {cn : Str} {C g : Addr} {k : Nat} {fd : FuncData} {ps : List Str} {ff : List T → Hh → Res T}
end
section
variable {h : Hh}
@[simp] theorem e_fGet (cn : Str) (ff : List T → Hh → Res T) (l : Nat) (i : T) : fGet cn ff (.ref l) i h = match insAt h l with
  | some (d, _) => if d = cn then ff [.ref l, i] h else .stk
  | none => oIx (.ref l) i h := Eq.trans rfl rfl
@[simp] theorem e_fGet_tup (cn : Str) (ff : List T → Hh → Res T) (ts : List T) (i : T) : fGet cn ff (.tup ts) i h = oIx (.tup ts) i h := Eq.trans rfl rfl
@[simp] theorem e_fIn (cn : Str) (ff : List T → Hh → Res T) (l : Nat) (y : T) : fIn cn ff y (.ref l) h = match insAt h l with
  | some (d, _) => if d = cn then (match ff [.ref l, y] h with
    | .ok (.bl b) h' => .ok (.bl b) h'
    | _ => .stk) else .stk
  | none => oIn y (.ref l) h := Eq.trans rfl rfl
@[simp] theorem e_fIn_tup (cn : Str) (ff : List T → Hh → Res T) (ts : List T) (y : T) : fIn cn ff y (.tup ts) h = oIn y (.tup ts) h := Eq.trans rfl rfl
@[simp] theorem e_fNotIn (cn : Str) (ff : List T → Hh → Res T) (l : Nat) (y : T) : fNotIn cn ff y (.ref l) h = match insAt h l with
  | some (d, _) => if d = cn then (match ff [.ref l, y] h with
    | .ok (.bl b) h' => .ok (.bl (!b)) h'
    | _ => .stk) else .stk
  | none => oNotIn y (.ref l) h := Eq.trans rfl rfl
@[simp] theorem e_fNotIn_tup (cn : Str) (ff : List T → Hh → Res T) (ts : List T) (y : T) : fNotIn cn ff y (.tup ts) h = oNotIn y (.tup ts) h := Eq.trans rfl rfl
@[simp] theorem e_ssSetO (cn : Str) (ff : List T → Hh → Res T) (o i v : SE) (σ : St3) : ssSetO cn ff o i v σ h = (v σ h).flo σ fun y h1 => (o σ h1).flo σ fun x h2 => (i σ h2).flo σ fun k h3 => match x with
  | .ref l => (match insAt h3 l with
    | some (d, _) => if d = cn then (ff [.ref l, k, y] h3).flo σ fun _ h4 => .nx σ h4 else .stk
    | none => .stk)
  | _ => .stk := Eq.trans rfl rfl
end
end W3
namespace W3
open PySem PySem.Spec PyProof.Rows
open L2
def ssRaise0 (c : Str) : SS := fun σ h => .exc c [] σ h
@[simp] theorem e_ssRaise0 (c : Str) (σ : St3) (h : Hh) : ssRaise0 c σ h = .exc c [] σ h := Eq.trans rfl rfl
end W3
namespace W3
open PySem PySem.Spec PyProof.Rows
open L2
end W3
end

section
namespace W3
open PySem PySem.Spec PyProof.Rows
open L2
structure IsoC (K : PySem.W.Frag) (C : Addr) : Prop where
  cl : Cls K C
  ha : PySem.W.findIn K (.ref C) "__class__" = some (some (.builtin "object.__class__"))
  hn : PySem.W.specialIn K (.builtin "object.__class__") "__get__" = some (some (.builtin "getset_descriptor.__get__"))
  ht : PySem.W.takesIn K (.builtin "object.__class__") = some true
  hm : PySem.W.mroIn K C (.type "object") = some true
end W3
end

section
namespace W3
open PySem PySem.Spec PyProof.Rows
open L2
def strsOf : List T → Option (List Str)
  | [] => some []
  | .str s :: r => (strsOf r).map (s :: ·)
  | _ :: _ => none
def joinT (a : Str) (ts : List T) (h : Hh) : Res T := match strsOf ts with
  | some ys => if (ys.map (·.length)).sum + ys.length * a.length ≤ 16777216 then .ok (.str (Txt.join a ys)) h else .stk
  | none => .stk
def mJoin (x : T) (vs : List T) (h : Hh) : Res T := match x, vs with
  | .str a, [.ref l] => (match lstAt h l with | some ts => joinT a ts h | none => .stk)
  | .str a, [.tup ts] => joinT a ts h
  | _, _ => .stk
theorem nx_join : NoXM mJoin := fun x y h c fs h' e => by
  unfold mJoin joinT at e
  (repeat' split at e) <;> cases e
theorem strsOf_vals {K : PySem.W.Frag} {mg : Str → Option Value} {m : Mp} {H : Hp} : ∀ {ts : List T} {vs : List V} {ys : List Str}, RTs K mg m H ts vs → strsOf ts = some ys → vs = ys.map V.str ∧ ∀ y ∈ ys, PyData.strOk y = true
  | [], _, _, .nil, e => by
    cases e
    exact ⟨rfl, fun _ q => (List.not_mem_nil q).elim⟩
  | t :: ts, _, ys, .cons r rs, e => by
    cases r with
    | @str x hx =>
      unfold strsOf at e
      cases e2 : strsOf ts with
      | none => rw [e2] at e; cases e
      | some zs =>
        rw [e2] at e
        cases e
        obtain ⟨rfl, g⟩ := strsOf_vals rs e2
        exact ⟨rfl, fun y q => by
          rcases List.mem_cons.mp q with rfl | q
          · exact hx
          · exact g y q⟩
    | _ => cases e
theorem strOk_join {a : Str} (ha : PyData.strOk a = true) {ys : List Str} (hy : ∀ y ∈ ys, PyData.strOk y = true) : PyData.strOk (Txt.join a ys) = true := by
  have key : ∀ (ps : List Str) (acc : Array Nat), PyData.strOk ⟨acc⟩ = true → (∀ q ∈ ps, PyData.strOk q = true) → PyData.strOk ⟨ps.foldl (fun acc p => acc ++ a.cps ++ p.cps) acc⟩ = true := by
    intro ps
    induction ps with
    | nil => intro acc h _; exact h
    | cons q qs ih =>
      intro acc h hq
      rw [List.foldl_cons]
      refine ih _ ?_ fun x hx => hq x (.tail _ hx)
      exact strOk_append (strOk_append (x := ⟨acc⟩) h ha) (hq q (.head _))
  unfold Txt.join Builtin.Str.glued
  refine key _ _ ?_ fun q hq => hy q (List.mem_of_mem_drop hq)
  cases ys with
  | nil => exact (by decide +kernel : PyData.strOk Str.empty = true)
  | cons y ys => exact hy y (.head _)
def sMtS (f : T → List T → Hh → Res T) (o : SE) (a : SA) : SE := fun σ h => (o σ h).bind fun x h1 => match x with
  | .str s => (a σ h1).bind fun xs h2 => f (.str s) xs h2
  | _ => .stk
section
variable {X : Cx} {P : Pq} {W : WX} {a b c o e : Expr} {sa sb sc so : SE} {pos pos' apos cpos p : Pos} {es : List Expr} {ar : SA}
theorem ms_join : MtS X "str.join" mJoin := by
  intro pins s σ H x xs v us Q I rx rs ⟨m, h, t, ts, r, rr, R, o⟩
  cases r with
  | @str a ha =>
    have one : ∀ {ws : List T} {p : Addr} {vs : List V}, RTs X.K X.mg m H ws vs → (SqL X.K H p vs ∨ SqT X.K H p vs) → xs = [.ref p] → OutP X.K X.mg X.w Q m H (joinT a ws h) → wpAny (model X.prog X.w) X.A (call (.builtin "str.join") (v :: us)) (EP X pins σ Q) X.xe s := by
      intro ws p vs rw sq ex oj
      unfold joinT at oj
      split at oj
      · rename_i ys e
        split at oj
        · rename_i hz
          obtain ⟨rfl, g⟩ := strsOf_vals rw e
          exact mt_join pins s σ H _ xs v us Q I rx rs ⟨a, p, ys, rfl, ex, sq, hz, oj _ m H (Ext.refl _ _) (.str (strOk_join ha g)) R⟩
        · exact False.elim oj
      · exact False.elim oj
    match ts, rr with
    | [t1], rr =>
      obtain ⟨y, rfl, r1⟩ := rr.one
      cases r1 with
      | @ref l ad e1 =>
        have o' : OutP X.K X.mg X.w Q m H (match lstAt h l with | some ts => joinT a ts h | none => .stk) := o
        split at o'
        · rename_i ws q1
          obtain ⟨vs, g1, r2⟩ := R.lst e1 q1
          exact one r2 (.inl (SqL.of g1)) rfl o'
        · exact False.elim o'
      | @tup ad vs ws hq r2 => exact one r2 (.inr hq.t) rfl o
      | _ => exact False.elim o
    | [], _ => exact False.elim o
    | t1 :: t2 :: r3, _ =>
      have e : mJoin (.str a) (t1 :: t2 :: r3) h = .stk := by cases t1 <;> rfl
      rw [e] at o
      exact False.elim o
  | _ => exact False.elim (by revert o; unfold mJoin; exact fun o => o)
theorem de_mtS {id : String} {name : Str} {f : T → List T → Hh → Res T} (hm : MtS X id f) (hf : NoXM f) (pa : PlainAttrs "str") (slot : Slot "str" name id) (hty : typeOf (.builtin id) = pure (.type "method_descriptor")) (ho : DE X P W o so) (ha : DA X P W (e :: es) ar)
    (hbase : attributeBase o name X.env (eval o X.env) = eval o X.env := by rfl)
    (hfew : ((backTo cpos (starEach (e :: es) X.env)).all (fun x => !x.1) && (backToKw cpos (keywordEach [] X.env)).all (fun x => x.1.isSome)
      && decide ((e :: es).length + ([] : List Keyword).length + (if ([] : List Keyword).isEmpty then 0 else 1) < 30)) = true := by rfl)
    (hline : (apos.endLine == cpos.line) = true := by rfl) (hs : starEach (e :: es) X.env = (false, eval e X.env) :: starEach es X.env := by rfl) (hplain : (backTo cpos (starEach es X.env)).any (·.1) = false := by rfl) :
    DE X P W (.Call (.Attribute o name apos) (e :: es) [] cpos) (sMtS f so ar) :=
  PE.imp (pe_bm (r := rPM X.K X.mg X.w f) pa slot hty hm ho ha hbase hfew hline hs hplain) fun σV H Q ⟨m, h, σ, A, o⟩ => by
    refine A.first (rel1 := RT X.K X.mg) o fun m1 h1 t x H1 E1 r A1 o1 => ?_
    cases r with
    | @str z hz =>
      refine ⟨rfl, ?_⟩
      refine A1.first (rel1 := RTs X.K X.mg) o1 fun m2 h2 ts xs H2 E2 r2 A2 o2 => ?_
      exact ⟨m2, h2, .str z, ts, .str hz, r2, A2.hr, o2.outP (hf _ _ _)⟩
    | _ => exact False.elim o1
open Classical in
noncomputable def rngOf2 (xs : List T) (h1 : Hh) : Res Src := match xs with
  | [.int i, .int j] => if RngOk i ∧ RngOk j then .ok (.its (rangeT i (j - i).toNat)) h1 else .stk
  | _ => .stk
noncomputable def siRange2 (a : SA) : SI := fun σ h => (a σ h).bind rngOf2
@[simp] theorem e_siRange2 (a : SA) (σ : St3) (h : Hh) : siRange2 a σ h = (a σ h).bind rngOf2 := Eq.trans rfl rfl
@[simp] theorem e_sMtS (f : T → List T → Hh → Res T) (o : SE) (a : SA) (σ : St3) (h : Hh) : sMtS f o a σ h = (o σ h).bind fun x h1 => match x with
  | .str s => (a σ h1).bind fun xs h2 => f (.str s) xs h2
  | _ => .stk := Eq.trans rfl rfl
@[simp] theorem e_join_ref (a : Str) (l : Nat) (h : Hh) : mJoin (.str a) [.ref l] h = match lstAt h l with | some ts => joinT a ts h | none => .stk := Eq.trans rfl rfl
end
end W3
end

section
namespace W3.Ne
open PySem PySem.Spec PyProof.Rows PySem.W
section
variable {prog : Program} {w : World} {A : Around} {E : Value → Shared → Prop} {s : Shared} {K : PySem.W.Frag} {x y C L g : Addr} {h₀ : Heap} {m : Str → Option Value} {ox : Obj} {od : Option Obj}
end
end W3.Ne
namespace W3
open PySem PySem.Spec PyProof.Rows
open L2
section
variable {X : Cx} {P : Pq} {W : WX} {a b : Expr} {sa sb : SE} {pos : Pos} {cn : Str} {C g : Addr} {k : Nat} {fd : FuncData} {ps : List Str} {ff : List T → Hh → Res T}
end
end W3
end

section
namespace W3
open PySem PySem.Spec PyProof.Rows
open L2
def sTupRev (a : SE) : SE := fun σ h => (a σ h).bind fun x h1 => match x with
  | .ref l => (match lstAt h1 l with | some ts => .ok (.tup ts.reverse) h1 | none => .stk)
  | _ => .stk
section
variable {X : Cx} {P : Pq} {W : WX} {a : Expr} {sa : SE}
theorem RTs.reverse {K : PySem.W.Frag} {mg : Str → Option Value} {m : Mp} {H : Hp} : ∀ {ts : List T} {vs : List V}, RTs K mg m H ts vs → RTs K mg m H ts.reverse vs.reverse
  | _, _, .nil => .nil
  | _, _, .cons a b => by
    rw [List.reverse_cons, List.reverse_cons]
    exact RTs.append b.reverse (.cons a .nil)
end
@[simp] theorem e_sTupRev (a : SE) (σ : St3) (h : Hh) : sTupRev a σ h = (a σ h).bind fun x h1 => match x with
  | .ref l => (match lstAt h1 l with | some ts => .ok (.tup ts.reverse) h1 | none => .stk)
  | _ => .stk := Eq.trans rfl rfl
end W3
end

section
namespace W3
open PySem PySem.Spec PyProof.Rows
open L2
def ssAugO (cn : Str) (ff : List T → Hh → Res T) (i : Nat) (a : SE) : SS := fun σ h => match σ[i]? with
  | some (some (.ref l)) => (a σ h).flo σ fun y h1 => match insAt h1 l with
    | some (d, _) => if d = cn then (ff [.ref l, y] h1).flo σ fun t h2 => .nx (σ.set i (some t)) h2 else .stk
    | none => .stk
  | _ => .stk
section
variable {X : Cx} {P : Pq} {W : WX} {a : Expr} {sa : SE} {pos : Pos} {cn : Str} {C g : Addr} {k : Nat} {fd : FuncData} {ps : List Str} {ff : List T → Hh → Res T}
end
@[simp] theorem e_ssAugO (cn : Str) (ff : List T → Hh → Res T) (i : Nat) (a : SE) (σ : St3) (h : Hh) : ssAugO cn ff i a σ h = match σ[i]? with
  | some (some (.ref l)) => (a σ h).flo σ fun y h1 => match insAt h1 l with
    | some (d, _) => if d = cn then (ff [.ref l, y] h1).flo σ fun t h2 => .nx (σ.set i (some t)) h2 else .stk
    | none => .stk
  | _ => .stk := Eq.trans rfl rfl
example : dunderI Operator.Add.info.2 = ("__iadd__" : Str) := by decide +kernel
end W3
end

section
namespace W3
open PySem L2
section
variable {X : Cx}
end
end W3
end

section
namespace W3
open PySem PySem.Spec PyProof.Rows
open L2
def ngetT : List (T × T) → NestedKey → Option T
  | [], _ => none
  | (k, t) :: r, n => if nkT k = some n then some t else ngetT r n
def nsetT : List (T × T) → NestedKey → T → List (T × T)
  | [], _, _ => []
  | (k, u) :: r, n, t => (k, if nkT k = some n then t else u) :: nsetT r n t
def nputT (kvs : List (T × T)) (k : T) (n : NestedKey) (t : T) : List (T × T) := if (ngetT kvs n).isSome = true then nsetT kvs n t else kvs ++ [(k, t)]
def igetT : List (T × T) → Int → Option T
  | [], _ => none
  | (.int s, t) :: r, k => if s = k then some t else igetT r k
  | _ :: r, k => igetT r k
def isetT : List (T × T) → Int → T → List (T × T)
  | [], _, _ => []
  | (.int s, u) :: r, k, t => (.int s, if s = k then t else u) :: isetT r k t
  | p :: r, k, t => p :: isetT r k t
def iputT (kvs : List (T × T)) (k : Int) (t : T) : List (T × T) := if (igetT kvs k).isSome = true then isetT kvs k t else kvs ++ [(.int k, t)]
def kPut (o : Ob) (k t : T) : Option Ob :=
  match o, k with
  | .dic kvs, .str s => if kvs.length < 1000000 then some (.dic (dputT kvs s t)) else none
  | .dic kvs, .int i => if kvs.length < 1000000 then some (.dic (iputT kvs i t)) else none
  | .dic [], .tup ts => (match nkT (.tup ts) with | some n => if n.depth ≤ 8 then some (.dtk [(.tup ts, t)]) else none | none => none)
  | .dtk kvs, .tup ts => (match nkT (.tup ts) with | some n => if n.depth ≤ 8 ∧ kvs.length < 1000000 then some (.dtk (nputT kvs (.tup ts) n t)) else none | none => none)
  | _, _ => none
def obAt (h : Hh) (x : T) : Option Ob := match x with | .ref l => h[l]? | _ => none
def ssKSub (so si sv : SE) : SS := fun σ h => (sv σ h).flo σ fun y h1 => (so σ h1).flo σ fun x h2 => (si σ h2).flo σ fun k h3 => match x with
  | .ref l => (match h3[l]? with
    | some o => (match kPut o k y with | some o' => .nx σ (h3.set l o') | none => .stk)
    | none => .stk)
  | _ => .stk
section
variable {K : PySem.W.Frag} {mg : Str → Option Value} {m : Mp} {H : Hp} {kvs : List (T × T)} {ks : List (Key × V)}
abbrev EPr (es : List (NestedKey × Addr × V)) (xs : List (NestedKey × Addr × Value)) : Prop := Paired (fun (p : NestedKey × Addr × V) (q : NestedKey × Addr × Value) => p.1 = q.1 ∧ p.2.1 = q.2.1 ∧ RelV p.2.2 q.2.2) es xs
def esPut (es : List (NestedKey × Addr × V)) (n : NestedKey) (a : Addr) (v : V) : List (NestedKey × Addr × V) := if (es.any fun e => decide (e.1 = n)) = true then es.map (fun e => if e.1 = n then (e.1, e.2.1, v) else e) else es ++ [(n, a, v)]
theorem atKey_cons {x : NestedKey × Addr × Value} {xs : List (NestedKey × Addr × Value)} {n : NestedKey} : atKey (x :: xs) n = if x.1 = n then some x.2 else atKey xs n := by
  unfold atKey
  rw [List.find?_cons]
  by_cases e : x.1 = n
  · rw [if_pos e]; simp [e]
  · rw [if_neg e]; simp [e]
theorem RN.get {es : List (NestedKey × Addr × V)} (r : RN K mg m H kvs es) : ∀ {xs : List (NestedKey × Addr × Value)}, EPr es xs → ∀ n : NestedKey,
    (∀ t, ngetT kvs n = some t → ∃ (a : Addr) (u : Value) (v : V), atKey xs n = some (a, u) ∧ RelV v u ∧ RT K mg m H t v) ∧ (ngetT kvs n = none → atKey xs n = none) := by
  induction r with
  | nil => intro xs p n; cases p; exact ⟨fun t e => (by cases e), fun _ => rfl⟩
  | @cons t u k a v fs es hk hd r1 r2 _ ih =>
    intro xs p n
    cases p with
    | @cons _ x _ xs q p =>
      obtain ⟨q1, q2, q3⟩ := q
      obtain ⟨x1, x2, x3⟩ := x
      cases q1; cases q2
      rw [atKey_cons]
      simp only [ngetT, hk, Option.some.injEq]
      by_cases e : k = n
      · rw [if_pos e, if_pos e]
        exact ⟨fun t' h => (by cases h; exact ⟨a, x3, v, rfl, q3, r2⟩), fun h => by cases h⟩
      · rw [if_neg e, if_neg e]
        exact ih p n
theorem RN.isSome {es : List (NestedKey × Addr × V)} (r : RN K mg m H kvs es) {xs : List (NestedKey × Addr × Value)} (p : EPr es xs) (n : NestedKey) : (ngetT kvs n).isSome = (atKey xs n).isSome := by
  obtain ⟨h1, h2⟩ := r.get p n
  cases e : ngetT kvs n with
  | none => rw [h2 e]; rfl
  | some t =>
    obtain ⟨a, u, v, h, _⟩ := h1 t e
    rw [h]; rfl
theorem RN.any {es : List (NestedKey × Addr × V)} (r : RN K mg m H kvs es) (n : NestedKey) : (ngetT kvs n).isSome = es.any fun e => decide (e.1 = n) := by
  induction r with
  | nil => rfl
  | @cons t u k a v fs es hk hd r1 r2 _ ih =>
    simp only [ngetT, hk, Option.some.injEq, List.any_cons]
    by_cases e : k = n
    · rw [if_pos e]; simp [e]
    · rw [if_neg e, ih]; simp [e]
theorem RN.length {es : List (NestedKey × Addr × V)} (r : RN K mg m H kvs es) : kvs.length = es.length := by
  induction r with
  | nil => rfl
  | cons _ _ _ _ _ ih => simp [ih]
theorem RN.put {es : List (NestedKey × Addr × V)} (r : RN K mg m H kvs es) {n : NestedKey} {kt t : T} {a : Addr} {v : V} (hk : nkT kt = some n) (hd : n.depth ≤ 8) (rk : RT K mg m H kt (.ref a)) (rv : RT K mg m H t v) :
    RN K mg m H (nputT kvs kt n t) (esPut es n a v) := by
  unfold nputT esPut
  rw [r.any n]
  split
  · rename_i z
    clear z hk rk hd
    induction r with
    | nil => exact .nil
    | @cons t' u k a' v' fs es hk hd r1 r2 _ ih =>
      simp only [nsetT, List.map_cons, hk, Option.some.injEq]
      by_cases e : k = n
      · rw [if_pos e, if_pos e]; exact .cons hk hd r1 rv ih
      · rw [if_neg e, if_neg e]; exact .cons hk hd r1 r2 ih
  · rename_i z
    clear z
    induction r with
    | nil => exact .cons hk hd rk rv .nil
    | cons h1 h2 h3 h4 _ ih => exact .cons h1 h2 h3 h4 ih
theorem EPr.put {es : List (NestedKey × Addr × V)} {xs : List (NestedKey × Addr × Value)} (p : EPr es xs) {n : NestedKey} {a : Addr} {v : V} {u : Value} (q : RelV v u) : EPr (esPut es n a v) (storedH xs n a u) := by
  have e1 : (es.any fun e => decide (e.1 = n)) = (atKey xs n).isSome := by
    induction p with
    | nil => rfl
    | @cons e x es xs r _ ih =>
      rw [atKey_cons, List.any_cons, ih, r.1]
      by_cases z : x.1 = n
      · rw [if_pos z]; simp [z]
      · rw [if_neg z]; simp [z]
  unfold esPut storedH
  rw [e1]
  split
  · rename_i z
    clear z e1
    induction p with
    | nil => exact .nil
    | @cons e x es xs r _ ih =>
      simp only [List.map_cons]
      refine .cons ?_ ih
      obtain ⟨r1, r2, r3⟩ := r
      unfold putAt
      rw [r1]
      split
      · exact ⟨rfl, r2, q⟩
      · exact ⟨r1, r2, r3⟩
  · rename_i z
    clear z e1
    induction p with
    | nil => exact .cons ⟨rfl, rfl, q⟩ .nil
    | cons r _ ih => exact .cons r ih
end
end W3
namespace W3
open PySem PySem.Spec PyProof.Rows
open L2
section
variable {X : Cx} {P : Pq} {W : WX} {a b c : Expr} {sa sb sc : SE} {pos p : Pos} {pins : List (Addr × Obj)} {σ : L2.St} {H : Hp} {s : Shared}
inductive KAt (X : Cx) (m : Mp) (H : Hp) (s : Shared) (a : Addr) (y : V) (iv : Value) : Option T → Prop
  | flat {r : Option T} (o : Option V) (g : DGet H a y o) (h : (∀ t, r = some t → ∃ v, o = some v ∧ RT X.K X.mg m H t v) ∧ (r = none → o = none)) : KAt X m H s a y iv r
  | deep {r : Option T} (n : NestedKey) (ka : Addr) (xs : List (NestedKey × Addr × Value)) (ey : iv = .ref ka) (ek : (nestedKind X.prog X.w).is s.heap n ka) (hs : (a == sysModules) = false) (hd : s.heap.DictOfH (nestedKind X.prog X.w) a xs)
      (h : (∀ t, r = some t → ∃ (b : Addr) (u : Value) (v : V), atKey xs n = some (b, u) ∧ RelV v u ∧ RT X.K X.mg m H t v) ∧ (r = none → atKey xs n = none)) : KAt X m H s a y iv r
theorem KAt.typeIs {m : Mp} {a : Addr} {y : V} {iv : Value} {r : Option T} (I : Inv X pins σ H s) (k : KAt X m H s a y iv r) : s.TypeIs (.ref a) "dict" := by
  cases k with
  | flat o g h => exact dict_typeIs I g
  | deep n ka xs ey ek hs hd h => exact hd.typeIs
end
end W3
namespace W3
open PySem PySem.Spec PyProof.Rows
open L2
section
variable {X : Cx} {P : Pq} {W : WX} {a b c : Expr} {sa sb sc : SE} {pos p : Pos} {pins : List (Addr × Obj)} {σ : L2.St} {H : Hp} {s : Shared}
end
end W3
end

section
namespace W3
open PySem PySem.Spec PyProof.Rows
open L2
def putD (acc : List (T × T)) (k v : T) : Option (List (T × T)) := match k with
  | .int i => some (iputT acc i v)
  | .str s => some (dputT acc s v)
  | _ => none
def dcRun (s : Src) (g : SG) (tt : ST) (tk te : SE) (σ : St3) : Nat → Nat → List (T × T) → Hh → Res (List (T × T))
  | k, i, acc, h => match s.at h i with
    | none => .stk
    | some none => .ok acc h
    | some (some x) => match k with
      | 0 => .stk
      | k + 1 => match g x σ with
        | none => .stk
        | some σ1 => match tt σ1 h with
          | .ok b h1 => if b = true then (match tk σ1 h1 with
              | .ok kt h2 => (match te σ1 h2 with
                | .ok t h3 => if acc.length < 1000000 then (match putD acc kt t with | some acc' => dcRun s g tt tk te σ k (i + 1) acc' h3 | none => .stk) else .stk
                | _ => .stk)
              | _ => .stk) else dcRun s g tt tk te σ k (i + 1) acc h1
          | _ => .stk
def sDc (si : SI) (g : SG) (tt : ST) (tk te : SE) (vs : List Nat) : SE := fun σ h => ((si σ h).bind fun s h1 => dcRun s g tt tk te (wipeT σ vs) (s.len h1) 0 [] h1).bind fun kvs h1 => alloc (.dic kvs) h1
section
variable {K : PySem.W.Frag} {mg : Str → Option Value} {wd : World} {m : Mp} {H : Hp} {h : Hh}
end
section
variable {X : Cx} {P : Pq} {W : WX} {tg iter : Expr} {si : SI}
end
@[simp] theorem e_sDc (si : SI) (g : SG) (tt : ST) (tk te : SE) (vs : List Nat) (σ : St3) (h : Hh) : sDc si g tt tk te vs σ h = ((si σ h).bind fun s h1 => dcRun s g tt tk te (wipeT σ vs) (s.len h1) 0 [] h1).bind fun kvs h1 => alloc (.dic kvs) h1 := Eq.trans rfl rfl
end W3
end

section
namespace RL2
open PySem
open PySem.Sem (wp)
open RZ
structure AtN (z TI TO i1 i2 l1 l2 : Nat) : Prop where
  e2 : i2 = i1 + 1
  eI : TI = i1 + 2
  eO : TO = i1 + 3
  ez : z = i1 + 4
  f1 : l1 < i1
  f2 : l2 < i1
section
variable {prog : Program} {w : World} {A : Around} {E : Value → Shared → Prop} {s : Shared}
end
section
variable {prog : Program} {w : World} {A : Around} {E : Value → Shared → Prop} {s : Shared}
end
end RL2
namespace W3
open PySem PySem.Spec PyProof.Rows
open L2
open RL2
section
variable {K : PySem.W.Frag} {mg : Str → Option Value} {wd : World} {m : Mp} {H : Hp}
end
def zipL2Of (xs : List T) (h : Hh) : Res Src := match xs with
  | [.ref p1, .ref p2] => (match lstAt h p1, lstAt h p2 with | some _, some _ => .ok (.z2 p1 p2) h | _, _ => .stk)
  | _ => .stk
def siZipL2 (a : SA) : SI := fun σ h => (a σ h).bind zipL2Of
@[simp] theorem e_siZipL2 (a : SA) (σ : St3) (h : Hh) : siZipL2 a σ h = (a σ h).bind zipL2Of := Eq.trans rfl rfl
section
variable {X : Cx} {P : Pq} {W : WX} {e1 e2 : Expr} {ar : SA} {pos p : Pos}
end
end W3
end

section
namespace RL3
open PySem
open PySem.Sem (wp)
open RZ
structure AtN (z TI TO i1 i2 i3 l1 l2 l3 : Nat) : Prop where
  e2 : i2 = i1 + 1
  e3 : i3 = i1 + 2
  eI : TI = i1 + 3
  eO : TO = i1 + 4
  ez : z = i1 + 5
  f1 : l1 < i1
  f2 : l2 < i1
  f3 : l3 < i1
section
variable {prog : Program} {w : World} {A : Around} {E : Value → Shared → Prop} {s : Shared}
end
section
variable {prog : Program} {w : World} {A : Around} {E : Value → Shared → Prop} {s : Shared}
end
end RL3
namespace W3
open PySem PySem.Spec PyProof.Rows
open L2
open RL3
section
variable {K : PySem.W.Frag} {mg : Str → Option Value} {wd : World} {m : Mp} {H : Hp}
end
def zipL3Of (xs : List T) (h : Hh) : Res Src := match xs with
  | [.ref p1, .ref p2, .ref p3] => (match lstAt h p1, lstAt h p2, lstAt h p3 with | some _, some _, some _ => .ok (.z3 p1 p2 p3) h | _, _, _ => .stk)
  | _ => .stk
def siZipL3 (a : SA) : SI := fun σ h => (a σ h).bind zipL3Of
@[simp] theorem e_siZipL3 (a : SA) (σ : St3) (h : Hh) : siZipL3 a σ h = (a σ h).bind zipL3Of := Eq.trans rfl rfl
section
variable {X : Cx} {P : Pq} {W : WX} {e1 e2 e3 : Expr} {ar : SA} {pos p : Pos}
end
end W3
end

section
namespace W3
open PySem PySem.Spec PyProof.Rows
open L2
def ssAugI (i : Nat) (a : SE) : SS := fun σ h => match σ[i]? with
  | some (some (.int x)) => (a σ h).flo σ fun y h1 => match y with
    | .int z => .nx (σ.set i (some (.int (x + z)))) h1
    | _ => .stk
  | _ => .stk
def seqOf (x : T) (h : Hh) : Option (List T) := match x with
  | .tup ts => some ts
  | .fl ts => some ts
  | .ref l => lstAt h l
  | _ => none
def saStar (a : SE) (r : SA) : SA := fun σ h => (a σ h).bind fun x h1 => match seqOf x h1 with
  | some ts => (r σ h1).bind fun us h2 => .ok (ts ++ us) h2
  | none => .stk
section
variable {X : Cx} {P : Pq} {W : WX} {a b c e : Expr} {sa sb sc : SE} {pos p pos' : Pos} {es : List Expr} {ar : SA}
end
@[simp] theorem e_ssAugI (i : Nat) (a : SE) (σ : St3) (h : Hh) : ssAugI i a σ h = match σ[i]? with
  | some (some (.int x)) => (a σ h).flo σ fun y h1 => match y with
    | .int z => .nx (σ.set i (some (.int (x + z)))) h1
    | _ => .stk
  | _ => .stk := Eq.trans rfl rfl
@[simp] theorem e_saStar (a : SE) (r : SA) (σ : St3) (h : Hh) : saStar a r σ h = (a σ h).bind fun x h1 => match seqOf x h1 with
  | some ts => (r σ h1).bind fun us h2 => .ok (ts ++ us) h2
  | none => .stk := Eq.trans rfl rfl
end W3
end

section
namespace W3
open PySem PySem.Spec PyProof.Rows
open L2
def seqL (x : T) (h : Hh) : Option (List T) := match x with
  | .fl ts => some ts
  | .ref l => lstAt h l
  | _ => none
def sRevL (a : SE) : SE := fun σ h => (a σ h).bind fun x h1 => match seqL x h1 with
  | some ts => alloc (.lst ts.reverse) h1
  | none => .stk
section
variable {X : Cx} {P : Pq} {W : WX} {a : Expr} {sa : SE}
end
@[simp] theorem e_sRevL (a : SE) (σ : St3) (h : Hh) : sRevL a σ h = (a σ h).bind fun x h1 => match seqL x h1 with
  | some ts => alloc (.lst ts.reverse) h1
  | none => .stk := Eq.trans rfl rfl
section
variable {X : Cx} {XS : XSub} {a : Addr} {oe : Obj} {cls : Value} {d : Option Addr} {pn : List (Addr × Obj)} {sl : Option Nat} {c : Str} {fs : List (Str × T)} {es : List Expr} {ar : SA} {arx : Str → List (Str × T) → SA} {pos : Pos}
end
end W3
end

section
namespace W3
open PySem PySem.Spec PyProof.Rows
open L2
section
variable {X : Cx}
end
end W3
end

section
namespace W3
open PySem PySem.Spec PyProof.Rows
open L2
section
variable {X : Cx}
end
end W3
end

section
namespace W3
open PySem PySem.Spec PyProof.Rows
open L2
section
variable {X : Cx}
end
end W3
end

section
namespace W3
open PySem PySem.Spec PyProof.Rows
open L2
section
variable {X : Cx}
end
end W3
end

section
namespace W3
open PySem PySem.Spec PyProof.Rows
open L2
def isDic (x : T) (h : Hh) : Bool := match obAt h x with | some (.dic _) => true | _ => false
def setDT (x k t : T) (h : Hh) : Res T := match x, k with
  | .ref l, .int i => (match h[l]? with
    | some (.dic kvs) => if kvs.length < 1000000 then (match igetT kvs i with
      | some w => .ok w h
      | none => .ok t (h.set l (.dic (iputT kvs i t)))) else .stk
    | _ => .stk)
  | _, _ => .stk
def sSetD (so se sf : SE) : SE := fun σ h => (so σ h).bind fun x h1 => if isDic x h1 = true then (se σ h1).bind fun k h2 => (sf σ h2).bind fun t h3 => setDT x k t h3 else .stk
section
variable {X : Cx} {P : Pq} {W : WX} {o e f : Expr} {so se sf : SE} {apos cpos pos p : Pos}
def sLRg (a : SE) : SE := fun σ h => (a σ h).bind fun x h1 => match x with
  | .int n => if 0 ≤ n ∧ n ≤ 1000000 then alloc (.lst (rangeT 0 n.toNat)) h1 else .stk
  | _ => .stk
end
end W3
namespace L2
open PySem PySem.Spec PyProof.Rows
section
variable {X : Cx} {e : Expr} {te : TE} {p apos cpos pos : Pos}
end
end L2
namespace W3
open PySem PySem.Spec PyProof.Rows
open L2
theorem RK.vals {K : PySem.W.Frag} {mg : Str → Option Value} {m : Mp} {H : Hp} {kvs : List (T × T)} {ks : List (Key × V)} (r : RK K mg m H kvs ks) : RTs K mg m H (kvs.map (·.2)) (ks.map (·.2)) := by
  induction r with
  | nil => exact .nil
  | cons q _ ih => exact .cons q ih
  | consI q _ ih => exact .cons q ih
def sLVals (so : SE) : SE := fun σ h => (so σ h).bind fun x h1 => match obAt h1 x with
  | some (.dic kvs) => alloc (.lst (kvs.map (·.2))) h1
  | _ => .stk
section
variable {X : Cx} {P : Pq} {W : WX} {e : Expr} {se : SE} {apos cpos pos p : Pos}
end
end W3
end

section
namespace W3
open PySem PySem.Spec PyProof.Rows
open L2
def IteF (K : PySem.W.Frag) (a : Addr) : It :=
  ⟨fun i H => ∃ (xs : List V) (x : V), SqL K H a xs ∧ xs[i]? = some x, fun i H v H' => ∃ T x ob, v = .ref T ∧ H T = none ∧ ob.dict = none ∧ H' = upd H T (.frz ob (.tup [.int (i : Nat), x])) ∧ ∀ xs, SqL K H a xs → xs[i]? = some x, fun i H => ∃ xs : List V, SqL K H a xs ∧ xs.length ≤ i⟩
theorem turn_enumF {P : Program} {w : World} {K : PySem.W.Frag} {elts : List Expr} {kk : Nat} {tpos : Pos} (a e it : Addr) :
    Turn P w K (.Tuple elts kk tpos) (IteF K a) [e, it] e (fun i h => (∃ old, IsEnum h e it ((i : Nat) : Int) old) ∧ h.IsListIter it a i ∧ e ≠ it) where
  mem := by simp
  obj := fun i h st b hb => by
    obtain ⟨⟨old, he⟩, ⟨o, ho, hc, hd⟩, _⟩ := st
    have e' : b = e ∨ b = it := by simpa using hb
    rcases e' with z | z
    · rw [z]; exact ⟨_, he, fun v q => nomatch q⟩
    · rw [z]; exact ⟨o, ho, fun v q => by rw [hd] at q; cases q⟩
  keep := fun i h h' st k => let ⟨⟨old, he⟩, hi, hne⟩ := st; ⟨⟨old, k e (by simp) _ he⟩, hi.at fun o q => k it (by simp) o q, hne⟩
  item := by
    intro X hP hw hK hc i pins s σ H E I hf st hg
    subst hP hw hK
    obtain ⟨⟨old, he⟩, hit, hne⟩ := st
    obtain ⟨xs, x, hq, hx⟩ := hg
    obtain ⟨its, rv, p, hz⟩ := I.list hq
    obtain ⟨u, hu, ru⟩ := rv.get hx
    have hel : e < s.heap.objs.size := Heap.lt_size he
    have hil : it < s.heap.objs.size := by obtain ⟨_, q, _⟩ := hit; exact Heap.lt_size q
    refine wpAny_pyNext_enum_item he hit p.isList (x := u) (by simpa using hu) hne fun h' ho hit' hT hsz hk => ?_
    refine ⟨_, rfl, wpAny_letOwnedTupleGo_enum (s := { s with heap := h', toks := s.toks + 1 }) ho fun h'' he' sb => ?_⟩
    have hT2 : h''.get? s.heap.objs.size = some { cls := .type "tuple", data := .seq #[.int i s.toks, u] } := (sb.2 _ (Nat.ne_of_gt hel)).trans hT
    have new : ObjOk X.prog X.w (upd H s.heap.objs.size (.frz { cls := .type "tuple", data := .seq #[.int i s.toks, u] } (.tup [.int (i : Nat), x]))) h'' s.heap.objs.size (.frz { cls := .type "tuple", data := .seq #[.int i s.toks, u] } (.tup [.int (i : Nat), x])) :=
      ⟨hT2, by show 2 ≤ sizeLine; decide, [.int i s.toks, u], .cons ⟨_, rfl⟩ (.cons ru .nil), ⟨_, hT2, rfl, _, rfl⟩⟩
    have I1 : L2.Inv X pins σ (upd H s.heap.objs.size (.frz { cls := .type "tuple", data := .seq #[.int i s.toks, u] } (.tup [.int (i : Nat), x]))) { s with heap := h'', toks := s.toks + 1 } :=
      I.turnedNew (ch := [e, it]) (fun b ob hb q => (sb.2 b (fun z => hb (by simp [z]))).trans (hk b ob (fun z => hb (by simp [z])) (fun z => hb (by simp [z])) q)) hf (Nat.le_refl _) new
    refine ⟨.ref s.heap.objs.size, _, I1, rfl, ⟨_, x, _, rfl, I.hok.fresh (Nat.le_refl _), rfl, rfl, fun ys hy => by rw [I.list_inj hy hq]; exact hx⟩, ⟨⟨u, ?_⟩, hit'.at fun o q => (sb.2 it (Ne.symm hne)).trans q, hne⟩, fun b hb => ?_⟩
    · have e1 : ((i + 1 : Nat) : Int) = (i : Int) + 1 := by omega
      rw [e1]; exact he'
    · have hb' : b < s.heap.objs.size := by
        have e' : b = e ∨ b = it := by simpa using hb
        rcases e' with z | z
        · rw [z]; exact hel
        · rw [z]; exact hil
      rw [upd_ne (Nat.ne_of_lt hb')]
      exact (hf b hb).1
  done := by
    intro X hP hw hK hc i pins s σ H E I hf st hg
    subst hP hw hK
    obtain ⟨⟨old, he⟩, hit, hne⟩ := st
    obtain ⟨xs, hq, hx⟩ := hg
    obtain ⟨its, rv, p, hz⟩ := I.list hq
    obtain ⟨f0, f1, f2, f3, f4, f5⟩ := hf it (by simp)
    have hl := rv.length
    exact wpAny_pyNext_enum_end (I.ok.hd hc) he hit p.isList (by simp; omega) fun h' eb => ⟨rfl, I.turned (t' := s.toks) (fun b o hb q => eb b o hb q) f0 f1 f3 f4 f5⟩
  self := fun A i s Q E st h => let ⟨⟨_, he⟩, _⟩ := st; wpAny_pyIter_enum he h
theorem pi_enumF {X : Cx} {e : Expr} {ta : TA} {p pos tpos : Pos} {elts : List Expr} {kk : Nat} (hg : Gl X "enumerate") (hm : X.mg "enumerate" = none) (ha : PA X [e] ta) (hs : starEach [e] X.env = [(false, eval e X.env)] := by rfl) :
    PI X (.Tuple elts kk tpos) (.Call (.Name "enumerate" p) [e] [] pos) (fun σ H R => ta σ H fun vs H1 => ∃ a xs, vs = [.ref a] ∧ SqL X.K H1 a xs ∧ R (IteF X.K a) H1) := by
  refine ⟨fun pins s σ H R I h => ?_⟩
  refine Call_ (ld_blt I hg hm boot_enumerate (PyProof.Rows.callWith_type1 (thn (ha.run pos pins s σ H _ I h) fun us s1 ⟨vs, H1, I1, r1, q1⟩ => ?_) hs rfl))
  obtain ⟨a, xs, ex, hq, q⟩ := q1
  subst ex
  cases r1 with
  | cons r rr =>
    cases rr
    cases r
    have fin : ∀ b, b ∈ [s1.heap.objs.size + 1, s1.heap.objs.size] → FpOk X pins H1 b := fun b hb => by
      have e' : b = s1.heap.objs.size + 1 ∨ b = s1.heap.objs.size := by simpa using hb
      have hle : s1.heap.objs.size ≤ b := by
        rcases e' with z | z
        · rw [z]; exact Nat.le_add_right _ _
        · rw [z]; exact Nat.le_refl _
      exact I1.fpOk hle (I1.hok.fresh hle)
    obtain ⟨its, rv, p', hz⟩ := I1.list hq
    refine call_enumerate_list p'.isList fun h' he hit hsz hk => wpAny_pyIter_enum he ?_
    have I2 : L2.Inv X pins σ H1 { s1 with heap := h' } := I1.kept (t' := s1.toks) hk
    exact ⟨s1.heap.objs.size + 1, [s1.heap.objs.size + 1, s1.heap.objs.size], _, _, H1, rfl, I2, turn_enumF a (s1.heap.objs.size + 1) s1.heap.objs.size, ⟨⟨.none, he⟩, hit, Nat.succ_ne_self _⟩, fin, q⟩
def enAt (l : Nat) (h : Hh) (i : Nat) : Option (Option T) := match lstAt h l with
  | some ts => (match ts[i]? with | some x => some (some (.tup [.int (i : Nat), x])) | none => some none)
  | none => none
def forEn (l : Nat) (g : SG) (b : SS) : Nat → Nat → St3 → Hh → Flo
  | k, i, σ, h => match enAt l h i with
    | none => .stk
    | some none => .nx σ h
    | some (some x) => match k with
      | 0 => .stk
      | k + 1 => match g x σ with
        | none => .stk
        | some σ1 => match b σ1 h with
          | .nx σ2 h2 => forEn l g b k (i + 1) σ2 h2
          | .ct σ2 h2 => forEn l g b k (i + 1) σ2 h2
          | .bk σ2 h2 => .nx σ2 h2
          | r => r
def ssForEn (a : SA) (g : SG) (b : SS) : SS := fun σ h => (a σ h).flo σ fun xs h1 => match xs with
  | [.ref l] => (match lstAt h1 l with | some ts => forEn l g b ts.length 0 σ h1 | none => .stk)
  | _ => .stk
section
variable {X : Cx} {P : Pq} {W : WX} {ar : SA} {a : Expr} {pos p tpos cpos : Pos} {body : List Stmt} {x1 : SS} {elts : List Expr} {kk : Nat}
theorem en_go {m m' : Mp} {H H' : Hp} {h' : Hh} {l : Nat} {b : Addr} {i : Nat} {x : T} (hl : m l = some b) (E : Tr m H m' H') (R : HR X.K X.mg X.w m' h' H') (e : enAt l h' i = some (some x)) :
    (IteF X.K b).go i H' ∧ ∀ y H2, (IteF X.K b).yld i H' y H2 → Ext m' H' m' H2 ∧ HR X.K X.mg X.w m' h' H2 ∧ RT X.K X.mg m' H2 x y := by
  unfold enAt at e
  split at e
  · rename_i ts q
    split at e
    · rename_i t et
      cases e
      obtain ⟨vs, g, r⟩ := R.lst (E.mono _ _ hl) q
      obtain ⟨v, ev, rv⟩ := r.get et
      refine ⟨⟨vs, v, SqL.of g, ev⟩, fun y H2 ⟨T, z, ob, e1, hT, hd, e2, e3⟩ => ?_⟩
      subst e1 e2
      have := e3 vs (SqL.of g)
      rw [ev] at this; cases this
      have E2 := Ext.garbage (o := .frz ob (.tup [.int (i : Nat), v])) R hT
      exact ⟨E2, R.garbage hT, .tup (.inl ⟨ob, upd_same, hd⟩) (.cons (.int _) (.cons (rv.ext E2) .nil))⟩
    · cases e
  · cases e
theorem en_stop {m m' : Mp} {H H' : Hp} {h' : Hh} {l : Nat} {b : Addr} {i : Nat} (hl : m l = some b) (E : Tr m H m' H') (R : HR X.K X.mg X.w m' h' H') (e : enAt l h' i = some none) : (IteF X.K b).stop i H' := by
  unfold enAt at e
  split at e
  · rename_i ts q
    split at e
    · cases e
    · rename_i et
      obtain ⟨vs, g, r⟩ := R.lst (E.mono _ _ hl) q
      refine ⟨vs, SqL.of g, ?_⟩
      rw [← r.length]
      exact List.getElem?_eq_none_iff.mp et
  · cases e
theorem ds_forEn {is : List Nat} {g : SG} (hp : PassesOwn (model X.prog X.w) X.A X.env X.xe) (hc : X.calm = true) (hgl : Gl X "enumerate") (hm : X.mg "enumerate" = none) (ha : DA X P W [a] ar) (hg : DG X P (.Tuple elts kk tpos) is g) (hb : DSs X P W body x1)
    (hs2 : starEach [a] X.env = [(false, eval a X.env)] := by rfl) (hs : ∀ x, foldedSetIterable (.Call (.Name "enumerate" p) [a] [] cpos) X.env x = pure x := by intro _; rfl) : DS X P W (.For (.Tuple elts kk tpos) (.Call (.Name "enumerate" p) [a] [] cpos) body [] pos) (ssForEn ar g x1) :=
  PS.imp (ps_for hp hc (pi_enumF hgl hm ha hs2) hg hb hs) fun D σV H ⟨m, h, σ, A, o⟩ => by
    refine A.flo (rel1 := RTs X.K X.mg) o fun m1 h1 ts xs H1 E1 r A1 o1 => ?_
    split at o1
    · rename_i l
      obtain ⟨v, rfl, r1⟩ := r.one
      split at o1
      · rename_i us el
        cases r1 with
        | @ref _ b hl =>
          obtain ⟨vs, gq, _⟩ := A1.hr.lst hl el
          refine ⟨b, vs, rfl, SqL.of gq, ?_⟩
          refine ⟨fun i k σV' H' => ∃ m' h' σ', Ext m1 H1 m' H' ∧ At X.K X.mg X.w P m' H' σV' σ' h' ∧ OutS X.K X.mg X.w W D m1 H1 (forEn l g x1 k i σ' h'), ⟨us.length, m1, h1, σ, Ext.refl _ _, A1, o1⟩, ?_⟩
          rintro i k σV' H' ⟨m', h', σ', E', A', o'⟩
          unfold forEn at o'
          cases es : enAt l h' i with
          | none => rw [es] at o'; exact False.elim o'
          | some ox =>
            cases ox with
            | none =>
              rw [es] at o'
              exact .inl ⟨en_stop hl E'.tr A'.hr es, o' σV' m' H' E' A'.sr A'.hr⟩
            | some x =>
              rw [es] at o'
              cases k with
              | zero => exact False.elim o'
              | succ k =>
                obtain ⟨jg, jy⟩ := en_go hl E'.tr A'.hr es
                refine .inr ⟨jg, _, fun σV2 H'' q => ⟨k, Nat.lt_succ_self k, q⟩, fun y H2 hy => ?_⟩
                obtain ⟨E2, R2, rx⟩ := jy y H2 hy
                have A2 : At X.K X.mg X.w P m' H2 σV' σ' h' := A'.ext E2 R2
                refine ⟨m', h', σ', x, A2, rx, ?_⟩
                dsimp only at o'
                cases eg : g x σ' with
                | none => rw [eg] at o'; exact False.elim o'
                | some σ1 =>
                  rw [eg] at o'
                  intro σV1 s1 _
                  refine ⟨m', h', σ1, ⟨s1, R2, A2.pr⟩, ?_⟩
                  dsimp only at o'
                  have up : ∀ {r : Flo}, OutS X.K X.mg X.w W D m1 H1 r → OutS X.K X.mg X.w W D m' H2 r := fun q => OutS.ext (E'.trans E2) q
                  cases eb : x1 σ1 h' with
                  | nx σ2 h2 =>
                    rw [eb] at o'
                    exact fun σV3 m3 H3 E3 s3 R3 => ⟨m3, h2, σ2, (E'.trans E2).trans E3, ⟨s3, R3, P.st E3 A2.pr⟩, o'⟩
                  | ct σ2 h2 =>
                    rw [eb] at o'
                    exact fun σV3 m3 H3 E3 s3 R3 => ⟨m3, h2, σ2, (E'.trans E2).trans E3, ⟨s3, R3, P.st E3 A2.pr⟩, o'⟩
                  | bk σ2 h2 => rw [eb] at o'; exact up o'
                  | rt t h2 => rw [eb] at o'; exact up (r := .rt t h2) o'
                  | exc c fs σ2 h2 => rw [eb] at o'; exact up (r := .exc c fs σ2 h2) o'
                  | stk => rw [eb] at o'; exact o'
      · exact False.elim o1
    · exact False.elim o1
end
end W3
end

section
namespace W3
open PySem PySem.Spec PyProof.Rows
open L2
section
variable {X : Cx} {P : Pq} {W : WX} {o e k v : Expr} {so se sk sv : SE} {apos cpos pos : Pos}
end
end W3
end

section
namespace W3
open PySem PySem.Spec PyProof.Rows
open L2
section
variable {X : Cx} {P : Pq} {W : WX} {o e f : Expr} {so se sf : SE} {apos cpos pos : Pos} {pins : List (Addr × Obj)} {σ : L2.St} {H : Hp} {s : Shared}
end
end W3
namespace W3
open PySem PySem.Spec PyProof.Rows
open L2
section
variable {X : Cx} {P : Pq} {W : WX} {k v : Expr} {sk sv : SE} {pos : Pos}
end
end W3
end

section
namespace W3
open PySem
theorem sz : sizeLine = 16777216 := by decide +kernel
@[simp] theorem sz_0 : 0 ≤ sizeLine := by decide +kernel
@[simp] theorem sz_1 : 1 ≤ sizeLine := by decide +kernel
@[simp] theorem sz_2 : 2 ≤ sizeLine := by decide +kernel
@[simp] theorem sz_3 : 3 ≤ sizeLine := by decide +kernel
@[simp] theorem sz_4 : 4 ≤ sizeLine := by decide +kernel
@[simp] theorem sz_5 : 5 ≤ sizeLine := by decide +kernel
@[simp] theorem sz_6 : 6 ≤ sizeLine := by decide +kernel
@[simp] theorem sz_7 : 7 ≤ sizeLine := by decide +kernel
@[simp] theorem sz_8 : 8 ≤ sizeLine := by decide +kernel
@[simp] theorem sz_9 : 9 ≤ sizeLine := by decide +kernel
@[simp] theorem sz_10 : 10 ≤ sizeLine := by decide +kernel
@[simp] theorem sz_11 : 11 ≤ sizeLine := by decide +kernel
@[simp] theorem sz_12 : 12 ≤ sizeLine := by decide +kernel
@[simp] theorem sz_13 : 13 ≤ sizeLine := by decide +kernel
@[simp] theorem sz_14 : 14 ≤ sizeLine := by decide +kernel
@[simp] theorem sz_15 : 15 ≤ sizeLine := by decide +kernel
@[simp] theorem sz_16 : 16 ≤ sizeLine := by decide +kernel
@[simp] theorem sz_17 : 17 ≤ sizeLine := by decide +kernel
@[simp] theorem sz_18 : 18 ≤ sizeLine := by decide +kernel
@[simp] theorem sz_19 : 19 ≤ sizeLine := by decide +kernel
@[simp] theorem sz_20 : 20 ≤ sizeLine := by decide +kernel
@[simp] theorem sz_21 : 21 ≤ sizeLine := by decide +kernel
@[simp] theorem sz_22 : 22 ≤ sizeLine := by decide +kernel
@[simp] theorem sz_23 : 23 ≤ sizeLine := by decide +kernel
@[simp] theorem sz_24 : 24 ≤ sizeLine := by decide +kernel
@[simp] theorem sz_25 : 25 ≤ sizeLine := by decide +kernel
@[simp] theorem sz_26 : 26 ≤ sizeLine := by decide +kernel
@[simp] theorem sz_ne : (sizeLine = 0) = False := by rw [sz]; simp
@[simp] theorem sz_lt1 : 0 < sizeLine := by decide +kernel
theorem szle {n : Nat} (h : n ≤ 16777216) : n ≤ sizeLine := by rw [sz]; exact h
def mOk (c m : Str) (x : T) (h : Hh) : Bool := match x with
  | .ref l => match insAt h l with
    | some (d, fs) => decide (d = c ∧ fs.lookup m = none)
    | none => false
  | _ => false
def fSet (cs : List (Str × List Str)) (x : T) (f : Str) (y : T) (σ : St3) (h2 : Hh) : Flo := match x with
  | .ref l => match insAt h2 l with
    | some (c, fs) => match cs.lookup c with
      | some as => if as.contains f && decide (fs.length < 1000) then .nx σ (h2.set l (.ins c (putT f y fs))) else .stk
      | none => .stk
    | none => .stk
  | _ => .stk
section
variable {σ : St3} {h : Hh}
@[simp] theorem e_sC (t : T) : sC t σ h = .ok t h := Eq.trans rfl rfl
@[simp] theorem e_s1 (f : T → Hh → Res T) (a : SE) : s1 f a σ h = (a σ h).bind f := Eq.trans rfl rfl
@[simp] theorem e_s2 (f : T → T → Hh → Res T) (a b : SE) : s2 f a b σ h = (a σ h).bind fun x h1 => (b σ h1).bind fun y h2 => f x y h2 := Eq.trans rfl rfl
@[simp] theorem e_sVar (i : Nat) : sVar i σ h = match σ[i]? with | some (some t) => .ok t h | _ => .stk := Eq.trans rfl rfl
@[simp] theorem e_sT (a : SE) : sT a σ h = (a σ h).bind fun x h1 => match x with | .bl b => .ok b h1 | _ => .stk := Eq.trans rfl rfl
@[simp] theorem e_stAnd (a b : ST) : stAnd a b σ h = (a σ h).bind fun x h1 => if x = true then b σ h1 else .ok false h1 := Eq.trans rfl rfl
@[simp] theorem e_stOr (a b : ST) : stOr a b σ h = (a σ h).bind fun x h1 => if x = true then .ok true h1 else b σ h1 := Eq.trans rfl rfl
@[simp] theorem e_stNot (a : ST) : stNot a σ h = (a σ h).bind fun x h1 => .ok (!x) h1 := Eq.trans rfl rfl
@[simp] theorem e_sB (a : ST) : sB a σ h = (a σ h).bind fun x h1 => .ok (.bl x) h1 := Eq.trans rfl rfl
@[simp] theorem e_sIf (c : ST) (a b : SE) : sIf c a b σ h = (c σ h).bind fun x h1 => if x = true then a σ h1 else b σ h1 := Eq.trans rfl rfl
@[simp] theorem e_sChain (f g : T → T → Hh → Res T) (a b c : SE) : sChain f g a b c σ h = (a σ h).bind fun x h1 => (b σ h1).bind fun y h2 => (f x y h2).bind fun z h3 => match z with
  | .bl k => if k = true then (c σ h3).bind fun w h4 => g y w h4 else .ok (.bl false) h3
  | _ => .stk := Eq.trans rfl rfl
@[simp] theorem e_saNil : saNil σ h = .ok [] h := Eq.trans rfl rfl
@[simp] theorem e_saCons (a : SE) (r : SA) : saCons a r σ h = (a σ h).bind fun x h1 => (r σ h1).bind fun xs h2 => .ok (x :: xs) h2 := Eq.trans rfl rfl
@[simp] theorem e_sTup (a : SA) : sTup a σ h = (a σ h).bind fun xs h1 => if xs.length ≤ sizeLine then .ok (.tup xs) h1 else .stk := Eq.trans rfl rfl
@[simp] theorem e_sLst (a : SA) : sLst a σ h = (a σ h).bind fun xs h1 => if xs.length ≤ sizeLine then alloc (.lst xs) h1 else .stk := Eq.trans rfl rfl
@[simp] theorem e_sCl (f : List T → Hh → Res T) (a : SA) : sCl f a σ h = (a σ h).bind f := Eq.trans rfl rfl
@[simp] theorem e_sOver (f : List T → Hh → Res T) (a : SA) : sOver f a σ h = (a σ h).bind f := Eq.trans rfl rfl
@[simp] theorem e_sLc (a : SA) : sLc a σ h = (a σ h).bind fun xs h1 => alloc (.lst xs) h1 := Eq.trans rfl rfl
@[simp] theorem e_sMt (f : T → List T → Hh → Res T) (o : SE) (a : SA) : sMt f o a σ h = (o σ h).bind fun x h1 => (a σ h1).bind fun xs h2 => f x xs h2 := Eq.trans rfl rfl
@[simp] theorem e_sMtL (f : T → List T → Hh → Res T) (o : SE) (a : SA) : sMtL f o a σ h = (o σ h).bind fun x h1 => if isL x h1 = true then (a σ h1).bind fun xs h2 => f x xs h2 else .stk := Eq.trans rfl rfl
@[simp] theorem e_soNone : soNone σ h = .ok none h := Eq.trans rfl rfl
@[simp] theorem e_soSome (a : SE) : soSome a σ h = (a σ h).bind fun x h1 => match x with | .int i => .ok (some i) h1 | _ => .stk := Eq.trans rfl rfl
@[simp] theorem e_sSl (a : SE) (lo hi : SO) : sSl a lo hi σ h = (a σ h).bind fun x h1 => (lo σ h1).bind fun l h2 => (hi σ h2).bind fun u h3 => oSl x l u h3 := Eq.trans rfl rfl
@[simp] theorem e_sDic0 : sDic0 σ h = alloc (.dic []) h := Eq.trans rfl rfl
@[simp] theorem e_alloc (o : Ob) : alloc o h = .ok (.ref h.length) (h ++ [o]) := Eq.trans rfl rfl
@[simp] theorem e_arN (n : Nat) (f : List T → Hh → Res T) (xs : List T) : arN n f xs h = if xs.length = n then f xs h else .stk := Eq.trans rfl rfl
@[simp] theorem e_siE (a : SE) : siE a σ h = (a σ h).bind srcOf := Eq.trans rfl rfl
@[simp] theorem e_siRange1 (a : SA) : siRange1 a σ h = (a σ h).bind rngOf := Eq.trans rfl rfl
@[simp] theorem e_rng {j : Int} (h0 : -1000000 ≤ j) (h2 : j ≤ 1000000) : rngOf [.int j] h = .ok (.its (rangeT 0 j.toNat)) h := by
  have a1 : RngOk j := by
    have : (2 ^ 62 : Int) = 4611686018427387904 := by decide +kernel
    unfold RngOk
    rw [this]; omega
  unfold rngOf
  simp only [a1, if_true]
@[simp] theorem e_stYes : stYes σ h = .ok true h := Eq.trans rfl rfl
@[simp] theorem e_sgName (i : Nat) (t : T) : sgName i t σ = some (σ.set i (some t)) := Eq.trans rfl rfl
@[simp] theorem e_sgsNil : sgsNil [] σ = some σ := Eq.trans rfl rfl
@[simp] theorem e_sgsCons (g : SG) (r : SGs) (t : T) (ts : List T) : sgsCons g r (t :: ts) σ = match g t σ with | some σ1 => r ts σ1 | none => none := Eq.trans rfl rfl
@[simp] theorem e_sgTup (n : Nat) (g : SGs) (ts : List T) : sgTup n g (.tup ts) σ = if ts.length = n then g ts σ else none := Eq.trans rfl rfl
@[simp] theorem e_saLc (si : SI) (g : SG) (tt : ST) (te : SE) (vs : List Nat) : saLc si g tt te vs σ h = (si σ h).bind fun s h1 => lcRun s g tt te (wipeT σ vs) (s.len h1) 0 [] h1 := Eq.trans rfl rfl
@[simp] theorem e_wipe0 : wipeT σ [] = σ := Eq.trans rfl rfl
@[simp] theorem e_wipe1 (v : Nat) (vs : List Nat) : wipeT σ (v :: vs) = (wipeT σ vs).set v none := Eq.trans rfl rfl
@[simp] theorem e_ssNil : ssNil σ h = .nx σ h := Eq.trans rfl rfl
@[simp] theorem e_ssCons (a b : SS) : ssCons a b σ h = (a σ h).seq b := Eq.trans rfl rfl
@[simp] theorem e_ssIf (c : ST) (a b : SS) : ssIf c a b σ h = (c σ h).flo σ fun x h1 => if x = true then a σ h1 else b σ h1 := Eq.trans rfl rfl
@[simp] theorem e_ssRet (a : SE) : ssRet a σ h = (a σ h).flo σ fun x h1 => .rt x h1 := Eq.trans rfl rfl
@[simp] theorem e_ssRetN : ssRetN σ h = .rt .non h := Eq.trans rfl rfl
@[simp] theorem e_ssExpr (a : SE) : ssExpr a σ h = (a σ h).flo σ fun _ h1 => .nx σ h1 := Eq.trans rfl rfl
@[simp] theorem e_ssAsg (a : SE) (g : SG) : ssAsg a g σ h = (a σ h).flo σ fun x h1 => match g x σ with | some σ1 => .nx σ1 h1 | none => .stk := Eq.trans rfl rfl
@[simp] theorem e_ssStk : ssStk σ h = .stk := Eq.trans rfl rfl
@[simp] theorem e_ssBreak : ssBreak σ h = .bk σ h := Eq.trans rfl rfl
@[simp] theorem e_ssCont : ssCont σ h = .ct σ h := Eq.trans rfl rfl
@[simp] theorem e_ssSub (o i v : SE) : ssSub o i v σ h = (v σ h).flo σ fun y h1 => (o σ h1).flo σ fun x h2 => (i σ h2).flo σ fun k h3 => match x, k with
  | .ref l, .int n => match lstAt h3 l with
    | some ts => match L2.ixN ts.length n with | some j => .nx σ (h3.set l (.lst (ts.set j y))) | none => .stk
    | none => .stk
  | _, _ => .stk := Eq.trans rfl rfl
@[simp] theorem e_ssFldC (cs : List (Str × List Str)) (o v : SE) (f : Str) : ssFldC cs o v f σ h = (v σ h).flo σ fun y h1 => (o σ h1).flo σ fun x h2 => fSet cs x f y σ h2 := Eq.trans rfl rfl
@[simp] theorem e_ssFor (si : SI) (g : SG) (b : SS) : ssFor si g b σ h = (si σ h).flo σ fun s h1 => forRun s g b (s.len h1) 0 σ h1 := Eq.trans rfl rfl
theorem e_sMeth0 (c m : Str) (n : Nat) (f : List T → Hh → Res T) (o : SE) (a : SA) : sMeth c m n f o a σ h = (o σ h).bind fun x h1 => if mOk c m x h1 = true then (a σ h1).bind fun xs h2 => arN n f (x :: xs) h2 else .stk := by
  have key : ∀ x h1, (match x with
      | .ref l => match insAt h1 l with
        | some (d, fs) => if d = c ∧ fs.lookup m = none then (a σ h1).bind fun xs h2 => arN n f (x :: xs) h2 else .stk
        | none => .stk
      | _ => .stk) = if mOk c m x h1 = true then (a σ h1).bind fun xs h2 => arN n f (x :: xs) h2 else .stk := by
    intro x h1
    cases x with
    | ref l =>
      cases hi : insAt h1 l with
      | none => simp only [mOk, hi]; rfl
      | some p =>
        obtain ⟨d, fs⟩ := p
        by_cases q : d = c ∧ fs.lookup m = none
        · simp only [mOk, hi]; rw [if_pos q, if_pos (by simp [q])]
        · simp only [mOk, hi]; rw [if_neg q, if_neg (by simpa using q)]
    | _ => rfl
  unfold sMeth
  congr 1
  funext x h1
  exact key x h1
@[simp] theorem e_sMeth (c m : Str) (n : Nat) (f : List T → Hh → Res T) (o : SE) (a : SA) : sMeth c m n f o a σ h = (o σ h).bind fun x h1 => if mOk c m x h1 = true then (a σ h1).bind fun xs h2 => arN n f (x :: xs) h2 else .stk := e_sMeth0 c m n f o a
@[simp] theorem e_sClK (n q : Nat) (pat : List Bool) (ds : List T) (f : List T → Hh → Res T) (a kw : SA) : sClK n q pat ds f a kw σ h = (a σ h).bind fun xs h1 => (kw σ h1).bind fun zs h2 => if xs.length = n ∧ zs.length = q then f (xs ++ weave pat ds zs) h2 else .stk := Eq.trans rfl rfl
@[simp] theorem e_bMakeK (c : Str) (q n : Nat) (pat : List Bool) (ds : List T) (f : List T → Hh → Res T) (a kw : SA) : bMakeK c q n pat ds f a kw σ h = (a σ h).bind fun xs h1 => (kw σ h1).bind fun zs h2 => if xs.length = n ∧ zs.length = q then bMake c (n + 1 + pat.length) f (xs ++ weave pat ds zs) h2 else .stk := Eq.trans rfl rfl
@[simp] theorem e_bMake (c : Str) (n : Nat) (f : List T → Hh → Res T) (xs : List T) : bMake c n f xs h = (arN n f (.ref h.length :: xs) (h ++ [.ins c []])).bind fun t h1 => match t with | .non => .ok (.ref h.length) h1 | _ => .stk := Eq.trans rfl rfl
@[simp] theorem e_add_ii (i j : Int) : oAdd (.int i) (.int j) h = .ok (.int (i + j)) h := Eq.trans rfl rfl
@[simp] theorem e_add_ss (i j : Str) : oAdd (.str i) (.str j) h = if i.length + j.length ≤ sizeLine then .ok (.str (i ++ j)) h else .stk := Eq.trans rfl rfl
@[simp] theorem e_add_tt (i j : List T) : oAdd (.tup i) (.tup j) h = if i.length + j.length ≤ sizeLine then .ok (.tup (i ++ j)) h else .stk := Eq.trans rfl rfl
@[simp] theorem e_sub_ii (i j : Int) : oSub (.int i) (.int j) h = .ok (.int (i - j)) h := Eq.trans rfl rfl
theorem mul_ok {i j : Int} (q : MulOk i j) : oMul (.int i) (.int j) h = .ok (.int (i * j)) h := by
  unfold oMul
  simp only [q, if_true]
theorem two64 : (2 ^ 64 : Int) = 18446744073709551616 := by decide +kernel
@[simp] theorem e_mul_l {i j : Int} (h0 : -18446744073709551616 < i) (h1 : i < 18446744073709551616) : oMul (.int i) (.int j) h = .ok (.int (i * j)) h := mul_ok (.inl (by rw [two64]; exact ⟨h0, h1⟩))
@[simp] theorem e_mul_r {i j : Int} (h0 : -18446744073709551616 < j) (h1 : j < 18446744073709551616) : oMul (.int i) (.int j) h = .ok (.int (i * j)) h := mul_ok (.inr (by rw [two64]; exact ⟨h0, h1⟩))
@[simp] theorem e_mod_ii (i j : Int) : oMod (.int i) (.int j) h = if 0 < j then .ok (.int (i % j)) h else .stk := Eq.trans rfl rfl
@[simp] theorem e_div_ii (i j : Int) : oDiv (.int i) (.int j) h = if 0 < j ∧ j < 1073741824 then .ok (.int (i / j)) h else .stk := Eq.trans rfl rfl
theorem pow_ok {i j : Int} (q : PowOk i j) : oPow (.int i) (.int j) h = .ok (.int (i ^ j.toNat)) h := by
  unfold oPow
  simp only [q, if_true]
@[simp] theorem e_pow_ii {i j : Int} (h0 : 0 ≤ j) (h1 : j ≤ 1000000) (h2 : i.natAbs < 18446744073709551616) : oPow (.int i) (.int j) h = .ok (.int (i ^ j.toNat)) h := pow_ok ⟨h0, h1, by
  have : (2 ^ 64 : Nat) = 18446744073709551616 := by decide +kernel
  rw [this]; exact h2⟩
@[simp] theorem e_lt_ii (i j : Int) : oLt (.int i) (.int j) h = .ok (.bl (decide (i < j))) h := Eq.trans rfl rfl
@[simp] theorem e_le_ii (i j : Int) : oLe (.int i) (.int j) h = .ok (.bl (decide (i ≤ j))) h := Eq.trans rfl rfl
@[simp] theorem e_gt_ii (i j : Int) : oGt (.int i) (.int j) h = .ok (.bl (decide (j < i))) h := Eq.trans rfl rfl
@[simp] theorem e_ge_ii (i j : Int) : oGe (.int i) (.int j) h = .ok (.bl (decide (j ≤ i))) h := Eq.trans rfl rfl
@[simp] theorem e_is_n (x : T) : oIs x .non h = .ok (.bl (isNonT x)) h := Eq.trans rfl rfl
@[simp] theorem e_is_b (a b : Bool) : oIs (.bl a) (.bl b) h = .ok (.bl (decide (a = b))) h := Eq.trans rfl rfl
@[simp] theorem e_isnot_n (x : T) : oIsNot x .non h = .ok (.bl (!isNonT x)) h := Eq.trans rfl rfl
@[simp] theorem e_isnot_b (a b : Bool) : oIsNot (.bl a) (.bl b) h = .ok (.bl (!decide (a = b))) h := Eq.trans rfl rfl
@[simp] theorem e_nonT0 : isNonT .non = true := Eq.trans rfl rfl
@[simp] theorem e_nonT1 (s : Str) : isNonT (.str s) = false := Eq.trans rfl rfl
@[simp] theorem e_nonT2 (s : List T) : isNonT (.tup s) = false := Eq.trans rfl rfl
@[simp] theorem e_nonT3 (s : Int) : isNonT (.int s) = false := Eq.trans rfl rfl
@[simp] theorem e_nonT4 (s : Bool) : isNonT (.bl s) = false := Eq.trans rfl rfl
@[simp] theorem e_eq_ii (i j : Int) : oEq (.int i) (.int j) h = .ok (.bl (decide (i = j))) h := by
  show Res.ok (T.bl (i == j)) h = _
  rw [show (i == j) = decide (i = j) from rfl]
@[simp] theorem e_eq_ss (i j : Str) : oEq (.str i) (.str j) h = .ok (.bl (decide (i = j))) h := by
  show Res.ok (T.bl (i == j)) h = _
  rw [show (i == j) = decide (i = j) from rfl]
@[simp] theorem e_ne_ii (i j : Int) : oNe (.int i) (.int j) h = .ok (.bl (!decide (i = j))) h := by
  show Res.ok (T.bl (!(i == j))) h = _
  rw [show (i == j) = decide (i = j) from rfl]
@[simp] theorem e_ne_ss (i j : Str) : oNe (.str i) (.str j) h = .ok (.bl (!decide (i = j))) h := by
  show Res.ok (T.bl (!(i == j))) h = _
  rw [show (i == j) = decide (i = j) from rfl]
@[simp] theorem e_ne_bb (i j : Bool) : oNe (.bl i) (.bl j) h = .ok (.bl (!decide (i = j))) h := by
  show Res.ok (T.bl (!(i == j))) h = _
  rw [show (i == j) = decide (i = j) by cases i <;> cases j <;> rfl]
@[simp] theorem e_eq_bb (i j : Bool) : oEq (.bl i) (.bl j) h = .ok (.bl (decide (i = j))) h := by
  show Res.ok (T.bl (i == j)) h = _
  rw [show (i == j) = decide (i = j) by cases i <;> cases j <;> rfl]
@[simp] theorem e_ix_tup (ts : List T) (i : Int) : oIx (.tup ts) (.int i) h = match L2.atI ts i with | some t => .ok t h | none => .stk := Eq.trans rfl rfl
@[simp] theorem e_ix_fl (ts : List T) (i : Int) : oIx (.fl ts) (.int i) h = match L2.atI ts i with | some t => .ok t h | none => .stk := Eq.trans rfl rfl
@[simp] theorem e_ix_ref (l : Nat) (i : Int) : oIx (.ref l) (.int i) h = match lstAt h l with
      | some ts => match L2.atI ts i with | some t => .ok t h | none => .stk
      | none => .stk := Eq.trans rfl rfl
@[simp] theorem e_ix_str (z : Str) (i : Int) : oIx (.str z) (.int i) h = if z.length ≤ sizeLine then (match L2.atI z.cps.toList i with | some c => .ok (.str ⟨#[c]⟩) h | none => .stk) else .stk := Eq.trans rfl rfl
@[simp] theorem e_sl_tup (ts : List T) (lo hi : Option Int) : oSl (.tup ts) lo hi h = .ok (.tup (cutT ts lo hi)) h := Eq.trans rfl rfl
@[simp] theorem e_sl_fl (ts : List T) (lo hi : Option Int) : oSl (.fl ts) lo hi h = alloc (.lst (cutT ts lo hi)) h := Eq.trans rfl rfl
@[simp] theorem e_sl_ref (l : Nat) (lo hi : Option Int) : oSl (.ref l) lo hi h = match lstAt h l with | some ts => alloc (.lst (cutT ts lo hi)) h | none => .stk := Eq.trans rfl rfl
@[simp] theorem e_sl_str (z : Str) (lo hi : Option Int) : oSl (.str z) lo hi h = if z.length ≤ sizeLine then .ok (.str (L2.cutS z lo hi)) h else .stk := Eq.trans rfl rfl
@[simp] theorem e_len_tup (ts : List T) : bLen [.tup ts] h = .ok (.int ts.length) h := Eq.trans rfl rfl
@[simp] theorem e_len_fl (ts : List T) : bLen [.fl ts] h = .ok (.int ts.length) h := Eq.trans rfl rfl
@[simp] theorem e_len_str (z : Str) : bLen [.str z] h = if z.length ≤ sizeLine then .ok (.int z.length) h else .stk := Eq.trans rfl rfl
@[simp] theorem e_len_ref (l : Nat) : bLen [.ref l] h = match lstAt h l with | some ts => .ok (.int ts.length) h | none => .stk := Eq.trans rfl rfl
@[simp] theorem e_int (i : Int) : bInt [.int i] h = .ok (.int i) h := Eq.trans rfl rfl
@[simp] theorem e_bTup (ts : List T) : bTup ts h = .ok (.tup ts) h := Eq.trans rfl rfl
@[simp] theorem e_tuple_tup (ts : List T) : bTuple [.tup ts] h = .ok (.tup ts) h := Eq.trans rfl rfl
@[simp] theorem e_tuple_ref (l : Nat) : bTuple [.ref l] h = match lstAt h l with | some ts => .ok (.tup ts) h | none => .stk := Eq.trans rfl rfl
@[simp] theorem e_list_tup (ts : List T) : bList [.tup ts] h = alloc (.lst ts) h := Eq.trans rfl rfl
@[simp] theorem e_list_ref (l : Nat) : bList [.ref l] h = match lstAt h l with | some ts => alloc (.lst ts) h | none => .stk := Eq.trans rfl rfl
@[simp] theorem e_srcOf_tup (ts : List T) : srcOf (.tup ts) h = .ok (.its ts) h := Eq.trans rfl rfl
@[simp] theorem e_srcOf_fl (ts : List T) : srcOf (.fl ts) h = .ok (.its ts) h := Eq.trans rfl rfl
@[simp] theorem e_srcOf_str (z : Str) : srcOf (.str z) h = .ok (.its (z.cps.toList.map fun c => .str ⟨#[c]⟩)) h := Eq.trans rfl rfl
@[simp] theorem e_srcOf_ref (l : Nat) : srcOf (.ref l) h = match lstAt h l with | some _ => .ok (.live l) h | none => .stk := Eq.trans rfl rfl
@[simp] theorem e_isL_ref (l : Nat) : isL (.ref l) h = (lstAt h l).isSome := Eq.trans rfl rfl
@[simp] theorem e_append (l : Nat) (y : T) : mAppend (.ref l) [y] h = match lstAt h l with
    | some ts => if ts.length < sizeLine then .ok .non (h.set l (.lst (ts ++ [y]))) else .stk
    | none => .stk := Eq.trans rfl rfl
@[simp] theorem e_isK_non (k : Kd) : oIsK k .non h = .ok (.bl false) h := Eq.trans rfl rfl
@[simp] theorem e_isK_str (k : Kd) (s : Str) : oIsK k (.str s) h = .ok (.bl (k == .str)) h := Eq.trans rfl rfl
@[simp] theorem e_isK_int (k : Kd) (s : Int) : oIsK k (.int s) h = .ok (.bl (k == .int)) h := Eq.trans rfl rfl
@[simp] theorem e_isK_bl (k : Kd) (s : Bool) : oIsK k (.bl s) h = .ok (.bl (k == .bool || k == .int)) h := Eq.trans rfl rfl
@[simp] theorem e_isK_tup (k : Kd) (s : List T) : oIsK k (.tup s) h = .ok (.bl (k == .tuple)) h := Eq.trans rfl rfl
theorem e_isK_lst {k : Kd} {l : Nat} {ts : List T} (e : lstAt h l = some ts) : oIsK k (.ref l) h = .ok (.bl (k == .list)) h := by
  unfold lstAt at e
  unfold oIsK isK
  split at e
  · rename_i q; simp only [q]
  · cases e
end
@[simp] theorem lstAt_set_self {h : Hh} {l : Nat} {ts : List T} (hl : l < h.length) : lstAt (h.set l (.lst ts)) l = some ts := by
  unfold lstAt; rw [List.getElem?_set_self hl]
theorem lstAt_set_ne {h : Hh} {l k : Nat} {o : Ob} (hl : l ≠ k) : lstAt (h.set l o) k = lstAt h k := by
  unfold lstAt; rw [List.getElem?_set_ne hl]
theorem lstAt_of {h : Hh} {l : Nat} {ts : List T} (e : h[l]? = some (.lst ts)) : lstAt h l = some ts := by
  unfold lstAt; rw [e]
theorem of_lstAt {h : Hh} {l : Nat} {ts : List T} (e : lstAt h l = some ts) : h[l]? = some (.lst ts) := by
  unfold lstAt at e; split at e
  · rename_i q; cases e; exact q
  · cases e
theorem lstAt_lt {h : Hh} {l : Nat} {ts : List T} (e : lstAt h l = some ts) : l < h.length := by
  have := of_lstAt e
  exact (List.getElem?_eq_some_iff.mp this).1
theorem lstAt_app {h : Hh} {l : Nat} {ts : List T} (o : List Ob) (e : lstAt h l = some ts) : lstAt (h ++ o) l = some ts := by
  have := lstAt_lt e
  unfold lstAt at e ⊢
  rw [List.getElem?_append_left this]; exact e
@[simp] theorem lstAt_new {h : Hh} {ts : List T} : lstAt (h ++ [.lst ts]) h.length = some ts := by
  unfold lstAt; simp
@[simp] theorem ixN_of {n : Nat} {i : Int} (h0 : 0 ≤ i) (h1 : i < n) : L2.ixN n i = some i.toNat := by
  unfold L2.ixN; rw [if_pos h0, if_pos h1]
@[simp] theorem atI_z {α : Type} (a : α) (r : List α) : L2.atI (a :: r) 0 = some a := by
  unfold L2.atI L2.ixN; simp [show (0 : Int) < (r.length : Int) + 1 by omega]
@[simp] theorem atI_1 {α : Type} (a b : α) (r : List α) : L2.atI (a :: b :: r) 1 = some b := by
  unfold L2.atI L2.ixN; simp [show (1 : Int) < (r.length : Int) + 1 + 1 by omega]
@[simp] theorem atI_2 {α : Type} (a b c : α) (r : List α) : L2.atI (a :: b :: c :: r) 2 = some c := by
  unfold L2.atI L2.ixN; simp [show (2 : Int) < (r.length : Int) + 1 + 1 + 1 by omega]
@[simp] theorem atI_3 {α : Type} (a b c d : α) (r : List α) : L2.atI (a :: b :: c :: d :: r) 3 = some d := by
  unfold L2.atI L2.ixN; simp [show (3 : Int) < (r.length : Int) + 1 + 1 + 1 + 1 by omega]
@[simp] theorem atI_4 {α : Type} (a b c d e : α) (r : List α) : L2.atI (a :: b :: c :: d :: e :: r) 4 = some e := by
  unfold L2.atI L2.ixN; simp [show (4 : Int) < (r.length : Int) + 1 + 1 + 1 + 1 + 1 by omega]
theorem atI_nat {α : Type} {xs : List α} {i : Nat} {x : α} (e : xs[i]? = some x) : L2.atI xs (i : Int) = some x := by
  have hl := (List.getElem?_eq_some_iff.mp e).1
  unfold L2.atI L2.ixN
  rw [if_pos (by omega), if_pos (by omega)]
  simpa using e
theorem atI_int {α : Type} {xs : List α} {i : Int} (h0 : 0 ≤ i) (h1 : i < xs.length) : ∃ x, L2.atI xs i = some x ∧ xs[i.toNat]? = some x := by
  have hl : i.toNat < xs.length := by omega
  refine ⟨xs[i.toNat], ?_, by simp [hl]⟩
  unfold L2.atI L2.ixN
  rw [if_pos h0, if_pos h1]
  simp [hl]
theorem atI_mem {α : Type} {xs : List α} {i : Int} (h0 : 0 ≤ i) (h1 : i < xs.length) : ∃ x, L2.atI xs i = some x ∧ x ∈ xs := by
  obtain ⟨x, e, q⟩ := atI_int h0 h1
  exact ⟨x, e, List.mem_of_getElem? q⟩
def Src.Is (s : Src) (ts : List T) (h : Hh) : Prop :=
  match s with
  | .its us => us = ts
  | .live l => lstAt h l = some ts
  | .z2 a b => ∃ t1 t2, lstAt h a = some t1 ∧ lstAt h b = some t2 ∧ t2.length = t1.length ∧ ts = List.zipWith (fun x y => T.tup [x, y]) t1 t2
  | .z3 a b c => ∃ t1 t2 t3, lstAt h a = some t1 ∧ lstAt h b = some t2 ∧ lstAt h c = some t3 ∧ t2.length = t1.length ∧ t3.length = t1.length ∧ ts = List.zipWith (fun x p => T.tup [x, p.1, p.2]) t1 (t2.zip t3)
theorem Src.Is.at {s : Src} {ts : List T} {h : Hh} (q : s.Is ts h) (i : Nat) : s.at h i = some ts[i]? := by
  cases s with
  | its us => obtain rfl : us = ts := q; rfl
  | live l => have e : lstAt h l = some ts := q; unfold Src.at; simp only [e]
  | z2 a b =>
    obtain ⟨t1, t2, e1, e2, l2, rfl⟩ := q
    unfold Src.at
    simp only [e1, e2]
    by_cases hi : i < t1.length
    · have h1 : t1[i]? = some t1[i] := by simp [hi]
      have h2 : t2[i]? = some (t2[i]'(by omega)) := by simp [l2, hi]
      rw [h1, h2]
      simp [List.getElem?_zipWith, h1, h2]
    · have h1 : t1[i]? = none := by simp; omega
      rw [h1]
      simp [List.getElem?_zipWith, h1]
  | z3 a b c =>
    obtain ⟨t1, t2, t3, e1, e2, e3, l2, l3, rfl⟩ := q
    unfold Src.at
    simp only [e1, e2, e3]
    by_cases hi : i < t1.length
    · have h1 : t1[i]? = some t1[i] := by simp [hi]
      have h2 : t2[i]? = some (t2[i]'(by omega)) := by simp [l2, hi]
      have h3 : t3[i]? = some (t3[i]'(by omega)) := by simp [l3, hi]
      rw [h1, h2, h3]
      simp [List.getElem?_zipWith, List.getElem?_zip_eq_some, List.zip, h1, h2, h3]
    · have h1 : t1[i]? = none := by simp; omega
      rw [h1]
      simp [List.getElem?_zipWith, h1]
theorem Src.Is.len {s : Src} {ts : List T} {h : Hh} (q : s.Is ts h) : s.len h = ts.length := by
  cases s with
  | its us => obtain rfl : us = ts := q; rfl
  | live l => have e : lstAt h l = some ts := q; unfold Src.len; simp only [e]
  | z2 a b =>
    obtain ⟨t1, t2, e1, e2, l2, rfl⟩ := q
    unfold Src.len
    simp only [e1]
    simp [l2]
  | z3 a b c =>
    obtain ⟨t1, t2, t3, e1, e2, e3, l2, l3, rfl⟩ := q
    unfold Src.len
    simp only [e1]
    simp [l2, l3]
theorem lc_ind {s : Src} {ts : List T} {g : SG} {tt : ST} {te : SE} {σ : St3} (hz : ts.length ≤ sizeLine) (I : Nat → List T → Hh → Prop) (hI : ∀ i acc h, I i acc h → s.Is ts h)
    (hs : ∀ i x acc h, ts[i]? = some x → I i acc h → ∃ σ1, g x σ = some σ1 ∧ ((∃ h1, tt σ1 h = .ok false h1 ∧ I (i + 1) acc h1) ∨ ∃ h1 t h2, tt σ1 h = .ok true h1 ∧ te σ1 h1 = .ok t h2 ∧ I (i + 1) (acc ++ [t]) h2)) :
    ∀ k i acc h, i + k = ts.length → acc.length ≤ i → I i acc h → ∃ acc' h', lcRun s g tt te σ k i acc h = .ok acc' h' ∧ I ts.length acc' h' ∧ acc'.length ≤ ts.length
  | 0, i, acc, h, e, ha, q => by
    have e1 : i = ts.length := by omega
    refine ⟨acc, h, ?_, e1 ▸ q, by omega⟩
    unfold lcRun
    rw [(hI _ _ _ q).at, List.getElem?_eq_none (by omega)]
  | k + 1, i, acc, h, e, ha, q => by
    have hl : i < ts.length := by omega
    have ex : ts[i]? = some ts[i] := by simp [hl]
    obtain ⟨σ1, e1, q1⟩ := hs i _ acc h ex q
    unfold lcRun
    rw [(hI _ _ _ q).at, ex]
    simp only [e1]
    rcases q1 with ⟨h1, e2, q2⟩ | ⟨h1, t, h2, e2, e3, q2⟩
    · simp only [e2]
      exact lc_ind hz I hI hs k (i + 1) acc h1 (by omega) (by omega) q2
    · simp only [e2, e3, if_true]
      rw [if_pos (by omega)]
      exact lc_ind hz I hI hs k (i + 1) _ h2 (by omega) (by simp; omega) q2
theorem lc_run {s : Src} {ts : List T} {g : SG} {tt : ST} {te : SE} {σ : St3} {h : Hh} (hz : ts.length ≤ sizeLine) (I : Nat → List T → Hh → Prop) (hI : ∀ i acc h, I i acc h → s.Is ts h) (h0 : I 0 [] h)
    (hs : ∀ i x acc h, ts[i]? = some x → I i acc h → ∃ σ1, g x σ = some σ1 ∧ ((∃ h1, tt σ1 h = .ok false h1 ∧ I (i + 1) acc h1) ∨ ∃ h1 t h2, tt σ1 h = .ok true h1 ∧ te σ1 h1 = .ok t h2 ∧ I (i + 1) (acc ++ [t]) h2)) :
    ∃ acc' h', lcRun s g tt te σ (s.len h) 0 [] h = .ok acc' h' ∧ I ts.length acc' h' ∧ acc'.length ≤ ts.length := by
  rw [(hI _ _ _ h0).len]
  exact lc_ind hz I hI hs _ _ _ _ (by omega) (Nat.le_refl _) h0
theorem lc_map {s : Src} {ts : List T} {g : SG} {te : SE} {σ : St3} {h : Hh} (f : T → T) (hz : ts.length ≤ sizeLine) (hI : s.Is ts h) (hs : ∀ x ∈ ts, ∃ σ1, g x σ = some σ1 ∧ te σ1 h = .ok (f x) h) :
    lcRun s g stYes te σ (s.len h) 0 [] h = .ok (ts.map f) h := by
  obtain ⟨acc, h', e, ⟨rfl, rfl⟩, _⟩ := lc_run (s := s) (ts := ts) (g := g) (tt := stYes) (te := te) (σ := σ) (h := h) hz (fun i acc h1 => acc = (ts.take i).map f ∧ h1 = h) (fun i acc h1 q => q.2 ▸ hI) ⟨by simp, rfl⟩ fun i x acc h1 ex ⟨q1, q2⟩ => by
    obtain ⟨σ1, e1, e2⟩ := hs x (List.mem_of_getElem? ex)
    subst q2
    refine ⟨σ1, e1, .inr ⟨h1, f x, h1, rfl, e2, ?_, rfl⟩⟩
    rw [q1, List.take_add_one, ex]
    simp
  rw [e, List.take_length]
theorem range_get : ∀ (n : Nat) (lo : Int) (i : Nat), i < n → (rangeT lo n)[i]? = some (.int (lo + i))
  | n + 1, lo, 0, _ => by simp [rangeT]
  | n + 1, lo, i + 1, hi => by
    unfold rangeT
    rw [List.getElem?_cons_succ, range_get n (lo + 1) i (by omega)]
    congr 2; omega
@[simp] theorem range_length : ∀ (n : Nat) (lo : Int), (rangeT lo n).length = n
  | 0, _ => rfl
  | n + 1, lo => by unfold rangeT; rw [List.length_cons, range_length n]
theorem range_at {n : Nat} {i : Nat} {x : T} (e : (rangeT 0 n)[i]? = some x) : x = .int i ∧ i < n := by
  have hl := (List.getElem?_eq_some_iff.mp e).1
  rw [range_length] at hl
  rw [range_get n 0 i hl] at e
  cases e
  exact ⟨by simp, hl⟩
end W3
end

section
namespace W3
open PySem
def BoxL (c : Nat) (i d s n : Int) : List T := [.ref c, .int i, .int d, .int s, .int n]
def IsBox (h : Hh) (l : Nat) : Prop := ∃ (c : Nat) (cells : List Int) (i d s n : Int), lstAt h l = some (BoxL c i d s n) ∧ lstAt h c = some (cells.map T.int) ∧ 0 ≤ i ∧ 0 ≤ d
def BoxC (h : Hh) (l : Nat) : Option Nat := match lstAt h l with | some (.ref c :: _) => some c | _ => none
structure Kp (l n : Nat) (h h' : Hh) : Prop where
  le : n ≤ h'.length
  keep : ∀ k, k < n → k ≠ l → h'[k]? = h[k]?
  box : IsBox h' l
  bc : BoxC h' l = BoxC h l
abbrev Up (l : Nat) (h h' : Hh) : Prop := Kp l h.length h h'
theorem IsBox.ne {h : Hh} {l : Nat} {c : Nat} {cells : List Int} {i d s n : Int} (e : lstAt h l = some (BoxL c i d s n)) (e2 : lstAt h c = some (cells.map T.int)) : l ≠ c := by
  intro q
  subst q
  rw [e] at e2
  cases cells with
  | nil => cases e2
  | cons a r => injection e2 with e2; injection e2 with e2 _; cases e2
theorem IsBox.lt {h : Hh} {l : Nat} (b : IsBox h l) : l < h.length := by
  obtain ⟨c, cells, i, d, s, n, e, _⟩ := b
  exact lstAt_lt e
theorem IsBox.clt {h : Hh} {l c : Nat} (b : IsBox h l) (hc : BoxC h l = some c) : c < h.length := by
  obtain ⟨c, cells, i, d, s, n, e, e2, _⟩ := b
  unfold BoxC at hc
  rw [e] at hc
  cases hc
  exact lstAt_lt e2
theorem Up.refl {l : Nat} {h : Hh} (b : IsBox h l) : Up l h h := ⟨Nat.le_refl _, fun _ _ _ => rfl, b, rfl⟩
theorem Kp.refl {l n : Nat} {h : Hh} (b : IsBox h l) (hn : n ≤ h.length) : Kp l n h h := ⟨hn, fun _ _ _ => rfl, b, rfl⟩
theorem Kp.trans {l n m : Nat} {h h1 h2 : Hh} (a : Kp l n h h1) (b : Kp l m h1 h2) (hm : n ≤ m) : Kp l n h h2 :=
  ⟨Nat.le_trans hm b.le, fun k hk hne => (b.keep k (Nat.lt_of_lt_of_le hk hm) hne).trans (a.keep k hk hne), b.box, b.bc.trans a.bc⟩
theorem Kp.up {l n : Nat} {h h1 h2 : Hh} (a : Kp l n h h1) (b : Up l h1 h2) : Kp l n h h2 := a.trans b a.le
theorem IsBox.app {l : Nat} {h : Hh} (b : IsBox h l) (o : List Ob) : IsBox (h ++ o) l := by
  obtain ⟨c, cells, i, d, s, n, e, e2, h1, h2⟩ := b
  exact ⟨c, cells, i, d, s, n, lstAt_app o e, lstAt_app o e2, h1, h2⟩
theorem Up.app {l : Nat} {h : Hh} (b : IsBox h l) (o : List Ob) : Up l h (h ++ o) := by
  refine ⟨by simp, fun k hk _ => List.getElem?_append_left hk, b.app o, ?_⟩
  obtain ⟨c, cells, i, d, s, n, e, e2, h1, h2⟩ := b
  unfold BoxC
  rw [e, lstAt_app o e]
theorem Kp.app {l n : Nat} {h h1 : Hh} (a : Kp l n h h1) (o : List Ob) : Kp l n h (h1 ++ o) := a.up (Up.app a.box o)
theorem Kp.lst {l n : Nat} {h h' : Hh} (u : Kp l n h h') {k : Nat} {ts : List T} (e : lstAt h k = some ts) (hk : k < n) (hne : k ≠ l) : lstAt h' k = some ts := by
  have := of_lstAt e
  exact lstAt_of ((u.keep k hk hne).trans this)
theorem Up.lst {l : Nat} {h h' : Hh} (u : Up l h h') {k : Nat} {ts : List T} (e : lstAt h k = some ts) (hne : k ≠ l) : lstAt h' k = some ts := Kp.lst u e (lstAt_lt e) hne
theorem IsBox.set {l : Nat} {h : Hh} (b : IsBox h l) {k : Nat} (o : Ob) (hk : k ≠ l) (hc : BoxC h l ≠ some k) : IsBox (h.set k o) l ∧ BoxC (h.set k o) l = BoxC h l := by
  obtain ⟨c, cells, i, d, s, n, e, e2, h1, h2⟩ := b
  have hkc : k ≠ c := by
    intro q
    apply hc
    unfold BoxC
    rw [e]
    simp [BoxL, q]
  refine ⟨⟨c, cells, i, d, s, n, by rw [lstAt_set_ne hk]; exact e, by rw [lstAt_set_ne hkc]; exact e2, h1, h2⟩, ?_⟩
  unfold BoxC
  rw [lstAt_set_ne hk]
theorem Kp.set {l n : Nat} {h h1 : Hh} (a : Kp l n h h1) {k : Nat} (o : Ob) (hb : IsBox h l) (hl : h.length ≤ n) (hn : n ≤ k) : Kp l n h (h1.set k o) := by
  have h0 := hb.lt
  have q := a.box.set (k := k) o (by omega) (by rw [a.bc]; intro z; have := hb.clt z; omega)
  exact ⟨by rw [List.length_set]; exact a.le, fun j hj hne => by rw [List.getElem?_set_ne (by omega)]; exact a.keep j hj hne, q.1, q.2.trans a.bc⟩
theorem cut_ints (ns : List Int) (lo hi : Option Int) : ∃ ms : List Int, cutT (ns.map T.int) lo hi = ms.map T.int ∧ ms.length ≤ ns.length := by
  refine ⟨cutT ns lo hi, ?_, ?_⟩
  · unfold cutT
    rw [List.length_map, List.map_take, List.map_drop]
  · unfold cutT
    rw [List.length_take, List.length_drop]
    omega
theorem map_int_get {ns : List Int} {i : Nat} {x : T} (e : (ns.map T.int)[i]? = some x) : ∃ n, x = .int n := by
  rw [List.getElem?_map] at e
  cases q : ns[i]? with
  | none => rw [q] at e; cases e
  | some n => rw [q] at e; cases e; exact ⟨n, rfl⟩
theorem str_app (a b : Str) : (a ++ b).cps.toList = a.cps.toList ++ b.cps.toList := by
  show (a.cps ++ b.cps).toList = _
  simp
theorem str_len (a : Str) : a.length = a.cps.toList.length := by simp [Str.length]
@[simp] theorem str_len_app (a b : Str) : (a ++ b).length = a.length + b.length := by
  rw [str_len, str_app, List.length_append, ← str_len, ← str_len]
@[simp] theorem str_len_one (c : Nat) : Str.length ⟨#[c]⟩ = 1 := Eq.trans rfl rfl
def LETS : Str := "abcdefghijklmnopqrstuvwxyz"
def Lt (s : Str) : Prop := ∀ c ∈ s.cps.toList, c ∈ LETS.cps.toList
theorem Lt.app {a b : Str} (ha : Lt a) (hb : Lt b) : Lt (a ++ b) := by
  intro c hc
  rw [str_app, List.mem_append] at hc
  exact hc.elim (ha c) (hb c)
theorem Lt.one {c : Nat} (h : c ∈ LETS.cps.toList) : Lt ⟨#[c]⟩ := by
  intro x hx
  simp at hx
  rw [hx]; exact h
theorem Lt.nil : Lt "" := by
  intro c hc
  have : (Str.ofString "").cps.toList = [] := by decide +kernel
  rw [this] at hc
  cases hc
def Nm (s : Str) : Prop := 1 ≤ s.length ∧ s.length ≤ 8 ∧ Lt s
structure NmL (ss : List Str) : Prop where
  nd : ss.Nodup
  nm : ∀ s ∈ ss, Nm s
theorem NmL.snoc {ss : List Str} (h : NmL ss) {s : Str} (hs : Nm s) (hn : s ∉ ss) : NmL (ss ++ [s]) := by
  refine ⟨List.nodup_append.mpr ⟨h.nd, by simp, fun a ha b hb => ?_⟩, fun x hx => ?_⟩
  · simp at hb
    intro e
    subst hb
    exact hn (e ▸ ha)
  · rw [List.mem_append] at hx
    rcases hx with hx | hx
    · exact h.nm x hx
    · simp at hx; rw [hx]; exact hs
abbrev tSs (ss : List Str) : List T := ss.map T.str
theorem optL_strs (h : Hh) (n : Nat) : ∀ ss : List Str, optL (toD h (n + 1)) (tSs ss) = some (ss.map PyData.str)
  | [] => rfl
  | s :: ss => by
    have e1 : toD h (n + 1) (.str s) = some (.str s) := rfl
    show optL (toD h (n + 1)) (.str s :: tSs ss) = _
    unfold optL
    rw [optL_strs h n ss, e1]
    rfl
theorem any_strs (s : Str) : ∀ ss : List Str, ((ss.map PyData.str).any fun z => PyData.eqv z (.str s)) = decide (s ∈ ss)
  | [] => by simp
  | t :: ss => by
    rw [List.map_cons, List.any_cons, any_strs s ss]
    have : PyData.eqv (.str t) (.str s) = decide (t = s) := by rw [PyData.eqv]; rfl
    rw [this]
    by_cases q : t = s
    · simp [q]
    · have q' : ¬ s = t := fun e => q e.symm
      simp [q, q']
theorem e_in_tup {s : Str} {ss : List Str} {h : Hh} : inT (.str s) (.tup (tSs ss)) h = some (decide (s ∈ ss)) := by
  show (match toD h 24 (.str s), (optL (toD h 23) (tSs ss)).map PyData.tuple with
    | some d, some (.list ds) => some (ds.any fun z => PyData.eqv z d)
    | some d, some (.tuple ds) => some (ds.any fun z => PyData.eqv z d)
    | _, _ => none) = _
  rw [optL_strs h 22]
  show some ((ss.map PyData.str).any fun z => PyData.eqv z (.str s)) = _
  rw [any_strs]
@[simp] theorem oIn_tup {s : Str} {ss : List Str} {h : Hh} : oIn (.str s) (.tup (tSs ss)) h = .ok (.bl (decide (s ∈ ss))) h := by
  unfold oIn; rw [e_in_tup]
@[simp] theorem oNotIn_tup {s : Str} {ss : List Str} {h : Hh} : oNotIn (.str s) (.tup (tSs ss)) h = .ok (.bl (!decide (s ∈ ss))) h := by
  unfold oNotIn; rw [e_in_tup]
abbrev Fn := List T → Hh → Res T
end W3
end

section
namespace W3
open PySem
abbrev EQ := Str → List (Str × T) → Hh → Prop
def Res.wp {α : Type} (r : Res α) (Q : α → Hh → Prop) (E : EQ) : Prop :=
  match r with | .ok a h => Q a h | .exc c fs h => E c fs h | .stk => False
structure FQ where
  n : St3 → Hh → Prop
  r : T → Hh → Prop
  b : St3 → Hh → Prop
  c : St3 → Hh → Prop
  e : Str → List (Str × T) → St3 → Hh → Prop
def Flo.wp (r : Flo) (Q : FQ) : Prop :=
  match r with | .nx σ h => Q.n σ h | .rt t h => Q.r t h | .bk σ h => Q.b σ h | .ct σ h => Q.c σ h | .exc c fs σ h => Q.e c fs σ h | .stk => False
section
variable {α β : Type} {Q : α → Hh → Prop} {E : EQ}
@[simp] theorem wp_ok (a : α) (h : Hh) : (Res.ok a h).wp Q E = Q a h := Eq.trans rfl rfl
@[simp] theorem wp_exc (c : Str) (fs : List (Str × T)) (h : Hh) : (Res.exc c fs h : Res α).wp Q E = E c fs h := Eq.trans rfl rfl
@[simp] theorem wp_stk : (Res.stk : Res α).wp Q E = False := Eq.trans rfl rfl
def kQ (f : α → Hh → Res β) (Q : β → Hh → Prop) (E : EQ) : α → Hh → Prop := fun a h => (f a h).wp Q E
@[simp] theorem kQ_app {Q : β → Hh → Prop} (f : α → Hh → Res β) (a : α) (h : Hh) : kQ f Q E a h = (f a h).wp Q E := Eq.trans rfl rfl
@[simp] theorem wp_bind {Q : β → Hh → Prop} (r : Res α) (f : α → Hh → Res β) : (r.bind f).wp Q E = r.wp (kQ f Q E) E := by
  cases r <;> rfl
@[simp] theorem wp_if (c : Prop) [Decidable c] (a b : Res α) : (if c then a else b).wp Q E = ((c → a.wp Q E) ∧ (¬ c → b.wp Q E)) := by
  by_cases q : c <;> simp [q]
theorem Res.wp.mono {r : Res α} {Q Q' : α → Hh → Prop} {E E' : EQ} (w : r.wp Q E) (hq : ∀ a h, Q a h → Q' a h) (he : ∀ c fs h, E c fs h → E' c fs h) : r.wp Q' E' := by
  cases r with
  | ok a h => exact hq a h w
  | exc c fs h => exact he c fs h w
  | stk => exact w
theorem Res.wp.imp {r : Res α} {Q Q' : α → Hh → Prop} {E : EQ} (w : r.wp Q E) (hq : ∀ a h, Q a h → Q' a h) : r.wp Q' E := w.mono hq fun _ _ _ h => h
abbrev noE : EQ := fun _ _ _ => False
theorem Res.wp.ok {r : Res α} (w : r.wp Q noE) : ∃ a h, r = .ok a h ∧ Q a h := by
  cases r with
  | ok a h => exact ⟨a, h, rfl, w⟩
  | exc c fs h => exact w.elim
  | stk => exact w.elim
end
section
variable {Q : FQ}
@[simp] theorem fp_nx (σ : St3) (h : Hh) : (Flo.nx σ h).wp Q = Q.n σ h := Eq.trans rfl rfl
@[simp] theorem fp_rt (t : T) (h : Hh) : (Flo.rt t h).wp Q = Q.r t h := Eq.trans rfl rfl
@[simp] theorem fp_bk (σ : St3) (h : Hh) : (Flo.bk σ h).wp Q = Q.b σ h := Eq.trans rfl rfl
@[simp] theorem fp_ct (σ : St3) (h : Hh) : (Flo.ct σ h).wp Q = Q.c σ h := Eq.trans rfl rfl
@[simp] theorem fp_exc (c : Str) (fs : List (Str × T)) (σ : St3) (h : Hh) : (Flo.exc c fs σ h).wp Q = Q.e c fs σ h := Eq.trans rfl rfl
@[simp] theorem fp_stk : (Flo.stk).wp Q = False := Eq.trans rfl rfl
def FQ.seq (Q : FQ) (k : SS) : FQ := ⟨fun σ h => (k σ h).wp Q, Q.r, Q.b, Q.c, Q.e⟩
@[simp] theorem fs_n (k : SS) (σ : St3) (h : Hh) : (Q.seq k).n σ h = (k σ h).wp Q := Eq.trans rfl rfl
@[simp] theorem fs_r (k : SS) : (Q.seq k).r = Q.r := Eq.trans rfl rfl
@[simp] theorem fs_b (k : SS) : (Q.seq k).b = Q.b := Eq.trans rfl rfl
@[simp] theorem fs_c (k : SS) : (Q.seq k).c = Q.c := Eq.trans rfl rfl
@[simp] theorem fs_e (k : SS) : (Q.seq k).e = Q.e := Eq.trans rfl rfl
def FQ.loop (Q : FQ) (J : St3 → Hh → Prop) : FQ := ⟨J, Q.r, Q.n, J, Q.e⟩
@[simp] theorem fl_n (J : St3 → Hh → Prop) : (Q.loop J).n = J := Eq.trans rfl rfl
@[simp] theorem fl_r (J : St3 → Hh → Prop) : (Q.loop J).r = Q.r := Eq.trans rfl rfl
@[simp] theorem fl_b (J : St3 → Hh → Prop) : (Q.loop J).b = Q.n := Eq.trans rfl rfl
@[simp] theorem fl_c (J : St3 → Hh → Prop) : (Q.loop J).c = J := Eq.trans rfl rfl
@[simp] theorem fl_e (J : St3 → Hh → Prop) : (Q.loop J).e = Q.e := Eq.trans rfl rfl
def FQ.df (Q : T → Hh → Prop) (E : EQ) : FQ := ⟨fun _ h => Q .non h, Q, fun _ _ => False, fun _ _ => False, fun c fs _ h => E c fs h⟩
@[simp] theorem fd_n (Q : T → Hh → Prop) (E : EQ) (σ : St3) (h : Hh) : (FQ.df Q E).n σ h = Q .non h := Eq.trans rfl rfl
@[simp] theorem fd_r (Q : T → Hh → Prop) (E : EQ) : (FQ.df Q E).r = Q := Eq.trans rfl rfl
@[simp] theorem fd_e (Q : T → Hh → Prop) (E : EQ) (c : Str) (fs : List (Str × T)) (σ : St3) (h : Hh) : (FQ.df Q E).e c fs σ h = E c fs h := Eq.trans rfl rfl
def fQ {α : Type} (k : α → Hh → Flo) (Q : FQ) : α → Hh → Prop := fun a h => (k a h).wp Q
@[simp] theorem fQ_app {α : Type} (k : α → Hh → Flo) (a : α) (h : Hh) : fQ k Q a h = (k a h).wp Q := Eq.trans rfl rfl
def eQ (Q : FQ) (σ : St3) : EQ := fun c fs h => Q.e c fs σ h
@[simp] theorem eQ_app (σ : St3) (c : Str) (fs : List (Str × T)) (h : Hh) : eQ Q σ c fs h = Q.e c fs σ h := Eq.trans rfl rfl
@[simp] theorem eQ_seq (σ : St3) (k : SS) : eQ (Q.seq k) σ = eQ Q σ := Eq.trans rfl rfl
@[simp] theorem eQ_loop (σ : St3) (J : St3 → Hh → Prop) : eQ (Q.loop J) σ = eQ Q σ := Eq.trans rfl rfl
@[simp] theorem eQ_df (σ : St3) (Q : T → Hh → Prop) (E : EQ) : eQ (FQ.df Q E) σ = E := Eq.trans rfl rfl
@[simp] theorem fp_flo {α : Type} (r : Res α) (σ : St3) (k : α → Hh → Flo) : (r.flo σ k).wp Q = r.wp (fQ k Q) (eQ Q σ) := by
  cases r <;> rfl
@[simp] theorem fp_seq (r : Flo) (k : SS) : (r.seq k).wp Q = r.wp (Q.seq k) := by
  cases r <;> rfl
@[simp] theorem fp_if (c : Prop) [Decidable c] (a b : Flo) : (if c then a else b).wp Q = ((c → a.wp Q) ∧ (¬ c → b.wp Q)) := by
  by_cases q : c <;> simp [q]
theorem Flo.wp.mono {r : Flo} {Q Q' : FQ} (w : r.wp Q) (hn : ∀ σ h, Q.n σ h → Q'.n σ h) (hr : ∀ t h, Q.r t h → Q'.r t h) (hb : ∀ σ h, Q.b σ h → Q'.b σ h) (hc : ∀ σ h, Q.c σ h → Q'.c σ h) (he : ∀ c fs σ h, Q.e c fs σ h → Q'.e c fs σ h) : r.wp Q' := by
  cases r with
  | nx σ h => exact hn σ h w
  | rt t h => exact hr t h w
  | bk σ h => exact hb σ h w
  | ct σ h => exact hc σ h w
  | exc c fs σ h => exact he c fs σ h w
  | stk => exact w
end
@[simp] theorem wp_defRun (n : Nat) (b : SS) (ts : List T) (h : Hh) (Q : T → Hh → Prop) (E : EQ) : (defRun n b ts h).wp Q E = (b (startT n ts) h).wp (FQ.df Q E) := by
  unfold defRun
  cases b (startT n ts) h <;> rfl
theorem wp_for {s : Src} {ts : List T} {g : SG} {b : SS} {σ : St3} {h : Hh} {Q : FQ} (I : Nat → St3 → Hh → Prop) (hI : ∀ i σ h, I i σ h → s.Is ts h) (h0 : I 0 σ h)
    (hs : ∀ i x σ h, ts[i]? = some x → I i σ h → ∃ σ1, g x σ = some σ1 ∧ (b σ1 h).wp (Q.loop (I (i + 1))))
    (he : ∀ σ h, I ts.length σ h → Q.n σ h) : (forRun s g b (s.len h) 0 σ h).wp Q := by
  rw [(hI _ _ _ h0).len]
  suffices H : ∀ k i σ h, i + k = ts.length → I i σ h → (forRun s g b k i σ h).wp Q from H _ _ _ _ (by omega) h0
  intro k
  induction k with
  | zero =>
    intro i σ h e q
    have e1 : i = ts.length := by omega
    unfold forRun
    rw [(hI _ _ _ q).at, List.getElem?_eq_none (by omega)]
    exact he σ h (e1 ▸ q)
  | succ k ih =>
    intro i σ h e q
    have ex : ts[i]? = some ts[i] := by simp [show i < ts.length by omega]
    obtain ⟨σ1, e1, w⟩ := hs i _ σ h ex q
    unfold forRun
    rw [(hI _ _ _ q).at, ex]
    simp only [e1]
    revert w
    cases b σ1 h with
    | nx σ2 h2 => exact fun w => ih (i + 1) σ2 h2 (by omega) w
    | ct σ2 h2 => exact fun w => ih (i + 1) σ2 h2 (by omega) w
    | bk σ2 h2 => exact fun w => w
    | rt t h2 => exact fun w => w
    | exc c fs σ2 h2 => exact fun w => w
    | stk => exact fun w => w
theorem wp_lc {s : Src} {ts : List T} {g : SG} {tt : ST} {te : SE} {σ : St3} {h : Hh} {Q : List T → Hh → Prop} {E : EQ} (hz : ts.length ≤ sizeLine) (I : Nat → List T → Hh → Prop) (hI : ∀ i acc h, I i acc h → s.Is ts h) (h0 : I 0 [] h)
    (hs : ∀ i x acc h, ts[i]? = some x → I i acc h → ∃ σ1, g x σ = some σ1 ∧ (tt σ1 h).wp (fun b h1 => if b = true then (te σ1 h1).wp (fun t h2 => I (i + 1) (acc ++ [t]) h2) noE else I (i + 1) acc h1) noE)
    (he : ∀ acc h, I ts.length acc h → Q acc h) : (lcRun s g tt te σ (s.len h) 0 [] h).wp Q E := by
  obtain ⟨acc', h', e, q, _⟩ := lc_run (s := s) (ts := ts) (g := g) (tt := tt) (te := te) (σ := σ) (h := h) hz I hI h0 fun i x acc h ex q => by
    obtain ⟨σ1, e1, w⟩ := hs i x acc h ex q
    refine ⟨σ1, e1, ?_⟩
    obtain ⟨b, h1, e2, w2⟩ := w.ok
    cases b with
    | false => exact .inl ⟨h1, e2, by simpa using w2⟩
    | true =>
      have w2 : (te σ1 h1).wp (fun t h2 => I (i + 1) (acc ++ [t]) h2) noE := by simpa using w2
      obtain ⟨t, h2, e3, w3⟩ := w2.ok
      exact .inr ⟨h1, t, h2, e2, e3, w3⟩
  rw [e]
  exact he _ _ q
theorem wp_lcm {s : Src} {ts : List T} {g : SG} {te : SE} {σ : St3} {h : Hh} {Q : List T → Hh → Prop} {E : EQ} (f : T → T) (hz : ts.length ≤ sizeLine) (hI : s.Is ts h) (hs : ∀ x ∈ ts, ∃ σ1, g x σ = some σ1 ∧ te σ1 h = .ok (f x) h) (k : Q (ts.map f) h) :
    (lcRun s g stYes te σ (s.len h) 0 [] h).wp Q E := by
  rw [lc_map f hz hI hs]; exact k
structure Fr (S : Nat → Prop) (h h' : Hh) : Prop where
  le : h.length ≤ h'.length
  keep : ∀ k, k < h.length → ¬ S k → h'[k]? = h[k]?
theorem Fr.refl {S : Nat → Prop} {h : Hh} : Fr S h h := ⟨Nat.le_refl _, fun _ _ _ => rfl⟩
theorem Fr.trans {S : Nat → Prop} {h h1 h2 : Hh} (a : Fr S h h1) (b : Fr S h1 h2) : Fr S h h2 :=
  ⟨Nat.le_trans a.le b.le, fun k hk hs => (b.keep k (Nat.lt_of_lt_of_le hk a.le) hs).trans (a.keep k hk hs)⟩
end W3
end

section
namespace W3
open PySem
def MixW (f : Fn) : Prop := ∀ {v k : Int} {h : Hh} {Q : T → Hh → Prop} {E : EQ}, (∀ z, Q (.int z) h) → (f [.int v, .int k] h).wp Q E
def DrawW (f : Fn) : Prop := ∀ {h : Hh} {l : Nat} {m : Int} {Q : T → Hh → Prop} {E : EQ}, IsBox h l → 0 < m → m < 1073741824 → (∀ d h', 0 ≤ d → d < m → Up l h h' → Q (.int d) h') → (f [.ref l, .int m] h).wp Q E
def BoxW (f : Fn) : Prop := ∀ {ns : List Int} {h : Hh} {Q : T → Hh → Prop} {E : EQ}, ns.length ≤ 63 → (∀ l h', IsBox h' l → h.length ≤ l → (∀ k, k < h.length → h'[k]? = h[k]?) → (∀ c, BoxC h' l = some c → h.length ≤ c) → Q (.ref l) h') → (f [.fl (ns.map T.int)] h).wp Q E
@[simp] theorem e_startT (n : Nat) (ts : List T) : startT n ts = ts.map some ++ List.replicate (n - ts.length) none := Eq.trans rfl rfl
theorem lstAt_app_ge {h o : Hh} {k : Nat} : lstAt (h ++ o) (h.length + k) = lstAt o k := by
  unfold lstAt; rw [List.getElem?_append_right (by omega)]; simp
@[simp] theorem lstAt_app_k {h o : Hh} {k : Nat} : lstAt (h ++ o) (h.length + k) = lstAt o k := lstAt_app_ge
@[simp] theorem lstAt_app_z {h o : Hh} : lstAt (h ++ o) h.length = lstAt o 0 := by
  have := @lstAt_app_ge h o 0; simpa using this
@[simp] theorem lstAt_0 (o : Ob) (r : Hh) : lstAt (o :: r) 0 = match o with | .lst ts => some ts | _ => none := by
  unfold lstAt; cases o <;> rfl
@[simp] theorem lstAt_s (o : Ob) (r : Hh) (k : Nat) : lstAt (o :: r) (k + 1) = lstAt r k := by
  unfold lstAt; simp
@[simp] theorem e_neg (i : Int) (h : Hh) : oNeg (.int i) h = .ok (.int (-i)) h := Eq.trans rfl rfl
@[simp] theorem e_set_ap {h o : Hh} {k : Nat} {x : Ob} : (h ++ o).set (h.length + k) x = h ++ o.set k x := by
  rw [List.set_append_right _ _ (by omega)]; simp
@[simp] theorem e_set_ap0 {h o : Hh} {x : Ob} : (h ++ o).set h.length x = h ++ o.set 0 x := by
  rw [List.set_append_right _ _ (by omega)]; simp
theorem isK_ok {k : Kd} {x : T} {h : Hh} {b : Bool} (e : isK k x h = some b) : oIsK k x h = .ok (.bl b) h := by
  unfold oIsK; rw [e]
theorem lets_at {d : Int} (d0 : 0 ≤ d) (d1 : d < 26) : ∃ c, c ∈ LETS.cps.toList ∧ L2.atI (Str.ofString "abcdefghijklmnopqrstuvwxyz").cps.toList d = some c := by
  have hl : (Str.ofString "abcdefghijklmnopqrstuvwxyz").cps.toList.length = 26 := by decide +kernel
  obtain ⟨c, e, q⟩ := atI_mem (xs := (Str.ofString "abcdefghijklmnopqrstuvwxyz").cps.toList) d0 (by rw [hl]; omega)
  exact ⟨c, q, e⟩
@[simp] theorem lets_len2 : (Str.ofString "abcdefghijklmnopqrstuvwxyz").length = 26 := by decide +kernel
end W3
end

section
namespace W3
open PySem
abbrev Ent := Option Str
def tE : Ent → T | none => .non | some s => .str s
@[simp] theorem tE_n : tE none = .non := Eq.trans rfl rfl
@[simp] theorem tE_s (s : Str) : tE (some s) = .str s := Eq.trans rfl rfl
def tRow (r : List Ent) : T := .tup (r.map tE)
inductive Nr where | alone (r : List Ent) | looks (g : Str) (rs : List (List Ent))
def Nr.tLooks : Nr → T | .alone _ => .non | .looks g _ => .str g
def Nr.tNear : Nr → T | .alone r => tRow r | .looks _ rs => .tup (rs.map tRow)
structure Fd where
  first : Str
  nr : Nr
  far : Option (List Ent)
def tFar : Option (List Ent) → T | none => .non | some r => tRow r
def Fd.ts (f : Fd) : List T := [.str f.first, f.nr.tLooks, f.nr.tNear, tFar f.far]
def Fd.t (f : Fd) : T := .tup f.ts
def tPair (p : Str × Fd) : T := .tup [.str p.1, p.2.t]
structure Fm where
  words : List Str
  fields : List (Str × Fd)
  room : Int
def Fm.names (f : Fm) : List Str := f.fields.map Prod.fst
def Fm.tW (f : Fm) : T := .tup (tSs f.words)
def Fm.tF (f : Fm) : T := .tup (f.fields.map tPair)
structure RowOk (n : Nat) (r : List Ent) : Prop where
  len : r.length = n
  nm : ∀ s, some s ∈ r → Nm s
def NrOk (n : Nat) (ns : List Str) (nm : Str) : Nr → Prop
  | .alone r => RowOk n r
  | .looks g rs => g ∈ ns ∧ g ≠ nm ∧ rs.length = n ∧ ∀ r ∈ rs, RowOk n r
structure FdOk (ws ns : List Str) (nm : Str) (f : Fd) : Prop where
  first : f.first ∈ ws
  nr : NrOk ws.length ns nm f.nr
  far : ∀ r, f.far = some r → RowOk ws.length r
structure FmOk (f : Fm) : Prop where
  w2 : 2 ≤ f.words.length
  w3 : f.words.length ≤ 3
  wn : NmL f.words
  f1 : 1 ≤ f.fields.length
  f3 : f.fields.length ≤ 3
  fn : NmL f.names
  fs : ∀ p ∈ f.fields, FdOk f.words f.names p.1 p.2
  r1 : 1 ≤ f.room
  r3 : f.room ≤ 3
theorem box_ne {h : Hh} {l r : Nat} {ss : List Str} (b : IsBox h l) (e : lstAt h r = some (tSs ss)) : r ≠ l := by
  obtain ⟨c, cells, i, d, s, n, e1, _⟩ := b
  intro q
  subst q
  rw [e1] at e
  cases ss with
  | nil => cases e
  | cons a t => injection e with e; injection e with e _; cases e
theorem atI_map {α β : Type} (f : α → β) {xs : List α} {i : Int} (h0 : 0 ≤ i) (h1 : i < xs.length) : ∃ x, L2.atI (xs.map f) i = some (f x) ∧ x ∈ xs := by
  obtain ⟨y, e, q⟩ := atI_int (xs := xs.map f) h0 (by simpa using h1)
  rw [List.getElem?_map] at q
  cases z : xs[i.toNat]? with
  | none => rw [z] at q; cases q
  | some x => rw [z] at q; cases q; exact ⟨x, e, List.mem_of_getElem? z⟩
end W3
end

section
namespace W3
open PySem
theorem eq_of_wp {r : Res T} {v : T} {h : Hh} (w : r.wp (fun a h' => a = v ∧ h' = h) noE) : r = .ok v h := by
  obtain ⟨a, h', e, rfl, rfl⟩ := w.ok
  exact e
def Jd (v : T) (h : Hh) : Prop := match v with
  | .ref l => (∃ ts, h[l]? = some (.lst ts)) ∨ ∃ d, h[l]? = some (.dic d)
  | .cls _ => False
  | .str s => s.length ≤ 1000
  | .tup ts => ts.length ≤ 1000
  | _ => True
@[simp] theorem Jd_non (h : Hh) : Jd .non h := trivial
@[simp] theorem Jd_bl (b : Bool) (h : Hh) : Jd (.bl b) h := trivial
@[simp] theorem Jd_int (b : Int) (h : Hh) : Jd (.int b) h := trivial
@[simp] theorem Jd_str (b : Str) (h : Hh) : Jd (.str b) h = (b.length ≤ 1000) := Eq.trans rfl rfl
@[simp] theorem Jd_tup (b : List T) (h : Hh) : Jd (.tup b) h = (b.length ≤ 1000) := Eq.trans rfl rfl
@[simp] theorem Jd_fl (b : List T) (h : Hh) : Jd (.fl b) h := trivial
theorem Jd_lst {l : Nat} {ts : List T} {h : Hh} (e : lstAt h l = some ts) : Jd (.ref l) h := .inl ⟨ts, of_lstAt e⟩
def isStr : T → Bool | .str _ => true | _ => false
def isTup : T → Bool | .tup _ => true | _ => false
def isBl : T → Bool | .bl _ => true | _ => false
theorem j_str {v : T} {h : Hh} (j : Jd v h) : oIsK .str v h = .ok (.bl (isStr v)) h := by
  apply isK_ok
  cases v with
  | ref l => rcases j with ⟨ts, e⟩ | ⟨d, e⟩ <;> simp only [isK, e] <;> rfl
  | cls c => exact j.elim
  | _ => rfl
def ltB (s : Str) : Bool := s.cps.toList.all fun c => decide (c ∈ LETS.cps.toList)
def nmB (s : Str) : Bool := decide (1 ≤ s.length ∧ s.length ≤ 8) && ltB s
def nameB : T → Bool | .str s => nmB s | _ => false
theorem nmB_iff {s : Str} : nmB s = true ↔ Nm s := by
  unfold nmB ltB Nm Lt
  rw [Bool.and_eq_true, decide_eq_true_eq, List.all_eq_true, and_assoc]
  simp only [decide_eq_true_eq]
def oneB (v : T) (ss : List Str) : Bool := match v with | .str s => decide (s ∈ ss) | _ => false
@[simp] theorem blsOf_map {α : Type} (p : α → Bool) : ∀ xs : List α, blsOf (xs.map fun x => T.bl (p x)) = some (xs.map p)
  | [] => rfl
  | x :: xs => by
    show (blsOf (xs.map fun x => T.bl (p x))).map (p x :: ·) = _
    rw [blsOf_map p xs]; rfl
@[simp] theorem bAll_map {α : Type} (p : α → Bool) (xs : List α) (h : Hh) : bAll (xs.map fun x => T.bl (p x)) h = .ok (.bl (xs.all p)) h := by
  unfold bAll; rw [blsOf_map]; simp
@[simp] theorem bAny_map {α : Type} (p : α → Bool) (xs : List α) (h : Hh) : bAny (xs.map fun x => T.bl (p x)) h = .ok (.bl (xs.any p)) h := by
  unfold bAny; rw [blsOf_map]; simp
theorem oIn_ch (c : Nat) (s : Str) (h : Hh) : oIn (.str ⟨#[c]⟩) (.str s) h = .ok (.bl (decide (c ∈ s.cps.toList))) h := by
  unfold oIn inT
  simp only [StrLaws.found_one]
def JdN : Nat → T → Hh → Prop
  | 0, v, h => Jd v h
  | n + 1, v, h => Jd v h ∧ ∀ ts, v = .tup ts → ∀ t ∈ ts, JdN n t h
theorem JdN.jd {n : Nat} {v : T} {h : Hh} (j : JdN n v h) : Jd v h := by
  cases n with
  | zero => exact j
  | succ n => exact j.1
theorem JdN.tup {n : Nat} {ts : List T} {h : Hh} (j : JdN (n + 1) (.tup ts) h) {t : T} (ht : t ∈ ts) : JdN n t h := j.2 ts rfl t ht
def entB (t : T) : Bool := isNonT t || nameB t
def rowB (v : T) (n : Int) : Bool := match v with | .tup ts => decide ((ts.length : Int) = n) && ts.all entB | _ => false
def nearB (v looks : T) (n : Int) : Bool := if isNonT looks then rowB v n else match v with | .tup ts => decide ((ts.length : Int) = n) && ts.all (fun t => rowB t n) | _ => false
def strOf : T → Str | .str s => s | _ => ⟨#[]⟩
def namesB (v : T) (lo hi : Int) : Bool := match v with | .tup ts => decide (lo ≤ ts.length ∧ (ts.length : Int) ≤ hi) && (ts.all nameB && decide ((ts.map strOf).Nodup)) | _ => false
def pairB (v : T) : Bool := match v with | .tup [a, .tup b] => nameB a && decide (b.length = 4) | _ => false
def fstOf : T → T | .tup (a :: _) => a | t => t
def fieldsB (v : T) : Bool := match v with | .tup ts => decide (1 ≤ ts.length ∧ ts.length ≤ 3) && (ts.all pairB && decide ((ts.map fun t => strOf (fstOf t)).Nodup)) | _ => false
abbrev IsB (f : Fn) (n : Nat) (p : T → Bool) : Prop := ∀ {v : T} {h : Hh}, JdN n v h → f [v] h = .ok (.bl (p v)) h
@[simp] theorem isStr_s (s : Str) : isStr (.str s) = true := Eq.trans rfl rfl
@[simp] theorem isTup_s (s : List T) : isTup (.tup s) = true := Eq.trans rfl rfl
theorem of_isStr {v : T} (h : isStr v = true) : ∃ s, v = .str s := by cases v <;> first | exact ⟨_, rfl⟩ | cases h
theorem nameB_not {v : T} (h : ¬ isStr v = true) : nameB v = false := by cases v <;> first | rfl | exact absurd rfl h
theorem lcm_all {p : T → Bool} {s : Src} {ts : List T} {g : SG} {te : SE} {σ : St3} {h : Hh} {Q : T → Hh → Prop} {E E' : EQ} (hz : ts.length ≤ sizeLine) (hI : s.Is ts h) (hs : ∀ x ∈ ts, ∃ σ1, g x σ = some σ1 ∧ te σ1 h = .ok (.bl (p x)) h) (k : Q (.bl (ts.all p)) h) :
    (lcRun s g stYes te σ (s.len h) 0 [] h).wp (kQ bAll Q E') E := by
  refine wp_lcm (fun x => T.bl (p x)) hz hI hs ?_
  simp
  exact k
end W3
end

section
namespace W3
open PySem
def Fm.ins (fm : Fm) : List (Str × T) := [("words", fm.tW), ("fields", fm.tF), ("room", .int fm.room)]
def FormAt (h : Hh) (l : Nat) (fm : Fm) : Prop := h[l]? = some (.ins "Form" fm.ins)
theorem insAt_of {h : Hh} {l : Nat} {c : Str} {fs : List (Str × T)} (e : h[l]? = some (.ins c fs)) : insAt h l = some (c, fs) := by unfold insAt; rw [e]
theorem FormAt.ins {h : Hh} {l : Nat} {fm : Fm} (e : FormAt h l fm) : insAt h l = some (("Form" : Str), fm.ins) := insAt_of e
theorem mOk_of {h : Hh} {l : Nat} {c m : Str} {fs : List (Str × T)} (e : insAt h l = some (c, fs)) (hm : fs.lookup m = none) : mOk c m (.ref l) h = true := by
  unfold mOk; simp only [e]; simp [hm]
theorem FormAt.m {h : Hh} {l : Nat} {fm : Fm} {m : Str} (e : FormAt h l fm) (hm : fm.ins.lookup m = none) : mOk "Form" m (.ref l) h = true := mOk_of e.ins hm
theorem jdN_str {n : Nat} {s : Str} {h : Hh} (hs : s.length ≤ 1000) : JdN n (.str s) h := by
  cases n with
  | zero => exact hs
  | succ n => exact ⟨hs, fun ts e => by cases e⟩
theorem jdN_non {n : Nat} {h : Hh} : JdN n .non h := by
  cases n with
  | zero => trivial
  | succ n => exact ⟨trivial, fun ts e => by cases e⟩
theorem jdN_int {n : Nat} {i : Int} {h : Hh} : JdN n (.int i) h := by
  cases n with
  | zero => trivial
  | succ n => exact ⟨trivial, fun ts e => by cases e⟩
theorem jdN_bl {n : Nat} {i : Bool} {h : Hh} : JdN n (.bl i) h := by
  cases n with
  | zero => trivial
  | succ n => exact ⟨trivial, fun ts e => by cases e⟩
theorem jdN_tup {n : Nat} {ts : List T} {h : Hh} (hl : ts.length ≤ 1000) (ht : ∀ t ∈ ts, JdN n t h) : JdN (n + 1) (.tup ts) h := ⟨hl, fun us e t q => by cases e; exact ht t q⟩
theorem jdN_ref {n : Nat} {l : Nat} {h : Hh} (j : Jd (.ref l) h) : JdN n (.ref l) h := by
  cases n with
  | zero => exact j
  | succ n => exact ⟨j, fun ts e => by cases e⟩
theorem Nm.short {s : Str} (h : Nm s) : s.length ≤ 1000 := by have := h.2.1; omega
end W3
end

section
namespace W3
open PySem
def flatT : T → Bool | .non => true | .bl _ => true | .int _ => true | .str _ => true | _ => false
def LstT (h : Hh) (t : T) (ts : List T) : Prop := (∃ l, t = .ref l ∧ lstAt h l = some ts) ∨ t = .fl ts
def SameV (h : Hh) : Nat → T → T → Prop
  | 0, t, u => t = u ∧ flatT t = true
  | n + 1, t, u => (t = u ∧ flatT t = true) ∨ ∃ ts us, ((t = .tup ts ∧ u = .tup us) ∨ (LstT h t ts ∧ LstT h u us)) ∧ ts.length = us.length ∧ ts.length ≤ 100000 ∧ ∀ (i : Nat) (x y : T), ts[i]? = some x → us[i]? = some y → SameV h n x y
def PureT : Nat → T → Prop
  | 0, t => flatT t = true
  | n + 1, t => flatT t = true ∨ ∃ ts, t = .tup ts ∧ ts.length ≤ 100000 ∧ ∀ x ∈ ts, PureT n x
theorem PureT.same {h : Hh} : ∀ {n : Nat} {t : T}, PureT n t → SameV h n t t
  | 0, t, p => ⟨rfl, p⟩
  | n + 1, t, p => by
    rcases p with p | ⟨ts, rfl, hl, p⟩
    · exact .inl ⟨rfl, p⟩
    · refine .inr ⟨ts, ts, .inl ⟨rfl, rfl⟩, rfl, hl, fun i x y ex ey => ?_⟩
      rw [ex] at ey; cases ey
      exact (p x (List.mem_of_getElem? ex)).same
theorem SameV.lists {h : Hh} {n a b : Nat} {ts : List T} (ea : lstAt h a = some ts) (eb : lstAt h b = some ts) (hl : ts.length ≤ 100000) (p : ∀ x ∈ ts, PureT n x) : SameV h (n + 1) (.ref a) (.ref b) := by
  refine .inr ⟨ts, ts, .inr ⟨.inl ⟨a, rfl, ea⟩, .inl ⟨b, rfl, eb⟩⟩, rfl, hl, fun i x y ex ey => ?_⟩
  rw [ex] at ey; cases ey
  exact (p x (List.mem_of_getElem? ex)).same
def SameW (n : Nat) (f : Fn) : Prop := ∀ {t u : T} {h : Hh}, SameV h n t u → f [t, u] h = .ok (.bl true) h
@[simp] theorem e_isK_fl (k : Kd) (s : List T) (h : Hh) : oIsK k (.fl s) h = .ok (.bl (k == .list)) h := Eq.trans rfl rfl
theorem LstT.isK {h : Hh} {t : T} {ts : List T} (e : LstT h t ts) (k : Kd) : oIsK k t h = .ok (.bl (k == .list)) h := by
  rcases e with ⟨l, rfl, e⟩ | rfl
  · exact e_isK_lst e
  · rfl
theorem LstT.len {h : Hh} {t : T} {ts : List T} (e : LstT h t ts) : bLen [t] h = .ok (.int ts.length) h := by
  rcases e with ⟨l, rfl, e⟩ | rfl
  · simp [e]
  · rfl
theorem LstT.ix {h : Hh} {t : T} {ts : List T} (e : LstT h t ts) (i : Int) : oIx t (.int i) h = match L2.atI ts i with | some t => .ok t h | none => .stk := by
  rcases e with ⟨l, rfl, e⟩ | rfl
  · rw [e_ix_ref]; simp only [e] <;> rfl
  · rfl
@[simp] theorem e_saLc2 (si : SI) (g : SG) (tt : ST) (si1 : SI) (g1 : SG) (tt1 : ST) (te : SE) (vs vs1 : List Nat) {σ : St3} {h : Hh} : saLc2 si g tt si1 g1 tt1 te vs vs1 σ h = (si σ h).bind fun s h1 => lc2Run s g tt si1 g1 tt1 te vs1 (wipeT σ vs) (s.len h1) 0 [] h1 := Eq.trans rfl rfl
def enterL (fm : Fm) : List T := fm.names.flatMap fun n => fm.words.map fun w => .tup [.str "enter", .str n, .str w]
def leaveL (fm : Fm) : List T := fm.names.map fun n => .tup [.str "leave", .str n]
def plainL (fm : Fm) : List T := enterL fm ++ leaveL fm ++ [.tup [.str "send"], .tup [.str "answer", .int 0], .tup [.str "answer", .int 1], .tup [.str "answer", .int 2]]
def wholeL (fm : Fm) : List T := plainL fm ++ [.tup [.str "reset"]]
@[simp] theorem e_extend (l b : Nat) (h : Hh) : mExtend (.ref l) [.ref b] h = match lstAt h l, lstAt h b with
    | some ts, some zs => if ts.length + zs.length ≤ sizeLine then .ok .non (h.set l (.lst (ts ++ zs))) else .stk
    | _, _ => .stk := Eq.trans rfl rfl
@[simp] theorem e_clear (l : Nat) (h : Hh) : mClear (.ref l) [] h = match lstAt h l with
    | some _ => .ok .non (h.set l (.lst []))
    | none => .stk := Eq.trans rfl rfl
@[simp] theorem e_add_rr (l b : Nat) (h : Hh) : oAdd (.ref l) (.ref b) h = match lstAt h l, lstAt h b with
    | some xs, some zs => if xs.length + zs.length ≤ sizeLine then alloc (.lst (xs ++ zs)) h else .stk
    | _, _ => .stk := Eq.trans rfl rfl
theorem pure_strs {n : Nat} {ss : List T} (h : ∀ t ∈ ss, flatT t = true) (hl : ss.length ≤ 100000) : PureT (n + 1) (.tup ss) := .inr ⟨ss, rfl, hl, fun x hx => by
  cases n with
  | zero => exact h x hx
  | succ n => exact .inl (h x hx)⟩
theorem wholeL_mem {fm : Fm} {d : T} (hd : d ∈ wholeL fm) : (∃ n ∈ fm.names, ∃ w ∈ fm.words, d = .tup [.str "enter", .str n, .str w]) ∨ (∃ n ∈ fm.names, d = .tup [.str "leave", .str n]) ∨ d = .tup [.str "send"] ∨ (∃ k : Int, 0 ≤ k ∧ k < 3 ∧ d = .tup [.str "answer", .int k]) ∨ d = .tup [.str "reset"] := by
  unfold wholeL plainL enterL leaveL at hd
  simp only [List.mem_append, List.mem_flatMap, List.mem_map, List.mem_cons, List.not_mem_nil, or_false] at hd
  rcases hd with ((⟨n, hn, w, hw, rfl⟩ | ⟨n, hn, rfl⟩) | rfl | rfl | rfl | rfl) | rfl
  · exact .inl ⟨n, hn, w, hw, rfl⟩
  · exact .inr (.inl ⟨n, hn, rfl⟩)
  · exact .inr (.inr (.inl rfl))
  · exact .inr (.inr (.inr (.inl ⟨0, by omega, by omega, rfl⟩)))
  · exact .inr (.inr (.inr (.inl ⟨1, by omega, by omega, rfl⟩)))
  · exact .inr (.inr (.inr (.inl ⟨2, by omega, by omega, rfl⟩)))
  · exact .inr (.inr (.inr (.inr rfl)))
theorem wholeL_pure {fm : Fm} {d : T} (hd : d ∈ wholeL fm) : PureT 1 d := by
  rcases wholeL_mem hd with ⟨n, _, w, _, rfl⟩ | ⟨n, _, rfl⟩ | rfl | ⟨k, _, _, rfl⟩ | rfl <;> exact pure_strs (by simp [flatT]) (by simp)
theorem FormAt.app {h : Hh} {l : Nat} {fm : Fm} (e : FormAt h l fm) (o : Hh) : FormAt (h ++ o) l fm := by
  unfold FormAt
  rw [List.getElem?_append_left (List.getElem?_eq_some_iff.mp e).1]; exact e
theorem FormAt.set {h : Hh} {l k : Nat} {fm : Fm} (e : FormAt h l fm) (o : Ob) (hk : k ≠ l) : FormAt (h.set k o) l fm := by
  unfold FormAt
  rw [List.getElem?_set_ne hk]; exact e
theorem FormAt.lt {h : Hh} {l : Nat} {fm : Fm} (e : FormAt h l fm) : l < h.length := (List.getElem?_eq_some_iff.mp e).1
theorem FormAt.ne {h : Hh} {l r : Nat} {fm : Fm} {ts : List T} (e : FormAt h l fm) (q : lstAt h r = some ts) : r ≠ l := by
  intro z
  subst z
  have := of_lstAt q
  unfold FormAt at e
  rw [e] at this
  cases this
end W3
end

section
namespace W3
open PySem
@[simp] theorem e_raise (c : Str) (ns : List Str) (a : SA) (σ : St3) (h : Hh) : ssRaiseX c ns a σ h = (a σ h).flo σ fun xs h1 => if xs.length = ns.length then .exc c (ns.zip xs).reverse σ h1 else .stk := Eq.trans rfl rfl
def FQ.tr (Q : FQ) (XS : XSub) (hs : List Hdl) : FQ := ⟨Q.n, Q.r, Q.b, Q.c, fun c fs σ h => (tryGo XS hs c fs σ h).wp Q⟩
section
variable {Q : FQ} {XS : XSub} {hs : List Hdl}
@[simp] theorem ft_n : (Q.tr XS hs).n = Q.n := Eq.trans rfl rfl
@[simp] theorem ft_r : (Q.tr XS hs).r = Q.r := Eq.trans rfl rfl
@[simp] theorem ft_b : (Q.tr XS hs).b = Q.b := Eq.trans rfl rfl
@[simp] theorem ft_c : (Q.tr XS hs).c = Q.c := Eq.trans rfl rfl
@[simp] theorem ft_e (c : Str) (fs : List (Str × T)) (σ : St3) (h : Hh) : (Q.tr XS hs).e c fs σ h = (tryGo XS hs c fs σ h).wp Q := Eq.trans rfl rfl
@[simp] theorem fp_try (a : SS) (σ : St3) (h : Hh) : (ssTryX XS a hs σ h).wp Q = (a σ h).wp (Q.tr XS hs) := by
  unfold ssTryX
  cases a σ h <;> rfl
theorem try_hit {x c : Str} {sl : Option Nat} {k : Str → List (Str × T) → SS} {r : List Hdl} {fs : List (Str × T)} {σ : St3} {h : Hh} {ss : List Str} (e : XS.lookup c = some ss) (hc : ss.contains x = true) : tryGo XS (⟨x, sl, k⟩ :: r) c fs σ h = clrF sl (k c fs (slSet sl σ) h) := by
  show (match XS.lookup c with | none => Flo.stk | some ss => if ss.contains x then clrF sl (k c fs (slSet sl σ) h) else tryGo XS r c fs σ h) = _
  rw [e]
  exact if_pos hc
end
@[simp] theorem xf_part2 (n p : T) (σ : St3) (h : Hh) : sXf [("field", n), ("part", p)] "part" σ h = .ok p h := by
  have : List.lookup ("part" : Str) [(("field" : Str), n), ("part", p)] = some p := by
    simp only [List.lookup, show (("part" : Str) == "field") = false by decide +kernel, show (("part" : Str) == "part") = true by decide +kernel]
  unfold sXf; rw [this]
@[simp] theorem xf_field2 (n p : T) (σ : St3) (h : Hh) : sXf [("field", n), ("part", p)] "field" σ h = .ok n h := by
  have : List.lookup ("field" : Str) [(("field" : Str), n), ("part", p)] = some n := by
    simp only [List.lookup, show (("field" : Str) == "field") = true by decide +kernel]
  unfold sXf; rw [this]
def eqS (t : T) (s : Str) : Bool := match t with | .str g => decide (g = s) | _ => false
def fieldErr (ws ns : List Str) (nm : Str) (a b c d : T) : Option Str :=
  if oneB a ws = false then some "first"
  else if isNonT b = false ∧ (oneB b ns = false ∨ eqS b nm = true) then some "looks"
  else if nearB c b ws.length = false then some "near"
  else if isNonT d = false ∧ rowB d ws.length = false then some "far"
  else none
def fErr (ws ns : List Str) : List T → Option (Str × Str)
  | [] => none
  | .tup [.str nm, .tup [a, b, c, d]] :: r => match fieldErr ws ns nm a b c d with
    | some p => some (p, nm)
    | none => fErr ws ns r
  | _ :: r => none
def roomB : T → Bool | .int i => decide (1 ≤ i ∧ i ≤ 3) | _ => false
def itsOf : T → List T | .tup ts => ts | _ => []
def initErr (W V R : T) : Option (Str × Str) :=
  if namesB W 2 3 = false then some ("words", "")
  else if fieldsB V = false then some ("fields", "")
  else match fErr ((itsOf W).map strOf) ((itsOf V).map fun t => strOf (fstOf t)) (itsOf V) with
    | some e => some e
    | none => if roomB R = false then some ("room", "") else none
theorem JdN.down {n : Nat} : ∀ {v : T} {h : Hh}, JdN (n + 1) v h → JdN n v h := by
  induction n with
  | zero => exact fun j => j.1
  | succ n ih => exact fun j => ⟨j.1, fun ts e t ht => ih (j.2 ts e t ht)⟩
theorem JdN.to {n k : Nat} {v : T} {h : Hh} (j : JdN (n + k) v h) : JdN n v h := by
  induction k with
  | zero => exact j
  | succ k ih => exact ih j.down
theorem Jd.ext {v : T} {h h' : Hh} (e : ∀ (k : Nat) (o : Ob), h[k]? = some o → h'[k]? = some o) (j : Jd v h) : Jd v h' := by
  cases v with
  | ref l => rcases j with ⟨ts, q⟩ | ⟨d, q⟩; exact .inl ⟨ts, e _ _ q⟩; exact .inr ⟨d, e _ _ q⟩
  | _ => exact j
theorem JdN.ext {n : Nat} : ∀ {v : T} {h h' : Hh}, (∀ (k : Nat) (o : Ob), h[k]? = some o → h'[k]? = some o) → JdN n v h → JdN n v h' := by
  induction n with
  | zero => exact fun e j => Jd.ext e j
  | succ n ih => exact fun e j => ⟨Jd.ext e j.1, fun ts q t ht => ih e (j.2 ts q t ht)⟩
def xForm (p : Str) (n : T) : List (Str × T) := [("field", n), ("part", .str p)]
end W3
end

section
namespace W3
open PySem
def fdAt (fm : Fm) (v : T) : Option (Str × Fd) := match v with | .str s => fm.fields.find? (fun p => decide (p.1 = s)) | _ => none
def putF (k : Bool) (fd : Fd) (t : T) : List T := if k then [.str fd.first, fd.nr.tLooks, t, tFar fd.far] else [.str fd.first, fd.nr.tLooks, fd.nr.tNear, t]
end W3
namespace W3
open PySem
def AnsQ (W V R : T) (h : Hh) (Q : T → Hh → Prop) (E : EQ) : Prop :=
  (initErr W V R = none → ∀ (o : Hh) (a : Nat), (h ++ o)[a]? = some (Ob.ins "Form" [("words", W), ("fields", V), ("room", R)]) → Q (.ref a) (h ++ o)) ∧ ∀ p n, initErr W V R = some (p, n) → ∀ o : Hh, E "InvalidForm" (xForm p (.str n)) (h ++ o)
theorem AnsQ.app {W V R : T} {h : Hh} {Q : T → Hh → Prop} {E : EQ} (q : AnsQ W V R h Q E) (o : Hh) : AnsQ W V R (h ++ o) Q E :=
  ⟨fun e o2 a ha => by rw [List.append_assoc] at ha ⊢; exact q.1 e _ a ha, fun p n e o2 => by rw [List.append_assoc]; exact q.2 p n e _⟩
theorem sIx_nat (n d k : Nat) : HT.sIx n d (some (k : Int)) = min k n := by
  exact HT.sIx_nat n d k
theorem cut_to {α : Type} (xs : List α) (k : Nat) : cutT xs none (some (k : Int)) = xs.take k := by
  unfold cutT
  rw [sIx_nat, show HT.sIx xs.length 0 none = 0 from rfl, List.drop_zero, Nat.sub_zero]
  by_cases h : k ≤ xs.length
  · rw [Nat.min_eq_left h]
  · rw [Nat.min_eq_right (by omega), List.take_length, List.take_of_length_le (by omega)]
theorem cut_from {α : Type} (xs : List α) (k : Nat) : cutT xs (some (k : Int)) none = xs.drop k := by
  unfold cutT
  rw [sIx_nat, show HT.sIx xs.length xs.length none = xs.length from rfl]
  by_cases h : k ≤ xs.length
  · rw [Nat.min_eq_left h, List.take_of_length_le (by rw [List.length_drop]; omega)]
  · rw [Nat.min_eq_right (by omega), List.drop_length, List.drop_eq_nil_of_le (by omega)]; simp
@[simp] theorem e_neD_s (s : Str) (y : T) (h : Hh) : oNeD (.str s) y h = oNe (.str s) y h := by unfold oNeD; simp [dicB]
theorem fdAt_some {fm : Fm} (o : FmOk fm) {p : Str × Fd} (hp : p ∈ fm.fields) : fdAt fm (.str p.1) = some p := by
  unfold fdAt
  simp only []
  have nd : (fm.fields.map Prod.fst).Nodup := o.fn.nd
  generalize fm.fields = ps at hp nd
  induction ps with
  | nil => cases hp
  | cons q ps ih =>
    rw [List.map_cons, List.nodup_cons] at nd
    rcases List.mem_cons.mp hp with z | z
    · subst z; simp
    · have hne : ¬ q.1 = p.1 := fun e => nd.1 (e ▸ List.mem_map.mpr ⟨p, z, rfl⟩)
      rw [List.find?_cons, show decide (q.1 = p.1) = false by simpa using hne]
      exact ih z nd.2
theorem same_flat {h : Hh} {n : Nat} {t : T} (f : flatT t = true) : SameV h n t t := by
  cases n with
  | zero => exact ⟨rfl, f⟩
  | succ n => exact .inl ⟨rfl, f⟩
theorem SameV.ext {h h' : Hh} (e : ∀ (k : Nat) (o : Ob), h[k]? = some o → h'[k]? = some o) : ∀ {n : Nat} {t u : T}, SameV h n t u → SameV h' n t u
  | 0, _, _, q => q
  | n + 1, _, _, q => by
    rcases q with q | ⟨ts, us, hk, hl, hz, hs⟩
    · exact .inl q
    · have ll : ∀ {t : T} {ts : List T}, LstT h t ts → LstT h' t ts := fun {t ts} z => by
        rcases z with ⟨l, rfl, z⟩ | rfl
        · exact .inl ⟨l, rfl, lstAt_of (e _ _ (of_lstAt z))⟩
        · exact .inr rfl
      refine .inr ⟨ts, us, ?_, hl, hz, fun i x y ex ey => (hs i x y ex ey).ext e⟩
      rcases hk with z | ⟨z1, z2⟩
      · exact .inl z
      · exact .inr ⟨ll z1, ll z2⟩
theorem SameV.up {h : Hh} : ∀ {n : Nat} {t u : T}, SameV h n t u → SameV h (n + 1) t u
  | 0, _, _, q => .inl q
  | n + 1, _, _, q => by
    rcases q with q | ⟨ts, us, hk, hl, hz, hs⟩
    · exact .inl q
    · exact .inr ⟨ts, us, hk, hl, hz, fun i x y ex ey => (hs i x y ex ey).up⟩
def kindL (a : Nat) : List T := [.str "near", .str "far", .str "", .str "Near", .non, .int 0, .ref a, .ref (a + 1)]
theorem kind_ok {a : Nat} {h : Hh} (ha : lstAt h a = some [.str "far"]) (hd : h[a + 1]? = some (.dic [])) {x : T} (hx : x ∈ kindL a) :
    (∃ s : Str, x = .str s ∧ (s = "near" ∨ s = "far")) ∨ ((Jd x h ∧ oneB x ["near", "far"] = false) ∧ ((∃ l, x = .ref l ∧ h[l]? = some (.dic [])) ∨ (SameV h 1 x x ∧ ∀ o : Hh, oIsK .dict x (h ++ o) = .ok (.bl false) (h ++ o)))) := by
  unfold kindL at hx
  simp only [List.mem_cons, List.not_mem_nil, or_false] at hx
  rcases hx with rfl | rfl | rfl | rfl | rfl | rfl | rfl | rfl
  · exact .inl ⟨_, rfl, .inl rfl⟩
  · exact .inl ⟨_, rfl, .inr rfl⟩
  · exact .inr ⟨⟨by rw [Jd_str]; decide +kernel, by decide +kernel⟩, .inr ⟨same_flat rfl, fun _ => rfl⟩⟩
  · exact .inr ⟨⟨by rw [Jd_str]; decide +kernel, by decide +kernel⟩, .inr ⟨same_flat rfl, fun _ => rfl⟩⟩
  · exact .inr ⟨⟨trivial, rfl⟩, .inr ⟨same_flat rfl, fun _ => rfl⟩⟩
  · exact .inr ⟨⟨trivial, rfl⟩, .inr ⟨same_flat rfl, fun _ => rfl⟩⟩
  · exact .inr ⟨⟨Jd_lst ha, rfl⟩, .inr ⟨SameV.lists ha ha (by simp) (fun x hx => by simp at hx; subst hx; rfl), fun o => e_isK_lst (lstAt_app o ha)⟩⟩
  · exact .inr ⟨⟨.inr ⟨_, hd⟩, rfl⟩, .inl ⟨_, rfl, hd⟩⟩
end W3
end

section
namespace W3
open PySem
theorem PureT.up : ∀ {n : Nat} {t : T}, PureT n t → PureT (n + 1) t
  | 0, _, h => .inl h
  | n + 1, _, h => by
    rcases h with h | ⟨ts, rfl, hl, hs⟩
    · exact .inl h
    · exact .inr ⟨ts, rfl, hl, fun x hx => (hs x hx).up⟩
theorem PureT.add {n : Nat} {t : T} (h : PureT n t) : ∀ k, PureT (n + k) t
  | 0 => h
  | k + 1 => (h.add k).up
theorem PureT.tup {n : Nat} {ts : List T} (hl : ts.length ≤ 100000) (h : ∀ x ∈ ts, PureT n x) : PureT (n + 1) (.tup ts) := .inr ⟨ts, rfl, hl, h⟩
theorem pure_flat {n : Nat} {t : T} (h : flatT t = true) : PureT n t := by
  cases n with
  | zero => exact h
  | succ n => exact .inl h
theorem FormAt.upK {h h' : Hh} {l a : Nat} {fm : Fm} (e : FormAt h a fm) (u : Up l h h') (hne : a ≠ l) : FormAt h' a fm := by
  unfold FormAt
  rw [u.keep a e.lt hne]
  exact e
end W3
end

section
namespace W3
open PySem
@[simp] theorem e_siEnum (a : SA) (σ : St3) (h : Hh) : siEnum a σ h = (a σ h).bind enumOf := Eq.trans rfl rfl
@[simp] theorem enumL_len (k : Nat) (ts : List T) : (enumL k ts).length = ts.length := by
  induction ts generalizing k with
  | nil => rfl
  | cons t ts ih => simp [enumL, ih]
end W3
end

section
namespace W3
open PySem
def wordsB (fm : Fm) (v : T) : Bool := match v with | .tup ts => decide (ts.length = fm.fields.length) && ts.all (fun t => oneB t fm.words) | _ => false
end W3
end

section
namespace W3
open PySem
end W3
end

section
namespace W3
open PySem
@[simp] theorem e_ssForH (si : SI) (g : SGH) (b : SS) (σ : St3) (h : Hh) : ssForH si g b σ h = (si σ h).flo σ fun s h1 => forRunH s g b (s.len h1) 0 σ h1 := Eq.trans rfl rfl
def PickAt (h : Hh) (l : Nat) (t : T) : Prop := ∃ (r : Nat) (a b c : Int), t = .ref r ∧ lstAt h r = some [.int a, .int b, .int c] ∧ r ≠ l
theorem PickAt.up {h h' : Hh} {l : Nat} {t : T} (p : PickAt h l t) (u : Up l h h') : PickAt h' l t := by
  obtain ⟨r, a, b, c, rfl, e, hne⟩ := p
  exact ⟨r, a, b, c, rfl, u.lst e hne, hne⟩
end W3
end

section
namespace W3
open PySem
def flatJ : T → Prop | .non => True | .bl _ => True | .int _ => True | .str s => s.length ≤ 1000 | _ => False
def GV (l : Nat) (h : Hh) : Nat → T → Prop
  | 0, t => flatJ t
  | n + 1, t => flatJ t ∨ (∃ ts, t = .tup ts ∧ ts.length ≤ 1000 ∧ ∀ x ∈ ts, GV l h n x) ∨ ∃ r ts, t = .ref r ∧ r ≠ l ∧ lstAt h r = some ts ∧ ts.length ≤ 1000 ∧ ∀ x ∈ ts, GV l h n x
theorem flatJ.flat {t : T} (h : flatJ t) : flatT t = true := by cases t <;> first | rfl | exact h.elim
theorem flatJ.jdN {t : T} {n : Nat} {h : Hh} (f : flatJ t) : JdN n t h := by
  cases t with
  | non => exact jdN_non
  | bl b => exact jdN_bl
  | int i => exact jdN_int
  | str s => exact jdN_str f
  | _ => exact f.elim
theorem GV.flat {l : Nat} {h : Hh} {n : Nat} {t : T} (f : flatJ t) : GV l h n t := by
  cases n with
  | zero => exact f
  | succ n => exact .inl f
theorem GV.tup {l : Nat} {h : Hh} {n : Nat} {ts : List T} (hl : ts.length ≤ 1000) (g : ∀ x ∈ ts, GV l h n x) : GV l h (n + 1) (.tup ts) := .inr (.inl ⟨ts, rfl, hl, g⟩)
theorem GV.lst {l : Nat} {h : Hh} {n r : Nat} {ts : List T} (hr : r ≠ l) (e : lstAt h r = some ts) (hl : ts.length ≤ 1000) (g : ∀ x ∈ ts, GV l h n x) : GV l h (n + 1) (.ref r) := .inr (.inr ⟨r, ts, rfl, hr, e, hl, g⟩)
theorem GV.up {l : Nat} {h h' : Hh} (u : Up l h h') : ∀ {n : Nat} {t : T}, GV l h n t → GV l h' n t
  | 0, _, g => g
  | n + 1, _, g => by
    rcases g with g | ⟨ts, rfl, hl, g⟩ | ⟨r, ts, rfl, hr, e, hl, g⟩
    · exact .inl g
    · exact .inr (.inl ⟨ts, rfl, hl, fun x hx => (g x hx).up u⟩)
    · exact .inr (.inr ⟨r, ts, rfl, hr, u.lst e hr, hl, fun x hx => (g x hx).up u⟩)
theorem GV.same {l : Nat} {h : Hh} : ∀ {n : Nat} {t : T}, GV l h n t → SameV h n t t
  | 0, _, g => ⟨rfl, flatJ.flat g⟩
  | n + 1, _, g => by
    rcases g with g | ⟨ts, rfl, hl, g⟩ | ⟨r, ts, rfl, hr, e, hl, g⟩
    · exact .inl ⟨rfl, flatJ.flat g⟩
    · refine .inr ⟨ts, ts, .inl ⟨rfl, rfl⟩, rfl, by omega, fun i x y ex ey => ?_⟩
      rw [ex] at ey; cases ey
      exact (g x (List.mem_of_getElem? ex)).same
    · refine .inr ⟨ts, ts, .inr ⟨.inl ⟨r, rfl, e⟩, .inl ⟨r, rfl, e⟩⟩, rfl, by omega, fun i x y ex ey => ?_⟩
      rw [ex] at ey; cases ey
      exact (g x (List.mem_of_getElem? ex)).same
theorem GV.jdN {l : Nat} {h : Hh} : ∀ {n : Nat} {t : T} {m : Nat}, GV l h n t → JdN m t h
  | 0, _, _, g => flatJ.jdN g
  | n + 1, _, m, g => by
    rcases g with g | ⟨ts, rfl, hl, g⟩ | ⟨r, ts, rfl, hr, e, hl, g⟩
    · exact flatJ.jdN g
    · cases m with
      | zero => exact hl
      | succ m => exact ⟨hl, fun us e t ht => by cases e; exact (g t ht).jdN⟩
    · exact jdN_ref (Jd_lst e)
theorem GV.jd {l : Nat} {h : Hh} {n : Nat} {t : T} (g : GV l h n t) : Jd t h := (g.jdN (m := 0))
theorem GV.more {l : Nat} {h : Hh} : ∀ {n : Nat} {t : T}, GV l h n t → GV l h (n + 1) t
  | 0, _, g => .inl g
  | n + 1, _, g => by
    rcases g with g | ⟨ts, rfl, hl, g⟩ | ⟨r, ts, rfl, hr, e, hl, g⟩
    · exact .inl g
    · exact .inr (.inl ⟨ts, rfl, hl, fun x hx => (g x hx).more⟩)
    · exact .inr (.inr ⟨r, ts, rfl, hr, e, hl, fun x hx => (g x hx).more⟩)
end W3
end

section
namespace W3
open PySem
def G0 (l b : Nat) (h : Hh) (t : T) : Prop := match t with
  | .ref r => r ≠ l ∧ ((∃ ts, h[r]? = some (.lst ts)) ∨ ∃ d, h[r]? = some (.dic d))
  | .cls _ => False
  | .fl _ => False
  | .str s => s.length ≤ 1000
  | .tup ts => ts.length ≤ b
  | _ => True
def GJ (l b : Nat) (h : Hh) : Nat → T → Prop
  | 0, t => G0 l b h t
  | n + 1, t => G0 l b h t ∧ ∀ ts, t = .tup ts → ∀ x ∈ ts, GJ l b h n x
def GA (l b : Nat) (h : Hh) (t : T) : Prop := ∀ n, GJ l b h n t
section
variable {l b : Nat} {h h' : Hh} {t : T}
theorem GJ.g0 {n : Nat} (g : GJ l b h n t) : G0 l b h t := by
  cases n with
  | zero => exact g
  | succ n => exact g.1
theorem GA.g0 (g : GA l b h t) : G0 l b h t := g 0
theorem GA.of0 (g : G0 l b h t) (hn : ∀ ts, t ≠ .tup ts) : GA l b h t := fun n => by
  cases n with
  | zero => exact g
  | succ n => exact ⟨g, fun ts e => absurd e (hn ts)⟩
theorem GA.non : GA l b h .non := .of0 trivial fun _ e => by cases e
theorem GA.bl {x : Bool} : GA l b h (.bl x) := .of0 trivial fun _ e => by cases e
theorem GA.int {x : Int} : GA l b h (.int x) := .of0 trivial fun _ e => by cases e
theorem GA.str {x : Str} (hs : x.length ≤ 1000) : GA l b h (.str x) := .of0 hs fun _ e => by cases e
theorem GA.lst {r : Nat} {ts : List T} (hr : r ≠ l) (e : lstAt h r = some ts) : GA l b h (.ref r) := .of0 ⟨hr, .inl ⟨ts, of_lstAt e⟩⟩ fun _ e => by cases e
theorem GA.dic {r : Nat} {d : List (T × T)} (hr : r ≠ l) (e : h[r]? = some (.dic d)) : GA l b h (.ref r) := .of0 ⟨hr, .inr ⟨d, e⟩⟩ fun _ e => by cases e
theorem GA.tup {ts : List T} (hl : ts.length ≤ b) (g : ∀ x ∈ ts, GA l b h x) : GA l b h (.tup ts) := fun n => by
  cases n with
  | zero => exact hl
  | succ n => exact ⟨hl, fun us e x hx => by cases e; exact g x hx n⟩
theorem GA.mem {ts : List T} (g : GA l b h (.tup ts)) {x : T} (hx : x ∈ ts) : GA l b h x := fun n => (g (n + 1)).2 ts rfl x hx
theorem GA.len {ts : List T} (g : GA l b h (.tup ts)) : ts.length ≤ b := g.g0
theorem G0.more {b' : Nat} (hb : b ≤ b') (g : G0 l b h t) : G0 l b' h t := by
  cases t with
  | tup ts => exact Nat.le_trans g hb
  | _ => exact g
theorem GJ.more {b' : Nat} (hb : b ≤ b') : ∀ {n : Nat} {t : T}, GJ l b h n t → GJ l b' h n t
  | 0, _, g => G0.more hb g
  | n + 1, _, g => ⟨G0.more hb g.1, fun ts e x hx => (g.2 ts e x hx).more hb⟩
theorem GA.more {b' : Nat} (g : GA l b h t) (hb : b ≤ b') : GA l b' h t := fun n => (g n).more hb
theorem G0.up (u : Up l h h') (g : G0 l b h t) : G0 l b h' t := by
  cases t with
  | ref r =>
    obtain ⟨hr, g⟩ := g
    refine ⟨hr, ?_⟩
    have hl : r < h.length := by rcases g with ⟨_, e⟩ | ⟨_, e⟩ <;> exact (List.getElem?_eq_some_iff.mp e).1
    rw [u.keep r hl hr]
    exact g
  | _ => exact g
theorem GJ.up (u : Up l h h') : ∀ {n : Nat} {t : T}, GJ l b h n t → GJ l b h' n t
  | 0, _, g => G0.up u g
  | n + 1, _, g => ⟨G0.up u g.1, fun ts e x hx => (g.2 ts e x hx).up u⟩
theorem GA.up (g : GA l b h t) (u : Up l h h') : GA l b h' t := fun n => (g n).up u
theorem G0.jd (hb : b ≤ 1000) (g : G0 l b h t) : Jd t h := by
  cases t with
  | ref r => exact g.2
  | tup ts => exact Nat.le_trans g hb
  | cls c => exact g.elim
  | fl c => exact g.elim
  | str s => exact g
  | _ => trivial
theorem GJ.jdN (hb : b ≤ 1000) : ∀ {n : Nat} {t : T}, GJ l b h n t → JdN n t h
  | 0, _, g => G0.jd hb g
  | n + 1, _, g => ⟨G0.jd hb g.1, fun ts e x hx => (g.2 ts e x hx).jdN hb⟩
theorem GA.jdN {n : Nat} (g : GA l b h t) (hb : b ≤ 1000) : JdN n t h := (g n).jdN hb
theorem GA.jd (g : GA l b h t) (hb : b ≤ 1000) : Jd t h := g.g0.jd hb
theorem cutT_mem {α : Type} {xs : List α} {lo hi : Option Int} {x : α} (hx : x ∈ cutT xs lo hi) : x ∈ xs := by
  unfold cutT at hx
  exact List.mem_of_mem_drop (List.mem_of_mem_take hx)
theorem GA.cut {ts : List T} (g : ∀ x ∈ ts, GA l b h x) {lo hi : Option Int} : ∀ x ∈ cutT ts lo hi, GA l b h x := fun x hx => g x (cutT_mem hx)
end
theorem GA.ent {l b : Nat} {h : Hh} {k : Nat} {r : List Ent} {e : Ent} (ro : RowOk k r) (he : e ∈ r) : GA l b h (tE e) := by
  cases e with
  | none => exact .non
  | some s => exact .str (ro.nm s he).short
theorem GA.row {l b : Nat} {h : Hh} {k : Nat} {r : List Ent} (ro : RowOk k r) (hk : k ≤ b) : GA l b h (tRow r) :=
  .tup (by rw [List.length_map, ro.len]; exact hk) fun t ht => by
    obtain ⟨e, he, rfl⟩ := List.mem_map.mp ht
    exact .ent ro he
theorem GA.fd {l b : Nat} {h : Hh} {ws ns : List Str} {nm : Str} {fd : Fd} (o : FdOk ws ns nm fd) (hw : ws.length ≤ b) (wn : NmL ws) (nn : NmL ns) : ∀ t ∈ fd.ts, GA l b h t := by
  intro t ht
  simp [Fd.ts] at ht
  rcases ht with rfl | rfl | rfl | rfl
  · exact .str (wn.nm _ o.first).short
  · cases hn : fd.nr with
    | alone r => exact .non
    | looks g rs =>
      have nk := o.nr
      rw [hn] at nk
      exact .str (nn.nm g nk.1).short
  · have nk := o.nr
    cases hn : fd.nr with
    | alone r => rw [hn] at nk; exact .row nk hw
    | looks g rs =>
      rw [hn] at nk
      refine .tup (by rw [List.length_map, nk.2.2.1]; exact hw) fun t ht => ?_
      obtain ⟨r, hr, rfl⟩ := List.mem_map.mp ht
      exact .row (nk.2.2.2 r hr) hw
  · cases hf : fd.far with
    | none => exact .non
    | some r => exact .row (o.far r hf) hw
def PairsG (l b : Nat) (h : Hh) (ts : List T) : Prop := ∀ x ∈ ts, ∃ nm fd, x = .tup [.str nm, fd] ∧ nm.length ≤ 8 ∧ GA l b h fd
theorem PairsG.up {l b : Nat} {h h' : Hh} {ts : List T} (p : PairsG l b h ts) (u : Up l h h') : PairsG l b h' ts := fun x hx => by
  obtain ⟨nm, fd, e, hn, g⟩ := p x hx
  exact ⟨nm, fd, e, hn, g.up u⟩
theorem PairsG.more {l b b' : Nat} {h : Hh} {ts : List T} (p : PairsG l b h ts) (hb : b ≤ b') : PairsG l b' h ts := fun x hx => by
  obtain ⟨nm, fd, e, hn, g⟩ := p x hx
  exact ⟨nm, fd, e, hn, g.more hb⟩
theorem PairsG.ga {l b : Nat} {h : Hh} {ts : List T} (p : PairsG l b h ts) (hb : 2 ≤ b) : ∀ x ∈ ts, GA l b h x := fun x hx => by
  obtain ⟨nm, fd, rfl, hn, g⟩ := p x hx
  refine .tup (by simpa using hb) fun y hy => ?_
  simp at hy
  rcases hy with rfl | rfl
  · exact .str (by omega)
  · exact g
end W3
end

section
namespace W3
open PySem
theorem idx_of_nodup {ss : List Str} (nd : ss.Nodup) {i : Nat} {w : Str} (e : ss[i]? = some w) : ss.idxOf w = i := by
  obtain ⟨hi, rfl⟩ := List.getElem?_eq_some_iff.mp e
  exact List.Nodup.idxOf_getElem nd i hi
def wIx (fm : Fm) (w : Str) : Nat := fm.words.idxOf w
def fIx (fm : Fm) (n : Str) : Nat := fm.names.idxOf n
def wAt (fm : Fm) (ss : List Str) (n : Str) : Str := (ss[fIx fm n]?).getD ⟨#[]⟩
def rowAt (r : List Ent) (i : Nat) : Ent := (r[i]?).getD none
def nearV (fm : Fm) (ss : List Str) (p : Str × Fd) : Ent := match p.2.nr with
  | .alone r => rowAt r (wIx fm (wAt fm ss p.1))
  | .looks g rs => rowAt ((rs[wIx fm (wAt fm ss p.1)]?).getD []) (wIx fm (wAt fm ss g))
def farV (fm : Fm) (p : Str × Fd) (w : Str) : Ent := match p.2.far with
  | none => none
  | some r => rowAt r (wIx fm w)
def trueV (fm : Fm) (ss : List Str) (p : Str × Fd) : Ent := match nearV fm ss p with
  | none => farV fm p (wAt fm ss p.1)
  | some m => some m
structure WsOk (fm : Fm) (ss : List Str) : Prop where
  len : ss.length = fm.fields.length
  mem : ∀ s ∈ ss, s ∈ fm.words
theorem WsOk.b {fm : Fm} {ss : List Str} (o : WsOk fm ss) : wordsB fm (.tup (tSs ss)) = true := by
  simp only [wordsB, List.length_map, o.len, decide_true, Bool.true_and, List.all_eq_true]
  intro t ht
  obtain ⟨s, hs, rfl⟩ := List.mem_map.mp ht
  simp [oneB, o.mem s hs]
theorem WsOk.at {fm : Fm} {ss : List Str} (o : WsOk fm ss) {n : Str} (hn : n ∈ fm.names) : ss[fIx fm n]? = some (wAt fm ss n) ∧ wAt fm ss n ∈ fm.words := by
  have hl : fIx fm n < ss.length := by
    have := List.idxOf_lt_length_iff.mpr hn
    rw [o.len]; simpa [fIx, Fm.names] using this
  have e : ss[fIx fm n]? = some ss[fIx fm n] := by simp [hl]
  unfold wAt
  rw [e]
  exact ⟨rfl, o.mem _ (List.getElem_mem hl)⟩
theorem mem_names {fm : Fm} {p : Str × Fd} (hp : p ∈ fm.fields) : p.1 ∈ fm.names := List.mem_map.mpr ⟨p, hp, rfl⟩
@[simp] theorem isT_tup (ts : List T) : isT (.tup ts) = true := Eq.trans rfl rfl
@[simp] theorem e_sMtA (f : T → List T → Hh → Res T) (o : SE) (a : SA) (σ : St3) (h : Hh) : sMtA f o a σ h = (o σ h).bind fun x h1 => if (isL x h1 || isT x) = true then (a σ h1).bind fun xs h2 => f x xs h2 else .stk := Eq.trans rfl rfl
end W3
end

section
namespace W3
open PySem
abbrev Prs := List (Str × Str)
def tPr (p : Str × Str) : T := .tup [.str p.1, .str p.2]
def dPr (p : Str × Str) : PyData := .tuple [.str p.1, .str p.2]
abbrev leP (p q : Str × Str) : Bool := PySem.W.dataLe false dPr p q
def sortP (ps : Prs) : Prs := ps.mergeSort leP
@[simp] theorem e_sorted_tup (ts : List T) (h : Hh) : bSorted [.tup ts] h = bSortI ts h := Eq.trans rfl rfl
@[simp] theorem e_sorted_ref (l : Nat) (h : Hh) : bSorted [.ref l] h = match lstAt h l with | some ts => bSortI ts h | none => .stk := Eq.trans rfl rfl
@[simp] theorem e_siZip (a : SA) (σ : St3) (h : Hh) : siZip a σ h = (a σ h).bind zipOf := Eq.trans rfl rfl
def namePairB (t : T) : Bool := match t with | .tup [.str a, .str b] => nmB a && nmB b && !decide (a = b) | _ => false
def prOf (t : T) : Str × Str := match t with | .tup [.str a, .str b] => (a, b) | _ => (⟨#[]⟩, ⟨#[]⟩)
def pairsB (v : T) : Bool := match v with | .tup ts => ts.all namePairB && decide ((ts.map prOf).Nodup) | _ => false
structure PrsOk (ps : Prs) : Prop where
  nd : ps.Nodup
  nm : ∀ p ∈ ps, Nm p.1 ∧ Nm p.2 ∧ p.1 ≠ p.2
theorem prOf_tPr (ps : Prs) : (ps.map tPr).map prOf = ps := by
  rw [List.map_map]
  exact List.map_id' ps
theorem pairsB_prs {ps : Prs} (o : PrsOk ps) : pairsB (.tup (ps.map tPr)) = true := by
  simp only [pairsB, prOf_tPr, o.nd, decide_true, Bool.and_true, List.all_map, List.all_eq_true]
  intro p hp
  obtain ⟨h1, h2, h3⟩ := o.nm p hp
  simp [namePairB, tPr, nmB_iff.mpr h1, nmB_iff.mpr h2, h3]
def MEN : List (Str × List Str) := [("opens", ["enter", "leave", "send"]), ("checks", ["enter", "leave"]), ("around", ["own", "looks"]), ("taken", ["any", "same", "last"]), ("sending", ["bar", "wait", "go"])]
def fitsB (part : Str) (v : T) : Bool := if part = "wipes" then isBl v else (decide (part = "around") && pairsB v) || (match MEN.lookup part with | some ss => oneB v ss | none => false)
def PARTSL : List Str := ["opens", "checks", "around", "wipes", "taken", "sending"]
def ruleErr : List Str → List T → Option Str
  | p :: ps, v :: vs => if fitsB p v = false then some p else ruleErr ps vs
  | _, _ => none
def sortAro (v : T) : T := match v with | .tup ts => .tup ((sortP (ts.map prOf)).map tPr) | v => v
def ruleIns (o c a w t s : T) : List (Str × T) := [("opens", o), ("checks", c), ("around", sortAro a), ("wipes", w), ("taken", t), ("sending", s)]
def shortT (v : T) : Prop := ∀ ts, v = .tup ts → ts.length < 64
inductive Aro where | word (s : Str) | pairs (ps : Prs)
def Aro.t : Aro → T | .word s => .str s | .pairs ps => .tup (ps.map tPr)
structure Ru where
  opens : Str
  checks : Str
  around : Aro
  wipes : Bool
  taken : Str
  sending : Str
structure RuOk (r : Ru) : Prop where
  o : r.opens ∈ (["enter", "leave", "send"] : List Str)
  c : r.checks ∈ (["enter", "leave"] : List Str)
  aw : ∀ s, r.around = .word s → s ∈ (["own", "looks"] : List Str)
  ap : ∀ ps, r.around = .pairs ps → PrsOk ps ∧ ps.length < 64 ∧ sortP ps = ps
  t : r.taken ∈ (["any", "same", "last"] : List Str)
  s : r.sending ∈ (["bar", "wait", "go"] : List Str)
def Ru.ins (r : Ru) : List (Str × T) := [("opens", .str r.opens), ("checks", .str r.checks), ("around", r.around.t), ("wipes", .bl r.wipes), ("taken", .str r.taken), ("sending", .str r.sending)]
def RuleAt (h : Hh) (l : Nat) (r : Ru) : Prop := h[l]? = some (.ins "Rule" r.ins)
theorem RuleAt.lt {h : Hh} {l : Nat} {r : Ru} (e : RuleAt h l r) : l < h.length := (List.getElem?_eq_some_iff.mp e).1
theorem RuleAt.app {h : Hh} {l : Nat} {r : Ru} (e : RuleAt h l r) (o : Hh) : RuleAt (h ++ o) l r := by
  unfold RuleAt
  rw [List.getElem?_append_left e.lt]
  exact e
theorem RuleAt.upK {h h' : Hh} {l a : Nat} {r : Ru} (e : RuleAt h a r) (u : Up l h h') (hne : a ≠ l) : RuleAt h' a r := by
  unfold RuleAt
  rw [u.keep a e.lt hne]
  exact e
theorem RuleAt.ins {h : Hh} {l : Nat} {r : Ru} (e : RuleAt h l r) : insAt h l = some (("Rule" : Str), r.ins) := insAt_of e
end W3
end

section
namespace W3
open PySem
def Fm.firsts (fm : Fm) : List Str := fm.fields.map fun p => p.2.first
def stepIns (d b a e : T) : List (Str × T) := [("deed", d), ("before", b), ("after", a), ("events", e)]
def StepAt (h : Hh) (l : Nat) (d b a e : T) : Prop := h[l]? = some (.ins "Step" (stepIns d b a e))
theorem StepAt.lt {h : Hh} {l : Nat} {d b a e : T} (q : StepAt h l d b a e) : l < h.length := (List.getElem?_eq_some_iff.mp q).1
theorem StepAt.app {h : Hh} {l : Nat} {d b a e : T} (q : StepAt h l d b a e) (o : Hh) : StepAt (h ++ o) l d b a e := by
  unfold StepAt
  rw [List.getElem?_append_left q.lt]
  exact q
theorem StepAt.ins {h : Hh} {l : Nat} {d b a e : T} (q : StepAt h l d b a e) : insAt h l = some (("Step" : Str), stepIns d b a e) := insAt_of q
theorem firsts_len (fm : Fm) : fm.firsts.length = fm.fields.length := List.length_map _
end W3
end

section
namespace W3
open PySem
end W3
end

section
namespace W3
open PySem
def farNames (fm : Fm) : List Str := (fm.fields.filter fun p => p.2.far.isSome).map Prod.fst
theorem far_mem {fm : Fm} {s : Str} (h : s ∈ farNames fm) : ∃ p ∈ fm.fields, p.2.far.isSome = true ∧ p.1 = s := by
  obtain ⟨p, hp, rfl⟩ := List.mem_map.mp h
  obtain ⟨h1, h2⟩ := List.mem_filter.mp hp
  exact ⟨p, h1, h2, rfl⟩
end W3
end

section
namespace W3
open PySem
def GF (t : T) : Prop := ∀ (l : Nat) (h : Hh), GA l 100 h t
theorem GF.str {s : Str} (h : s.length ≤ 1000) : GF (.str s) := fun _ _ => .str h
theorem GF.non : GF .non := fun _ _ => .non
theorem GF.bl {b : Bool} : GF (.bl b) := fun _ _ => .bl
theorem GF.int {i : Int} : GF (.int i) := fun _ _ => .int
theorem GF.tup {ts : List T} (hl : ts.length ≤ 100) (g : ∀ x ∈ ts, GF x) : GF (.tup ts) := fun l h => .tup hl fun x hx => g x hx l h
theorem GF.ent {k : Nat} {r : List Ent} {e : Ent} (ro : RowOk k r) (he : e ∈ r) : GF (tE e) := fun _ _ => .ent ro he
theorem GF.mem {ts : List T} (g : GF (.tup ts)) {x : T} (hx : x ∈ ts) : GF x := fun l h => (g l h).mem hx
end W3
end

section
namespace W3
open PySem
abbrev Kn := Option (Str × Ent)
abbrev Qn := Str × Str × Bool
def tK : Kn → T | none => .non | some (w, e) => .tup [.str w, tE e]
def tQ (q : Qn) : T := .tup [.str q.1, .str q.2.1, .bl q.2.2]
structure Sd where
  words : List Str
  shown : List Bool
  mess : List Ent
  known : List Kn
  quest : List Qn
  wait : Bool
def Sd.t (d : Sd) : T := .tup [.tup (tSs d.words), .tup (d.shown.map T.bl), .tup (d.mess.map tE), .tup (d.known.map tK), .tup (d.quest.map tQ), .bl d.wait]
def KnOk (fm : Fm) (p : Str × Fd) (k : Kn) : Prop := ∀ w e, k = some (w, e) → p.2.far.isSome = true ∧ w ∈ fm.words ∧ e = farV fm p w
def QnOk (fm : Fm) (q : Qn) : Prop := q.1 ∈ farNames fm ∧ q.2.1 ∈ fm.words
structure SdOk (fm : Fm) (snd : Str) (d : Sd) : Prop where
  ws : WsOk fm d.words
  sl : d.shown.length = fm.fields.length
  ml : d.mess.length = fm.fields.length
  mn : ∀ s, some s ∈ d.mess → Nm s
  kl : d.known.length = fm.fields.length
  kn : ∀ q ∈ fm.fields.zip d.known, KnOk fm q.1 q.2
  ql : (d.quest.length : Int) ≤ fm.room
  qn : ∀ q ∈ d.quest, QnOk fm q
  wt : d.wait = true → snd = "wait" ∧ d.quest ≠ []
theorem all_map {α : Type} {B : T → Bool} {f : α → T} {P : α → Prop} (st : ∀ t, B t = true → ∃ x, t = f x ∧ P x) : ∀ {ts : List T}, ts.all B = true → ∃ xs : List α, ts = xs.map f ∧ ∀ x ∈ xs, P x
  | [], _ => ⟨[], rfl, by simp⟩
  | t :: ts, h => by
    rw [List.all_cons, Bool.and_eq_true] at h
    obtain ⟨x, rfl, px⟩ := st t h.1
    obtain ⟨xs, rfl, pxs⟩ := all_map st h.2
    exact ⟨x :: xs, rfl, fun y hy => by
      rcases List.mem_cons.mp hy with rfl | z
      · exact px
      · exact pxs y z⟩
end W3
end

section
namespace W3
open PySem
structure Pl where
  w : Nat
  s : Nat
  m : Nat
  k : Nat
  q : Nat
  t : Nat
def Pl.all (p : Pl) : List Nat := [p.w, p.s, p.m, p.k, p.q, p.t]
def crsIns (lf lr : Nat) (p : Pl) (wt : Bool) : List (Str × T) := [("form", .ref lf), ("rule", .ref lr), ("words_now", .ref p.w), ("shown_fields", .ref p.s), ("messages", .ref p.m), ("far_words", .ref p.k), ("questions", .ref p.q), ("is_waiting", .bl wt), ("told", .ref p.t)]
structure CrsAt (n : Nat) (h : Hh) (a lf lr : Nat) (p : Pl) (d : Sd) (told : List T) : Prop where
  ins : h[a]? = some (.ins "Course" (crsIns lf lr p d.wait))
  ww : lstAt h p.w = some (tSs d.words)
  ss : lstAt h p.s = some (d.shown.map T.bl)
  mm : lstAt h p.m = some (d.mess.map tE)
  kk : lstAt h p.k = some (d.known.map tK)
  qq : lstAt h p.q = some (d.quest.map tQ)
  tt : lstAt h p.t = some told
  nd : p.all.Nodup
  la : n ≤ a
  lo : ∀ x ∈ p.all, n ≤ x
def Fz (n : Nat) (h h' : Hh) : Prop := h.length ≤ h'.length ∧ ∀ k, k < n → h'[k]? = h[k]?
theorem Fz.refl (n : Nat) (h : Hh) : Fz n h h := ⟨Nat.le_refl _, fun _ _ => rfl⟩
theorem Fz.trans {n : Nat} {h h1 h2 : Hh} (a : Fz n h h1) (b : Fz n h1 h2) : Fz n h h2 := ⟨Nat.le_trans a.1 b.1, fun k hk => (b.2 k hk).trans (a.2 k hk)⟩
theorem Fz.app {n : Nat} {h : Hh} (hn : n ≤ h.length) (o : Hh) : Fz n h (h ++ o) := ⟨by simp, fun k hk => List.getElem?_append_left (by omega)⟩
theorem Fz.set {n k : Nat} {h : Hh} (hn : n ≤ k) (o : Ob) : Fz n h (h.set k o) := ⟨by simp, fun j hj => by rw [List.getElem?_set_ne (by omega)]⟩
theorem Fz.out {h h' : Hh} (f : Fz h.length h h') : ∃ z, h' = h ++ z := by
  refine ⟨h'.drop h.length, ?_⟩
  apply List.ext_getElem?
  intro i
  by_cases hi : i < h.length
  · rw [f.2 i hi, List.getElem?_append_left hi]
  · rw [List.getElem?_append_right (by omega), List.getElem?_drop]
    congr 1
    omega
theorem FormAt.fz {n : Nat} {h h' : Hh} {l : Nat} {fm : Fm} (e : FormAt h l fm) (f : Fz n h h') (hl : l < n) : FormAt h' l fm := by
  unfold FormAt
  rw [f.2 l hl]
  exact e
theorem RuleAt.fz {n : Nat} {h h' : Hh} {l : Nat} {r : Ru} (e : RuleAt h l r) (f : Fz n h h') (hl : l < n) : RuleAt h' l r := by
  unfold RuleAt
  rw [f.2 l hl]
  exact e
section
variable {n : Nat} {h : Hh} {a lf lr : Nat} {p : Pl} {d : Sd} {told : List T}
theorem CrsAt.at (c : CrsAt n h a lf lr p d told) : insAt h a = some (("Course" : Str), crsIns lf lr p d.wait) := insAt_of c.ins
theorem CrsAt.alt (c : CrsAt n h a lf lr p d told) : a < h.length := (List.getElem?_eq_some_iff.mp c.ins).1
theorem CrsAt.nl (c : CrsAt n h a lf lr p d told) : n ≤ h.length := Nat.le_of_lt (Nat.lt_of_le_of_lt c.la c.alt)
theorem CrsAt.app (c : CrsAt n h a lf lr p d told) (o : Hh) : CrsAt n (h ++ o) a lf lr p d told where
  ins := by rw [List.getElem?_append_left c.alt]; exact c.ins
  ww := lstAt_app o c.ww
  ss := lstAt_app o c.ss
  mm := lstAt_app o c.mm
  kk := lstAt_app o c.kk
  qq := lstAt_app o c.qq
  tt := lstAt_app o c.tt
  nd := c.nd
  la := c.la
  lo := c.lo
theorem CrsAt.ne (c : CrsAt n h a lf lr p d told) {x : Nat} {ts : List T} (e : lstAt h x = some ts) : x ≠ a := by
  intro q
  subst q
  have := of_lstAt e
  rw [c.ins] at this
  cases this
theorem CrsAt.tell (c : CrsAt n h a lf lr p d told) (e : T) : CrsAt n (h.set p.t (.lst (told ++ [e]))) a lf lr p d (told ++ [e]) := by
  have nd := c.nd
  simp [Pl.all] at nd
  obtain ⟨⟨_, _, _, _, n1⟩, ⟨_, _, _, n2⟩, ⟨_, _, n3⟩, ⟨_, n4⟩, n5⟩ := nd
  exact ⟨by rw [List.getElem?_set_ne (c.ne c.tt)]; exact c.ins, by rw [lstAt_set_ne (Ne.symm n1)]; exact c.ww, by rw [lstAt_set_ne (Ne.symm n2)]; exact c.ss, by rw [lstAt_set_ne (Ne.symm n3)]; exact c.mm, by rw [lstAt_set_ne (Ne.symm n4)]; exact c.kk, by rw [lstAt_set_ne (Ne.symm n5)]; exact c.qq, by rw [lstAt_set_self (lstAt_lt c.tt)], c.nd, c.la, c.lo⟩
theorem CrsAt.wait (c : CrsAt n h a lf lr p d told) (b : Bool) : CrsAt n (h.set a (.ins "Course" (crsIns lf lr p b))) a lf lr p { d with wait := b } told :=
  ⟨by rw [List.getElem?_set_self c.alt], by rw [lstAt_set_ne (Ne.symm (c.ne c.ww))]; exact c.ww, by rw [lstAt_set_ne (Ne.symm (c.ne c.ss))]; exact c.ss, by rw [lstAt_set_ne (Ne.symm (c.ne c.mm))]; exact c.mm, by rw [lstAt_set_ne (Ne.symm (c.ne c.kk))]; exact c.kk, by rw [lstAt_set_ne (Ne.symm (c.ne c.qq))]; exact c.qq, by rw [lstAt_set_ne (Ne.symm (c.ne c.tt))]; exact c.tt, c.nd, c.la, c.lo⟩
end
end W3
end

section
namespace W3
open PySem
section
variable {n : Nat} {h : Hh} {a lf lr : Nat} {p : Pl} {d : Sd} {told : List T}
end
end W3
end

section
namespace W3
open PySem
theorem farV_nm {fm : Fm} (o : FmOk fm) {p : Str × Fd} (hp : p ∈ fm.fields) {w s : Str} (e : farV fm p w = some s) : Nm s := by
  unfold farV at e
  cases hf : p.2.far with
  | none => rw [hf] at e; cases e
  | some r =>
    rw [hf] at e
    simp only [rowAt] at e
    cases hr : r[wIx fm w]? with
    | none => rw [hr] at e; cases e
    | some x =>
      rw [hr] at e
      simp at e
      subst e
      exact ((o.fs p hp).far r hf).nm s (List.mem_of_getElem? hr)
end W3
end

section
namespace W3
open PySem
inductive Ev where
  | entered (n w : Str) | dropped | opened (n : Str) | wiped (n : Str) | checked (n : Str) (e : Ent) | asked (n w : Str)
  | answered (n w : Str) (e : Ent) (tk : Bool) | sent (ws : List Str) | waits | held | reset
def Ev.t : Ev → T
  | .entered n w => .tup [.str "entered", .str n, .str w]
  | .dropped => .tup [.str "dropped"]
  | .opened n => .tup [.str "opened", .str n]
  | .wiped n => .tup [.str "wiped", .str n]
  | .checked n e => .tup [.str "checked", .str n, tE e]
  | .asked n w => .tup [.str "asked", .str n, .str w]
  | .answered n w e tk => .tup [.str "answered", .str n, .str w, tE e, .bl tk]
  | .sent ws => .tup [.str "sent", .tup (tSs ws)]
  | .waits => .tup [.str "waits"]
  | .held => .tup [.str "held"]
  | .reset => .tup [.str "reset"]
abbrev tEs (es : List Ev) : List T := es.map Ev.t
def endV (d : Sd) (told : List Ev) : Sd × List Ev := if d.wait = true then ({ d with wait := false }, told ++ [.dropped]) else (d, told)
def resetV (fm : Fm) (d : Sd) (told : List Ev) : Sd × List Ev := endV { d with words := fm.firsts, shown := List.replicate fm.fields.length false, mess := List.replicate fm.fields.length none } (told ++ [.reset])
inductive Rz where
  | ok (d : Sd) (t : List Ev)
  | many (n : Str)
def Rz.bind : Rz → (Sd → List Ev → Rz) → Rz
  | .ok d t, k => k d t
  | .many n, _ => .many n
def nameAt (fm : Fm) (i : Nat) : Str := (fm.names[i]?).getD ⟨#[]⟩
def showC (fm : Fm) (i : Nat) (d : Sd) (told : List Ev) : Sd × List Ev := if d.shown[i]? = some false then ({ d with shown := d.shown.set i true }, told ++ [.opened (nameAt fm i)]) else (d, told)
def knEnt (w : Str) : Option Kn → Ent × Bool
  | some (some (v, e)) => if v = w then (e, false) else (none, true)
  | _ => (none, true)
def entryC (fm : Fm) (p : Str × Fd) (d : Sd) : Ent × Bool :=
  match nearV fm d.words p with
  | none => if p.2.far.isSome = true then knEnt (wAt fm d.words p.1) (d.known[fIx fm p.1]?) else (none, false)
  | some s => (some s, false)
def elder (n : Str) (q : Qn) : Qn := (q.1, q.2.1, q.2.2 && !decide (q.1 = n))
def askC (fm : Fm) (n w : Str) (d : Sd) (told : List Ev) : Rz :=
  if (n, w, true) ∈ d.quest then .ok d told
  else if (d.quest.length : Int) = fm.room then .many n
  else .ok { d with quest := d.quest.map (elder n) ++ [(n, w, true)] } (told ++ [.asked n w])
def checkC (fm : Fm) (p : Str × Fd) (d : Sd) (told : List Ev) : Rz :=
  if (entryC fm p d).2 = true then askC fm p.1 (wAt fm d.words p.1) { d with mess := d.mess.set (fIx fm p.1) (entryC fm p d).1 } (told ++ [.checked p.1 (entryC fm p d).1])
  else .ok { d with mess := d.mess.set (fIx fm p.1) (entryC fm p d).1 } (told ++ [.checked p.1 (entryC fm p d).1])
def checksC (fm : Fm) : List (Str × Fd) → Sd → List Ev → Rz
  | [], d, t => .ok d t
  | p :: ps, d, t => (checkC fm p d t).bind (checksC fm ps)
def looksAt : Nr → Option Str | .alone _ => none | .looks g _ => some g
def readsC (fm : Fm) (n : Str) : List (Str × Fd) := fm.fields.filter fun q => decide (looksAt q.2.nr = some n)
def foundC (fm : Fm) (r : Ru) (n : Str) : List (Str × Fd) := match r.around with
  | .word s => if s = "own" then [] else readsC fm n
  | .pairs ps => fm.fields.filter fun q => decide ((n, q.1) ∈ ps)
def openC (fm : Fm) (d : Sd) (p : Str × Fd) : Bool := (d.shown[fIx fm p.1]?).getD false
def withC (fm : Fm) (r : Ru) (n : Str) (d : Sd) : List (Str × Fd) := (foundC fm r n).filter (openC fm d)
def aroundL (fm : Fm) (r : Ru) (p : Str × Fd) (d : Sd) : List (Str × Fd) := (if openC fm d p = true then [p] else []) ++ withC fm r p.1 d
def aroundC (fm : Fm) (r : Ru) (p : Str × Fd) (d : Sd) (told : List Ev) : Rz := checksC fm (aroundL fm r p d) d told
def wipeC (r : Ru) (n : Str) (i : Nat) (d : Sd) (told : List Ev) : Sd × List Ev := if r.wipes = true ∧ (rowAt d.mess i).isSome = true then ({ d with mess := d.mess.set i none }, told ++ [.wiped n]) else (d, told)
def enter1 (fm : Fm) (p : Str × Fd) (w : Str) (d : Sd) (told : List Ev) : Sd × List Ev := endV { d with words := d.words.set (fIx fm p.1) w } (told ++ [.entered p.1 w])
def enter2 (fm : Fm) (r : Ru) (p : Str × Fd) (x : Sd × List Ev) : Sd × List Ev := if r.opens = "enter" then showC fm (fIx fm p.1) x.1 x.2 else x
def enterS (fm : Fm) (r : Ru) (p : Str × Fd) (w : Str) (d : Sd) (told : List Ev) : Sd × List Ev := wipeC r p.1 (fIx fm p.1) (enter2 fm r p (enter1 fm p w d told)).1 (enter2 fm r p (enter1 fm p w d told)).2
def enterC (fm : Fm) (r : Ru) (p : Str × Fd) (w : Str) (d : Sd) (told : List Ev) : Rz :=
  if wAt fm d.words p.1 = w then .ok d told
  else if r.checks = "enter" then aroundC fm r p (enterS fm r p w d told).1 (enterS fm r p w d told).2
  else .ok (enterS fm r p w d told).1 (enterS fm r p w d told).2
def leaveS (fm : Fm) (r : Ru) (p : Str × Fd) (d : Sd) (told : List Ev) : Sd × List Ev := if r.opens = "send" then (d, told) else showC fm (fIx fm p.1) d told
def leaveC (fm : Fm) (r : Ru) (p : Str × Fd) (d : Sd) (told : List Ev) : Rz := aroundC fm r p (leaveS fm r p d told).1 (leaveS fm r p d told).2
def showsC (fm : Fm) : Nat → Sd → List Ev → Sd × List Ev
  | 0, d, t => (d, t)
  | k + 1, d, t => showC fm k (showsC fm k d t).1 (showsC fm k d t).2
def hasErr (d : Sd) : Bool := d.mess.any fun e => e.isSome
def endSend (r : Ru) (d : Sd) (told : List Ev) : Sd × List Ev :=
  if hasErr d = true then (d, told ++ [.held])
  else if d.quest = [] ∨ r.sending = "go" then (d, told ++ [.sent d.words])
  else if r.sending = "wait" then ({ d with wait := true }, told ++ [.waits])
  else (d, told ++ [.held])
def sendC (fm : Fm) (r : Ru) (d : Sd) (told : List Ev) : Rz :=
  if d.wait = true then .ok d told
  else (checksC fm fm.fields (showsC fm fm.fields.length d told).1 (showsC fm fm.fields.length d told).2).bind fun d2 t2 => .ok (endSend r d2 t2).1 (endSend r d2 t2).2
def takenC (fm : Fm) (r : Ru) (p : Str × Fd) (w : Str) (nw : Bool) (d : Sd) : Bool := if r.taken = "any" then true else if r.taken = "same" then decide (wAt fm d.words p.1 = w) else nw
def takeMess (fm : Fm) (r : Ru) (p : Str × Fd) (w : Str) (d : Sd) : List Ent := if openC fm d p = true ∧ (¬ r.taken = "same" ∨ nearV fm d.words p = none) then d.mess.set (fIx fm p.1) (farV fm p w) else d.mess
def takeC (fm : Fm) (r : Ru) (p : Str × Fd) (w : Str) (nw : Bool) (d : Sd) : Sd := if takenC fm r p w nw d = true then { d with known := d.known.set (fIx fm p.1) (some (w, farV fm p w)), mess := takeMess fm r p w d } else d
def restC (d : Sd) (told : List Ev) : Sd × List Ev :=
  if d.wait = true ∧ d.quest = [] then ({ d with wait := false }, told ++ [if hasErr d = true then .held else .sent d.words]) else (d, told)
def answerP (fm : Fm) (r : Ru) (p : Str × Fd) (w : Str) (nw : Bool) (d : Sd) (told : List Ev) : Sd × List Ev :=
  restC (takeC fm r p w nw d) (told ++ [.answered p.1 w (farV fm p w) (takenC fm r p w nw d)])
def answerC (fm : Fm) (r : Ru) (i : Nat) (d : Sd) (told : List Ev) : Sd × List Ev := match d.quest[i]? with
  | none => (d, told)
  | some (n, w, nw) => match fdAt fm (.str n) with
    | none => (d, told)
    | some p => answerP fm r p w nw { d with quest := d.quest.eraseIdx i } told
inductive Dd where
  | enter (p : Str × Fd) (w : Str)
  | leave (p : Str × Fd)
  | send
  | answer (i : Nat)
  | reset
def Dd.t : Dd → T
  | .enter p w => .tup [.str "enter", .str p.1, .str w]
  | .leave p => .tup [.str "leave", .str p.1]
  | .send => .tup [.str "send"]
  | .answer i => .tup [.str "answer", .int i]
  | .reset => .tup [.str "reset"]
def DdOk (fm : Fm) : Dd → Prop
  | .enter p w => p ∈ fm.fields ∧ w ∈ fm.words
  | .leave p => p ∈ fm.fields
  | .send => True
  | .answer i => i < 3
  | .reset => True
def Rz.of (x : Sd × List Ev) : Rz := .ok x.1 x.2
def stepC (fm : Fm) (r : Ru) (D : Dd) (d : Sd) : Rz := match D with
  | .enter p w => enterC fm r p w d []
  | .leave p => leaveC fm r p d []
  | .send => sendC fm r d []
  | .answer i => .of (answerC fm r i d [])
  | .reset => .of (resetV fm d [])
structure SdW (fm : Fm) (d : Sd) : Prop where
  ws : WsOk fm d.words
  sl : d.shown.length = fm.fields.length
  ml : d.mess.length = fm.fields.length
  mn : ∀ s, some s ∈ d.mess → Nm s
  kl : d.known.length = fm.fields.length
  kn : ∀ q ∈ fm.fields.zip d.known, KnOk fm q.1 q.2
  ql : (d.quest.length : Int) ≤ fm.room
  qn : ∀ q ∈ d.quest, QnOk fm q
theorem SdOk.w {fm : Fm} {s : Str} {d : Sd} (h : SdOk fm s d) : SdW fm d := ⟨h.ws, h.sl, h.ml, h.mn, h.kl, h.kn, h.ql, h.qn⟩
theorem SdW.ok {fm : Fm} {s : Str} {d : Sd} (h : SdW fm d) (wt : d.wait = true → s = "wait" ∧ d.quest ≠ []) : SdOk fm s d := ⟨h.ws, h.sl, h.ml, h.mn, h.kl, h.kn, h.ql, h.qn, wt⟩
theorem rowAt_nm {k : Nat} {r : List Ent} {i : Nat} {s : Str} (ro : RowOk k r) (e : rowAt r i = some s) : Nm s := by
  unfold rowAt at e
  cases hr : r[i]? with
  | none => rw [hr] at e; cases e
  | some x =>
    rw [hr] at e
    simp at e
    subst e
    exact ro.nm s (List.mem_of_getElem? hr)
theorem nearV_nm {fm : Fm} (o : FmOk fm) {p : Str × Fd} (hp : p ∈ fm.fields) {ws : List Str} {s : Str} (e : nearV fm ws p = some s) : Nm s := by
  have fo := (o.fs p hp).nr
  unfold nearV at e
  cases hn : p.2.nr with
  | alone r =>
    rw [hn] at e fo
    exact rowAt_nm fo e
  | looks g rs =>
    rw [hn] at e fo
    obtain ⟨q1, q2, q3, q4⟩ := fo
    simp only at e
    cases hr : rs[wIx fm (wAt fm ws p.1)]? with
    | none =>
      rw [hr] at e
      simp [rowAt] at e
    | some r =>
      rw [hr] at e
      exact rowAt_nm (q4 r (List.mem_of_getElem? hr)) e
theorem fIx_at {fm : Fm} (o : FmOk fm) {i : Nat} {n : Str} (hi : fm.names[i]? = some n) : fIx fm n = i := idx_of_nodup o.fn.nd hi
theorem fIx_lt {fm : Fm} {p : Str × Fd} (hp : p ∈ fm.fields) : fIx fm p.1 < fm.fields.length := by
  have := List.idxOf_lt_length_iff.mpr (mem_names hp)
  simpa [fIx, Fm.names] using this
theorem fIx_get {fm : Fm} (o : FmOk fm) {p : Str × Fd} (hp : p ∈ fm.fields) : fm.fields[fIx fm p.1]? = some p := by
  obtain ⟨i, hi⟩ := List.getElem?_of_mem hp
  rw [fIx_at o (i := i) (by unfold Fm.names; rw [List.getElem?_map, hi]; rfl)]
  exact hi
theorem known_at {fm : Fm} (o : FmOk fm) {d : Sd} (w : SdW fm d) {p : Str × Fd} (hp : p ∈ fm.fields) : ∃ k, d.known[fIx fm p.1]? = some k ∧ KnOk fm p k := by
  have hl : fIx fm p.1 < d.known.length := by rw [w.kl]; exact fIx_lt hp
  refine ⟨d.known[fIx fm p.1], by simp [hl], ?_⟩
  exact w.kn (p, d.known[fIx fm p.1]) (List.mem_of_getElem? (i := fIx fm p.1) (by rw [List.getElem?_zip_eq_some]; exact ⟨fIx_get o hp, by simp [hl]⟩))
theorem entry_nm {fm : Fm} (o : FmOk fm) {d : Sd} (w : SdW fm d) {p : Str × Fd} (hp : p ∈ fm.fields) {s : Str} (e : (entryC fm p d).1 = some s) : Nm s := by
  unfold entryC at e
  cases hn : nearV fm d.words p with
  | some m =>
    rw [hn] at e
    simp at e
    exact e ▸ nearV_nm o hp hn
  | none =>
    rw [hn] at e
    simp only at e
    split at e
    · obtain ⟨k, hk, ko⟩ := known_at o w hp
      rw [hk] at e
      cases k with
      | none => simp [knEnt] at e
      | some q =>
        obtain ⟨v, x⟩ := q
        obtain ⟨_, _, rfl⟩ := ko v x rfl
        simp only [knEnt] at e
        split at e
        · exact farV_nm o hp e
        · cases e
    · cases e
theorem mess_set {es : List Ent} {i : Nat} {e : Ent} (h : ∀ s, some s ∈ es → Nm s) (he : ∀ s, e = some s → Nm s) : ∀ s, some s ∈ es.set i e → Nm s := fun s hs => by
  rcases List.mem_or_eq_of_mem_set hs with z | z
  · exact h s z
  · exact he s z.symm
theorem SdW.mess {fm : Fm} {d : Sd} (w : SdW fm d) (i : Nat) {e : Ent} (he : ∀ s, e = some s → Nm s) : SdW fm { d with mess := d.mess.set i e } :=
  { w with ml := by simp [w.ml], mn := mess_set w.mn he }
theorem SdW.show {fm : Fm} {d : Sd} (w : SdW fm d) (i : Nat) (told : List Ev) : SdW fm (showC fm i d told).1 := by
  unfold showC
  split
  · exact { w with sl := by simp [w.sl] }
  · exact w
theorem SdW.shows {fm : Fm} {d : Sd} (w : SdW fm d) (told : List Ev) : ∀ k, SdW fm (showsC fm k d told).1
  | 0 => w
  | k + 1 => (w.shows told k).show k _
theorem SdW.endw {fm : Fm} {d : Sd} (w : SdW fm d) (told : List Ev) : SdW fm (endV d told).1 := by
  unfold endV
  split
  · exact { w with }
  · exact w
structure Kept (d d' : Sd) (t t' : List Ev) (k : Nat) : Prop where
  ws : d'.words = d.words
  sh : d'.shown = d.shown
  wt : d'.wait = d.wait
  kn : d'.known = d.known
  ql : d.quest.length ≤ d'.quest.length
  tl : t'.length ≤ t.length + k
theorem Kept.trans {d d1 d2 : Sd} {t t1 t2 : List Ev} {k m : Nat} (a : Kept d d1 t t1 k) (b : Kept d1 d2 t1 t2 m) : Kept d d2 t t2 (k + m) :=
  ⟨b.ws.trans a.ws, b.sh.trans a.sh, b.wt.trans a.wt, b.kn.trans a.kn, Nat.le_trans a.ql b.ql, by have := a.tl; have := b.tl; omega⟩
theorem far_names {fm : Fm} {p : Str × Fd} (hp : p ∈ fm.fields) (hf : p.2.far.isSome = true) : p.1 ∈ farNames fm := by
  unfold farNames
  exact List.mem_map.mpr ⟨p, List.mem_filter.mpr ⟨hp, hf⟩, rfl⟩
theorem ask_kept {fm : Fm} {n w : Str} {d d' : Sd} {t t' : List Ev} (s : SdW fm d) (hn : n ∈ farNames fm) (hw : w ∈ fm.words) (e : askC fm n w d t = .ok d' t') : SdW fm d' ∧ Kept d d' t t' 1 := by
  unfold askC at e
  split at e
  · cases e
    exact ⟨s, rfl, rfl, rfl, rfl, Nat.le_refl _, by omega⟩
  · split at e
    · cases e
    · cases e
      rename_i h1 h2
      refine ⟨{ s with ql := ?_, qn := fun q hq => ?_ }, rfl, rfl, rfl, rfl, by simp, by simp⟩
      · have := s.ql
        simp only [List.length_append, List.length_map, List.length_cons, List.length_nil]
        omega
      · simp only [List.mem_append, List.mem_map, List.mem_singleton] at hq
        rcases hq with ⟨q0, hq0, rfl⟩ | rfl
        · exact s.qn q0 hq0
        · exact ⟨hn, hw⟩
theorem entry_asks {fm : Fm} {p : Str × Fd} {d : Sd} (e : (entryC fm p d).2 = true) : p.2.far.isSome = true := by
  unfold entryC at e
  split at e
  · split at e
    · assumption
    · cases e
  · cases e
theorem check_kept {fm : Fm} (o : FmOk fm) {p : Str × Fd} (hp : p ∈ fm.fields) {d d' : Sd} {t t' : List Ev} (s : SdW fm d) (e : checkC fm p d t = .ok d' t') : SdW fm d' ∧ Kept d d' t t' 2 := by
  have s1 := s.mess (fIx fm p.1) (e := (entryC fm p d).1) fun _ h => entry_nm o s hp h
  have k1 : Kept d { d with mess := d.mess.set (fIx fm p.1) (entryC fm p d).1 } t (t ++ [.checked p.1 (entryC fm p d).1]) 1 := ⟨rfl, rfl, rfl, rfl, Nat.le_refl _, by simp⟩
  unfold checkC at e
  split at e
  · rename_i ha
    obtain ⟨s2, k2⟩ := ask_kept s1 (far_names hp (entry_asks ha)) (s.ws.at (mem_names hp)).2 e
    exact ⟨s2, k1.trans k2⟩
  · cases e
    exact ⟨s1, { k1 with tl := by have := k1.tl; omega }⟩
theorem checks_kept {fm : Fm} (o : FmOk fm) : ∀ {ps : List (Str × Fd)} {d d' : Sd} {t t' : List Ev}, (∀ p ∈ ps, p ∈ fm.fields) → SdW fm d → checksC fm ps d t = .ok d' t' → SdW fm d' ∧ Kept d d' t t' (2 * ps.length)
  | [], d, d', t, t', _, s, e => by
    cases e
    exact ⟨s, rfl, rfl, rfl, rfl, Nat.le_refl _, by omega⟩
  | p :: ps, d, d', t, t', hp, s, e => by
    unfold checksC at e
    cases h1 : checkC fm p d t with
    | many n => rw [h1] at e; cases e
    | ok d1 t1 =>
      rw [h1] at e
      obtain ⟨s1, k1⟩ := check_kept o (hp p (.head _)) s h1
      obtain ⟨s2, k2⟩ := checks_kept o (fun q hq => hp q (.tail _ hq)) s1 e
      refine ⟨s2, (k1.trans k2).ws, (k1.trans k2).sh, (k1.trans k2).wt, (k1.trans k2).kn, (k1.trans k2).ql, ?_⟩
      have := (k1.trans k2).tl
      simp only [List.length_cons]
      omega
end W3
end

section
namespace W3
open PySem
section
variable {n : Nat} {h : Hh} {a lf lr : Nat} {p : Pl} {d : Sd} {told : List T}
end
structure Crz (n : Nat) (h : Hh) (a lf lr : Nat) (fm : Fm) (r : Ru) (p : Pl) (d : Sd) (told : List Ev) : Prop where
  c : CrsAt n h a lf lr p d (tEs told)
  fa : FormAt h lf fm
  ra : RuleAt h lr r
  fl : lf < n
  rl : lr < n
  o : FmOk fm
  ro : RuOk r
  s : SdW fm d
section
variable {n : Nat} {h h' : Hh} {a lf lr : Nat} {fm : Fm} {r : Ru} {p p' : Pl} {d d' : Sd} {told told' : List Ev}
theorem Crz.to (x : Crz n h a lf lr fm r p d told) (fz : Fz n h h') (c : CrsAt n h' a lf lr p' d' (tEs told')) (s : SdW fm d') : Crz n h' a lf lr fm r p' d' told' :=
  ⟨c, x.fa.fz fz x.fl, x.ra.fz fz x.rl, x.fl, x.rl, x.o, x.ro, s⟩
theorem Crz.app (x : Crz n h a lf lr fm r p d told) (o : Hh) : Crz n (h ++ o) a lf lr fm r p d told := x.to (Fz.app x.c.nl o) (x.c.app o) x.s
structure Fx (a : Nat) (p p' : Pl) (h h' : Hh) : Prop where
  le : h.length ≤ h'.length
  keep : ∀ k, k < h.length → k ≠ a → k ∉ p.all → h'[k]? = h[k]?
  pl : ∀ k ∈ p'.all, k ∈ p.all ∨ h.length ≤ k
theorem Fx.refl (a : Nat) (p : Pl) (h : Hh) : Fx a p p h h := ⟨Nat.le_refl _, fun _ _ _ _ => rfl, fun _ hk => .inl hk⟩
theorem Fx.app (a : Nat) (p : Pl) (h o : Hh) : Fx a p p h (h ++ o) := ⟨by simp, fun k hk _ _ => List.getElem?_append_left hk, fun _ hk => .inl hk⟩
theorem Fx.set {a k : Nat} {p : Pl} {h : Hh} (hk : k ∈ p.all) (o : Ob) : Fx a p p h (h.set k o) := ⟨by simp, fun j _ _ hj => by rw [List.getElem?_set_ne (fun e : k = j => hj (e ▸ hk))], fun _ hk => .inl hk⟩
theorem Fx.own {a : Nat} {p p' : Pl} {h : Hh} (o : Ob) (hp : ∀ k ∈ p'.all, k ∈ p.all ∨ h.length ≤ k) : Fx a p p' h (h.set a o) := ⟨by simp, fun j _ ha _ => by rw [List.getElem?_set_ne (Ne.symm ha)], hp⟩
theorem Fx.trans {a : Nat} {p p1 p2 : Pl} {h h1 h2 : Hh} (u : Fx a p p1 h h1) (v : Fx a p1 p2 h1 h2) : Fx a p p2 h h2 :=
  ⟨Nat.le_trans u.le v.le, fun k hk ha hp => (v.keep k (Nat.lt_of_lt_of_le hk u.le) ha fun z => (u.pl k z).elim hp fun q => by omega).trans (u.keep k hk ha hp), fun k hk => (v.pl k hk).elim (u.pl k) fun q => .inr (Nat.le_trans u.le q)⟩
theorem Crz.fz (x : Crz n h a lf lr fm r p d told) (u : Fx a p p' h h') : Fz n h h' := ⟨u.le, fun k hk => u.keep k (Nat.lt_of_lt_of_le hk x.c.nl) (fun e => by have := x.c.la; omega) fun z => by have := x.c.lo k z; omega⟩
theorem Crz.ev (x : Crz n h a lf lr fm r p d told) (e : Ev) : Crz n (h.set p.t (.lst (tEs told ++ [e.t]))) a lf lr fm r p d (told ++ [e]) := by
  refine x.to (Fz.set (x.c.lo p.t (by simp [Pl.all])) _) ?_ x.s
  have := x.c.tell e.t
  rw [show tEs (told ++ [e]) = tEs told ++ [e.t] by simp [tEs]]
  exact this
theorem Crz.tlen (x : Crz n h a lf lr fm r p d told) : (tEs told).length = told.length := by simp
end
section
variable {n : Nat} {h h' : Hh} {a lf lr : Nat} {fm : Fm} {r : Ru} {p p' : Pl} {d d' : Sd} {told told' : List Ev} {q : Str × Fd}
end
theorem found_mem {fm : Fm} {r : Ru} {n : Str} : (∀ u ∈ foundC fm r n, u ∈ fm.fields) ∧ (foundC fm r n).length ≤ fm.fields.length := by
  unfold foundC
  split
  · split
    · simp
    · exact ⟨fun u hu => (List.mem_filter.mp hu).1, List.length_filter_le _ _⟩
  · exact ⟨fun u hu => (List.mem_filter.mp hu).1, List.length_filter_le _ _⟩
theorem with_mem {fm : Fm} {r : Ru} {n : Str} {d : Sd} : (∀ u ∈ withC fm r n d, u ∈ fm.fields) ∧ (withC fm r n d).length ≤ fm.fields.length :=
  ⟨fun u hu => found_mem.1 u (List.mem_filter.mp hu).1, Nat.le_trans (List.length_filter_le _ _) found_mem.2⟩
theorem SdW.word {fm : Fm} {d : Sd} (w : SdW fm d) (i : Nat) {v : Str} (hv : v ∈ fm.words) : SdW fm { d with words := d.words.set i v } :=
  { w with ws := ⟨by simp [w.ws.len], fun s hs => by
      rcases List.mem_or_eq_of_mem_set hs with z | z
      · exact w.ws.mem s z
      · exact z ▸ hv⟩ }
theorem SdW.wait {fm : Fm} {d : Sd} (w : SdW fm d) (b : Bool) : SdW fm { d with wait := b } := { w with }
theorem endV_len (d : Sd) (t : List Ev) : (endV d t).2.length ≤ t.length + 1 := by unfold endV; split <;> simp
theorem showC_len (fm : Fm) (i : Nat) (d : Sd) (t : List Ev) : (showC fm i d t).2.length ≤ t.length + 1 := by unfold showC; split <;> simp
theorem wipeC_len (r : Ru) (n : Str) (i : Nat) (d : Sd) (t : List Ev) : (wipeC r n i d t).2.length ≤ t.length + 1 := by unfold wipeC; split <;> simp
theorem enter1_len (fm : Fm) (q : Str × Fd) (w : Str) (d : Sd) (t : List Ev) : (enter1 fm q w d t).2.length ≤ t.length + 2 := by
  unfold enter1
  refine Nat.le_trans (endV_len _ _) ?_
  simp
theorem enter2_len (fm : Fm) (r : Ru) (q : Str × Fd) (x : Sd × List Ev) : (enter2 fm r q x).2.length ≤ x.2.length + 1 := by
  unfold enter2
  split
  · exact showC_len _ _ _ _
  · omega
theorem enterS_len (fm : Fm) (r : Ru) (q : Str × Fd) (w : Str) (d : Sd) (t : List Ev) : (enterS fm r q w d t).2.length ≤ t.length + 4 := by
  unfold enterS
  have := wipeC_len r q.1 (fIx fm q.1) (enter2 fm r q (enter1 fm q w d t)).1 (enter2 fm r q (enter1 fm q w d t)).2
  have := enter2_len fm r q (enter1 fm q w d t)
  have := enter1_len fm q w d t
  omega
theorem leaveS_len (fm : Fm) (r : Ru) (q : Str × Fd) (d : Sd) (t : List Ev) : (leaveS fm r q d t).2.length ≤ t.length + 1 := by
  unfold leaveS
  split
  · simp
  · exact showC_len _ _ _ _
theorem showsC_len (fm : Fm) (d : Sd) (t : List Ev) : ∀ k, (showsC fm k d t).2.length ≤ t.length + k
  | 0 => Nat.le_refl _
  | k + 1 => by
    have := showC_len fm k (showsC fm k d t).1 (showsC fm k d t).2
    have := showsC_len fm d t k
    unfold showsC
    omega
theorem SdW.wipe {fm : Fm} {d : Sd} (w : SdW fm d) (r : Ru) (n : Str) (i : Nat) (t : List Ev) : SdW fm (wipeC r n i d t).1 := by
  unfold wipeC
  split
  · exact w.mess i (e := none) (fun s h => by cases h)
  · exact w
theorem dd_mem {fm : Fm} {D : Dd} (k : DdOk fm D) : D.t ∈ wholeL fm := by
  have inl : ∀ {x : T}, x ∈ plainL fm → x ∈ wholeL fm := fun h => List.mem_append.mpr (.inl h)
  have nm : ∀ {p : Str × Fd}, p ∈ fm.fields → p.1 ∈ fm.names := fun hp => mem_names hp
  cases D with
  | enter p w => exact inl (List.mem_append.mpr (.inl (List.mem_append.mpr (.inl (List.mem_flatMap.mpr ⟨p.1, nm k.1, List.mem_map.mpr ⟨w, k.2, rfl⟩⟩)))))
  | leave p => exact inl (List.mem_append.mpr (.inl (List.mem_append.mpr (.inr (List.mem_map.mpr ⟨p.1, nm k, rfl⟩)))))
  | send => exact inl (List.mem_append.mpr (.inr (.head _)))
  | answer i =>
    have k : i < 3 := k
    match i, k with
    | 0, _ => exact inl (List.mem_append.mpr (.inr (.tail _ (.head _))))
    | 1, _ => exact inl (List.mem_append.mpr (.inr (.tail _ (.tail _ (.head _)))))
    | 2, _ => exact inl (List.mem_append.mpr (.inr (.tail _ (.tail _ (.tail _ (.head _))))))
  | reset => exact List.mem_append.mpr (.inr (.head _))
theorem zip_set_kn {fm : Fm} (o : FmOk fm) {ks : List Kn} (hl : ks.length = fm.fields.length) (kn : ∀ q ∈ fm.fields.zip ks, KnOk fm q.1 q.2) {q : Str × Fd} (hp : q ∈ fm.fields) {k : Kn} (hk : KnOk fm q k) : ∀ u ∈ fm.fields.zip (ks.set (fIx fm q.1) k), KnOk fm u.1 u.2 := by
  intro u hu
  obtain ⟨j, hj⟩ := List.getElem?_of_mem hu
  rw [List.getElem?_zip_eq_some] at hj
  obtain ⟨h1, h2⟩ := hj
  by_cases e : fIx fm q.1 = j
  · subst e
    rw [fIx_get o hp] at h1
    rw [List.getElem?_set_self (by rw [hl]; exact fIx_lt hp)] at h2
    have e1 : q = u.1 := by injection h1
    have e2 : k = u.2 := by injection h2
    rw [← e1, ← e2]
    exact hk
  · rw [List.getElem?_set_ne e] at h2
    exact kn u (List.mem_of_getElem? (i := j) (by rw [List.getElem?_zip_eq_some]; exact ⟨h1, h2⟩))
theorem SdW.known {fm : Fm} {d : Sd} (w : SdW fm d) (o : FmOk fm) {q : Str × Fd} (hp : q ∈ fm.fields) {k : Kn} (hk : KnOk fm q k) : SdW fm { d with known := d.known.set (fIx fm q.1) k } :=
  { w with kl := by simp [w.kl], kn := zip_set_kn o w.kl w.kn hp hk }
end W3
namespace W3
open PySem
end W3
end

section
namespace W3
open PySem
theorem around_mem {fm : Fm} {r : Ru} {q : Str × Fd} {d : Sd} (hp : q ∈ fm.fields) : (∀ u ∈ aroundL fm r q d, u ∈ fm.fields) ∧ (aroundL fm r q d).length ≤ 1 + fm.fields.length := by
  unfold aroundL
  obtain ⟨h1, h2⟩ := with_mem (fm := fm) (r := r) (n := q.1) (d := d)
  refine ⟨fun u hu => ?_, ?_⟩
  · rcases List.mem_append.mp hu with z | z
    · split at z
      · simp at z; rw [z]; exact hp
      · cases z
    · exact h1 u z
  · rw [List.length_append]
    split <;> simp <;> omega
theorem around_kept {fm : Fm} (o : FmOk fm) {r : Ru} {q : Str × Fd} (hp : q ∈ fm.fields) {d d' : Sd} {t t' : List Ev} (s : SdW fm d) (e : aroundC fm r q d t = .ok d' t') : SdW fm d' ∧ Kept d d' t t' 8 := by
  obtain ⟨h1, h2⟩ := around_mem (r := r) (d := d) hp
  obtain ⟨s', k⟩ := checks_kept o h1 s e
  have f3 := o.f3
  exact ⟨s', { k with tl := by have := k.tl; omega }⟩
theorem endV_wait (d : Sd) (t : List Ev) : (endV d t).1.wait = false := by
  unfold endV
  cases hw : d.wait <;> simp [hw]
theorem showC_wait (fm : Fm) (i : Nat) (d : Sd) (t : List Ev) : (showC fm i d t).1.wait = d.wait ∧ (showC fm i d t).1.quest = d.quest := by
  unfold showC
  split <;> exact ⟨rfl, rfl⟩
theorem wipeC_wait (r : Ru) (n : Str) (i : Nat) (d : Sd) (t : List Ev) : (wipeC r n i d t).1.wait = d.wait := by
  unfold wipeC
  split <;> rfl
theorem showsC_wait (fm : Fm) (d : Sd) (t : List Ev) : ∀ k, (showsC fm k d t).1.wait = d.wait ∧ (showsC fm k d t).1.quest = d.quest
  | 0 => ⟨rfl, rfl⟩
  | k + 1 => by
    obtain ⟨a, b⟩ := showsC_wait fm d t k
    obtain ⟨c, e⟩ := showC_wait fm k (showsC fm k d t).1 (showsC fm k d t).2
    exact ⟨c.trans a, e.trans b⟩
theorem enterS_sd {fm : Fm} {r : Ru} {q : Str × Fd} {w : Str} {d : Sd} (s : SdW fm d) (hw : w ∈ fm.words) (t : List Ev) : SdW fm (enterS fm r q w d t).1 ∧ (enterS fm r q w d t).1.wait = false := by
  have s1 : SdW fm (enter1 fm q w d t).1 := (s.word (fIx fm q.1) hw).endw _
  have w1 : (enter1 fm q w d t).1.wait = false := endV_wait _ _
  have s2 : SdW fm (enter2 fm r q (enter1 fm q w d t)).1 ∧ (enter2 fm r q (enter1 fm q w d t)).1.wait = false := by
    unfold enter2
    split
    · exact ⟨s1.show _ _, (showC_wait _ _ _ _).1.trans w1⟩
    · exact ⟨s1, w1⟩
  exact ⟨s2.1.wipe _ _ _ _, (wipeC_wait _ _ _ _ _).trans s2.2⟩
theorem leaveS_sd {fm : Fm} {r : Ru} {q : Str × Fd} {d : Sd} (s : SdW fm d) (t : List Ev) : SdW fm (leaveS fm r q d t).1 ∧ (leaveS fm r q d t).1.wait = d.wait ∧ (leaveS fm r q d t).1.quest = d.quest := by
  unfold leaveS
  split
  · exact ⟨s, rfl, rfl⟩
  · exact ⟨s.show _ _, (showC_wait _ _ _ _).1, (showC_wait _ _ _ _).2⟩
theorem take_sd {fm : Fm} (o : FmOk fm) {r : Ru} {q : Str × Fd} {w : Str} {nw : Bool} {d : Sd} (hp : q ∈ fm.fields) (hf : q.2.far.isSome = true) (hw : w ∈ fm.words) (s : SdW fm d) : SdW fm (takeC fm r q w nw d) ∧ (takeC fm r q w nw d).wait = d.wait ∧ (takeC fm r q w nw d).quest = d.quest := by
  unfold takeC
  split
  · have k := s.known o hp (k := some (w, farV fm q w)) fun w' e' e => by cases e; exact ⟨hf, hw, rfl⟩
    refine ⟨?_, rfl, rfl⟩
    unfold takeMess
    split
    · exact k.mess (fIx fm q.1) fun s hs => farV_nm o hp hs
    · exact k
  · exact ⟨s, rfl, rfl⟩
theorem rest_sd {fm : Fm} {snd : Str} {d : Sd} (s : SdW fm d) (hw : d.wait = true → snd = "wait") (t : List Ev) : SdOk fm snd (restC d t).1 := by
  unfold restC
  split
  · exact (s.wait false).ok fun z => by cases z
  · rename_i hn
    refine s.ok fun z => ⟨hw z, fun q => hn ⟨z, q⟩⟩
theorem quest_at {fm : Fm} {d : Sd} (o : FmOk fm) (s : SdW fm d) {i : Nat} {m w : Str} {nw : Bool} (e : d.quest[i]? = some (m, w, nw)) : ∃ q ∈ fm.fields, q.2.far.isSome = true ∧ q.1 = m ∧ w ∈ fm.words ∧ fdAt fm (.str m) = some q := by
  obtain ⟨hm, hw⟩ := s.qn _ (List.mem_of_getElem? e)
  obtain ⟨q, hp, hf, rfl⟩ := far_mem hm
  exact ⟨q, hp, hf, rfl, hw, fdAt_some o hp⟩
theorem step_ok {fm : Fm} (o : FmOk fm) {r : Ru} {d d' : Sd} {D : Dd} {t' : List Ev} (s : SdOk fm r.sending d) (k : DdOk fm D) (e : stepC fm r D d = .ok d' t') : SdOk fm r.sending d' := by
  cases D with
  | enter q w =>
    obtain ⟨hp, hw⟩ := k
    have e : enterC fm r q w d [] = .ok d' t' := e
    unfold enterC at e
    obtain ⟨s1, w1⟩ := enterS_sd (r := r) (q := q) s.w hw []
    split at e
    · cases e; exact s
    · split at e
      · obtain ⟨s2, kp⟩ := around_kept o hp s1 e
        exact s2.ok fun z => by rw [kp.wt, w1] at z; cases z
      · cases e
        exact s1.ok fun z => by rw [w1] at z; cases z
  | leave q =>
    have e : leaveC fm r q d [] = .ok d' t' := e
    obtain ⟨s1, w1, q1⟩ := leaveS_sd (r := r) (q := q) s.w []
    obtain ⟨s2, kp⟩ := around_kept o k s1 e
    refine s2.ok fun z => ?_
    rw [kp.wt, w1] at z
    refine ⟨(s.wt z).1, fun q0 => (s.wt z).2 ?_⟩
    have := kp.ql
    rw [q0, q1] at this
    exact List.length_eq_zero_iff.mp (by simpa using this)
  | send =>
    have e : sendC fm r d [] = .ok d' t' := e
    unfold sendC at e
    split at e
    · cases e; exact s
    · rename_i hw
      cases hc : checksC fm fm.fields (showsC fm fm.fields.length d []).1 (showsC fm fm.fields.length d []).2 with
      | many m => rw [hc] at e; cases e
      | ok d2 t2 =>
        rw [hc] at e
        obtain ⟨s2, kp⟩ := checks_kept o (fun q hq => hq) (s.w.shows [] fm.fields.length) hc
        have w2 : d2.wait = false := by
          rw [kp.wt, (showsC_wait fm d [] fm.fields.length).1]
          simpa using hw
        have e : Rz.ok (endSend r d2 t2).1 (endSend r d2 t2).2 = .ok d' t' := e
        injection e with e1 e2
        rw [← e1]
        unfold endSend
        split
        · exact s2.ok fun z => by rw [w2] at z; cases z
        · split
          · exact s2.ok fun z => by rw [w2] at z; cases z
          · rename_i h1
            split
            · rename_i h3
              exact (s2.wait true).ok fun _ => ⟨h3, fun z => h1 (.inl z)⟩
            · exact s2.ok fun z => by rw [w2] at z; cases z
  | answer i =>
    have e : Rz.of (answerC fm r i d []) = .ok d' t' := e
    unfold Rz.of at e
    injection e with e1 e2
    rw [← e1]
    unfold answerC
    cases hq : d.quest[i]? with
    | none => exact s
    | some x =>
      obtain ⟨m, w, nw⟩ := x
      obtain ⟨q, hp, hf, rfl, hw, ef⟩ := quest_at o s.w hq
      simp only [ef]
      have s1 : SdW fm { d with quest := d.quest.eraseIdx i } := { s.w with ql := (show ((d.quest.eraseIdx i).length : Int) ≤ fm.room by have := List.length_eraseIdx_le d.quest i; have := s.ql; omega), qn := fun u hu => s.qn u (List.mem_of_mem_eraseIdx hu) }
      obtain ⟨s2, w2, q2⟩ := take_sd o (r := r) (nw := nw) hp hf hw s1
      unfold answerP
      exact rest_sd s2 (fun z => by rw [w2] at z; exact (s.wt z).1) _
  | reset =>
    have e : Rz.of (resetV fm d []) = .ok d' t' := e
    unfold Rz.of at e
    injection e with e1 e2
    rw [← e1]
    refine SdW.ok ?_ fun z => by
      have : (resetV fm d []).1.wait = false := endV_wait _ _
      rw [this] at z; cases z
    refine SdW.endw ?_ _
    refine ⟨⟨firsts_len fm, fun s hs => ?_⟩, by simp, by simp, fun s hs => ?_, s.kl, s.kn, s.ql, s.qn⟩
    · obtain ⟨p, hp, rfl⟩ := List.mem_map.mp hs
      exact (o.fs p hp).first
    · exact absurd hs (by simp)
def EvOk (fm : Fm) : Ev → Prop
  | .entered n w => n ∈ fm.names ∧ w ∈ fm.words
  | .dropped => True
  | .opened n => n ∈ fm.names
  | .wiped n => n ∈ fm.names
  | .checked n e => n ∈ fm.names ∧ ∀ s, e = some s → Nm s
  | .asked n w => n ∈ farNames fm ∧ w ∈ fm.words
  | .answered n w e _ => ∃ q ∈ fm.fields, q.2.far.isSome = true ∧ n = q.1 ∧ w ∈ fm.words ∧ e = farV fm q w
  | .sent ws => WsOk fm ws
  | .waits => True
  | .held => True
  | .reset => True
abbrev EvsOk (fm : Fm) (t : List Ev) : Prop := ∀ e ∈ t, EvOk fm e
theorem EvsOk.snoc {fm : Fm} {t : List Ev} (h : EvsOk fm t) {e : Ev} (he : EvOk fm e) : EvsOk fm (t ++ [e]) := fun x hx => by
  rcases List.mem_append.mp hx with z | z
  · exact h x z
  · simp at z; rw [z]; exact he
theorem EvsOk.nil {fm : Fm} : EvsOk fm [] := fun x hx => by cases hx
theorem ask_evs {fm : Fm} {n w : Str} {d d' : Sd} {t t' : List Ev} (hn : n ∈ farNames fm) (hw : w ∈ fm.words) (h : EvsOk fm t) (e : askC fm n w d t = .ok d' t') : EvsOk fm t' := by
  unfold askC at e
  split at e
  · cases e; exact h
  · split at e
    · cases e
    · cases e; exact h.snoc ⟨hn, hw⟩
theorem check_evs {fm : Fm} (o : FmOk fm) {p : Str × Fd} (hp : p ∈ fm.fields) {d d' : Sd} {t t' : List Ev} (s : SdW fm d) (h : EvsOk fm t) (e : checkC fm p d t = .ok d' t') : EvsOk fm t' := by
  have h1 : EvsOk fm (t ++ [.checked p.1 (entryC fm p d).1]) := h.snoc ⟨mem_names hp, fun _ z => entry_nm o s hp z⟩
  unfold checkC at e
  split at e
  · rename_i ha
    exact ask_evs (far_names hp (entry_asks ha)) (s.ws.at (mem_names hp)).2 h1 e
  · cases e; exact h1
theorem checks_evs {fm : Fm} (o : FmOk fm) : ∀ {ps : List (Str × Fd)} {d d' : Sd} {t t' : List Ev}, (∀ p ∈ ps, p ∈ fm.fields) → SdW fm d → EvsOk fm t → checksC fm ps d t = .ok d' t' → EvsOk fm t'
  | [], d, d', t, t', _, s, h, e => by cases e; exact h
  | p :: ps, d, d', t, t', hp, s, h, e => by
    unfold checksC at e
    cases h1 : checkC fm p d t with
    | many n => rw [h1] at e; cases e
    | ok d1 t1 =>
      rw [h1] at e
      exact checks_evs o (fun q hq => hp q (.tail _ hq)) (check_kept o (hp p (.head _)) s h1).1 (check_evs o (hp p (.head _)) s h h1) e
theorem endV_evs {fm : Fm} {d : Sd} {t : List Ev} (h : EvsOk fm t) : EvsOk fm (endV d t).2 := by
  unfold endV
  split
  · exact h.snoc trivial
  · exact h
theorem showC_evs {fm : Fm} {i : Nat} (hi : i < fm.fields.length) {d : Sd} {t : List Ev} (h : EvsOk fm t) : EvsOk fm (showC fm i d t).2 := by
  unfold showC
  split
  · refine h.snoc ?_
    show W3.nameAt fm i ∈ fm.names
    have : i < fm.names.length := by simp [Fm.names, hi]
    simp [W3.nameAt, this]
  · exact h
theorem showsC_evs {fm : Fm} {d : Sd} {t : List Ev} (h : EvsOk fm t) : ∀ k, k ≤ fm.fields.length → EvsOk fm (showsC fm k d t).2
  | 0, _ => h
  | k + 1, hk => showC_evs (by omega) (showsC_evs h k (by omega))
theorem wipeC_evs {fm : Fm} {r : Ru} {n : Str} {i : Nat} {d : Sd} {t : List Ev} (hn : n ∈ fm.names) (h : EvsOk fm t) : EvsOk fm (wipeC r n i d t).2 := by
  unfold wipeC
  split
  · exact h.snoc hn
  · exact h
theorem enterS_evs {fm : Fm} {r : Ru} {q : Str × Fd} {w : Str} {d : Sd} {t : List Ev} (hp : q ∈ fm.fields) (hw : w ∈ fm.words) (h : EvsOk fm t) : EvsOk fm (enterS fm r q w d t).2 := by
  unfold enterS
  refine wipeC_evs (mem_names hp) ?_
  have h1 : EvsOk fm (enter1 fm q w d t).2 := endV_evs (h.snoc ⟨mem_names hp, hw⟩)
  unfold enter2
  split
  · exact showC_evs (fIx_lt hp) h1
  · exact h1
theorem leaveS_evs {fm : Fm} {r : Ru} {q : Str × Fd} {d : Sd} {t : List Ev} (hp : q ∈ fm.fields) (h : EvsOk fm t) : EvsOk fm (leaveS fm r q d t).2 := by
  unfold leaveS
  split
  · exact h
  · exact showC_evs (fIx_lt hp) h
theorem rest_evs {fm : Fm} {d : Sd} {t : List Ev} (w : WsOk fm d.words) (h : EvsOk fm t) : EvsOk fm (restC d t).2 ∧ (restC d t).2.length ≤ t.length + 1 := by
  unfold restC
  split
  · refine ⟨h.snoc ?_, by simp⟩
    split
    · trivial
    · exact w
  · exact ⟨h, by simp⟩
theorem endSend_evs {fm : Fm} {r : Ru} {d : Sd} {t : List Ev} (w : WsOk fm d.words) (h : EvsOk fm t) : EvsOk fm (endSend r d t).2 ∧ (endSend r d t).2.length = t.length + 1 := by
  unfold endSend
  split
  · exact ⟨h.snoc trivial, by simp⟩
  · split
    · exact ⟨h.snoc w, by simp⟩
    · split
      · exact ⟨h.snoc trivial, by simp⟩
      · exact ⟨h.snoc trivial, by simp⟩
theorem step_evs {fm : Fm} (o : FmOk fm) {r : Ru} {d d' : Sd} {D : Dd} {t' : List Ev} (s : SdOk fm r.sending d) (k : DdOk fm D) (e : stepC fm r D d = .ok d' t') : EvsOk fm t' ∧ t'.length ≤ 20 := by
  have f3 := o.f3
  cases D with
  | enter q w =>
    obtain ⟨hp, hw⟩ := k
    have e : enterC fm r q w d [] = .ok d' t' := e
    unfold enterC at e
    have l1 := enterS_len fm r q w d []
    have h1 := enterS_evs (r := r) (d := d) hp hw (EvsOk.nil (fm := fm))
    obtain ⟨s1, w1⟩ := enterS_sd (r := r) (q := q) s.w hw []
    split at e
    · cases e; exact ⟨.nil, by simp⟩
    · split at e
      · have tl := (around_kept o hp s1 e).2.tl
        simp at l1
        exact ⟨checks_evs o (around_mem hp).1 s1 h1 e, by omega⟩
      · cases e
        simp at l1
        exact ⟨h1, by omega⟩
  | leave q =>
    have e : leaveC fm r q d [] = .ok d' t' := e
    have l1 := leaveS_len fm r q d []
    simp at l1
    obtain ⟨s1, w1, q1⟩ := leaveS_sd (r := r) (q := q) s.w []
    have tl := (around_kept o k s1 e).2.tl
    exact ⟨checks_evs o (around_mem k).1 s1 (leaveS_evs k .nil) e, by omega⟩
  | send =>
    have e : sendC fm r d [] = .ok d' t' := e
    unfold sendC at e
    split at e
    · cases e; exact ⟨.nil, by simp⟩
    · cases hc : checksC fm fm.fields (showsC fm fm.fields.length d []).1 (showsC fm fm.fields.length d []).2 with
      | many m => rw [hc] at e; cases e
      | ok d2 t2 =>
        rw [hc] at e
        obtain ⟨s2, kp⟩ := checks_kept o (fun q hq => hq) (s.w.shows [] fm.fields.length) hc
        have e : Rz.ok (endSend r d2 t2).1 (endSend r d2 t2).2 = .ok d' t' := e
        injection e with e1 e2
        rw [← e2]
        have h2 := checks_evs o (fun q hq => hq) (s.w.shows [] fm.fields.length) (showsC_evs .nil _ (Nat.le_refl _)) hc
        obtain ⟨h3, l3⟩ := endSend_evs (r := r) s2.ws h2
        have l1 := showsC_len fm d [] fm.fields.length
        have tl := kp.tl
        simp at l1
        exact ⟨h3, by omega⟩
  | answer i =>
    have e : Rz.of (answerC fm r i d []) = .ok d' t' := e
    unfold Rz.of at e
    injection e with e1 e2
    rw [← e2]
    unfold answerC
    cases hq : d.quest[i]? with
    | none => exact ⟨.nil, by simp⟩
    | some x =>
      obtain ⟨m, w, nw⟩ := x
      obtain ⟨q, hp, hf, rfl, hw, ef⟩ := quest_at o s.w hq
      simp only [ef]
      unfold answerP
      have ww : WsOk fm (takeC fm r q w nw { d with quest := d.quest.eraseIdx i }).words := by
        unfold takeC
        split
        · exact s.ws
        · exact s.ws
      obtain ⟨h1, l1⟩ := rest_evs (t := [] ++ [.answered q.1 w (farV fm q w) (takenC fm r q w nw { d with quest := d.quest.eraseIdx i })]) ww (EvsOk.nil.snoc (show EvOk fm (.answered q.1 w (farV fm q w) (takenC fm r q w nw { d with quest := d.quest.eraseIdx i })) from ⟨q, hp, hf, rfl, hw, rfl⟩))
      exact ⟨h1, by simp at l1 ⊢; omega⟩
  | reset =>
    have e : Rz.of (resetV fm d []) = .ok d' t' := e
    unfold Rz.of at e
    injection e with e1 e2
    rw [← e2]
    unfold resetV
    refine ⟨endV_evs (EvsOk.nil.snoc trivial), Nat.le_trans (endV_len _ _) (by simp)⟩
theorem flat_ent (x : Ent) : flatT (tE x) = true := by cases x <;> rfl
theorem pure_ev {fm : Fm} (o : FmOk fm) {e : Ev} (h : EvOk fm e) : PureT 2 e.t := by
  have f3 := o.f3
  cases e with
  | sent ws =>
    refine PureT.tup (by simp) fun t ht => ?_
    simp at ht
    rcases ht with rfl | rfl
    · exact .inl rfl
    · refine pure_strs (fun t ht => by obtain ⟨s, _, rfl⟩ := List.mem_map.mp ht; rfl) ?_
      rw [List.length_map, (show WsOk fm ws from h).len]; omega
  | checked n e => exact pure_strs (n := 1) (fun t ht => by simp at ht; rcases ht with rfl | rfl | rfl <;> first | rfl | exact flat_ent _) (by simp)
  | answered n w e k => exact pure_strs (n := 1) (fun t ht => by simp at ht; rcases ht with rfl | rfl | rfl | rfl | rfl <;> first | rfl | exact flat_ent _) (by simp)
  | _ => exact pure_strs (n := 1) (fun t ht => by simp at ht; rcases ht with rfl | rfl | rfl <;> rfl) (by simp)
theorem pure_evs {fm : Fm} (o : FmOk fm) {t : List Ev} (h : EvsOk fm t) (hl : t.length ≤ 100) : PureT 3 (.tup (tEs t)) :=
  PureT.tup (by rw [List.length_map]; omega) fun x hx => by
    obtain ⟨e, he, rfl⟩ := List.mem_map.mp hx
    exact pure_ev o (h e he)
theorem pure_sd {fm : Fm} (o : FmOk fm) {d : Sd} (s : SdW fm d) : PureT 4 d.t := by
  have f3 := o.f3
  have ql := s.ql; have r3 := o.r3
  refine PureT.tup (by simp) fun t ht => ?_
  simp only [List.mem_cons, List.not_mem_nil, or_false] at ht
  rcases ht with rfl | rfl | rfl | rfl | rfl | rfl
  · exact pure_strs (fun t ht => by obtain ⟨s, _, rfl⟩ := List.mem_map.mp ht; rfl) (by rw [List.length_map, s.ws.len]; omega)
  · exact pure_strs (fun t ht => by obtain ⟨s, _, rfl⟩ := List.mem_map.mp ht; rfl) (by rw [List.length_map, s.sl]; omega)
  · exact pure_strs (fun t ht => by obtain ⟨s, _, rfl⟩ := List.mem_map.mp ht; exact flat_ent _) (by rw [List.length_map, s.ml]; omega)
  · refine PureT.tup (by rw [List.length_map, s.kl]; omega) fun t ht => ?_
    obtain ⟨k, _, rfl⟩ := List.mem_map.mp ht
    rcases k with _ | ⟨w, e⟩
    · exact .inl rfl
    · exact pure_strs (fun t ht => by simp at ht; rcases ht with rfl | rfl; rfl; exact flat_ent _) (by simp)
  · refine PureT.tup (by rw [List.length_map]; omega) fun t ht => ?_
    obtain ⟨k, _, rfl⟩ := List.mem_map.mp ht
    exact pure_strs (fun t ht => by simp at ht; rcases ht with rfl | rfl | rfl <;> rfl) (by simp)
  · exact .inl rfl
theorem pure_dd {fm : Fm} {D : Dd} (k : DdOk fm D) : PureT 1 D.t := wholeL_pure (dd_mem k)
end W3
end

section
namespace W3
open PySem
structure Made (h : Hh) (l ln ar lf : Nat) (fm : Fm) (r : Ru) : Prop where
  o : FmOk fm
  ro : RuOk r
  bx : IsBox h l
  nm : lstAt h ln = some (tSs fm.names)
  ra : RuleAt h ar r
  fa : FormAt h lf fm
  nl : ln ≠ l
  al : ar ≠ l
  fl : lf ≠ l
theorem Made.up {h h' : Hh} {l ln ar lf : Nat} {fm : Fm} {r : Ru} (m : Made h l ln ar lf fm r) (u : Up l h h') : Made h' l ln ar lf fm r :=
  ⟨m.o, m.ro, u.box, u.lst m.nm m.nl, m.ra.upK u m.al, m.fa.upK u m.fl, m.nl, m.al, m.fl⟩
theorem Made.app {h : Hh} {l ln ar lf : Nat} {fm : Fm} {r : Ru} (m : Made h l ln ar lf fm r) (o : Hh) : Made (h ++ o) l ln ar lf fm r := m.up (Up.app m.bx o)
theorem Made.nlt {h : Hh} {l ln ar lf : Nat} {fm : Fm} {r : Ru} (m : Made h l ln ar lf fm r) : ln < h.length := lstAt_lt m.nm
theorem Made.kp {h h' : Hh} {l ln ar lf n : Nat} {fm : Fm} {r : Ru} (m : Made h l ln ar lf fm r) (u : Kp l n h h') (hn : h.length ≤ n) : Made h' l ln ar lf fm r := by
  refine ⟨m.o, m.ro, u.box, u.lst m.nm (by have := m.nlt; omega) m.nl, ?_, ?_, m.nl, m.al, m.fl⟩
  · unfold RuleAt
    rw [u.keep ar (by have := m.ra.lt; omega) m.al]
    exact m.ra
  · unfold FormAt
    rw [u.keep lf (by have := m.fa.lt; omega) m.fl]
    exact m.fa
end W3
end

section
namespace W3
open PySem
end W3
end

section
namespace W3
open PySem
def Ev.w : Ev → Str
  | .entered _ _ => "entered"
  | .dropped => "dropped"
  | .opened _ => "opened"
  | .wiped _ => "wiped"
  | .checked _ _ => "checked"
  | .asked _ _ => "asked"
  | .answered _ _ _ _ => "answered"
  | .sent _ => "sent"
  | .waits => "waits"
  | .held => "held"
  | .reset => "reset"
def Ev.args : Ev → List T
  | .entered n w => [.str n, .str w]
  | .dropped => []
  | .opened n => [.str n]
  | .wiped n => [.str n]
  | .checked n e => [.str n, tE e]
  | .asked n w => [.str n, .str w]
  | .answered n w e k => [.str n, .str w, tE e, .bl k]
  | .sent ws => [.tup (tSs ws)]
  | .waits => []
  | .held => []
  | .reset => []
def is_sent : Ev → Bool | .sent _ => true | _ => false
def chk1 : Ev → Option Str | .checked n _ => some n | _ => none
def chk (t : List Ev) : List Str := t.filterMap chk1
theorem chk_app (t u : List Ev) : chk (t ++ u) = chk t ++ chk u := List.filterMap_append
def openS (fm : Fm) (sh : List Bool) (p : Str × Fd) : Bool := (sh[fIx fm p.1]?).getD false
def shS (fm : Fm) (q : Str × Fd) (b : Bool) (sh : List Bool) : List Bool := if b = true then sh.set (fIx fm q.1) true else sh
theorem showC_sh {fm : Fm} {i : Nat} {d : Sd} (hi : i < d.shown.length) (t : List Ev) : (showC fm i d t).1.shown = d.shown.set i true := by
  unfold showC
  split
  · rfl
  · rename_i h
    apply List.ext_getElem?
    intro j
    by_cases e : i = j
    · subst e
      rw [List.getElem?_set_self hi]
      have : d.shown[i]? = some d.shown[i] := by simp [hi]
      rw [this] at h ⊢
      simpa using h
    · rw [List.getElem?_set_ne e]
theorem endV_sh (d : Sd) (t : List Ev) : (endV d t).1.shown = d.shown ∧ chk (endV d t).2 = chk t := by
  unfold endV
  split
  · exact ⟨rfl, by rw [chk_app]; exact List.append_nil _⟩
  · exact ⟨rfl, rfl⟩
theorem showC_chk (fm : Fm) (i : Nat) (d : Sd) (t : List Ev) : chk (showC fm i d t).2 = chk t := by
  unfold showC
  split
  · rw [chk_app]; exact List.append_nil _
  · rfl
theorem wipeC_sh (r : Ru) (n : Str) (i : Nat) (d : Sd) (t : List Ev) : (wipeC r n i d t).1.shown = d.shown ∧ chk (wipeC r n i d t).2 = chk t := by
  unfold wipeC
  split
  · exact ⟨rfl, by rw [chk_app]; exact List.append_nil _⟩
  · exact ⟨rfl, rfl⟩
theorem enterS_sh {fm : Fm} {r : Ru} {q : Str × Fd} {w : Str} {d : Sd} (hi : fIx fm q.1 < d.shown.length) : (enterS fm r q w d []).1.shown = shS fm q (decide (r.opens = "enter")) d.shown ∧ chk (enterS fm r q w d []).2 = [] := by
  obtain ⟨w1, w2⟩ := wipeC_sh r q.1 (fIx fm q.1) (enter2 fm r q (enter1 fm q w d [])).1 (enter2 fm r q (enter1 fm q w d [])).2
  obtain ⟨e1, e2⟩ := endV_sh { d with words := d.words.set (fIx fm q.1) w } ([] ++ [.entered q.1 w])
  unfold enterS
  rw [w1, w2]
  unfold enter2 shS
  have f1 : (enter1 fm q w d []).1.shown = d.shown := e1
  have f2 : chk (enter1 fm q w d []).2 = [] := e2
  by_cases ho : r.opens = "enter"
  · rw [if_pos ho, decide_eq_true ho, if_pos rfl, showC_chk, showC_sh (by rw [f1]; exact hi), f1]
    exact ⟨rfl, f2⟩
  · rw [if_neg ho, decide_eq_false ho, if_neg (by simp)]
    exact ⟨f1, f2⟩
end W3
end

section
namespace W3
open PySem
def topT (p : Pl) (b : Bool) : List T := [.ref p.w, .ref p.s, .ref p.m, .ref p.k, .ref p.q, .bl b]
structure LSt (n : Nat) (h : Hh) (ls : Nat) (p : Pl) (d : Sd) : Prop where
  top : lstAt h ls = some (topT p d.wait)
  ww : lstAt h p.w = some (tSs d.words)
  ss : lstAt h p.s = some (d.shown.map T.bl)
  mm : lstAt h p.m = some (d.mess.map tE)
  kk : lstAt h p.k = some (d.known.map tK)
  qq : lstAt h p.q = some (d.quest.map tQ)
  nd : (ls ≠ p.w ∧ ls ≠ p.s ∧ ls ≠ p.m ∧ ls ≠ p.k ∧ ls ≠ p.q) ∧ (p.w ≠ p.s ∧ p.w ≠ p.m ∧ p.w ≠ p.k ∧ p.w ≠ p.q) ∧ (p.s ≠ p.m ∧ p.s ≠ p.k ∧ p.s ≠ p.q) ∧ (p.m ≠ p.k ∧ p.m ≠ p.q) ∧ p.k ≠ p.q
  lo : n ≤ ls ∧ n ≤ p.w ∧ n ≤ p.s ∧ n ≤ p.m ∧ n ≤ p.k ∧ n ≤ p.q
section
variable {n : Nat} {h : Hh} {ls : Nat} {p : Pl} {d : Sd}
theorem LSt.llt (c : LSt n h ls p d) : ls < h.length := lstAt_lt c.top
theorem LSt.nl (c : LSt n h ls p d) : n ≤ h.length := Nat.le_of_lt (Nat.lt_of_le_of_lt c.lo.1 c.llt)
theorem LSt.app (c : LSt n h ls p d) (o : Hh) : LSt n (h ++ o) ls p d := ⟨lstAt_app o c.top, lstAt_app o c.ww, lstAt_app o c.ss, lstAt_app o c.mm, lstAt_app o c.kk, lstAt_app o c.qq, c.nd, c.lo⟩
theorem LSt.lts (c : LSt n h ls p d) : p.w < h.length ∧ p.s < h.length ∧ p.m < h.length ∧ p.k < h.length ∧ p.q < h.length := ⟨lstAt_lt c.ww, lstAt_lt c.ss, lstAt_lt c.mm, lstAt_lt c.kk, lstAt_lt c.qq⟩
theorem LSt.wait (c : LSt n h ls p d) (b : Bool) : LSt n (h.set ls (.lst (topT p b))) ls p { d with wait := b } := by
  obtain ⟨⟨nlw, nls, nlm, nlk, nlq⟩, _⟩ := c.nd
  exact ⟨lstAt_set_self c.llt, by rw [lstAt_set_ne nlw]; exact c.ww, by rw [lstAt_set_ne nls]; exact c.ss, by rw [lstAt_set_ne nlm]; exact c.mm, by rw [lstAt_set_ne nlk]; exact c.kk, by rw [lstAt_set_ne nlq]; exact c.qq, c.nd, c.lo⟩
end
end W3
end

section
namespace W3
open PySem
section
variable {fm : Fm} {r : Ru} {k : Nat} {s : Sd}
end
structure RpOk (fm : Fm) (s : Sd) : Prop where
  ws : WsOk fm s.words
  sl : s.shown.length = fm.fields.length
  ml : s.mess.length = fm.fields.length
  kl : s.known.length = fm.fields.length
  ql : s.quest.length ≤ 100
end W3
end

section
namespace W3
open PySem
def nearRows : Nr → List (List Ent) | .alone r => [r] | .looks _ rs => rs
def farRows : Option (List Ent) → List (List Ent) | none => [] | some r => [r]
def rowsOf (f : Fd) : List (List Ent) := nearRows f.nr ++ farRows f.far
def notesOf (f : Fd) : List Str := (rowsOf f).flatMap fun r => r.filterMap id
def MessOk (fm : Fm) (sh : List Bool) (ms : List Ent) : Prop := ∀ (i : Nat) (q : Str × Fd) (s : Str), fm.fields[i]? = some q → ms[i]? = some (some s) → sh[i]? = some true ∧ s ∈ notesOf q.2
def QuestOk (qs : List Qn) : Prop := qs.Pairwise fun a b => a.1 = b.1 → a.2.2 = false
structure Rc (fm : Fm) (d : Sd) : Prop where
  m : MessOk fm d.shown d.mess
  q : QuestOk d.quest
theorem MessOk.set {fm : Fm} (o : FmOk fm) {sh : List Bool} {ms : List Ent} (h : MessOk fm sh ms) {p : Str × Fd} (hp : p ∈ fm.fields) {e : Ent} (he : ∀ s, e = some s → sh[fIx fm p.1]? = some true ∧ s ∈ notesOf p.2) : MessOk fm sh (ms.set (fIx fm p.1) e) := by
  intro i q s hi hm
  by_cases c : fIx fm p.1 = i
  · subst c
    have ef := fIx_get o hp
    rw [ef] at hi
    cases hi
    by_cases hl : fIx fm p.1 < ms.length
    · rw [List.getElem?_set_self hl] at hm
      injection hm with hm
      exact he s hm
    · rw [List.getElem?_eq_none (by rw [List.length_set]; omega)] at hm
      cases hm
  · rw [List.getElem?_set_ne c] at hm
    exact h i q s hi hm
theorem MessOk.show {fm : Fm} {sh : List Bool} {ms : List Ent} (h : MessOk fm sh ms) (j : Nat) : MessOk fm (sh.set j true) ms := by
  intro i q s hi hm
  obtain ⟨h1, h2⟩ := h i q s hi hm
  refine ⟨?_, h2⟩
  by_cases c : j = i
  · subst c
    rw [List.getElem?_set_self (List.getElem?_eq_some_iff.mp h1).1]
  · rw [List.getElem?_set_ne c]; exact h1
theorem QuestOk.erase {qs : List Qn} (h : QuestOk qs) (i : Nat) : QuestOk (qs.eraseIdx i) := List.Pairwise.sublist (List.eraseIdx_sublist qs i) h
def startD (fm : Fm) : Sd := ⟨fm.firsts, List.replicate fm.fields.length false, List.replicate fm.fields.length none, List.replicate fm.fields.length none, [], false⟩
theorem start_ok {fm : Fm} (o : FmOk fm) (s : Str) : SdOk fm s (startD fm) := by
  refine ⟨⟨firsts_len fm, fun s hs => ?_⟩, by simp [startD], by simp [startD], fun s hs => ?_, by simp [startD], fun q hq w e he => ?_, by have := o.r1; simp [startD]; omega, fun q hq => (by cases hq), fun z => (by cases z)⟩
  · obtain ⟨p, hp, rfl⟩ := List.mem_map.mp hs
    exact (o.fs p hp).first
  · exact absurd hs (by simp [startD])
  · have := (List.of_mem_zip hq).2
    rw [List.eq_of_mem_replicate this] at he
    cases he
end W3
end

section
namespace W3
open PySem
structure Began (h : Hh) (l ln : Nat) (fm : Fm) : Prop where
  o : FmOk fm
  bx : IsBox h l
  nm : lstAt h ln = some (tSs fm.names)
  nl : ln ≠ l
theorem Began.up {h h' : Hh} {l ln : Nat} {fm : Fm} (m : Began h l ln fm) (u : Up l h h') : Began h' l ln fm := ⟨m.o, u.box, u.lst m.nm m.nl, m.nl⟩
theorem Began.app {h : Hh} {l ln : Nat} {fm : Fm} (m : Began h l ln fm) (o : Hh) : Began (h ++ o) l ln fm := m.up (Up.app m.bx o)
end W3
end

section
namespace W3
open PySem
def Rz.pre (t : List Ev) : Rz → Rz | .ok d u => .ok d (t ++ u) | .many n => .many n
def notWiped : Ev → Bool | .wiped _ => false | _ => true
def Rz.Lk : Rz → Rz → Prop
  | .ok d t, .ok d' t' => d = d' ∧ t.filter notWiped = t'.filter notWiped
  | .many n, .many m => n = m
  | _, _ => False
theorem Rz.Lk.refl (x : Rz) : x.Lk x := by cases x <;> simp [Rz.Lk]
theorem Lk.pre {x : Rz} {t u : List Ev} (h : t.filter notWiped = u.filter notWiped) : (x.pre t).Lk (x.pre u) := by
  cases x with
  | ok d v => simp [Rz.pre, Rz.Lk, h]
  | many n => simp [Rz.pre, Rz.Lk]
theorem showC_1 {fm : Fm} {i : Nat} {d : Sd} (hi : i < d.shown.length) (t : List Ev) : (showC fm i d t).1 = { d with shown := d.shown.set i true } := by
  have h := showC_sh (fm := fm) hi t
  unfold showC at h ⊢
  split
  · rfl
  · rename_i q
    rw [if_neg q] at h
    have h : d.shown = d.shown.set i true := h
    rw [← h]
theorem showsC_1 (fm : Fm) (d : Sd) (t : List Ev) : ∀ k, k ≤ d.shown.length → (showsC fm k d t).1 = { d with shown := List.replicate k true ++ d.shown.drop k }
  | 0, _ => by simp [showsC]
  | k + 1, hk => by
    have ih := showsC_1 fm d t k (by omega)
    have hl : (showsC fm k d t).1.shown.length = d.shown.length := by rw [ih]; simp; omega
    show (showC fm k (showsC fm k d t).1 _).1 = _
    rw [showC_1 (by omega), ih]
    have e : (List.replicate k true ++ d.shown.drop k).set k true = List.replicate (k + 1) true ++ d.shown.drop (k + 1) := by
      rw [List.set_append_right _ _ (by simp), List.length_replicate, Nat.sub_self, List.drop_eq_getElem_cons (by omega), List.set_cons_zero, List.replicate_succ']
      simp
    simp only [e]
end W3
end

section
namespace W3
open PySem
def six (r : Ru) : List T := [.str r.opens, .str r.checks, r.around.t, .bl r.wipes, .str r.taken, .str r.sending]
def strT : T → Str | .str s => s | _ => ⟨#[]⟩
def blT : T → Bool | .bl b => b | _ => false
def aroT : T → Aro | .tup ts => .pairs (sortP (ts.map prOf)) | .str s => .word s | _ => .word ⟨#[]⟩
def s6 (p k : Str) (v x : T) : T := if p = k then v else x
def putR (p : Str) (v : T) (r : Ru) : Ru := { opens := if p = "opens" then strT v else r.opens, checks := if p = "checks" then strT v else r.checks, around := if p = "around" then aroT v else r.around, wipes := if p = "wipes" then blT v else r.wipes, taken := if p = "taken" then strT v else r.taken, sending := if p = "sending" then strT v else r.sending }
theorem fit_wipes (b : Bool) : fitsB "wipes" (.bl b) = true := by
  unfold fitsB
  rw [if_pos rfl]
  rfl
structure Chg (p : Str) (v : T) (r : Ru) (h : Hh) : Prop where
  ok : RuOk (putR p v r)
  ne : ruleErr PARTSL [s6 p "opens" v (.str r.opens), s6 p "checks" v (.str r.checks), s6 p "around" v r.around.t, s6 p "wipes" v (.bl r.wipes), s6 p "taken" v (.str r.taken), s6 p "sending" v (.str r.sending)] = none
  ins : ruleIns (s6 p "opens" v (.str r.opens)) (s6 p "checks" v (.str r.checks)) (s6 p "around" v r.around.t) (s6 p "wipes" v (.bl r.wipes)) (s6 p "taken" v (.str r.taken)) (s6 p "sending" v (.str r.sending)) = (putR p v r).ins
  j : ∀ x ∈ [s6 p "opens" v (.str r.opens), s6 p "checks" v (.str r.checks), s6 p "around" v r.around.t, s6 p "wipes" v (.bl r.wipes), s6 p "taken" v (.str r.taken), s6 p "sending" v (.str r.sending)], JdN 2 x h ∧ shortT x
def takesB (p v : T) : Bool := match p with | .str s => decide (s ∈ PARTSL) && fitsB s v | _ => false
def putP (p v : T) (r : Ru) : Ru := match p with | .str s => putR s v r | _ => r
def WithPW (f : Fn) : Prop := ∀ {h : Hh} {a : Nat} {r : Ru} {p v : T} {Q : T → Hh → Prop} {E : EQ}, RuleAt h a r → RuOk r → Jd p h → JdN 2 v h → shortT v → (takesB p v = true → RuOk (putP p v r) → ∀ b z, h.length ≤ b → RuleAt (h ++ z) b (putP p v r) → Q (.ref b) (h ++ z)) →
  (takesB p v = false → E "InvalidRule" [("part", p)] h) → (f [.ref a, p, v] h).wp Q E
theorem WithPW.good {f : Fn} (W : WithPW f) {h : Hh} {a : Nat} {r : Ru} {p : Str} {v : T} {Q : T → Hh → Prop} {E : EQ} (ra : RuleAt h a r) (o : RuOk r) (hp : p ∈ PARTSL) (hf : fitsB p v = true) (jv : JdN 2 v h) (sv : shortT v)
    (hq : ∀ b z, h.length ≤ b → RuOk (putR p v r) → RuleAt (h ++ z) b (putR p v r) → Q (.ref b) (h ++ z)) : (f [.ref a, .str p, v] h).wp Q E := by
  have pl : ∀ x ∈ PARTSL, x.length ≤ 1000 := by decide +kernel
  have ht : takesB (.str p) v = true := by simp only [takesB, hf, decide_eq_true hp, Bool.and_self]
  refine W ra o (show Jd (.str p) h from pl p hp) jv sv (fun _ o' b z bl ra' => hq b z bl o' ra') (fun hn => ?_)
  rw [ht] at hn
  cases hn
theorem WithPW.word {f : Fn} (W : WithPW f) {h : Hh} {a : Nat} {r : Ru} {p s : Str} {Q : T → Hh → Prop} {E : EQ} (ra : RuleAt h a r) (o : RuOk r) (hp : p ∈ PARTSL) (hf : fitsB p (.str s) = true) (hs : s.length ≤ 1000)
    (hq : ∀ b z, h.length ≤ b → RuOk (putR p (.str s) r) → RuleAt (h ++ z) b (putR p (.str s) r) → Q (.ref b) (h ++ z)) : (f [.ref a, .str p, .str s] h).wp Q E :=
  W.good ra o hp hf (jdN_str hs) (fun ts e => by cases e) hq
theorem WithPW.bool {f : Fn} (W : WithPW f) {h : Hh} {a : Nat} {r : Ru} {b : Bool} {Q : T → Hh → Prop} {E : EQ} (ra : RuleAt h a r) (o : RuOk r)
    (hq : ∀ x z, h.length ≤ x → RuOk { r with wipes := b } → RuleAt (h ++ z) x { r with wipes := b } → Q (.ref x) (h ++ z)) : (f [.ref a, .str "wipes", .bl b] h).wp Q E := by
  have e : putR "wipes" (.bl b) r = { r with wipes := b } := by kernel_rfl
  exact W.good ra o (by decide +kernel) (fit_wipes b) jdN_bl (fun ts e => by cases e) fun x z hx o' ra' => by rw [e] at o' ra'; exact hq x z hx o' ra'
theorem WithPW.pairs {f : Fn} (W : WithPW f) {h : Hh} {a : Nat} {r : Ru} {ps : Prs} {Q : T → Hh → Prop} {E : EQ} (ra : RuleAt h a r) (o : RuOk r) (po : PrsOk ps) (hl : ps.length < 64)
    (hq : ∀ x z, h.length ≤ x → RuOk { r with around := .pairs (sortP ps) } → RuleAt (h ++ z) x { r with around := .pairs (sortP ps) } → Q (.ref x) (h ++ z)) : (f [.ref a, .str "around", .tup (ps.map tPr)] h).wp Q E := by
  have e0 : putR "around" (.tup (ps.map tPr)) r = { r with around := aroT (.tup (ps.map tPr)) } := by kernel_rfl
  have e : putR "around" (.tup (ps.map tPr)) r = { r with around := .pairs (sortP ps) } := by
    rw [e0]
    simp only [aroT, prOf_tPr]
  have ml : MEN.lookup ("around" : Str) = some (["own", "looks"] : List Str) := by decide +kernel
  have hf : fitsB "around" (.tup (ps.map tPr)) = true := by
    unfold fitsB
    rw [if_neg (by decide +kernel), ml, pairsB_prs po]
    simp
  have nm : ∀ p ∈ ps, p.1.length ≤ 1000 ∧ p.2.length ≤ 1000 := fun p hp => ⟨Nat.le_trans (po.nm p hp).1.2.1 (by omega), Nat.le_trans (po.nm p hp).2.1.2.1 (by omega)⟩
  have jv : JdN 2 (.tup (ps.map tPr)) h := jdN_tup (by simp; omega) fun t ht => by
    obtain ⟨p, hp, rfl⟩ := List.mem_map.mp ht
    refine jdN_tup (by simp) fun t ht => ?_
    simp at ht
    rcases ht with rfl | rfl
    · exact jdN_str (nm p hp).1
    · exact jdN_str (nm p hp).2
  exact W.good ra o (by decide +kernel) hf jv (fun ts e => by cases e; simpa using hl) fun x z hx o' ra' => by rw [e] at o' ra'; exact hq x z hx o' ra'
theorem SameV.tup {h : Hh} {n : Nat} {ts us : List T} (hl : ts.length = us.length) (hz : ts.length ≤ 100000) (p : ∀ (i : Nat) (x y : T), ts[i]? = some x → us[i]? = some y → SameV h n x y) : SameV h (n + 1) (.tup ts) (.tup us) :=
  .inr ⟨ts, us, .inl ⟨rfl, rfl⟩, hl, hz, p⟩
theorem SameV.tup2 {h : Hh} {n : Nat} {a b a' b' : T} (p : SameV h n a a') (q : SameV h n b b') : SameV h (n + 1) (.tup [a, b]) (.tup [a', b']) :=
  SameV.tup rfl (by simp) fun i x y ex ey => by
    match i with
    | 0 => simp at ex ey; subst ex; subst ey; exact p
    | 1 => simp at ex ey; subst ex; subst ey; exact q
    | k + 2 => simp at ex
theorem SameV.tup3 {h : Hh} {n : Nat} {a b c a' b' c' : T} (p : SameV h n a a') (q : SameV h n b b') (r : SameV h n c c') : SameV h (n + 1) (.tup [a, b, c]) (.tup [a', b', c']) :=
  SameV.tup rfl (by simp) fun i x y ex ey => by
    match i with
    | 0 => simp at ex ey; subst ex; subst ey; exact p
    | 1 => simp at ex ey; subst ex; subst ey; exact q
    | 2 => simp at ex ey; subst ex; subst ey; exact r
    | k + 3 => simp at ex
end W3
end

section
namespace W3
open PySem
theorem field_name {fm : Fm} (o : FmOk fm) {p q : Str × Fd} (hp : p ∈ fm.fields) (hq : q ∈ fm.fields) (e : p.1 = q.1) : p = q := by
  have h1 := fIx_get o hp
  have h2 := fIx_get o hq
  rw [e] at h1
  rw [h1] at h2
  exact Option.some.inj h2
end W3
end

section
namespace W3
open PySem
abbrev Ft := Str × Str
def restF1 (fm : Fm) (d : Sd) (p : Str × Fd) : List Ft :=
  (if openC fm d p = true ∧ (rowAt d.mess (fIx fm p.1)).isSome = false ∧ (trueV fm d.words p).isSome = true then [(("unshown" : Str), p.1)] else []) ++
  (if openC fm d p = true ∧ (rowAt d.mess (fIx fm p.1)).isSome = true ∧ ¬ rowAt d.mess (fIx fm p.1) = trueV fm d.words p then [(("stale" : Str), p.1)] else [])
def restF (fm : Fm) (d : Sd) : List Ft := if d.quest ≠ [] ∨ d.wait = true then [] else fm.fields.flatMap (restF1 fm d)
def sentF (fm : Fm) (ws : List Str) : List Ft := (fm.fields.filter fun p => (trueV fm ws p).isSome).map fun p => (("sent" : Str), p.1)
def evF1 (fm : Fm) (d : Sd) : Ev → List Ft
  | .answered n w _ tk => if tk = true ∧ ¬ wAt fm d.words n = w then [(("elder" : Str), n)] else []
  | .sent _ => sentF fm d.words ++ (if d.quest = [] then [] else [(("early" : Str), (⟨#[]⟩ : Str))])
  | _ => []
def evF (fm : Fm) (d : Sd) (t : List Ev) : List Ft := t.flatMap (evF1 fm d)
def KINDSL : List Str := ["unshown", "stale", "elder", "sent", "early", "stuck", "full"]
def foundF (fm : Fm) (d : Sd) (t : List Ev) : List Ft := restF fm d ++ evF fm d t
def names0 (fm : Fm) : List Str := fm.names ++ [⟨#[]⟩]
def faultsF (fm : Fm) (d : Sd) (t : List Ev) : List Ft := KINDSL.flatMap fun k => ((names0 fm).filter fun n => decide ((k, n) ∈ foundF fm d t)).map fun n => (k, n)
theorem StepAt.fz {h h' : Hh} {n l : Nat} {d b a e : T} (s : StepAt h l d b a e) (u : Fz n h h') (hl : l < n) : StepAt h' l d b a e := by
  unfold StepAt at s ⊢
  rw [u.2 l hl]
  exact s
end W3
namespace W3
open PySem
end W3
end

section
namespace W3
open PySem
theorem entry_congr (fm : Fm) (p : Str × Fd) {d d' : Sd} (hw : d'.words = d.words) (hk : d'.known = d.known) : entryC fm p d' = entryC fm p d := by
  unfold entryC
  rw [hw, hk]
theorem row_set_eq {xs : List Ent} {i : Nat} (hi : i < xs.length) (e : Ent) : rowAt (xs.set i e) i = e := by
  unfold rowAt
  rw [List.getElem?_set_self hi]
  rfl
theorem row_set_ne {xs : List Ent} {i j : Nat} (h : i ≠ j) (e : Ent) : rowAt (xs.set i e) j = rowAt xs j := by
  unfold rowAt
  rw [List.getElem?_set_ne h]
structure Fresh (fm : Fm) (d : Sd) (p : Str × Fd) : Prop where
  m : rowAt d.mess (fIx fm p.1) = (entryC fm p d).1
  q : (entryC fm p d).2 = true → (p.1, wAt fm d.words p.1, true) ∈ d.quest
theorem fIx_inj {fm : Fm} (o : FmOk fm) {p q : Str × Fd} (hp : p ∈ fm.fields) (hq : q ∈ fm.fields) (h : p.1 ≠ q.1) : fIx fm p.1 ≠ fIx fm q.1 := fun e => by
  have h1 := fIx_get o hp
  have h2 := fIx_get o hq
  rw [e] at h1
  rw [h1] at h2
  exact h (congrArg Prod.fst (Option.some.inj h2))
theorem Fresh.to {fm : Fm} {d d' : Sd} {p : Str × Fd} (f : Fresh fm d p) (hw : d'.words = d.words) (hk : d'.known = d.known) (hm : rowAt d'.mess (fIx fm p.1) = rowAt d.mess (fIx fm p.1)) (hq : ∀ w, (p.1, w, true) ∈ d.quest → (p.1, w, true) ∈ d'.quest) : Fresh fm d' p := by
  have e := entry_congr fm p hw hk
  refine ⟨by rw [hm, e]; exact f.m, fun h => ?_⟩
  rw [e] at h
  rw [hw]
  exact hq _ (f.q h)
theorem ask_quest {fm : Fm} {n w : Str} {d d' : Sd} {t t' : List Ev} (e : askC fm n w d t = .ok d' t') : d'.mess = d.mess ∧ (n, w, true) ∈ d'.quest ∧ ∀ m v, m ≠ n → (m, v, true) ∈ d.quest → (m, v, true) ∈ d'.quest := by
  unfold askC at e
  split at e
  · rename_i h
    cases e
    exact ⟨rfl, h, fun m v _ hm => hm⟩
  · split at e
    · cases e
    · cases e
      refine ⟨rfl, by simp, fun m v hn hm => ?_⟩
      refine List.mem_append.mpr (.inl (List.mem_map.mpr ⟨_, hm, ?_⟩))
      unfold elder
      rw [decide_eq_false hn]
      simp
theorem check_quest {fm : Fm} {p : Str × Fd} {d d' : Sd} {t t' : List Ev} (e : checkC fm p d t = .ok d' t') : d'.mess = d.mess.set (fIx fm p.1) (entryC fm p d).1 ∧ ((entryC fm p d).2 = true → (p.1, wAt fm d.words p.1, true) ∈ d'.quest) ∧ (∀ m v, m ≠ p.1 → (m, v, true) ∈ d.quest → (m, v, true) ∈ d'.quest) ∧ ((entryC fm p d).2 = false → d'.quest = d.quest) := by
  unfold checkC at e
  split at e
  · rename_i h
    obtain ⟨h1, h2, h3⟩ := ask_quest e
    exact ⟨h1, fun _ => h2, h3, fun h' => by rw [h] at h'; cases h'⟩
  · rename_i h
    cases e
    exact ⟨rfl, fun h' => absurd h' h, fun m v _ hm => hm, fun _ => rfl⟩
theorem fresh_check {fm : Fm} (o : FmOk fm) {p : Str × Fd} (hp : p ∈ fm.fields) {d d' : Sd} {t t' : List Ev} (s : SdW fm d) (e : checkC fm p d t = .ok d' t') : Fresh fm d' p := by
  obtain ⟨h1, h2, _, _⟩ := check_quest e
  have kp := (check_kept o hp s e).2
  have en := entry_congr fm p kp.ws kp.kn
  refine ⟨?_, fun h => ?_⟩
  · rw [h1, row_set_eq (by rw [s.ml]; exact fIx_lt hp), en]
  · rw [en] at h
    rw [kp.ws]
    exact h2 h
theorem fresh_other {fm : Fm} (o : FmOk fm) {p q : Str × Fd} (hp : p ∈ fm.fields) (hq : q ∈ fm.fields) (hn : p.1 ≠ q.1) {d d' : Sd} {t t' : List Ev} (s : SdW fm d) (f : Fresh fm d p) (e : checkC fm q d t = .ok d' t') : Fresh fm d' p := by
  obtain ⟨h1, _, h3, _⟩ := check_quest e
  have kp := (check_kept o hq s e).2
  exact f.to kp.ws kp.kn (by rw [h1, row_set_ne (fIx_inj o hq hp (Ne.symm hn))]) fun w hw => h3 _ _ hn hw
theorem fresh_any {fm : Fm} (o : FmOk fm) {p q : Str × Fd} (hp : p ∈ fm.fields) (hq : q ∈ fm.fields) {d d' : Sd} {t t' : List Ev} (s : SdW fm d) (f : p = q ∨ Fresh fm d p) (e : checkC fm q d t = .ok d' t') : Fresh fm d' p := by
  by_cases h : p.1 = q.1
  · have := field_name o hp hq h
    subst this
    exact fresh_check o hp s e
  · rcases f with rfl | f
    · exact absurd rfl h
    · exact fresh_other o hp hq h s f e
theorem fresh_checks {fm : Fm} (o : FmOk fm) : ∀ {ps : List (Str × Fd)} {d d' : Sd} {t t' : List Ev}, (∀ p ∈ ps, p ∈ fm.fields) → SdW fm d → checksC fm ps d t = .ok d' t' → ∀ p ∈ fm.fields, (p ∈ ps ∨ Fresh fm d p) → Fresh fm d' p
  | [], d, d', t, t', _, _, e, p, _, h => by
    cases e
    rcases h with h | h
    · cases h
    · exact h
  | q :: ps, d, d', t, t', hps, s, e, p, hp, h => by
    unfold checksC at e
    cases h1 : checkC fm q d t with
    | many n => rw [h1] at e; cases e
    | ok d1 t1 =>
      rw [h1] at e
      have hq := hps q (.head _)
      have s1 := (check_kept o hq s h1).1
      refine fresh_checks o (fun p hp => hps p (.tail _ hp)) s1 e p hp ?_
      rcases h with h | h
      · rcases List.mem_cons.mp h with h | h
        · exact .inr (fresh_any o hp hq s (.inl h) h1)
        · exact .inl h
      · exact .inr (fresh_any o hp hq s (.inr h) h1)
end W3
end

section
namespace W3
open PySem
def AllFresh (fm : Fm) (d : Sd) : Prop := ∀ p ∈ fm.fields, Fresh fm d p ∧ openC fm d p = true
theorem name_field {fm : Fm} {n : Str} (h : n ∈ fm.names) : ∃ p ∈ fm.fields, p.1 = n := by
  obtain ⟨p, hp, rfl⟩ := List.mem_map.mp h
  exact ⟨p, hp, rfl⟩
theorem wAt_set_ne {fm : Fm} (o : FmOk fm) {q : Str × Fd} (hq : q ∈ fm.fields) {n : Str} (hn : n ∈ fm.names) (h : n ≠ q.1) (ws : List Str) (w : Str) : wAt fm (ws.set (fIx fm q.1) w) n = wAt fm ws n := by
  obtain ⟨p, hp, rfl⟩ := name_field hn
  unfold wAt
  rw [List.getElem?_set_ne (fIx_inj o hq hp (Ne.symm h))]
theorem open_set_ne {fm : Fm} (o : FmOk fm) {p q : Str × Fd} (hp : p ∈ fm.fields) (hq : q ∈ fm.fields) (h : p.1 ≠ q.1) (b : Bool) (sh : List Bool) : openS fm (shS fm q b sh) p = openS fm sh p := by
  unfold shS openS
  split
  · rw [List.getElem?_set_ne (fIx_inj o hq hp (Ne.symm h))]
  · rfl
theorem enterS_facts {fm : Fm} (r : Ru) (q : Str × Fd) (w : Str) (d : Sd) : (enterS fm r q w d []).1.words = d.words.set (fIx fm q.1) w ∧ (enterS fm r q w d []).1.known = d.known ∧ (enterS fm r q w d []).1.quest = d.quest ∧ ∀ j, fIx fm q.1 ≠ j → rowAt (enterS fm r q w d []).1.mess j = rowAt d.mess j := by
  have h1 : (enter1 fm q w d []).1.words = d.words.set (fIx fm q.1) w ∧ (enter1 fm q w d []).1.known = d.known ∧ (enter1 fm q w d []).1.quest = d.quest ∧ (enter1 fm q w d []).1.mess = d.mess := by
    unfold enter1 endV
    split <;> exact ⟨rfl, rfl, rfl, rfl⟩
  have h2 : (enter2 fm r q (enter1 fm q w d [])).1.words = d.words.set (fIx fm q.1) w ∧ (enter2 fm r q (enter1 fm q w d [])).1.known = d.known ∧ (enter2 fm r q (enter1 fm q w d [])).1.quest = d.quest ∧ (enter2 fm r q (enter1 fm q w d [])).1.mess = d.mess := by
    unfold enter2
    split
    · unfold showC
      split <;> exact h1
    · exact h1
  obtain ⟨a, b, c, e⟩ := h2
  unfold enterS wipeC
  split
  · exact ⟨a, b, c, fun j hj => by rw [row_set_ne hj, e]⟩
  · exact ⟨a, b, c, fun j hj => by rw [e]⟩
theorem leaveS_facts (fm : Fm) (r : Ru) (q : Str × Fd) (d : Sd) : (leaveS fm r q d []).1.words = d.words ∧ (leaveS fm r q d []).1.known = d.known ∧ (leaveS fm r q d []).1.quest = d.quest ∧ (leaveS fm r q d []).1.mess = d.mess ∧ (leaveS fm r q d []).1.wait = d.wait := by
  unfold leaveS showC
  split
  · exact ⟨rfl, rfl, rfl, rfl, rfl⟩
  · split <;> exact ⟨rfl, rfl, rfl, rfl, rfl⟩
theorem endSend_facts (r : Ru) (d : Sd) (t : List Ev) : (endSend r d t).1.words = d.words ∧ (endSend r d t).1.known = d.known ∧ (endSend r d t).1.quest = d.quest ∧ (endSend r d t).1.mess = d.mess ∧ (endSend r d t).1.shown = d.shown := by
  unfold endSend
  split
  · exact ⟨rfl, rfl, rfl, rfl, rfl⟩
  · split
    · exact ⟨rfl, rfl, rfl, rfl, rfl⟩
    · split <;> exact ⟨rfl, rfl, rfl, rfl, rfl⟩
theorem Fresh.same {fm : Fm} {d d' : Sd} {p : Str × Fd} (f : Fresh fm d p) (hw : d'.words = d.words) (hk : d'.known = d.known) (hm : d'.mess = d.mess) (hq : d'.quest = d.quest) : Fresh fm d' p := f.to hw hk (by rw [hm]) fun w h => by rw [hq]; exact h
theorem send_fresh {fm : Fm} (o : FmOk fm) {r : Ru} {d d2 : Sd} {t2 : List Ev} (s : SdW fm d) (e : checksC fm fm.fields (showsC fm fm.fields.length d []).1 (showsC fm fm.fields.length d []).2 = .ok d2 t2) : SdW fm d2 ∧ d2.words = d.words ∧ d2.wait = d.wait ∧ ∀ p ∈ fm.fields, Fresh fm d2 p ∧ openC fm d2 p = true := by
  obtain ⟨s2, kp⟩ := checks_kept o (fun q hq => hq) (s.shows [] fm.fields.length) e
  have h1 := showsC_1 fm d [] fm.fields.length (by rw [s.sl]; exact Nat.le_refl _)
  refine ⟨s2, by rw [kp.ws, h1], by rw [kp.wt, h1], fun p hp => ⟨fresh_checks o (fun q hq => hq) (s.shows [] fm.fields.length) e p hp (.inl hp), ?_⟩⟩
  unfold openC
  rw [kp.sh, h1]
  show ((List.replicate fm.fields.length true ++ d.shown.drop fm.fields.length)[fIx fm p.1]?).getD false = true
  rw [List.getElem?_append_left (by rw [List.length_replicate]; exact fIx_lt hp), List.getElem?_replicate, if_pos (fIx_lt hp)]
  rfl
end W3
end

section
namespace W3
open PySem
structure SentOk (fm : Fm) (d : Sd) (ws : List Str) : Prop where
  w : ws = d.words
  q : d.quest = []
  t : ∀ p ∈ fm.fields, trueV fm d.words p = none
end W3
end

section
namespace W3
open PySem
structure LastV (fm : Fm) (d : Sd) (p : Str × Fd) : Prop where
  o : openC fm d p = true
  n : nearV fm d.words p = none
  c : trueV fm d.words p = none ∨ (p.1, wAt fm d.words p.1, true) ∈ d.quest ∨
    (rowAt d.mess (fIx fm p.1) = trueV fm d.words p ∧ (trueV fm d.words p).isSome = true ∧ d.known[fIx fm p.1]? = some (some (wAt fm d.words p.1, trueV fm d.words p)) ∧ ∀ w, (p.1, w, true) ∉ d.quest)
theorem LastV.to {fm : Fm} {d d' : Sd} {p : Str × Fd} (f : LastV fm d p) (ho : openC fm d' p = true) (hw : d'.words = d.words) (hk : d'.known[fIx fm p.1]? = d.known[fIx fm p.1]?) (hm : rowAt d'.mess (fIx fm p.1) = rowAt d.mess (fIx fm p.1)) (hq : ∀ w, (p.1, w, true) ∈ d.quest ↔ (p.1, w, true) ∈ d'.quest) : LastV fm d' p := by
  refine ⟨ho, by rw [hw]; exact f.n, ?_⟩
  rw [hw, hm, hk]
  rcases f.c with h | h | ⟨h1, h2, h3, h4⟩
  · exact .inl h
  · exact .inr (.inl ((hq _).mp h))
  · exact .inr (.inr ⟨h1, h2, h3, fun w hw => h4 w ((hq w).mpr hw)⟩)
end W3
end

section
namespace W3
open PySem
end W3
end

section
namespace W3
open PySem
end W3
end

section
namespace W3
open PySem
def noFar (p : Str × Fd) : Str × Fd := (p.1, { p.2 with far := none })
def Fm.bare (fm : Fm) : Fm := { fm with fields := fm.fields.map noFar }
structure Calm (fm : Fm) (d : Sd) : Prop where
  s : SdW fm d
  q : d.quest = []
  k : d.known = List.replicate fm.fields.length none
  w : d.wait = false
theorem Calm.sd {fm : Fm} {d : Sd} (c : Calm fm d) (s : Str) : SdOk fm s d := c.s.ok fun h => by rw [c.w] at h; cases h
end W3
end

section
namespace W3
open PySem
def AskedBy (fm : Fm) (d : Sd) (ps : List (Str × Fd)) : Prop := ∀ x ∈ d.quest, ∃ p ∈ ps, x = (p.1, wAt fm d.words p.1, true) ∧ p.2.far.isSome = true ∧ nearV fm d.words p = none
theorem entry_near {fm : Fm} {p : Str × Fd} {d : Sd} (h : (entryC fm p d).2 = true) : nearV fm d.words p = none := by
  unfold entryC at h
  cases hn : nearV fm d.words p with
  | none => rfl
  | some s => rw [hn] at h; cases h
structure Asking (fm : Fm) (d : Sd) : Prop where
  f : AllFresh fm d
  a : AskedBy fm d fm.fields
def ansF (fm : Fm) (r : Ru) : Nat → Sd → Sd × List Ev
  | 0, d => (d, [])
  | k + 1, d => ((ansF fm r k (answerC fm r 0 d []).1).1, (answerC fm r 0 d []).2.filter is_sent ++ (ansF fm r k (answerC fm r 0 d []).1).2)
end W3
end

section
namespace W3
open PySem
def errsB (fm : Fm) (ws : List Str) : Bool := (fm.fields.map (trueV fm ws)).any fun e => e.isSome
structure Sent33 (fm : Fm) (r : Ru) (d d' : Sd) (t' : List Ev) : Prop where
  s : SdOk fm r.sending (ansF fm r 3 d').1
  a : Asking fm (ansF fm r 3 d').1
  q : (ansF fm r 3 d').1.quest = []
  w : (ansF fm r 3 d').1.words = d.words
  n : (ansF fm r 3 d').1.wait = false
  go : r.sending = "go" → errsB fm d.words = false → t'.filter is_sent ++ (ansF fm r 3 d').2 = [.sent d.words]
  wait : r.sending = "wait" → t'.filter is_sent ++ (ansF fm r 3 d').2 = if errsB fm d.words = true then [] else [.sent d.words]
end W3
end

section
namespace W3
open PySem
structure L2S (n : Nat) (h : Hh) (ls lt : Nat) (p : Pl) (d : Sd) (t : List Ev) : Prop where
  c : LSt n h ls p d
  tt : lstAt h lt = some (tEs t)
  tn : lt ≠ ls ∧ lt ≠ p.w ∧ lt ≠ p.s ∧ lt ≠ p.m ∧ lt ≠ p.k ∧ lt ≠ p.q
  tl : n ≤ lt
section
variable {n : Nat} {h : Hh} {ls lt : Nat} {p : Pl} {d : Sd} {t : List Ev}
theorem L2S.app (x : L2S n h ls lt p d t) (o : Hh) : L2S n (h ++ o) ls lt p d t := ⟨x.c.app o, lstAt_app o x.tt, x.tn, x.tl⟩
theorem L2S.told (x : L2S n h ls lt p d t) (e : Ev) : L2S n (h.set lt (.lst (tEs (t ++ [e])))) ls lt p d (t ++ [e]) := by
  obtain ⟨a, b, c, d, e, f⟩ := x.tn
  exact ⟨⟨by rw [lstAt_set_ne a]; exact x.c.top, by rw [lstAt_set_ne b]; exact x.c.ww, by rw [lstAt_set_ne c]; exact x.c.ss, by rw [lstAt_set_ne d]; exact x.c.mm, by rw [lstAt_set_ne e]; exact x.c.kk, by rw [lstAt_set_ne f]; exact x.c.qq, x.c.nd, x.c.lo⟩, lstAt_set_self (lstAt_lt x.tt), x.tn, x.tl⟩
theorem L2S.wait (x : L2S n h ls lt p d t) (b : Bool) : L2S n (h.set ls (.lst (topT p b))) ls lt p { d with wait := b } t := ⟨x.c.wait b, by rw [lstAt_set_ne (Ne.symm x.tn.1)]; exact x.tt, x.tn, x.tl⟩
end
def own (ls lt : Nat) (p : Pl) : List Nat := [ls, lt, p.w, p.s, p.m, p.k, p.q]
def Kq (ls lt : Nat) (p p' : Pl) (h h' : Hh) : Prop := h.length ≤ h'.length ∧ ∀ k, k < h.length → k ∉ own ls lt p → h'[k]? = h[k]? ∧ k ∉ own ls lt p'
section
variable {ls lt : Nat} {p p' : Pl} {h h' : Hh}
theorem Kq.refl : Kq ls lt p p h h := ⟨Nat.le_refl _, fun _ _ hk => ⟨rfl, hk⟩⟩
theorem Kq.trans {p2 : Pl} {h2 : Hh} (a : Kq ls lt p p' h h') (b : Kq ls lt p' p2 h' h2) : Kq ls lt p p2 h h2 :=
  ⟨Nat.le_trans a.1 b.1, fun k hk ho => by
    obtain ⟨e1, o1⟩ := a.2 k hk ho
    obtain ⟨e2, o2⟩ := b.2 k (by have := a.1; omega) o1
    exact ⟨e2.trans e1, o2⟩⟩
theorem Kq.app (o : Hh) : Kq ls lt p p h (h ++ o) := ⟨by simp, fun k hk ho => ⟨List.getElem?_append_left hk, ho⟩⟩
theorem Kq.set {j : Nat} (hj : j ∈ own ls lt p) (o : Ob) : Kq ls lt p p h (h.set j o) := ⟨by simp, fun k hk ho => ⟨List.getElem?_set_ne (fun e : j = k => ho (by rw [← e]; exact hj)), ho⟩⟩
theorem Kq.put (z : Hh) (o : Ob) (hp : ∀ k ∈ own ls lt p', k ∈ own ls lt p ∨ h.length ≤ k) : Kq ls lt p p' h ((h ++ z).set ls o) :=
  ⟨by simp, fun k hk ho => ⟨by
    rw [List.getElem?_set_ne (fun e => ho (by rw [← e]; exact .head _))]
    exact List.getElem?_append_left hk, fun hm => by
      rcases hp k hm with h1 | h1
      · exact ho h1
      · omega⟩⟩
theorem Kq.fz {n : Nat} {d : Sd} {t : List Ev} (a : Kq ls lt p p' h h') (x : L2S n h ls lt p d t) : Fz n h h' :=
  ⟨a.1, fun k hk => (a.2 k (by have := x.c.nl; omega) (fun hm => by
    obtain ⟨l0, l1, l2, l3, l4, l5⟩ := x.c.lo
    have := x.tl
    simp only [own, List.mem_cons, List.not_mem_nil, or_false] at hm
    omega)).1⟩
theorem Kq.lst {x : Nat} {ts : List T} (a : Kq ls lt p p' h h') (e : lstAt h x = some ts) (hx : x ∉ own ls lt p) : lstAt h' x = some ts ∧ x ∉ own ls lt p' := by
  obtain ⟨e1, o1⟩ := a.2 x (lstAt_lt e) hx
  refine ⟨?_, o1⟩
  unfold lstAt at e ⊢
  rw [e1]
  exact e
theorem L2S.out {n : Nat} {d : Sd} {t : List Ev} (x : L2S n h ls lt p d t) {y : Nat} (hy : h.length ≤ y) : y ∉ own ls lt p := fun hm => by
  have l1 := x.c.lts
  have l2 := x.c.llt
  have l3 := lstAt_lt x.tt
  simp only [own, List.mem_cons, List.not_mem_nil, or_false] at hm
  omega
end
end W3
end

section
namespace W3
open PySem
structure Two (fm : Fm) (r : Ru) (p1 p2 : Str × Fd) : Prop where
  o : FmOk fm
  ro : RuOk r
  fs : fm.fields = [p1, p2]
  ne : p1.1 ≠ p2.1
  f1 : p1.2.far = none
  rm : fm.room = 3
  rc : r.checks = "enter"
  rt : r.taken = "same"
  nf : foundC fm r p1.1 = []
structure Pre (fm : Fm) (p2 : Str × Fd) (wo : Str) (d : Sd) : Prop where
  s : SdW fm d
  w : d.wait = false
  k : d.known = List.replicate fm.fields.length none
  q : d.quest = [] ∨ (d.quest = [(p2.1, wo, true)] ∧ nearV fm d.words p2 = none)
section
variable {fm : Fm} {r : Ru} {p1 p2 : Str × Fd} {wo : Str} {d : Sd}
theorem Two.m1 (T : Two fm r p1 p2) : p1 ∈ fm.fields := by rw [T.fs]; exact .head _
theorem Two.m2 (T : Two fm r p1 p2) : p2 ∈ fm.fields := by rw [T.fs]; exact .tail _ (.head _)
theorem far_entry {p : Str × Fd} (h : p.2.far = none) (d : Sd) : (entryC fm p d).2 = false := by
  unfold entryC
  split
  · rw [if_neg (by rw [h]; simp)]
  · rfl
theorem check_far {p : Str × Fd} (h : p.2.far = none) (d : Sd) (t : List Ev) : checkC fm p d t = .ok { d with mess := d.mess.set (fIx fm p.1) (entryC fm p d).1 } (t ++ [.checked p.1 (entryC fm p d).1]) := by
  unfold checkC
  rw [if_neg (by rw [far_entry h]; simp)]
theorem pre_check (T : Two fm r p1 p2) {p : Str × Fd} (hp : p ∈ fm.fields) (h : Pre fm p2 wo d) (hw : wAt fm d.words p2.1 = wo) (t : List Ev) : ∃ d' t', checkC fm p d t = .ok d' t' ∧ Pre fm p2 wo d' ∧ d'.words = d.words ∧ d'.shown = d.shown := by
  have hp' := hp
  rw [T.fs] at hp'
  simp only [List.mem_cons, List.not_mem_nil, or_false] at hp'
  have fin : ∀ d' t', checkC fm p d t = .ok d' t' → (d'.quest = d.quest ∨ (d'.quest = [(p2.1, wo, true)] ∧ nearV fm d.words p2 = none)) → ∃ d' t', checkC fm p d t = .ok d' t' ∧ Pre fm p2 wo d' ∧ d'.words = d.words ∧ d'.shown = d.shown := fun d' t' e q => by
    obtain ⟨s', kp⟩ := check_kept T.o hp h.s e
    refine ⟨d', t', e, ⟨s', kp.wt.trans h.w, kp.kn.trans h.k, ?_⟩, kp.ws, kp.sh⟩
    rw [kp.ws]
    rcases q with q | q
    · rw [q]; exact h.q
    · exact .inr q
  rcases hp' with rfl | rfl
  · exact fin _ _ (check_far T.f1 d t) (.inl rfl)
  · cases hE : (entryC fm p d).2 with
    | false =>
      have e : checkC fm p d t = .ok { d with mess := d.mess.set (fIx fm p.1) (entryC fm p d).1 } (t ++ [.checked p.1 (entryC fm p d).1]) := by
        unfold checkC
        rw [if_neg (by rw [hE]; simp)]
      exact fin _ _ e (.inl rfl)
    | true =>
      have nr := entry_near hE
      have e : checkC fm p d t = askC fm p.1 wo { d with mess := d.mess.set (fIx fm p.1) (entryC fm p d).1 } (t ++ [.checked p.1 (entryC fm p d).1]) := by
        unfold checkC
        rw [if_pos hE, hw]
      rcases h.q with q | ⟨q, _⟩
      · have e2 : askC fm p.1 wo { d with mess := d.mess.set (fIx fm p.1) (entryC fm p d).1 } (t ++ [.checked p.1 (entryC fm p d).1]) = .ok { d with mess := d.mess.set (fIx fm p.1) (entryC fm p d).1, quest := [(p.1, wo, true)] } (t ++ [.checked p.1 (entryC fm p d).1] ++ [.asked p.1 wo]) := by
          unfold askC
          rw [if_neg (by rw [q]; simp), if_neg (by rw [q, T.rm]; simp), q]
          rfl
        exact fin _ _ (e.trans e2) (.inr ⟨rfl, nr⟩)
      · have e2 : askC fm p.1 wo { d with mess := d.mess.set (fIx fm p.1) (entryC fm p d).1 } (t ++ [.checked p.1 (entryC fm p d).1]) = .ok { d with mess := d.mess.set (fIx fm p.1) (entryC fm p d).1 } (t ++ [.checked p.1 (entryC fm p d).1]) := by
          unfold askC
          rw [if_pos (by rw [q]; exact .head _)]
        exact fin _ _ (e.trans e2) (.inl rfl)
theorem pre_checks (T : Two fm r p1 p2) : ∀ (ps : List (Str × Fd)) {d : Sd}, (∀ p ∈ ps, p ∈ fm.fields) → Pre fm p2 wo d → wAt fm d.words p2.1 = wo → ∀ t, ∃ d' t', checksC fm ps d t = .ok d' t' ∧ Pre fm p2 wo d' ∧ d'.words = d.words ∧ d'.shown = d.shown
  | [], d, _, h, hw, t => ⟨d, t, rfl, h, rfl, rfl⟩
  | p :: ps, d, hp, h, hw, t => by
    obtain ⟨d1, t1, e1, h1, w1, s1⟩ := pre_check T (hp p (.head _)) h hw t
    obtain ⟨d2, t2, e2, h2, w2, s2⟩ := pre_checks T ps (d := d1) (fun u hu => hp u (.tail _ hu)) h1 (by rw [w1]; exact hw) t1
    refine ⟨d2, t2, ?_, h2, w2.trans w1, s2.trans s1⟩
    unfold checksC
    rw [e1]
    exact e2
theorem around_sub (fm : Fm) (r : Ru) {p : Str × Fd} (hp : p ∈ fm.fields) (d : Sd) : ∀ u ∈ aroundL fm r p d, u ∈ fm.fields := by
  intro u hu
  unfold aroundL withC at hu
  rw [List.mem_append] at hu
  rcases hu with hu | hu
  · split at hu
    · rw [List.mem_singleton.mp hu]; exact hp
    · cases hu
  · have hu := (List.mem_filter.mp hu).1
    unfold foundC readsC at hu
    split at hu
    · split at hu
      · cases hu
      · exact (List.mem_filter.mp hu).1
    · exact (List.mem_filter.mp hu).1
theorem enter_one (T : Two fm r p1 p2) (s : SdW fm d) {w : Str} (hw : w ∈ fm.words) (hn : ¬ wAt fm d.words p1.1 = w) : ∃ d' t', stepC fm r (.enter p1 w) d = .ok d' t' ∧ d'.words = d.words.set (fIx fm p1.1) w ∧ d'.known = d.known ∧ d'.quest = d.quest ∧ rowAt d'.mess (fIx fm p2.1) = rowAt d.mess (fIx fm p2.1) ∧ openC fm d' p2 = openC fm d p2 ∧ d'.wait = false ∧ SdW fm d' := by
  obtain ⟨g1, g2, g3, g4⟩ := enterS_facts (fm := fm) r p1 w d
  obtain ⟨sS, wS⟩ := enterS_sd (r := r) (q := p1) s hw []
  have il : fIx fm p1.1 < d.shown.length := by rw [s.sl]; exact fIx_lt T.m1
  have sh := (enterS_sh (fm := fm) (r := r) (q := p1) (w := w) il).1
  have ix := fIx_inj T.o T.m1 T.m2 T.ne
  have op : openC fm (enterS fm r p1 w d []).1 p2 = openC fm d p2 := by
    show openS fm (enterS fm r p1 w d []).1.shown p2 = openS fm d.shown p2
    rw [sh, open_set_ne T.o T.m2 T.m1 (Ne.symm T.ne)]
  have e0 : stepC fm r (.enter p1 w) d = aroundC fm r p1 (enterS fm r p1 w d []).1 (enterS fm r p1 w d []).2 := by
    show enterC fm r p1 w d [] = _
    unfold enterC
    rw [if_neg hn, if_pos T.rc]
  have g4 := g4 _ ix
  rw [e0]
  unfold aroundC aroundL withC
  rw [T.nf]
  generalize (enterS fm r p1 w d []).1 = dS at *
  generalize (enterS fm r p1 w d []).2 = tS at *
  simp only [List.filter_nil, List.append_nil]
  split
  · have ec := check_far (fm := fm) T.f1 dS tS
    refine ⟨{ dS with mess := dS.mess.set (fIx fm p1.1) (entryC fm p1 dS).1 }, tS ++ [.checked p1.1 (entryC fm p1 dS).1], ?_, g1, g2, g3, ?_, op, wS, (check_kept T.o T.m1 sS ec).1⟩
    · unfold checksC
      rw [ec]
      rfl
    · show rowAt (dS.mess.set _ _) _ = _
      rw [row_set_ne ix, g4]
  · exact ⟨dS, tS, rfl, g1, g2, g3, g4, op, wS, sS⟩
theorem start_pre (T : Two fm r p1 p2) (wo : Str) : Pre fm p2 wo (startD fm) := ⟨(start_ok T.o "bar").w, rfl, rfl, .inl rfl⟩
theorem wAt_set_eq (T : Two fm r p1 p2) {p : Str × Fd} (hp : p ∈ fm.fields) {ws : List Str} (hl : ws.length = fm.fields.length) (w : Str) : wAt fm (ws.set (fIx fm p.1) w) p.1 = w := by
  unfold wAt
  rw [List.getElem?_set_self (by rw [hl]; exact fIx_lt hp)]
  rfl
theorem four (T : Two fm r p1 p2) {ws : Str} (hs : ws ∈ fm.words) (ho : wo ∈ fm.words) : ∃ d1 t1 d2 t2 d3 t3 d4 t4, stepC fm r (.enter p1 ws) (startD fm) = .ok d1 t1 ∧ stepC fm r (.enter p2 wo) d1 = .ok d2 t2 ∧ stepC fm r (.leave p2) d2 = .ok d3 t3 ∧ stepC fm r .send d3 = .ok d4 t4 ∧
    AllFresh fm d4 ∧ SdW fm d4 ∧ d4.known = List.replicate fm.fields.length none ∧ wAt fm d4.words p1.1 = ws ∧ wAt fm d4.words p2.1 = wo ∧ (d4.quest = [] ∨ (d4.quest = [(p2.1, wo, true)] ∧ nearV fm d4.words p2 = none)) := by
  obtain ⟨d1, t1, e1, h1, q1, w1⟩ : ∃ d1 t1, stepC fm r (.enter p1 ws) (startD fm) = .ok d1 t1 ∧ Pre fm p2 wo d1 ∧ d1.quest = [] ∧ wAt fm d1.words p1.1 = ws := by
    have h0 := start_pre T wo
    by_cases hn : wAt fm (startD fm).words p1.1 = ws
    · refine ⟨startD fm, [], ?_, h0, rfl, hn⟩
      show enterC fm r p1 ws (startD fm) [] = _
      unfold enterC
      rw [if_pos hn]
    · obtain ⟨d1, t1, e, a, b, c, _, _, f, g⟩ := enter_one T h0.s hs hn
      refine ⟨d1, t1, e, ⟨g, f, b, .inl c⟩, c, ?_⟩
      rw [a]
      exact wAt_set_eq T T.m1 h0.s.ws.len ws
  obtain ⟨d2, t2, e2, h2, w2, v2⟩ : ∃ d2 t2, stepC fm r (.enter p2 wo) d1 = .ok d2 t2 ∧ Pre fm p2 wo d2 ∧ wAt fm d2.words p1.1 = ws ∧ wAt fm d2.words p2.1 = wo := by
    by_cases hn : wAt fm d1.words p2.1 = wo
    · refine ⟨d1, [], ?_, h1, w1, hn⟩
      show enterC fm r p2 wo d1 [] = _
      unfold enterC
      rw [if_pos hn]
    · obtain ⟨g1, g2, g3, _⟩ := enterS_facts (fm := fm) r p2 wo d1
      obtain ⟨sS, wS⟩ := enterS_sd (r := r) (q := p2) h1.s ho []
      have e0 : stepC fm r (.enter p2 wo) d1 = aroundC fm r p2 (enterS fm r p2 wo d1 []).1 (enterS fm r p2 wo d1 []).2 := by
        show enterC fm r p2 wo d1 [] = _
        unfold enterC
        rw [if_neg hn, if_pos T.rc]
      have v : wAt fm (enterS fm r p2 wo d1 []).1.words p2.1 = wo := by rw [g1]; exact wAt_set_eq T T.m2 h1.s.ws.len wo
      have v1 : wAt fm (enterS fm r p2 wo d1 []).1.words p1.1 = ws := by rw [g1, wAt_set_ne T.o T.m2 (mem_names T.m1) T.ne]; exact w1
      have hS : Pre fm p2 wo (enterS fm r p2 wo d1 []).1 := ⟨sS, wS, g2.trans h1.k, .inl (g3.trans q1)⟩
      obtain ⟨d2, t2, e2, h2, w2, _⟩ := pre_checks T (aroundL fm r p2 (enterS fm r p2 wo d1 []).1) (around_sub fm r T.m2 _) hS v (enterS fm r p2 wo d1 []).2
      exact ⟨d2, t2, e0.trans e2, h2, by rw [w2]; exact v1, by rw [w2]; exact v⟩
  obtain ⟨d3, t3, e3, h3, w3, v3⟩ : ∃ d3 t3, stepC fm r (.leave p2) d2 = .ok d3 t3 ∧ Pre fm p2 wo d3 ∧ wAt fm d3.words p1.1 = ws ∧ wAt fm d3.words p2.1 = wo := by
    obtain ⟨g1, g2, g3, g4, g5⟩ := leaveS_facts fm r p2 d2
    have sS := (leaveS_sd (r := r) (q := p2) h2.s []).1
    have hS : Pre fm p2 wo (leaveS fm r p2 d2 []).1 := ⟨sS, g5.trans h2.w, g2.trans h2.k, by rw [g3, g1]; exact h2.q⟩
    obtain ⟨d3, t3, e3, h3, w3, _⟩ := pre_checks T (aroundL fm r p2 (leaveS fm r p2 d2 []).1) (around_sub fm r T.m2 _) hS (by rw [g1]; exact v2) (leaveS fm r p2 d2 []).2
    exact ⟨d3, t3, e3, h3, by rw [w3, g1]; exact w2, by rw [w3, g1]; exact v2⟩
  have h1' := showsC_1 fm d3 [] fm.fields.length (by rw [h3.s.sl]; exact Nat.le_refl _)
  have sS := h3.s.shows [] fm.fields.length
  have hS : Pre fm p2 wo (showsC fm fm.fields.length d3 []).1 := ⟨sS, by rw [h1']; exact h3.w, by rw [h1']; exact h3.k, by rw [h1']; exact h3.q⟩
  have wS : (showsC fm fm.fields.length d3 []).1.words = d3.words := by rw [h1']
  obtain ⟨d4, t4, e4, h4, w4, _⟩ := pre_checks T fm.fields (fun u hu => hu) hS (by rw [wS]; exact v3) (showsC fm fm.fields.length d3 []).2
  obtain ⟨s4, ws4, wt4, fr4⟩ := send_fresh T.o (r := r) h3.s e4
  obtain ⟨k1, k2, k3, k4, k5⟩ := endSend_facts r d4 t4
  have e5 : stepC fm r .send d3 = .ok (endSend r d4 t4).1 (endSend r d4 t4).2 := by
    show sendC fm r d3 [] = _
    unfold sendC
    rw [if_neg (by rw [h3.w]; simp), e4]
    rfl
  refine ⟨d1, t1, d2, t2, d3, t3, _, _, e1, e2, e3, e5, fun p hp => ?_, ?_, k2.trans h4.k, by rw [k1, ws4]; exact w3, by rw [k1, ws4]; exact v3, by rw [k3, k1]; exact h4.q⟩
  · obtain ⟨f, ho⟩ := fr4 p hp
    refine ⟨f.same k1 k2 k4 k3, ?_⟩
    unfold openC at ho ⊢
    rw [k5]
    exact ho
  · unfold endSend
    split
    · exact s4
    · split
      · exact s4
      · split
        · exact s4.wait true
        · exact s4
end
end W3
end

section
namespace W3
open PySem
section
variable {fm : Fm} {r : Ru} {p1 p2 : Str × Fd} {wo : Str}
end
end W3
end

section
namespace W3
open PySem
structure Fq (S : Nat → Prop) (h h' : Hh) : Prop where
  le : h.length ≤ h'.length
  keep : ∀ k, k < h.length → ¬ S k → h'[k]? = h[k]?
  was : ∀ k, S k → k < h.length → ∃ ts, h[k]? = some (.lst ts)
  is_ : ∀ k, S k → k < h.length → ∃ ts, h'[k]? = some (.lst ts)
section
variable {S : Nat → Prop} {h h' h2 : Hh}
theorem Fq.trans (a : Fq S h h') (b : Fq S h' h2) : Fq S h h2 :=
  ⟨Nat.le_trans a.le b.le, fun k hk hs => (b.keep k (Nat.lt_of_lt_of_le hk a.le) hs).trans (a.keep k hk hs), a.was, fun k hs hk => b.is_ k hs (Nat.lt_of_lt_of_le hk a.le)⟩
theorem Fq.refl (hS : ∀ k, S k → k < h.length → ∃ ts, h[k]? = some (.lst ts)) : Fq S h h := ⟨Nat.le_refl _, fun _ _ _ => rfl, hS, hS⟩
theorem Fq.app (a : Fq S h h') (o : Hh) : Fq S h (h' ++ o) :=
  ⟨by have := a.le; simp; omega, fun k hk hs => (List.getElem?_append_left (Nat.lt_of_lt_of_le hk a.le)).trans (a.keep k hk hs), a.was, fun k hs hk => by
    obtain ⟨ts, e⟩ := a.is_ k hs hk
    exact ⟨ts, (List.getElem?_append_left (Nat.lt_of_lt_of_le hk a.le)).trans e⟩⟩
theorem Fq.sub {R : Nat → Prop} (a : Fq S h h') (hR : ∀ k, S k → R k) (h1 : ∀ k, R k → k < h.length → ∃ ts, h[k]? = some (.lst ts)) : Fq R h h' :=
  ⟨a.le, fun k hk hs => a.keep k hk fun z => hs (hR k z), h1, fun k hs hk => by
    by_cases q : S k
    · exact a.is_ k q hk
    · obtain ⟨ts, e⟩ := h1 k hs hk
      exact ⟨ts, (a.keep k hk q).trans e⟩⟩
theorem Fq.ins {c : Str} {fs : List (Str × T)} {k : Nat} (a : Fq S h h') (e : h[k]? = some (.ins c fs)) : h'[k]? = some (.ins c fs) := by
  have hk := (List.getElem?_eq_some_iff.mp e).1
  rw [a.keep k hk fun z => ?_]
  · exact e
  · obtain ⟨ts, e2⟩ := a.was k z hk
    rw [e] at e2
    cases e2
theorem Fq.lst {k : Nat} {ts : List T} (a : Fq S h h') (e : lstAt h k = some ts) (hn : ¬ S k) : lstAt h' k = some ts := by
  unfold lstAt at e ⊢
  have hk : k < h.length := by
    cases q : h[k]? with
    | none => rw [q] at e; cases e
    | some o => exact (List.getElem?_eq_some_iff.mp q).1
  rw [a.keep k hk hn]
  exact e
theorem Fq.form {l : Nat} {fm : Fm} (a : Fq S h h') (e : FormAt h l fm) : FormAt h' l fm := a.ins e
theorem Fq.rule {l : Nat} {r : Ru} (a : Fq S h h') (e : RuleAt h l r) : RuleAt h' l r := a.ins e
theorem Fq.step {l : Nat} {d b x e : T} (a : Fq S h h') (q : StepAt h l d b x e) : StepAt h' l d b x e := a.ins q
theorem Fq.mem {k : Nat} (a : Fq S h h') (hs : S k) (hk : k < h.length) : ∃ ts, lstAt h' k = some ts := by
  obtain ⟨ts, e⟩ := a.is_ k hs hk
  exact ⟨ts, lstAt_of e⟩
end
theorem Up.fq {l : Nat} {h h' : Hh} (b : IsBox h l) (u : Up l h h') : Fq (fun k => k = l) h h' :=
  ⟨u.le, fun k hk hn => u.keep k hk hn, fun k e _ => by
    subst e
    obtain ⟨c, cells, i, d, s, n, e, _⟩ := b
    exact ⟨_, of_lstAt e⟩, fun k e _ => by
    subst e
    obtain ⟨c, cells, i, d, s, n, e, _⟩ := u.box
    exact ⟨_, of_lstAt e⟩⟩
theorem fq_app (h o : Hh) : Fq (fun _ => False) h (h ++ o) := ⟨by simp, fun k hk _ => List.getElem?_append_left hk, fun _ f _ => f.elim, fun _ f _ => f.elim⟩
structure BxC (h : Hh) (l c : Nat) : Prop where
  b : IsBox h l
  c : BoxC h l = some c
theorem BxC.of {h : Hh} {l : Nat} (b : IsBox h l) : ∃ c, BxC h l c ∧ c < h.length := by
  have b0 := b
  obtain ⟨c, cells, i, d, s, n, e, e2, h1, h2⟩ := b
  refine ⟨c, ⟨b0, ?_⟩, lstAt_lt e2⟩
  unfold BoxC
  rw [e]
  rfl
theorem BxC.up {h h' : Hh} {l c : Nat} (x : BxC h l c) (u : Up l h h') : BxC h' l c := ⟨u.box, u.bc.trans x.c⟩
theorem BxC.app {h : Hh} {l c : Nat} (x : BxC h l c) (o : Hh) : BxC (h ++ o) l c := x.up (Up.app x.b o)
theorem BxC.fq {S : Nat → Prop} {h h' : Hh} {l c : Nat} (x : BxC h l c) (a : Fq S h h') (hl : ¬ S l) (hc : ¬ S c) : BxC h' l c := by
  obtain ⟨⟨c', cells, i, d, s, n, e, e2, h1, h2⟩, q⟩ := x
  unfold BoxC at q
  rw [e] at q
  have q : some c' = some c := q
  injection q with q
  subst q
  refine ⟨⟨c', cells, i, d, s, n, a.lst e hl, a.lst e2 hc, h1, h2⟩, ?_⟩
  unfold BoxC
  rw [a.lst e hl]
  rfl
structure Hy where
  D : Dd
  aft : Sd
  ev : List Ev
def StpAt (h : Hh) (b : Nat) (y : Hy) : Prop := ∃ bf, StepAt h b y.D.t bf y.aft.t (.tup (tEs y.ev))
def liveIns (d0 : Sd) (lf ar ls : Nat) : List (Str × T) := [("beginning", d0.t), ("form", .ref lf), ("rule", .ref ar), ("steps_done", .ref ls)]
abbrev Pc := List (Nat × Hy)
abbrev pcT (xs : Pc) : List T := xs.map fun s => T.ref s.1
structure LiveAt (h : Hh) (l lf ar ls : Nat) (d0 : Sd) (xs : Pc) : Prop where
  ins : h[l]? = some (.ins "Live" (liveIns d0 lf ar ls))
  st : lstAt h ls = some (pcT xs)
  at_ : ∀ s ∈ xs, StpAt h s.1 s.2
def liveD (d0 : Sd) (ys : List Hy) : Sd := match ys.getLast? with | none => d0 | some s => s.aft
def lastEv (ys : List Hy) : List Ev := match ys.getLast? with | none => [] | some s => s.ev
abbrev Pc.v (xs : Pc) : List Hy := xs.map Prod.snd
section
variable {S : Nat → Prop} {h h' : Hh} {l lf ar ls : Nat} {d0 : Sd} {xs : Pc}
theorem LiveAt.fq (x : LiveAt h l lf ar ls d0 xs) (a : Fq S h h') (hn : ¬ S ls) : LiveAt h' l lf ar ls d0 xs :=
  ⟨a.ins x.ins, a.lst x.st hn, fun s hs => by obtain ⟨bf, q⟩ := x.at_ s hs; exact ⟨bf, a.step q⟩⟩
theorem LiveAt.app (x : LiveAt h l lf ar ls d0 xs) (o : Hh) : LiveAt (h ++ o) l lf ar ls d0 xs := x.fq (fq_app h o) fun z => z
theorem LiveAt.i (x : LiveAt h l lf ar ls d0 xs) : insAt h l = some (("Live" : Str), liveIns d0 lf ar ls) := insAt_of x.ins
theorem LiveAt.m {m : Str} (x : LiveAt h l lf ar ls d0 xs) (hm : (liveIns d0 lf ar ls).lookup m = none) : mOk "Live" m (.ref l) h = true := mOk_of x.i hm
theorem LiveAt.len (x : LiveAt h l lf ar ls d0 xs) : (pcT xs).length = xs.length := List.length_map _
theorem LiveAt.lt (x : LiveAt h l lf ar ls d0 xs) : l < h.length := (List.getElem?_eq_some_iff.mp x.ins).1
end
structure HsOk (fm : Fm) (r : Ru) (d0 : Sd) (ys : List Hy) : Prop where
  d0 : SdOk fm r.sending d0
  sd : ∀ y ∈ ys, SdOk fm r.sending y.aft
  dk : ∀ y ∈ ys, DdOk fm y.D
  ev : ∀ y ∈ ys, EvsOk fm y.ev ∧ y.ev.length ≤ 20
theorem HsOk.now {fm : Fm} {r : Ru} {d0 : Sd} {ys : List Hy} (o : HsOk fm r d0 ys) : SdOk fm r.sending (liveD d0 ys) := by
  unfold liveD
  cases e : ys.getLast? with
  | none => exact o.d0
  | some y => exact o.sd y (List.mem_of_getLast? e)
theorem HsOk.last {fm : Fm} {r : Ru} {d0 : Sd} {ys : List Hy} (o : HsOk fm r d0 ys) : EvsOk fm (lastEv ys) ∧ (lastEv ys).length ≤ 20 := by
  unfold lastEv
  cases e : ys.getLast? with
  | none => exact ⟨.nil, by simp⟩
  | some y => exact o.ev y (List.mem_of_getLast? e)
theorem HsOk.nil {fm : Fm} {r : Ru} {d0 : Sd} (s : SdOk fm r.sending d0) : HsOk fm r d0 [] := ⟨s, fun _ q => (List.not_mem_nil q).elim, fun _ q => (List.not_mem_nil q).elim, fun _ q => (List.not_mem_nil q).elim⟩
theorem HsOk.app {fm : Fm} {r : Ru} {d0 : Sd} {ys zs : List Hy} (o : HsOk fm r d0 ys) (z : HsOk fm r d0 zs) : HsOk fm r d0 (ys ++ zs) :=
  ⟨o.d0, fun y q => (List.mem_append.mp q).elim (o.sd y) (z.sd y), fun y q => (List.mem_append.mp q).elim (o.dk y) (z.dk y), fun y q => (List.mem_append.mp q).elim (o.ev y) (z.ev y)⟩
theorem HsOk.snoc {fm : Fm} (om : FmOk fm) {r : Ru} {d0 : Sd} {ys : List Hy} (o : HsOk fm r d0 ys) {D : Dd} (dk : DdOk fm D) {d' : Sd} {t : List Ev} (e : stepC fm r D (liveD d0 ys) = .ok d' t) : HsOk fm r d0 (ys ++ [⟨D, d', t⟩]) := by
  have so := step_ok om o.now dk e
  have ev := step_evs om o.now dk e
  refine o.app ⟨o.d0, fun y q => ?_, fun y q => ?_, fun y q => ?_⟩ <;> (rw [List.mem_singleton] at q; subst q; assumption)
theorem HsOk.sub {fm : Fm} {r : Ru} {d0 : Sd} {ys zs : List Hy} (o : HsOk fm r d0 ys) (hz : ∀ y ∈ zs, y ∈ ys) : HsOk fm r d0 zs := ⟨o.d0, fun y q => o.sd y (hz y q), fun y q => o.dk y (hz y q), fun y q => o.ev y (hz y q)⟩
def messT (d : Sd) : T := .tup (d.mess.map tE)
def deedsL (ys : List Hy) : List T := ys.map fun y => y.D.t
def seenL (d0 : Sd) (ys : List Hy) : List T := messT d0 :: ys.map fun y => messT y.aft
def sentW : Ev → Option T | .sent ws => some (.tup (tSs ws)) | _ => none
def sentL (ys : List Hy) : List T := ys.flatMap fun y => y.ev.filterMap sentW
section
variable {h : Hh} {l lf ar ls : Nat} {d0 : Sd} {xs : Pc}
end
theorem flat_le {α β : Type} (f : α → List β) (k : Nat) : ∀ xs : List α, (∀ x ∈ xs, (f x).length ≤ k) → (xs.flatMap f).length ≤ k * xs.length
  | [], _ => by simp
  | x :: xs, h => by
    rw [List.flatMap_cons, List.length_append, List.length_cons, Nat.mul_succ]
    have := h x (.head _)
    have := flat_le f k xs fun y hy => h y (.tail _ hy)
    omega
inductive Dx where
  | good (D : Dd)
  | bad (t : T)
def Dx.t : Dx → T | .good D => D.t | .bad t => t
inductive Fo where
  | ok (ys : List Hy)
  | many (m : Str)
  | bad (t : T)
def Fo.pre (ys : List Hy) : Fo → Fo | .ok zs => .ok (ys ++ zs) | e => e
def StV (h : Hh) (n : Nat) (t : T) (d0 : Sd) (ys : List Hy) (tl : List T) : Prop := ∃ a b c, n ≤ a ∧ n ≤ b ∧ n ≤ c ∧ t = .tup ([(liveD d0 ys).t, .tup (tEs (lastEv ys)), .ref a, .ref b, .ref c, .int ys.length] ++ tl) ∧ lstAt h a = some (deedsL ys) ∧ lstAt h b = some (seenL d0 ys) ∧ lstAt h c = some (sentL ys)
theorem StV.fq {S : Nat → Prop} {h h' : Hh} {n : Nat} {t : T} {d0 : Sd} {ys : List Hy} {tl : List T} (x : StV h n t d0 ys tl) (a : Fq S h h') (hS : ∀ k, S k → k < n) : StV h' n t d0 ys tl := by
  obtain ⟨p, q, r, lp, lq, lr, e, e1, e2, e3⟩ := x
  refine ⟨p, q, r, lp, lq, lr, e, a.lst e1 fun z => ?_, a.lst e2 fun z => ?_, a.lst e3 fun z => ?_⟩
  · have := hS _ z; omega
  · have := hS _ z; omega
  · have := hS _ z; omega
theorem StV.mono {h : Hh} {n m : Nat} {t : T} {d0 : Sd} {ys : List Hy} {tl : List T} (x : StV h n t d0 ys tl) (hm : m ≤ n) : StV h m t d0 ys tl := by
  obtain ⟨p, q, r, lp, lq, lr, e⟩ := x
  exact ⟨p, q, r, by omega, by omega, by omega, e⟩
theorem pure_mess {fm : Fm} (o : FmOk fm) {d : Sd} (s : SdW fm d) : PureT 1 (messT d) := by
  have f3 := o.f3
  exact pure_strs (fun t ht => by obtain ⟨s, _, rfl⟩ := List.mem_map.mp ht; exact flat_ent _) (by rw [List.length_map, s.ml]; omega)
theorem deedsL_len (ys : List Hy) : (deedsL ys).length = ys.length := List.length_map _
theorem seenL_len (d0 : Sd) (ys : List Hy) : (seenL d0 ys).length = ys.length + 1 := by simp [seenL]
theorem sentL_len {fm : Fm} {r : Ru} {d0 : Sd} {ys : List Hy} (hs : HsOk fm r d0 ys) : (sentL ys).length ≤ 20 * ys.length := by
  unfold sentL
  refine flat_le _ 20 _ fun y hy => Nat.le_trans (List.length_filterMap_le _ _) (hs.ev y hy).2
theorem pure_deeds {fm : Fm} {r : Ru} {d0 : Sd} {ys : List Hy} (hs : HsOk fm r d0 ys) : ∀ x ∈ deedsL ys, PureT 1 x := fun x hx => by
  obtain ⟨y, hy, rfl⟩ := List.mem_map.mp hx
  exact pure_dd (hs.dk y hy)
theorem pure_seen {fm : Fm} (o : FmOk fm) {r : Ru} {d0 : Sd} {ys : List Hy} (hs : HsOk fm r d0 ys) : ∀ x ∈ seenL d0 ys, PureT 1 x := fun x hx => by
  rcases List.mem_cons.mp hx with rfl | hx
  · exact pure_mess o hs.d0.w
  · obtain ⟨y, hy, rfl⟩ := List.mem_map.mp hx
    exact pure_mess o (hs.sd y hy).w
theorem pure_sent {fm : Fm} (o : FmOk fm) {r : Ru} {d0 : Sd} {ys : List Hy} (hs : HsOk fm r d0 ys) : ∀ x ∈ sentL ys, PureT 1 x := fun x hx => by
  obtain ⟨y, hy, hx⟩ := List.mem_flatMap.mp hx
  obtain ⟨e, he, hx⟩ := List.mem_filterMap.mp hx
  have := (hs.ev y hy).1 e he
  have f3 := o.f3
  cases e <;> simp [sentW] at hx
  subst hx
  exact pure_strs (fun t ht => by obtain ⟨s, _, rfl⟩ := List.mem_map.mp ht; rfl) (by rw [List.length_map, (show WsOk fm _ from this).len]; omega)
theorem StV.same {fm : Fm} (o : FmOk fm) {r : Ru} {h : Hh} {n m : Nat} {t u : T} {d0 : Sd} {ys : List Hy} {tl : List T} (hs : HsOk fm r d0 ys) (hl : ys.length ≤ 1000) (htl : ∀ x ∈ tl, flatT x = true) (tl2 : tl.length ≤ 10) (x : StV h n t d0 ys tl) (y : StV h m u d0 ys tl) : SameV h 5 t u := by
  obtain ⟨a, b, c, _, _, _, rfl, e1, e2, e3⟩ := x
  obtain ⟨a', b', c', _, _, _, rfl, g1, g2, g3⟩ := y
  refine SameV.tup (by simp) (by simp; omega) fun i x y hx hy => ?_
  have ev := hs.last
  match i, hx, hy with
  | 0, hx, hy => cases hx; cases hy; exact (pure_sd o hs.now.w).same
  | 1, hx, hy => cases hx; cases hy; exact ((pure_evs o ev.1 (by omega)).up).same
  | 2, hx, hy => cases hx; cases hy; exact SameV.lists e1 g1 (by rw [deedsL_len]; omega) fun x hx => ((pure_deeds hs x hx).add 2)
  | 3, hx, hy => cases hx; cases hy; exact SameV.lists e2 g2 (by rw [seenL_len]; omega) fun x hx => ((pure_seen o hs x hx).add 2)
  | 4, hx, hy => cases hx; cases hy; exact SameV.lists e3 g3 (by have := sentL_len hs; omega) fun x hx => ((pure_sent o hs x hx).add 2)
  | 5, hx, hy => cases hx; cases hy; exact same_flat rfl
  | i + 6, hx, hy =>
    have hx : tl[i]? = some x := by simpa using hx
    have hy : tl[i]? = some y := by simpa using hy
    rw [hx] at hy
    cases hy
    exact same_flat (htl x (List.mem_of_getElem? hx))
@[simp] theorem e_lenO (cn : Str) (ff : List T → Hh → Res T) (l : Nat) (h : Hh) : fLen cn ff [.ref l] h = match insAt h l with
  | some (d, _) => if d = cn then (match ff [.ref l] h with | .ok (.int i) h' => if 0 ≤ i ∧ i < 2 ^ 63 then .ok (.int i) h' else .stk | _ => .stk) else .stk
  | none => bLen [.ref l] h := Eq.trans rfl rfl
end W3
end

section
namespace W3
open PySem
def shT : T → Prop | .str s => s.length ≤ 1000 | _ => True
def FV (l : Nat) (h : Hh) (t : T) : Prop := (flatT t = true ∧ shT t) ∨ ∃ p x, t = .ref p ∧ p ≠ l ∧ lstAt h p = some [x] ∧ flatT x = true
def WV (l : Nat) (h : Hh) (t : T) : Prop := FV l h t ∨ ∃ ts, t = .tup ts ∧ ts.length ≤ 3 ∧ ∀ x ∈ ts, FV l h x
section
variable {l : Nat} {h h' : Hh} {t : T}
theorem FV.fq {S : Nat → Prop} (v : FV l h t) (a : Fq S h h') (hS : ∀ p, S p → p = l) : FV l h' t := by
  rcases v with v | ⟨p, x, rfl, hp, e, hx⟩
  · exact .inl v
  · exact .inr ⟨p, x, rfl, hp, a.lst e fun z => hp (hS p z), hx⟩
theorem WV.fq {S : Nat → Prop} (v : WV l h t) (a : Fq S h h') (hS : ∀ p, S p → p = l) : WV l h' t := by
  rcases v with v | ⟨ts, rfl, hl, g⟩
  · exact .inl (v.fq a hS)
  · exact .inr ⟨ts, rfl, hl, fun x hx => (g x hx).fq a hS⟩
theorem FV.up (v : FV l h t) (b : IsBox h l) (u : Up l h h') : FV l h' t := v.fq (u.fq b) fun _ e => e
theorem WV.up (v : WV l h t) (b : IsBox h l) (u : Up l h h') : WV l h' t := v.fq (u.fq b) fun _ e => e
theorem FV.app (v : FV l h t) (o : Hh) : FV l (h ++ o) t := v.fq (fq_app h o) fun _ f => f.elim
theorem WV.app (v : WV l h t) (o : Hh) : WV l (h ++ o) t := v.fq (fq_app h o) fun _ f => f.elim
theorem FV.same (v : FV l h t) : SameV h 1 t t := by
  rcases v with ⟨f, _⟩ | ⟨p, x, rfl, hp, e, hx⟩
  · exact .inl ⟨rfl, f⟩
  · exact SameV.lists e e (by simp) fun y hy => by rw [List.mem_singleton] at hy; subst hy; exact hx
theorem WV.same (v : WV l h t) : SameV h 2 t t := by
  rcases v with v | ⟨ts, rfl, hl, g⟩
  · exact v.same.up
  · refine SameV.tup rfl (by omega) fun i x y hx hy => ?_
    rw [hx] at hy
    cases hy
    exact (g x (List.mem_of_getElem? hx)).same
theorem FV.jd (v : FV l h t) : Jd t h := by
  rcases v with ⟨f, s⟩ | ⟨p, x, rfl, hp, e, hx⟩
  · cases t with
    | str x => exact s
    | non => trivial
    | bl x => trivial
    | int x => trivial
    | _ => cases f
  · exact .inl ⟨_, of_lstAt e⟩
theorem FV.nt (v : FV l h t) : ∀ ts, t ≠ .tup ts := fun ts e => by
  subst e
  rcases v with ⟨f, s⟩ | ⟨p, x, e, _⟩
  · cases f
  · cases e
theorem FV.jdN (v : FV l h t) (n : Nat) : JdN n t h := by
  cases n with
  | zero => exact v.jd
  | succ n => exact ⟨v.jd, fun ts e => (v.nt ts e).elim⟩
theorem WV.jdN (v : WV l h t) : JdN 1 t h := by
  rcases v with v | ⟨ts, rfl, hl, g⟩
  · exact v.jdN 1
  · exact jdN_tup (by omega) fun x hx => (g x hx).jdN 0
theorem FV.flat (f : flatT t = true) (s : shT t) : FV l h t := .inl ⟨f, s⟩
theorem FV.one {p : Nat} {x : T} (hp : p ≠ l) (e : lstAt h p = some [x]) (hx : flatT x = true) : FV l h (.ref p) := .inr ⟨p, x, rfl, hp, e, hx⟩
end
end W3
end

section
namespace W3
open PySem
theorem Fz.lst {n k : Nat} {h h' : Hh} {ts : List T} (f : Fz n h h') (e : lstAt h k = some ts) (hk : k < n) : lstAt h' k = some ts := by
  unfold lstAt at e ⊢
  rw [f.2 k hk]
  exact e
end W3
end

section
namespace W3
open PySem
end W3
end

section
namespace W3
open PySem
def atomT : T → Bool | .non => true | .int _ => true | .str _ => true | _ => false
def PlT : Nat → T → Prop
  | 0, t => atomT t = true
  | n + 1, t => atomT t = true ∨ ∃ ts, t = .tup ts ∧ ∀ x ∈ ts, PlT n x
theorem PlT.up {n : Nat} {t : T} (p : PlT n t) : PlT (n + 1) t := by
  induction n generalizing t with
  | zero => exact .inl p
  | succ n ih =>
    rcases p with p | ⟨ts, rfl, g⟩
    · exact .inl p
    · exact .inr ⟨ts, rfl, fun x hx => ih (g x hx)⟩
theorem PlT.add {n : Nat} {t : T} (p : PlT n t) : ∀ k, PlT (n + k) t
  | 0 => p
  | k + 1 => (p.add k).up
theorem PlT.tup {n : Nat} {ts : List T} (g : ∀ x ∈ ts, PlT n x) : PlT (n + 1) (.tup ts) := .inr ⟨ts, rfl, g⟩
end W3
end

section
namespace W3
open PySem
def atomB : T → Bool | .non => true | .bl _ => true | .str _ => true | _ => false
def PbT : Nat → T → Prop
  | 0, t => atomB t = true
  | n + 1, t => atomB t = true ∨ ∃ ts, t = .tup ts ∧ ∀ x ∈ ts, PbT n x
theorem PbT.up {n : Nat} {t : T} (p : PbT n t) : PbT (n + 1) t := by
  induction n generalizing t with
  | zero => exact .inl p
  | succ n ih =>
    rcases p with p | ⟨ts, rfl, g⟩
    · exact .inl p
    · exact .inr ⟨ts, rfl, fun x hx => ih (g x hx)⟩
theorem PbT.add {n : Nat} {t : T} (p : PbT n t) : ∀ k, PbT (n + k) t
  | 0 => p
  | k + 1 => (p.add k).up
theorem PbT.tup {n : Nat} {ts : List T} (g : ∀ x ∈ ts, PbT n x) : PbT (n + 1) (.tup ts) := .inr ⟨ts, rfl, g⟩
def RAt (h : Hh) (l : Nat) (vs : List T) : Prop := ∃ o c a w t s, vs = [o, c, a, w, t, s] ∧ h[l]? = some (.ins "Rule" (ruleIns o c a w t s))
theorem RAt.i {h : Hh} {l : Nat} {o c a w t s : T} (x : RAt h l [o, c, a, w, t, s]) : insAt h l = some (("Rule" : Str), ruleIns o c a w t s) := by
  obtain ⟨_, _, _, _, _, _, e, x⟩ := x
  cases e
  exact insAt_of x
theorem RAt.upK {h h' : Hh} {l b : Nat} {vs : List T} (x : RAt h l vs) (u : Up b h h') (hn : l ≠ b) : RAt h' l vs := by
  obtain ⟨o, c, a, w, t, s, e, x⟩ := x
  refine ⟨o, c, a, w, t, s, e, ?_⟩
  rw [u.keep l (List.getElem?_eq_some_iff.mp x).1 hn]
  exact x
theorem RAt.app {h : Hh} {l : Nat} {vs : List T} (x : RAt h l vs) (z : Hh) : RAt (h ++ z) l vs := by
  obtain ⟨o, c, a, w, t, s, e, x⟩ := x
  exact ⟨o, c, a, w, t, s, e, by rw [List.getElem?_append_left (List.getElem?_eq_some_iff.mp x).1]; exact x⟩
end W3
end

section
namespace W3
open PySem
def dtkOb (kvs : List (T × T)) : Ob := match kvs with | [] => .dic [] | _ => .dtk kvs
end W3
end

section
namespace W3
open PySem
instance instDecidableEqSd : DecidableEq Sd := fun a b =>
  if h : a.words = b.words ∧ a.shown = b.shown ∧ a.mess = b.mess ∧ a.known = b.known ∧ a.quest = b.quest ∧ a.wait = b.wait then
    isTrue (by
      obtain ⟨a1, a2, a3, a4, a5, a6⟩ := a
      obtain ⟨b1, b2, b3, b4, b5, b6⟩ := b
      obtain ⟨h1, h2, h3, h4, h5, h6⟩ := h
      simp only at h1 h2 h3 h4 h5 h6
      subst h1 h2 h3 h4 h5 h6
      rfl)
  else isFalse fun e => h (by subst e; exact ⟨rfl, rfl, rfl, rfl, rfl, rfl⟩)
structure Bs where
  rows : List Sd
  og : List (Option (Nat × Dd))
  tg : List (List (Option Nat))
  sn : List (List (Option (List Str)))
  ff : List (Ft × Nat × Dd)
def ogT : Option (Nat × Dd) → T | none => .tup [.int (-1), .non] | some (i, D) => .tup [.int i, D.t]
def tgT : Option Nat → T | none => .non | some i => .int i
def snT : Option (List Str) → T | none => .non | some ws => .tup (tSs ws)
def ffT (p : Ft × Nat × Dd) : T × T := (tPr p.1, .tup [.int p.2.1, p.2.2.t])
def rowsK (rows : List Sd) : List (T × T) := rows.zipIdx.map fun p => (p.1.t, .int p.2)
def sentEv : List Ev → Option (List Str)
  | [] => none
  | .sent ws :: _ => some ws
  | _ :: r => sentEv r
def addF (i : Nat) (D : Dd) : List Ft → List (Ft × Nat × Dd) → List (Ft × Nat × Dd)
  | [], ff => ff
  | p :: ps, ff => addF i D ps (if (ff.any fun q => decide (q.1 = p)) = true then ff else ff ++ [(p, i, D)])
def FfNd (ff : List (Ft × Nat × Dd)) : Prop := (ff.map (·.1)).Nodup
end W3
end

section
namespace W3
open PySem
structure Bp where
  bk : Nat
  ld : Nat
  rw : Nat
  pl : Nat
  og : Nat
  tg : Nat
  sn : Nat
  ff : Nat
  xs : List Nat
  ys : List Nat
  top : Nat
def bkIns (lf lr : Nat) (rs : Bool) (lim : Nat) (p : Bp) : List (Str × T) := [("form", .ref lf), ("rule", .ref lr), ("resets", .bl rs), ("limit", .int lim), ("deed_list", .ref p.ld), ("rows", .ref p.rw), ("places", .ref p.pl), ("origins", .ref p.og), ("targets", .ref p.tg), ("sents", .ref p.sn), ("first_faults", .ref p.ff)]
structure InAt (h : Hh) (lo hi : Nat) (xs : List Nat) (ls : List (List T)) : Prop where
  len : xs.length = ls.length
  at_ : ∀ (i x : Nat) (l : List T), xs[i]? = some x → ls[i]? = some l → lstAt h x = some l
  bd : ∀ x ∈ xs, lo < x ∧ x < hi
theorem InAt.nil (h : Hh) (lo hi : Nat) : InAt h lo hi [] [] := ⟨rfl, fun i x l e => by simp at e, fun x hx => by cases hx⟩
theorem InAt.keep {h h' : Hh} {lo hi hi' : Nat} {xs : List Nat} {ls : List (List T)} (q : InAt h lo hi xs ls) (hh : hi ≤ hi') (k : ∀ x, lo < x → x < hi → lstAt h' x = lstAt h x) : InAt h' lo hi' xs ls :=
  ⟨q.len, fun i x l e1 e2 => by
    obtain ⟨b1, b2⟩ := q.bd x (List.mem_of_getElem? e1)
    rw [k x b1 b2]
    exact q.at_ i x l e1 e2, fun x hx => ⟨(q.bd x hx).1, Nat.lt_of_lt_of_le (q.bd x hx).2 hh⟩⟩
theorem InAt.snoc {h : Hh} {lo hi y : Nat} {xs : List Nat} {ls : List (List T)} {l : List T} (q : InAt h lo hi xs ls) (e : lstAt h y = some l) (h1 : lo < y) (h2 : y < hi) : InAt h lo hi (xs ++ [y]) (ls ++ [l]) := by
  refine ⟨by simp [q.len], fun i x m e1 e2 => ?_, fun x hx => ?_⟩
  · by_cases hi' : i < xs.length
    · rw [List.getElem?_append_left hi'] at e1
      rw [List.getElem?_append_left (by rw [← q.len]; exact hi')] at e2
      exact q.at_ i x m e1 e2
    · have : i = xs.length := by
        have := (List.getElem?_eq_some_iff.mp e1).1
        simp at this; omega
      subst this
      rw [List.getElem?_append_right (Nat.le_refl _)] at e1
      rw [q.len, List.getElem?_append_right (Nat.le_refl _)] at e2
      simp at e1 e2
      rw [← e1, ← e2]; exact e
  · rcases List.mem_append.mp hx with z | z
    · exact q.bd x z
    · simp at z; subst z; exact ⟨h1, h2⟩
structure BkAt (n : Nat) (h : Hh) (lf lr : Nat) (rs : Bool) (lim : Nat) (tl : List (Str × T)) (Ds : List Dd) (p : Bp) (b : Bs) : Prop where
  ins : h[p.bk]? = some (.ins "Book" (bkIns lf lr rs lim p ++ tl))
  ld : lstAt h p.ld = some (Ds.map Dd.t)
  rw : lstAt h p.rw = some (b.rows.map Sd.t)
  pl : h[p.pl]? = some (dtkOb (rowsK b.rows))
  og : lstAt h p.og = some (b.og.map ogT)
  tg : lstAt h p.tg = some (p.xs.map T.ref)
  sn : lstAt h p.sn = some (p.ys.map T.ref)
  ff : h[p.ff]? = some (dtkOb (b.ff.map ffT))
  xa : InAt h p.ff p.top p.xs (b.tg.map fun f => f.map tgT)
  ya : InAt h p.ff p.top p.ys (b.sn.map fun f => f.map snT)
  o0 : n ≤ p.bk
  o1 : p.bk < p.ld
  o2 : p.ld < p.rw
  o3 : p.rw < p.pl
  o4 : p.pl < p.og
  o5 : p.og < p.tg
  o6 : p.tg < p.sn
  o7 : p.sn < p.ff
  o8 : p.ff < p.top
  o9 : p.top ≤ h.length
structure BsOk (fm : Fm) (snd : Str) (lim : Nat) (b : Bs) : Prop where
  nd : b.rows.Nodup
  le : b.rows.length ≤ lim
  ol : b.og.length = b.rows.length
  sd : ∀ d ∈ b.rows, SdOk fm snd d
section
variable {n lf lr lim : Nat} {rs : Bool} {tl : List (Str × T)} {Ds : List Dd} {p : Bp} {b : Bs} {h h' : Hh}
theorem BkAt.keep (q : BkAt n h lf lr rs lim tl Ds p b) (hl : h.length ≤ h'.length) (k : ∀ x, x < p.top → h'[x]? = h[x]?) : BkAt n h' lf lr rs lim tl Ds p b := by
  have kl : ∀ x, x < p.top → lstAt h' x = lstAt h x := fun x hx => by unfold lstAt; rw [k x hx]
  have := q.o1; have := q.o2; have := q.o3; have := q.o4; have := q.o5; have := q.o6; have := q.o7; have := q.o8; have := q.o9
  exact ⟨by rw [k _ (by omega)]; exact q.ins, by rw [kl _ (by omega)]; exact q.ld, by rw [kl _ (by omega)]; exact q.rw, by rw [k _ (by omega)]; exact q.pl, by rw [kl _ (by omega)]; exact q.og, by rw [kl _ (by omega)]; exact q.tg,
    by rw [kl _ (by omega)]; exact q.sn, by rw [k _ (by omega)]; exact q.ff, q.xa.keep (Nat.le_refl _) fun x _ hx => kl x hx, q.ya.keep (Nat.le_refl _) fun x _ hx => kl x hx, q.o0, q.o1, q.o2, q.o3, q.o4, q.o5, q.o6, q.o7, q.o8, Nat.le_trans q.o9 hl⟩
theorem BkAt.app (q : BkAt n h lf lr rs lim tl Ds p b) (z : Hh) : BkAt n (h ++ z) lf lr rs lim tl Ds p b :=
  q.keep (by simp) fun x hx => List.getElem?_append_left (by have := q.o9; omega)
theorem BkAt.set (q : BkAt n h lf lr rs lim tl Ds p b) {k : Nat} (hk : p.top ≤ k) (o : Ob) : BkAt n (h.set k o) lf lr rs lim tl Ds p b :=
  q.keep (by simp) fun x hx => List.getElem?_set_ne (by omega)
theorem ins_eq (q : BkAt n h lf lr rs lim tl Ds p b) : insAt h p.bk = some (("Book" : Str), bkIns lf lr rs lim p ++ tl) := insAt_of q.ins
end
end W3
end

section
namespace W3
open PySem
def keysU (fm : Fm) : List Ft := KINDSL.flatMap fun k => (names0 fm).map fun n => (k, n)
theorem keysU_len {fm : Fm} (o : FmOk fm) : (keysU fm).length ≤ 28 := by
  have h3 := o.f3
  have : (names0 fm).length ≤ 4 := by
    unfold names0 Fm.names
    simp
    exact h3
  unfold keysU KINDSL
  simp only [List.flatMap_cons, List.flatMap_nil, List.length_append, List.length_map, List.length_nil]
  omega
theorem nodup_le {α : Type} [DecidableEq α] : ∀ {l m : List α}, l.Nodup → (∀ x ∈ l, x ∈ m) → l.length ≤ m.length
  | [], m, _, _ => Nat.zero_le _
  | a :: l, m, nd, h => by
    rw [List.nodup_cons] at nd
    have ha := h a List.mem_cons_self
    have := nodup_le (l := l) (m := m.erase a) nd.2 fun x hx => (List.mem_erase_of_ne (fun (e : x = a) => nd.1 (by rw [← e]; exact hx))).mpr (h x (List.mem_cons_of_mem _ hx))
    rw [List.length_erase_of_mem ha] at this
    have : 0 < m.length := List.length_pos_of_mem ha
    simp only [List.length_cons]
    omega
structure FfOk (fm : Fm) (ff : List (Ft × Nat × Dd)) : Prop where
  nd : FfNd ff
  ks : ∀ q ∈ ff, q.1 ∈ keysU fm
theorem FfOk.len {fm : Fm} (o : FmOk fm) {ff : List (Ft × Nat × Dd)} (f : FfOk fm ff) : ff.length ≤ 28 := by
  have := nodup_le (l := ff.map (fun q : Ft × Nat × Dd => q.1)) (m := keysU fm) f.nd fun x hx => by
    obtain ⟨q, hq, rfl⟩ := List.mem_map.mp hx
    exact f.ks q hq
  rw [List.length_map] at this
  have := keysU_len o
  omega
theorem FfOk.one {fm : Fm} {ff : List (Ft × Nat × Dd)} (f : FfOk fm ff) {p : Ft} {i : Nat} {D : Dd} (hp : p ∈ keysU fm) : FfOk fm (if (ff.any fun q => decide (q.1 = p)) = true then ff else ff ++ [(p, i, D)]) := by
  split
  · exact f
  · rename_i z
    refine ⟨?_, fun q hq => ?_⟩
    · unfold FfNd
      rw [List.map_append, List.nodup_append]
      refine ⟨f.nd, by simp, fun a ha b hb => ?_⟩
      simp at hb
      subst hb
      obtain ⟨q, hq, rfl⟩ := List.mem_map.mp ha
      intro e
      apply z
      rw [List.any_eq_true]
      exact ⟨q, hq, by simpa using e⟩
    · rcases List.mem_append.mp hq with w | w
      · exact f.ks q w
      · simp at w; subst w; exact hp
theorem FfOk.add {fm : Fm} {i : Nat} {D : Dd} : ∀ {ps : List Ft} {ff : List (Ft × Nat × Dd)}, FfOk fm ff → (∀ p ∈ ps, p ∈ keysU fm) → FfOk fm (addF i D ps ff)
  | [], ff, f, _ => f
  | p :: ps, ff, f, h => by
    unfold addF
    exact FfOk.add (f.one (h p List.mem_cons_self)) fun q hq => h q (List.mem_cons_of_mem _ hq)
@[simp] theorem e_ssKSub (so si sv : SE) (σ : St3) (h : Hh) : ssKSub so si sv σ h = (sv σ h).flo σ fun y h1 => (so σ h1).flo σ fun x h2 => (si σ h2).flo σ fun k h3 => match x with
  | .ref l => (match h3[l]? with
    | some o => (match kPut o k y with | some o' => .nx σ (h3.set l o') | none => .stk)
    | none => .stk)
  | _ => .stk := Eq.trans rfl rfl
end W3
end

section
namespace W3
open PySem
def iT (i : Nat) : T := .int i
def calmB : Dd → Bool | .leave _ => true | .send => true | .answer _ => true | _ => false
def stk1 (i : Nat) (s : List (List Nat) × List Nat) (x : Dd × Option Nat × Option (List Str)) : List (List Nat) × List Nat :=
  match x.2.1 with
  | none => s
  | some t => if calmB x.1 = true then (s.1.modify t (fun l => l ++ [i]), if x.2.2.isSome = true ∧ i ∉ s.2.drop (s.2.length - 1) then s.2 ++ [i] else s.2) else s
def stkRow (i : Nat) (xs : List (Dd × Option Nat × Option (List Str))) (s : List (List Nat) × List Nat) : List (List Nat) × List Nat := xs.foldl (stk1 i) s
def stkAll (N : Nat) (Ds : List Dd) (tg : List (List (Option Nat))) (sn : List (List (Option (List Str)))) : Nat → List (List Nat) × List Nat
  | 0 => (List.replicate N [], [])
  | k + 1 => stkRow k (Ds.zip ((tg[k]?.getD []).zip (sn[k]?.getD []))) (stkAll N Ds tg sn k)
def bfs1 (xs : List Nat) (fd : List Nat) : List Nat := xs.foldl (fun fd s => if s ∈ fd then fd else fd ++ [s]) fd
def bfsR (src : List (List Nat)) : Nat → Nat → List Nat → List Nat
  | 0, _, fd => fd
  | k + 1, a, fd => match fd[a]? with
    | none => fd
    | some j => bfsR src k (a + 1) (bfs1 (src[j]?.getD []) fd)
def wrongB (fm : Fm) (d : Sd) : Bool := fm.fields.any fun p => (trueV fm d.words p).isSome
def stuckF (fm : Fm) (Ds : List Dd) (b : Bs) : List Nat :=
  (List.range b.rows.length).filter fun i => !decide (i ∈ bfsR (stkAll b.rows.length Ds b.tg b.sn b.rows.length).1 (b.rows.length + 1) 0 (stkAll b.rows.length Ds b.tg b.sn b.rows.length).2) && !(((b.rows[i]?).map (wrongB fm)).getD true)
structure StkOk (N i c : Nat) (s : List (List Nat) × List Nat) : Prop where
  len : s.1.length = N
  rg : ∀ l ∈ s.1, ∀ x ∈ l, x < N
  cap : ∀ l ∈ s.1, l.length ≤ c
  asc : s.2.Pairwise (· < ·)
  le : ∀ x ∈ s.2, x ≤ i
theorem StkOk.up {N i c : Nat} {s : List (List Nat) × List Nat} (q : StkOk N i c s) {i' c' : Nat} (hi : i ≤ i') (hc : c ≤ c') : StkOk N i' c' s := ⟨q.len, q.rg, fun l hl => Nat.le_trans (q.cap l hl) hc, q.asc, fun x hx => Nat.le_trans (q.le x hx) hi⟩
structure TgOk (N m : Nat) (tg : List (List (Option Nat))) (sn : List (List (Option (List Str)))) : Prop where
  fl : ∀ f ∈ tg, f.length = m ∧ ∀ t, some t ∈ f → t < N
  wl : ∀ w ∈ sn, w.length = m
  sl : sn.length = tg.length
theorem TgOk.up {N N' m : Nat} {tg : List (List (Option Nat))} {sn : List (List (Option (List Str)))} (q : TgOk N m tg sn) (h : N ≤ N') : TgOk N' m tg sn := ⟨fun f hf => ⟨(q.fl f hf).1, fun t ht => Nat.lt_of_lt_of_le ((q.fl f hf).2 t ht) h⟩, q.wl, q.sl⟩
end W3
end

section
namespace W3
open PySem
def SrcAt (h : Hh) (base : Nat) (src : List (List Nat)) : Prop := ∀ t l, src[t]? = some l → lstAt h (base + t) = some (l.map iT)
theorem SrcAt.app {h : Hh} {base : Nat} {src : List (List Nat)} (q : SrcAt h base src) (z : Hh) : SrcAt (h ++ z) base src := fun t l e => lstAt_app z (q t l e)
theorem SrcAt.put {h : Hh} {base t : Nat} {src : List (List Nat)} {l : List Nat} (q : SrcAt h base src) (e : src[t]? = some l) (i : Nat) : SrcAt (h.set (base + t) (.lst (l.map iT ++ [.int i]))) base (src.modify t (fun l => l ++ [i])) := fun u m em => by
  rw [List.getElem?_modify] at em
  by_cases hu : t = u
  · subst hu
    have em : l ++ [i] = m := by simpa [e] using em
    rw [lstAt_set_self (lstAt_lt (q t l e)), ← em, List.map_append]
    rfl
  · rw [lstAt_set_ne (by omega)]
    exact q u m (by simpa [hu] using em)
end W3
end

section
namespace W3
open PySem
def deedsD (fm : Fm) (rs : Bool) : List Dd := (fm.fields.flatMap fun p => fm.words.map fun w => Dd.enter p w) ++ fm.fields.map Dd.leave ++ [.send, .answer 0, .answer 1, .answer 2] ++ (if rs = true then [.reset] else [])
theorem deedsD_ok (fm : Fm) (rs : Bool) : ∀ D ∈ deedsD fm rs, DdOk fm D := by
  intro D hD
  unfold deedsD at hD
  rcases List.mem_append.mp hD with h | h
  · rcases List.mem_append.mp h with h | h
    · rcases List.mem_append.mp h with h | h
      · obtain ⟨p, hp, h⟩ := List.mem_flatMap.mp h
        obtain ⟨w, hw, rfl⟩ := List.mem_map.mp h
        exact ⟨hp, hw⟩
      · obtain ⟨p, hp, rfl⟩ := List.mem_map.mp h
        exact hp
    · simp at h
      rcases h with rfl | rfl | rfl | rfl
      · trivial
      · show 0 < 3; omega
      · show 1 < 3; omega
      · show 2 < 3; omega
  · cases rs with
    | true => simp at h; subst h; trivial
    | false => simp at h
structure BookOk (fm : Fm) (snd : Str) (lim m : Nat) (b : Bs) : Prop where
  ok : BsOk fm snd lim b
  fo : FfOk fm b.ff
  tk : TgOk b.rows.length m b.tg b.sn
end W3
end

section
namespace W3
open PySem
end W3
end

section
namespace W3
open PySem
def BookAt (h : Hh) (l a : Nat) (rs : Bool) (lim bk : Nat) (fm : Fm) (r : Ru) (b : Bs) : Prop :=
  ∃ (n : Nat) (p : Bp) (st : Nat), BkAt n h l a rs lim [("stuck_rows", .ref st)] (deedsD fm rs) p b ∧ p.bk = bk ∧ lstAt h st = some ((stuckF fm (deedsD fm rs) b).map iT) ∧ BookOk fm r.sending lim (deedsD fm rs).length b ∧ b.tg.length = b.rows.length ∧ 1 ≤ b.rows.length ∧ b.rows[0]? = some (startD fm)
theorem BookAt.app {h : Hh} {l a lim bk : Nat} {rs : Bool} {fm : Fm} {r : Ru} {b : Bs} (q : BookAt h l a rs lim bk fm r b) (z : Hh) : BookAt (h ++ z) l a rs lim bk fm r b := by
  obtain ⟨n, p, st, q1, q2, q3, q4⟩ := q
  exact ⟨n, p, st, q1.app z, q2, lstAt_app z q3, q4⟩
def runR (og : List (Option (Nat × Dd))) : Nat → Nat → List Dd
  | 0, _ => []
  | k + 1, i => match og[i]? with
    | some (some (j, D)) => D :: runR og k j
    | _ => []
def runD (og : List (Option (Nat × Dd))) (i : Nat) : List Dd := (runR og (i + 1) i).reverse
def OgOk (og : List (Option (Nat × Dd))) : Prop := ∀ (i j : Nat) (D : Dd), og[i]? = some (some (j, D)) → j < i
theorem runR_more {og : List (Option (Nat × Dd))} (o : OgOk og) : ∀ {k i : Nat}, i < k → runR og k i = runR og (i + 1) i
  | 0, i, h => by omega
  | k + 1, i, h => by
    unfold runR
    cases e : og[i]? with
    | none => rfl
    | some x =>
      cases x with
      | none => rfl
      | some y =>
        obtain ⟨j, D⟩ := y
        have hj := o i j D e
        simp only
        rw [runR_more o (show j < k by omega), ← runR_more o (show j < i by omega)]
end W3
end

section
namespace W3
open PySem
structure OgFull (fm : Fm) (r : Ru) (Ds : List Dd) (rows : List Sd) (og : List (Option (Nat × Dd))) : Prop where
  st : ∀ (k j : Nat) (D : Dd), og[k]? = some (some (j, D)) → j < k ∧ D ∈ Ds ∧ ∃ dj dk t, rows[j]? = some dj ∧ rows[k]? = some dk ∧ stepC fm r D dj = .ok dk t
  z : ∀ k, og[k]? = some none → k = 0
theorem OgFull.og {fm : Fm} {r : Ru} {Ds : List Dd} {rows : List Sd} {og : List (Option (Nat × Dd))} (q : OgFull fm r Ds rows og) : OgOk og := fun i j D e => (q.st i j D e).1
def ToOk (fm : Fm) (r : Ru) (rows : List Sd) (d : Sd) (D : Dd) (o : Option Nat) (w : Option (List Str)) : Prop := match stepC fm r D d with
  | .many _ => o = none ∧ w = none
  | .ok d' t => ∃ k, o = some k ∧ rows[k]? = some d' ∧ w = sentEv t
theorem ToOk.up {fm : Fm} {r : Ru} {rows rows' : List Sd} {d : Sd} {D : Dd} {o : Option Nat} {w : Option (List Str)} (q : ToOk fm r rows d D o w) (h : ∀ (j : Nat) (y : Sd), rows[j]? = some y → rows'[j]? = some y) : ToOk fm r rows' d D o w := by
  unfold ToOk at q ⊢
  split at q
  · exact q
  · obtain ⟨k, e1, e2, e3⟩ := q
    exact ⟨k, e1, h k _ e2, e3⟩
structure BkFull (fm : Fm) (r : Ru) (Ds : List Dd) (b : Bs) : Prop where
  og : OgFull fm r Ds b.rows b.og
  to : ∀ (i : Nat) (f : List (Option Nat)), b.tg[i]? = some f → ∃ d w, b.rows[i]? = some d ∧ b.sn[i]? = some w ∧ ∀ (k : Nat) (D : Dd), Ds[k]? = some D → ∃ o x, f[k]? = some o ∧ w[k]? = some x ∧ ToOk fm r b.rows d D o x
end W3
namespace W3
open PySem
end W3
namespace W3
open PySem
theorem BookAt.ins {h : Hh} {l a lim bk : Nat} {rs : Bool} {fm : Fm} {r : Ru} {b : Bs} (q : BookAt h l a rs lim bk fm r b) : ∃ fs, insAt h bk = some (("Book" : Str), fs) := by
  obtain ⟨n, p, st, q1, rfl, _⟩ := q
  exact ⟨_, ins_eq q1⟩
end W3
end

section
namespace W3
open PySem
def goes (fm : Fm) (r : Ru) : Sd → List Dd → Sd → Prop
  | d, [], e => d = e
  | d, D :: Ds, e => ∃ d' t, stepC fm r D d = .ok d' t ∧ goes fm r d' Ds e
theorem goes_snoc {fm : Fm} {r : Ru} {D : Dd} {e e' : Sd} {t : List Ev} (hs : stepC fm r D e = .ok e' t) : ∀ {Ds : List Dd} {d : Sd}, goes fm r d Ds e → goes fm r d (Ds ++ [D]) e'
  | [], d, h => by
    have h : d = e := h
    subst h
    exact ⟨e', t, hs, rfl⟩
  | E :: Ds, d, ⟨d', t', h1, h2⟩ => ⟨d', t', h1, goes_snoc hs h2⟩
theorem runD_zero {og : List (Option (Nat × Dd))} {i : Nat} (h : og[i]? = some none) : runD og i = [] := by
  unfold runD runR
  rw [h]
  rfl
theorem runD_succ {og : List (Option (Nat × Dd))} (o : OgOk og) {i j : Nat} {D : Dd} (h : og[i]? = some (some (j, D))) : runD og i = runD og j ++ [D] := by
  have hj := o i j D h
  have e : runR og (i + 1) i = D :: runR og (j + 1) j := by
    show (match og[i]? with | some (some (j, D)) => D :: runR og i j | _ => []) = _
    rw [h]
    simp only
    rw [runR_more o hj]
  unfold runD
  rw [e, List.reverse_cons]
theorem run_goes {fm : Fm} {r : Ru} {Ds : List Dd} {rows : List Sd} {og : List (Option (Nat × Dd))} (q : OgFull fm r Ds rows og) (hl : og.length = rows.length) {d0 : Sd} (h0 : rows[0]? = some d0) : ∀ (n i : Nat), i < n → ∀ d, rows[i]? = some d → goes fm r d0 (runD og i) d ∧ (runD og i).length ≤ i ∧ ∀ D ∈ runD og i, D ∈ Ds
  | 0, i, h, _, _ => by omega
  | n + 1, i, h, d, hd => by
    have hi := (List.getElem?_eq_some_iff.mp hd).1
    obtain ⟨x, hx⟩ : ∃ x, og[i]? = some x := ⟨_, List.getElem?_eq_getElem (by omega)⟩
    cases x with
    | none =>
      have hz := q.z i hx
      subst hz
      rw [h0] at hd
      cases hd
      rw [runD_zero hx]
      exact ⟨rfl, Nat.le_refl _, fun D hD => by cases hD⟩
    | some y =>
      obtain ⟨j, D⟩ := y
      obtain ⟨h1, h2, dj, dk, t, r1, r2, r3⟩ := q.st i j D hx
      rw [hd] at r2
      cases r2
      obtain ⟨g1, g2, g3⟩ := run_goes q hl h0 n j (by omega) dj r1
      rw [runD_succ q.og hx]
      refine ⟨goes_snoc r3 g1, by simp; omega, fun E hE => ?_⟩
      rcases List.mem_append.mp hE with z | z
      · exact g3 E z
      · simp at z; subst z; exact h2
end W3
end

section
namespace W3
open PySem
def dAt : Dd → List (Str ⊕ Int)
  | .enter p w => [.inl "enter", .inl p.1, .inl w]
  | .leave p => [.inl "leave", .inl p.1]
  | .send => [.inl "send"]
  | .answer i => [.inl "answer", .inr i]
  | .reset => [.inl "reset"]
end W3
end

section
namespace W3
open PySem
end W3
end

section
namespace W3
open PySem
def dIx (Ds : List Dd) (D : Dd) : Nat := Ds.findIdx fun E => decide (dAt E = dAt D)
def IxOk (Ds : List Dd) : Prop := ∀ (j : Nat) (D : Dd), Ds[j]? = some D → dIx Ds D = j
structure OgOrd (Ds : List Dd) (og : List (Option (Nat × Dd))) (i n : Nat) : Prop where
  ord : ∀ (k k' j j' : Nat) (D D' : Dd), og[k]? = some (some (j, D)) → og[k']? = some (some (j', D')) → k < k' → j < j' ∨ (j = j' ∧ dIx Ds D < dIx Ds D')
  bd : ∀ (k j : Nat) (D : Dd), og[k]? = some (some (j, D)) → j < i ∨ (j = i ∧ dIx Ds D < n)
theorem OgOrd.up {Ds : List Dd} {og : List (Option (Nat × Dd))} {i n i' n' : Nat} (q : OgOrd Ds og i n) (h : i < i' ∨ (i = i' ∧ n ≤ n')) : OgOrd Ds og i' n' :=
  ⟨q.ord, fun k j D e => by rcases q.bd k j D e with z | ⟨z, w⟩ <;> omega⟩
theorem OgOrd.snoc {Ds : List Dd} {og : List (Option (Nat × Dd))} {i n : Nat} {D : Dd} (q : OgOrd Ds og i n) (hD : dIx Ds D = n) : OgOrd Ds (og ++ [some (i, D)]) i (n + 1) := by
  have at_ : ∀ {k : Nat} {x : Option (Nat × Dd)}, (og ++ [some (i, D)])[k]? = some x → (og[k]? = some x ∧ k < og.length) ∨ (k = og.length ∧ x = some (i, D)) := fun {k x} h => by
    by_cases hk : k < og.length
    · rw [List.getElem?_append_left hk] at h
      exact .inl ⟨h, hk⟩
    · have hk2 : k = og.length := by
        have := (List.getElem?_eq_some_iff.mp h).1
        simp at this; omega
      subst hk2
      rw [List.getElem?_append_right (Nat.le_refl _)] at h
      simp at h
      exact .inr ⟨rfl, h.symm⟩
  refine ⟨fun k k' j j' E E' h1 h2 hk => ?_, fun k j E h => ?_⟩
  · rcases at_ h1 with ⟨g1, l1⟩ | ⟨g0, g1⟩
    · rcases at_ h2 with ⟨g2, l2⟩ | ⟨_, g2⟩
      · exact q.ord k k' j j' E E' g1 g2 hk
      · injection g2 with g2
        injection g2 with g3 g4
        subst g3 g4
        rcases q.bd k j E g1 with z | ⟨z, w⟩
        · exact .inl z
        · exact .inr ⟨z, by omega⟩
    · rcases at_ h2 with ⟨g2, l2⟩ | ⟨g2, _⟩ <;> omega
  · rcases at_ h with ⟨g, l⟩ | ⟨_, g⟩
    · rcases q.bd k j E g with z | ⟨z, w⟩
      · exact .inl z
      · exact .inr ⟨z, by omega⟩
    · injection g with g
      injection g with g3 g4
      subst g3 g4
      exact .inr ⟨rfl, by omega⟩
def Early (fm : Fm) (r : Ru) (Ds : List Dd) (rows : List Sd) (og : List (Option (Nat × Dd))) (d : Sd) (i : Nat) (D : Dd) : Prop :=
  ∀ d' t, stepC fm r D d = .ok d' t → ∃ (k : Nat) (x : Option (Nat × Dd)), rows[k]? = some d' ∧ og[k]? = some x ∧ (x = none ∨ ∃ j E, x = some (j, E) ∧ (j < i ∨ (j = i ∧ dIx Ds E ≤ dIx Ds D)))
theorem Early.up {fm : Fm} {r : Ru} {Ds : List Dd} {rows rows' : List Sd} {og og' : List (Option (Nat × Dd))} {d : Sd} {i : Nat} {D : Dd} (q : Early fm r Ds rows og d i D) (h1 : ∀ (j : Nat) (y : Sd), rows[j]? = some y → rows'[j]? = some y) (h2 : ∀ (j : Nat) (y : Option (Nat × Dd)), og[j]? = some y → og'[j]? = some y) : Early fm r Ds rows' og' d i D := fun d' t e => by
  obtain ⟨k, x, e1, e2, e3⟩ := q d' t e
  exact ⟨k, x, h1 k _ e1, h2 k _ e2, e3⟩
structure BkOrd (fm : Fm) (r : Ru) (Ds : List Dd) (b : Bs) : Prop where
  og : OgOrd Ds b.og b.tg.length 0
  to : ∀ (i : Nat) (d : Sd) (D : Dd), i < b.tg.length → b.rows[i]? = some d → D ∈ Ds → Early fm r Ds b.rows b.og d i D
end W3
end

section
namespace W3
open PySem
end W3
namespace W3
open PySem
def metK (rows : List Sd) : List (T × T) := rows.map fun d => (d.t, T.bl true)
end W3
end

section
namespace W3
open PySem
def sentX (fm : Fm) (r : Ru) (D : Dd) (d : Sd) : Option (List Str) := match stepC fm r D d with | .ok _ t => sentEv t | .many _ => none
def SntP (fm : Fm) (r : Ru) (Ds : List Dd) (b : Bs) (i j : Nat) : Prop := ∃ d D, b.rows[i]? = some d ∧ Ds[j]? = some D ∧ (sentX fm r D d).isSome = true
def SntV (fm : Fm) (r : Ru) (Ds : List Dd) (b : Bs) (t : T) : Prop := (t = .non ∧ ∀ i j, ¬ SntP fm r Ds b i j) ∨
  ∃ i j D, SntP fm r Ds b i j ∧ Ds[j]? = some D ∧ (∀ i' j', SntP fm r Ds b i' j' → i < i' ∨ (i = i' ∧ j ≤ j')) ∧ t = .tup ((runD b.og i ++ [D]).map Dd.t)
theorem SntV.uniq {fm : Fm} {r : Ru} {Ds : List Dd} {b : Bs} {t u : T} (p : SntV fm r Ds b t) (q : SntV fm r Ds b u) : t = u := by
  rcases p with ⟨rfl, p⟩ | ⟨i, j, D, p1, p2, p3, rfl⟩
  · rcases q with ⟨rfl, q⟩ | ⟨i, j, D, q1, q2, q3, rfl⟩
    · rfl
    · exact absurd q1 (p i j)
  · rcases q with ⟨rfl, q⟩ | ⟨i', j', D', q1, q2, q3, rfl⟩
    · exact absurd p1 (q i j)
    · have e : i = i' ∧ j = j' := by
        rcases p3 i' j' q1 with z | ⟨z, w⟩ <;> rcases q3 i j p1 with z' | ⟨z', w'⟩ <;> omega
      obtain ⟨rfl, rfl⟩ := e
      rw [p2] at q2
      cases q2
      rfl
def ShwP (b : Bs) (p : Nat) (m : Str) (i : Nat) : Prop := ∃ d, b.rows[i]? = some d ∧ d.mess[p]? = some (some m)
def ShwV (b : Bs) (p : Nat) (m : Str) (t : T) : Prop := (t = .non ∧ ∀ i, ¬ ShwP b p m i) ∨ ∃ i, ShwP b p m i ∧ (∀ i', ShwP b p m i' → i ≤ i') ∧ t = .tup ((runD b.og i).map Dd.t)
theorem ShwV.uniq {b : Bs} {p : Nat} {m : Str} {t u : T} (x : ShwV b p m t) (q : ShwV b p m u) : t = u := by
  rcases x with ⟨rfl, x⟩ | ⟨i, x1, x2, rfl⟩
  · rcases q with ⟨rfl, q⟩ | ⟨i, q1, q2, rfl⟩
    · rfl
    · exact absurd q1 (x i)
  · rcases q with ⟨rfl, q⟩ | ⟨i', q1, q2, rfl⟩
    · exact absurd x1 (q i)
    · have e : i = i' := by have := x2 i' q1; have := q2 i x1; omega
      subst e
      rfl
theorem pure_run {fm : Fm} {r : Ru} {rs : Bool} {b : Bs} (full : BkFull fm r (deedsD fm rs) b) (ol : b.og.length = b.rows.length) (h0 : b.rows[0]? = some (startD fm)) (hl : b.rows.length ≤ 900) {i : Nat} {d : Sd} (hi : b.rows[i]? = some d) {tl : List Dd} (ht : ∀ D ∈ tl, D ∈ deedsD fm rs) (htl : tl.length ≤ 1) : PureT 5 (.tup ((runD b.og i ++ tl).map Dd.t)) := by
  obtain ⟨_, gl, gm⟩ := run_goes full.og ol h0 (i + 1) i (by omega) d hi
  have hil := (List.getElem?_eq_some_iff.mp hi).1
  refine .inr ⟨_, rfl, by simp; omega, fun x hx => ?_⟩
  obtain ⟨D, hD, rfl⟩ := List.mem_map.mp hx
  rcases List.mem_append.mp hD with z | z
  · exact (pure_dd (deedsD_ok fm rs D (gm D z))).add 3
  · exact (pure_dd (deedsD_ok fm rs D (ht D z))).add 3
theorem SntV.pure {fm : Fm} {r : Ru} {rs : Bool} {b : Bs} {t : T} (v : SntV fm r (deedsD fm rs) b t) (full : BkFull fm r (deedsD fm rs) b) (ol : b.og.length = b.rows.length) (h0 : b.rows[0]? = some (startD fm)) (hl : b.rows.length ≤ 900) : PureT 5 t := by
  rcases v with ⟨rfl, _⟩ | ⟨i, j, D, ⟨d, D', hi, hj, _⟩, p2, _, rfl⟩
  · exact .inl rfl
  · exact pure_run full ol h0 hl hi (fun E hE => by simp at hE; subst hE; exact List.mem_of_getElem? p2) (by simp)
theorem ShwV.pure {fm : Fm} {r : Ru} {rs : Bool} {b : Bs} {p : Nat} {m : Str} {t : T} (v : ShwV b p m t) (full : BkFull fm r (deedsD fm rs) b) (ol : b.og.length = b.rows.length) (h0 : b.rows[0]? = some (startD fm)) (hl : b.rows.length ≤ 900) : PureT 5 t := by
  rcases v with ⟨rfl, _⟩ | ⟨i, ⟨d, hi, _⟩, _, rfl⟩
  · exact .inl rfl
  · have := pure_run full ol h0 hl hi (tl := []) (fun E hE => by cases hE) (by simp)
    rw [List.append_nil] at this
    exact this
end W3
end

section
namespace W3
open PySem
def prK (ps : List Ft) : List (T × T) := ps.map fun p => (tPr p, T.bl true)
end W3
namespace W3
open PySem
structure Nv (h g : Hh) (ps : List Ft) : Prop where
  out : ∃ z, g = h ++ z
  at_ : g[h.length]? = some (dtkOb (prK ps))
section
variable {h g : Hh} {ps : List Ft}
theorem Nv.lt (q : Nv h g ps) : h.length < g.length := (List.getElem?_eq_some_iff.mp q.at_).1
theorem Nv.app (q : Nv h g ps) (z : Hh) : Nv h (g ++ z) ps := ⟨by obtain ⟨y, rfl⟩ := q.out; exact ⟨y ++ z, List.append_assoc _ _ _⟩, by rw [List.getElem?_append_left q.lt]; exact q.at_⟩
theorem Nv.put (q : Nv h g ps) (qs : List Ft) : Nv h (g.set h.length (dtkOb (prK qs))) qs := by
  refine ⟨?_, List.getElem?_set_self q.lt⟩
  obtain ⟨y, rfl⟩ := q.out
  exact ⟨y.set 0 (dtkOb (prK qs)), by rw [List.set_append_right _ _ (Nat.le_refl _)]; simp⟩
theorem Nv.new (h : Hh) : Nv h (h ++ [.dic []]) [] := ⟨⟨_, rfl⟩, by rw [List.getElem?_append_right (Nat.le_refl _)]; simp [prK, dtkOb]⟩
end
end W3
namespace W3
open PySem
end W3
end

section
namespace W3
open PySem
def fltX (fm : Fm) (r : Ru) (d : Sd) (D : Dd) : List Ft := match stepC fm r D d with | .many m => [("full", m)] | .ok d' t => faultsF fm d' t
structure FltOk (fm : Fm) (r : Ru) (Ds : List Dd) (rows : List Sd) (ff : List (Ft × Nat × Dd)) (i n : Nat) : Prop where
  so : ∀ q ∈ ff, ∃ d, rows[q.2.1]? = some d ∧ q.2.2 ∈ Ds ∧ q.1 ∈ fltX fm r d q.2.2 ∧ (q.2.1 < i ∨ (q.2.1 = i ∧ dIx Ds q.2.2 < n))
  co : ∀ (j : Nat) (d : Sd) (D : Dd), rows[j]? = some d → D ∈ Ds → (j < i ∨ (j = i ∧ dIx Ds D < n)) → ∀ p ∈ fltX fm r d D, ∃ q ∈ ff, q.1 = p ∧ (q.2.1 < j ∨ (q.2.1 = j ∧ dIx Ds q.2.2 ≤ dIx Ds D))
theorem FltOk.up {fm : Fm} {r : Ru} {Ds : List Dd} (ix : IxOk Ds) {rows : List Sd} {ff : List (Ft × Nat × Dd)} {i : Nat} (q : FltOk fm r Ds rows ff i Ds.length) : FltOk fm r Ds rows ff (i + 1) 0 :=
  ⟨fun x hx => by
    obtain ⟨d, a1, a2, a3, a4⟩ := q.so x hx
    exact ⟨d, a1, a2, a3, .inl (by rcases a4 with a | ⟨a, _⟩ <;> omega)⟩, fun j d D hj hD hlt p hp => by
    refine q.co j d D hj hD ?_ p hp
    obtain ⟨m, hm⟩ := List.getElem?_of_mem hD
    have := ix m D hm
    have := (List.getElem?_eq_some_iff.mp hm).1
    rcases hlt with z | ⟨z, w⟩
    · by_cases h : j < i
      · exact .inl h
      · exact .inr ⟨by omega, by omega⟩
    · omega⟩
structure BkFlt (fm : Fm) (r : Ru) (Ds : List Dd) (b : Bs) : Prop where
  so : ∀ q ∈ b.ff, ∃ d, b.rows[q.2.1]? = some d ∧ q.2.2 ∈ Ds ∧ q.1 ∈ fltX fm r d q.2.2
  co : ∀ (j : Nat) (d : Sd) (D : Dd), b.rows[j]? = some d → D ∈ Ds → ∀ p ∈ fltX fm r d D, ∃ q ∈ b.ff, q.1 = p ∧ (q.2.1 < j ∨ (q.2.1 = j ∧ dIx Ds q.2.2 ≤ dIx Ds D))
end W3
end

section
namespace W3
open PySem
inductive SndC (fm : Fm) (r : Ru) : Sd → Prop
  | here {d d' : Sd} {D : Dd} {t : List Ev} (k : DdOk fm D) (c : calmB D = true) (e : stepC fm r D d = .ok d' t) (s : (sentEv t).isSome = true) : SndC fm r d
  | there {d d' : Sd} {D : Dd} {t : List Ev} (k : DdOk fm D) (c : calmB D = true) (e : stepC fm r D d = .ok d' t) (s : SndC fm r d') : SndC fm r d
end W3
end

section
namespace W3
open PySem
def ClosL (fm : Fm) (r : Ru) (Ds : List Dd) (B : List Sd) : Prop := ∀ d ∈ B, ∀ D ∈ Ds, ∀ d' t, stepC fm r D d = .ok d' t → d' ∈ B
end W3
end

section
namespace W3
open PySem
abbrev Sr := List Sd × List (List Dd)
structure SrOk (fm : Fm) (snd : Str) (Ds : List Dd) (s : Sr) : Prop where
  nd : s.1.Nodup
  sd : ∀ d ∈ s.1, SdOk fm snd d
  ln : s.2.length = s.1.length
  rl : ∀ (i : Nat) (P : List Dd), s.2[i]? = some P → P.length ≤ i ∧ ∀ D ∈ P, D ∈ Ds
end W3
namespace W3
open PySem
structure R56 (h g : Hh) (fl rl dl : Nat) (s : Sr) : Prop where
  out : ∃ z, g = h ++ z
  f : lstAt g fl = some (s.1.map Sd.t)
  r : lstAt g rl = some (s.2.map fun P => T.tup (P.map Dd.t))
  d : g[dl]? = some (dtkOb (metK s.1))
  hf : h.length ≤ fl
  hr : h.length ≤ rl
  hd : h.length ≤ dl
  fr : fl ≠ rl
section
variable {h g : Hh} {fl rl dl : Nat} {s : Sr}
theorem R56.app (q : R56 h g fl rl dl s) (z : Hh) : R56 h (g ++ z) fl rl dl s :=
  ⟨by obtain ⟨y, rfl⟩ := q.out; exact ⟨y ++ z, List.append_assoc _ _ _⟩, lstAt_app z q.f, lstAt_app z q.r, by rw [List.getElem?_append_left (List.getElem?_eq_some_iff.mp q.d).1]; exact q.d, q.hf, q.hr, q.hd, q.fr⟩
theorem out_set {x : Nat} {o : Ob} (q : ∃ z, g = h ++ z) (hx : h.length ≤ x) : ∃ z, g.set x o = h ++ z := by
  obtain ⟨z, rfl⟩ := q
  exact ⟨_, List.set_append_right _ _ hx⟩
theorem R56.df (q : R56 h g fl rl dl s) : fl ≠ dl := fun e => by
  have a := of_lstAt q.f
  have b := q.d
  rw [e, b] at a
  cases hm : metK s.1 <;> rw [hm] at a <;> cases a
theorem R56.dr (q : R56 h g fl rl dl s) : rl ≠ dl := fun e => by
  have a := of_lstAt q.r
  have b := q.d
  rw [e, b] at a
  cases hm : metK s.1 <;> rw [hm] at a <;> cases a
theorem R56.add (q : R56 h g fl rl dl s) (d : Sd) (P : List Dd) : R56 h (((g.set dl (dtkOb (metK (s.1 ++ [d])))).set fl (.lst ((s.1 ++ [d]).map Sd.t))).set rl (.lst ((s.2 ++ [P]).map fun P => T.tup (P.map Dd.t)))) fl rl dl (s.1 ++ [d], s.2 ++ [P]) := by
  have l1 := lstAt_lt q.f
  have l2 := lstAt_lt q.r
  have l3 := (List.getElem?_eq_some_iff.mp q.d).1
  refine ⟨out_set (out_set (out_set q.out q.hd) q.hf) q.hr, ?_, ?_, ?_, q.hf, q.hr, q.hd, q.fr⟩
  · rw [lstAt_set_ne q.fr.symm, lstAt_set_self (by rw [List.length_set]; exact l1)]
  · rw [lstAt_set_self (by rw [List.length_set, List.length_set]; exact l2)]
  · rw [List.getElem?_set_ne q.dr, List.getElem?_set_ne q.df, List.getElem?_set_self l3]
end
end W3
namespace W3
open PySem
end W3
namespace W3
open PySem
end W3
end

section
namespace W3
open PySem
end W3
namespace W3
open PySem
end W3
namespace W3
open PySem
end W3
namespace W3
open PySem
structure Nk (h g : Hh) (kvs : List (T × T)) : Prop where
  out : ∃ z, g = h ++ z
  at_ : g[h.length]? = some (dtkOb kvs)
section
variable {h g : Hh} {kvs : List (T × T)}
theorem Nk.lt (q : Nk h g kvs) : h.length < g.length := (List.getElem?_eq_some_iff.mp q.at_).1
theorem Nk.app (q : Nk h g kvs) (z : Hh) : Nk h (g ++ z) kvs := ⟨by obtain ⟨y, rfl⟩ := q.out; exact ⟨y ++ z, List.append_assoc _ _ _⟩, by rw [List.getElem?_append_left q.lt]; exact q.at_⟩
theorem Nk.put (q : Nk h g kvs) (qs : List (T × T)) : Nk h (g.set h.length (dtkOb qs)) qs := by
  refine ⟨?_, List.getElem?_set_self q.lt⟩
  obtain ⟨y, rfl⟩ := q.out
  exact ⟨y.set 0 (dtkOb qs), by rw [List.set_append_right _ _ (Nat.le_refl _)]; simp⟩
theorem Nk.new (h : Hh) : Nk h (h ++ [.dic []]) [] := ⟨⟨_, rfl⟩, by rw [List.getElem?_append_right (Nat.le_refl _)]; simp [dtkOb]⟩
end
end W3
namespace W3
open PySem
end W3
end

section
namespace W3
open PySem
structure InvR (fm : Fm) (r : Ru) (rows R : List Sd) : Prop where
  nd : R.Nodup
  s : ∀ d ∈ R, d ∈ rows ∧ SndC fm r d
end W3
end

section
namespace W3
open PySem
structure Cp where
  n : Nat
  rw : Nat
  pl : Nat
  tg : Nat
  sn : Nat
  fk : Nat
def clIns (lf lr ld : Nat) (p : Cp) : List (Str × T) := [("form", .ref lf), ("rule", .ref lr), ("deed_list", .ref ld), ("rows", .ref p.rw), ("places", .ref p.pl), ("targets", .ref p.tg), ("sents", .ref p.sn), ("fault_kinds", .ref p.fk)]
structure C63 (h g : Hh) (lf lr ld : Nat) (p : Cp) (rows : List Sd) (kt kf : Nat) : Prop where
  out : ∃ z, g = h ++ z
  ins : g[p.n]? = some (.ins "ClosedList" (clIns lf lr ld p))
  rw : lstAt g p.rw = some (rows.map Sd.t)
  pl : g[p.pl]? = some (dtkOb (rowsK rows))
  tg : ∃ ts, lstAt g p.tg = some ts ∧ ts.length ≤ kt
  sn : ∃ ts, lstAt g p.sn = some ts ∧ ts.length ≤ kt
  fk : ∃ ts, lstAt g p.fk = some ts ∧ ts.length ≤ kf
  o : h.length ≤ p.n ∧ p.n < p.rw ∧ p.rw < p.pl ∧ p.pl < p.tg ∧ p.tg < p.sn ∧ p.sn < p.fk
section
variable {h g : Hh} {lf lr ld : Nat} {p : Cp} {rows : List Sd} {kt kf : Nat}
theorem C63.len (q : C63 h g lf lr ld p rows kt kf) : p.fk < g.length := by obtain ⟨ts, e, _⟩ := q.fk; exact lstAt_lt e
theorem C63.app (q : C63 h g lf lr ld p rows kt kf) (z : Hh) : C63 h (g ++ z) lf lr ld p rows kt kf := by
  have l := q.len
  have o := q.o
  obtain ⟨t1, e1, l1⟩ := q.tg
  obtain ⟨t2, e2, l2⟩ := q.sn
  obtain ⟨t3, e3, l3⟩ := q.fk
  refine ⟨?_, by rw [List.getElem?_append_left (by omega)]; exact q.ins, lstAt_app z q.rw, by rw [List.getElem?_append_left (by omega)]; exact q.pl, ⟨t1, lstAt_app z e1, l1⟩, ⟨t2, lstAt_app z e2, l2⟩, ⟨t3, lstAt_app z e3, l3⟩, o⟩
  obtain ⟨y, rfl⟩ := q.out
  exact ⟨y ++ z, List.append_assoc _ _ _⟩
end
theorem C63.mono {h g : Hh} {lf lr ld : Nat} {p : Cp} {rows : List Sd} {kt kf kf' : Nat} (q : C63 h g lf lr ld p rows kt kf) (hk : kf ≤ kf') : C63 h g lf lr ld p rows kt kf' := by
  obtain ⟨t3, e3, l3⟩ := q.fk
  exact ⟨q.out, q.ins, q.rw, q.pl, q.tg, q.sn, ⟨t3, e3, by omega⟩, q.o⟩
theorem ClosL.same {fm : Fm} {r : Ru} {Ds : List Dd} {A B : List Sd} (e : ∀ d, d ∈ A ↔ d ∈ B) (q : ClosL fm r Ds A) : ClosL fm r Ds B := fun d hd D hD d' t es => (e d').mp (q d ((e d).mpr hd) D hD d' t es)
end W3
end

section
namespace W3
open PySem
structure C65 (h g : Hh) (lf lr ld : Nat) (p : Cp) (tl : List (Str × T)) (rows : List Sd) (TG : List (List (Option Nat))) (SN : List (List (Option (List Str)))) (FK : List Str) (xs ys : List Nat) : Prop where
  out : ∃ z, g = h ++ z
  ins : g[p.n]? = some (.ins "ClosedList" (clIns lf lr ld p ++ tl))
  rw : lstAt g p.rw = some (rows.map Sd.t)
  pl : g[p.pl]? = some (dtkOb (rowsK rows))
  tg : lstAt g p.tg = some (xs.map T.ref)
  sn : lstAt g p.sn = some (ys.map T.ref)
  fk : lstAt g p.fk = some (tSs FK)
  xa : InAt g p.fk g.length xs (TG.map fun f => f.map tgT)
  ya : InAt g p.fk g.length ys (SN.map fun f => f.map snT)
  o : h.length ≤ p.n ∧ p.n < p.rw ∧ p.rw < p.pl ∧ p.pl < p.tg ∧ p.tg < p.sn ∧ p.sn < p.fk
section
variable {h g : Hh} {lf lr ld : Nat} {p : Cp} {tl : List (Str × T)} {rows : List Sd} {tg : List (List (Option Nat))} {sn : List (List (Option (List Str)))} {fk : List Str} {xs ys : List Nat}
theorem C65.len (q : C65 h g lf lr ld p tl rows tg sn fk xs ys) : p.fk < g.length := lstAt_lt q.fk
theorem C65.app (q : C65 h g lf lr ld p tl rows tg sn fk xs ys) (z : Hh) : C65 h (g ++ z) lf lr ld p tl rows tg sn fk xs ys := by
  have l := q.len
  have o := q.o
  have hl : g.length ≤ (g ++ z).length := by simp
  have kp : ∀ x, p.fk < x → x < g.length → lstAt (g ++ z) x = lstAt g x := fun x _ hx => by unfold lstAt; rw [List.getElem?_append_left hx]
  refine ⟨?_, by rw [List.getElem?_append_left (by omega)]; exact q.ins, lstAt_app z q.rw, by rw [List.getElem?_append_left (by omega)]; exact q.pl, lstAt_app z q.tg, lstAt_app z q.sn, lstAt_app z q.fk, q.xa.keep hl kp, q.ya.keep hl kp, o⟩
  obtain ⟨y, rfl⟩ := q.out
  exact ⟨y ++ z, List.append_assoc _ _ _⟩
theorem C65.add (q : C65 h g lf lr ld p tl rows tg sn fk xs ys) {x y : Nat} {f : List (Option Nat)} {w : List (Option (List Str))} (ex : lstAt g x = some (f.map tgT)) (ey : lstAt g y = some (w.map snT)) (hx : p.fk < x) (hy : p.fk < y) : C65 h ((g.set p.tg (.lst ((xs ++ [x]).map T.ref))).set p.sn (.lst ((ys ++ [y]).map T.ref))) lf lr ld p tl rows (tg ++ [f]) (sn ++ [w]) fk (xs ++ [x]) (ys ++ [y]) := by
  have ho := q.o
  have l := q.len
  have lx := lstAt_lt ex
  have ly := lstAt_lt ey
  have kp : ∀ x, p.fk < x → x < g.length → lstAt ((g.set p.tg (.lst ((xs ++ [x]).map T.ref))).set p.sn (.lst ((ys ++ [y]).map T.ref))) x = lstAt g x := fun x hx _ => by rw [lstAt_set_ne (by omega), lstAt_set_ne (by omega)]
  have kp2 : ∀ v, p.fk < v → lstAt ((g.set p.tg (.lst ((xs ++ [x]).map T.ref))).set p.sn (.lst ((ys ++ [y]).map T.ref))) v = lstAt g v := fun v hv => by rw [lstAt_set_ne (by omega), lstAt_set_ne (by omega)]
  have hl : ((g.set p.tg (.lst ((xs ++ [x]).map T.ref))).set p.sn (.lst ((ys ++ [y]).map T.ref))).length = g.length := by simp
  refine ⟨out_set (out_set q.out (by omega)) (by omega), by rw [List.getElem?_set_ne (by omega), List.getElem?_set_ne (by omega)]; exact q.ins, by rw [lstAt_set_ne (by omega), lstAt_set_ne (by omega)]; exact q.rw, by rw [List.getElem?_set_ne (by omega), List.getElem?_set_ne (by omega)]; exact q.pl,
    by rw [lstAt_set_ne (by omega), lstAt_set_self (by omega)], by rw [lstAt_set_self (by rw [List.length_set]; omega)], by rw [lstAt_set_ne (by omega), lstAt_set_ne (by omega)]; exact q.fk, ?_, ?_, ho⟩
  · have e : (tg ++ [f]).map (fun f => f.map tgT) = tg.map (fun f => f.map tgT) ++ [f.map tgT] := by simp
    rw [hl, e]
    exact (q.xa.keep (Nat.le_refl _) fun v hv _ => kp2 v hv).snoc (by rw [kp2 x hx]; exact ex) hx lx
  · have e : (sn ++ [w]).map (fun f => f.map snT) = sn.map (fun f => f.map snT) ++ [w.map snT] := by simp
    rw [hl, e]
    exact (q.ya.keep (Nat.le_refl _) fun v hv _ => kp2 v hv).snoc (by rw [kp2 y hy]; exact ey) hy ly
end
structure LkI (fm : Fm) (r : Ru) (Ds : List Dd) (rows : List Sd) (i : Nat) (tg : List (List (Option Nat))) (sn : List (List (Option (List Str)))) : Prop where
  tl : tg.length = i
  sl : sn.length = i
  to : ∀ (i : Nat) (f : List (Option Nat)), tg[i]? = some f → ∃ d w, rows[i]? = some d ∧ sn[i]? = some w ∧ f.length = Ds.length ∧ w.length = Ds.length ∧ ∀ (k : Nat) (D : Dd), Ds[k]? = some D → ∃ o x, f[k]? = some o ∧ w[k]? = some x ∧ ToOk fm r rows d D o x
structure FwI (fm : Fm) (r : Ru) (Ds : List Dd) (rows : List Sd) (d : Sd) (j : Nat) (f : List (Option Nat)) (w : List (Option (List Str))) : Prop where
  fl : f.length = j
  wl : w.length = j
  to : ∀ (k : Nat) (D : Dd), k < j → Ds[k]? = some D → ∃ o x, f[k]? = some o ∧ w[k]? = some x ∧ ToOk fm r rows d D o x
theorem FwI.add {fm : Fm} {r : Ru} {Ds : List Dd} {rows : List Sd} {d : Sd} {j : Nat} {f : List (Option Nat)} {w : List (Option (List Str))} (q : FwI fm r Ds rows d j f w) {D : Dd} (hD : Ds[j]? = some D) {o : Option Nat} {x : Option (List Str)} (t : ToOk fm r rows d D o x) : FwI fm r Ds rows d (j + 1) (f ++ [o]) (w ++ [x]) := by
  refine ⟨by simp [q.fl], by simp [q.wl], fun k E hk hE => ?_⟩
  by_cases h : k < j
  · obtain ⟨o', x', e1, e2, e3⟩ := q.to k E h hE
    exact ⟨o', x', by rw [List.getElem?_append_left (by rw [q.fl]; exact h)]; exact e1, by rw [List.getElem?_append_left (by rw [q.wl]; exact h)]; exact e2, e3⟩
  · have : k = j := by omega
    subst this
    rw [hD] at hE
    cases hE
    exact ⟨o, x, by rw [List.getElem?_append_right (by rw [q.fl]; exact Nat.le_refl _), q.fl, Nat.sub_self]; rfl, by rw [List.getElem?_append_right (by rw [q.wl]; exact Nat.le_refl _), q.wl, Nat.sub_self]; rfl, t⟩
theorem LkI.add {fm : Fm} {r : Ru} {Ds : List Dd} {rows : List Sd} {i : Nat} {tg : List (List (Option Nat))} {sn : List (List (Option (List Str)))} (q : LkI fm r Ds rows i tg sn) {d : Sd} (hd : rows[i]? = some d) {f : List (Option Nat)} {w : List (Option (List Str))} (t : FwI fm r Ds rows d Ds.length f w) : LkI fm r Ds rows (i + 1) (tg ++ [f]) (sn ++ [w]) := by
  refine ⟨by simp [q.tl], by simp [q.sl], fun k f' hk => ?_⟩
  by_cases h : k < i
  · rw [List.getElem?_append_left (by rw [q.tl]; exact h)] at hk
    obtain ⟨d', w', e1, e2, e3⟩ := q.to k f' hk
    exact ⟨d', w', e1, by rw [List.getElem?_append_left (by rw [q.sl]; exact h)]; exact e2, e3⟩
  · have hk2 : k = i := by
      have := (List.getElem?_eq_some_iff.mp hk).1
      simp [q.tl] at this; omega
    subst hk2
    rw [List.getElem?_append_right (by rw [q.tl]; exact Nat.le_refl _), q.tl, Nat.sub_self] at hk
    cases hk
    exact ⟨d, w, hd, by rw [List.getElem?_append_right (by rw [q.sl]; exact Nat.le_refl _), q.sl, Nat.sub_self]; rfl, t.fl, t.wl, fun k D hD => t.to k D (List.getElem?_eq_some_iff.mp hD).1 hD⟩
end W3
end

section
namespace W3
open PySem
abbrev S64 := List Sd × List Sd
structure S64Ok (fm : Fm) (r : Ru) (Ds : List Dd) (s : S64) : Prop where
  nd : s.1.Nodup
  sd : ∀ d ∈ s.1, SdOk fm r.sending d
  tg : ∀ e ∈ s.2, e ∈ s.1 ∧ ∃ d ∈ s.1, ∃ D ∈ Ds, ∃ t, stepC fm r D d = .ok e t ∧ e ≠ d
end W3
end

section
namespace W3
open PySem
structure Pz where
  f : Fm
  r : Ru
structure PqAt (h : Hh) (l a : Nat) (P : Pz) : Prop where
  fa : FormAt h l P.f
  o : FmOk P.f
  ra : RuleAt h a P.r
  ro : RuOk P.r
theorem PqAt.app {h : Hh} {l a : Nat} {P : Pz} (q : PqAt h l a P) (z : Hh) : PqAt (h ++ z) l a P := ⟨q.fa.app z, q.o, q.ra.app z, q.ro⟩
theorem PqAt.fz {h h' : Hh} {n l a : Nat} {P : Pz} (q : PqAt h l a P) (z : Fz n h h') (h1 : l < n) (h2 : a < n) : PqAt h' l a P := ⟨q.fa.fz z h1, q.o, q.ra.fz z h2, q.ro⟩
structure Alk (P S : Pz) : Prop where
  w : P.f.words = S.f.words
  n : P.f.names = S.f.names
theorem Alk.symm {P S : Pz} (q : Alk P S) : Alk S P := ⟨q.w.symm, q.n.symm⟩
def reF (fm : Fm) (p : Str × Fd) : Str × Fd := (fm.fields.find? fun q => decide (q.1 = p.1)).getD p
def reD (fm : Fm) : Dd → Dd
  | .enter p w => .enter (reF fm p) w
  | .leave p => .leave (reF fm p)
  | .send => .send
  | .answer i => .answer i
  | .reset => .reset
abbrev Mv := Option (Sd × Option (List Str))
def movC (P : Pz) (D : Dd) (d : Sd) : Mv := match stepC P.f P.r D d with | .many _ => none | .ok d' t => some (d', sentEv t)
abbrev SameL (d e : Sd) : Prop := d.shown = e.shown ∧ d.mess = e.mess
def partsB : Mv → Mv → Bool
  | none, none => false
  | some x, some y => !decide (SameL x.1 y.1) || !decide (x.2 = y.2)
  | _, _ => true
abbrev Jn := Sd × Sd
structure Cz where
  jn : List Jn
  og : List (Option (Nat × Dd))
inductive Go where
  | lim
  | part (D : Dd) (c : Cz)
  | on (c : Cz)
inductive Cr where
  | lim
  | part (run : List Dd) (c : Cz)
  | done (c : Cz)
structure CzOk (P S : Pz) (lim : Nat) (c : Cz) : Prop where
  nd : c.jn.Nodup
  le : c.jn.length ≤ lim
  ol : c.og.length = c.jn.length
  sd : ∀ e ∈ c.jn, SdOk P.f P.r.sending e.1 ∧ SdOk S.f S.r.sending e.2
  og : OgOk c.og
def jnT (e : Jn) : T := .tup [e.1.t, e.2.t]
def jnK (js : List Jn) : List (T × T) := js.zipIdx.map fun p => (jnT p.1, .int p.2)
structure Cmp where
  a : Nat
  jn : Nat
  pl : Nat
  og : Nat
def cmIns (t1 t2 : T) (lim : Nat) (p : Cmp) : List (Str × T) := [("first", t1), ("second", t2), ("most_tuples", .int lim), ("joined", .ref p.jn), ("joined_places", .ref p.pl), ("origins", .ref p.og)]
structure CmAt (n : Nat) (h : Hh) (t1 t2 : T) (lim : Nat) (v : T) (p : Cmp) (c : Cz) : Prop where
  ins : h[p.a]? = some (.ins "Comparison" (cmIns t1 t2 lim p ++ [(("parted" : Str), v)]))
  jn : lstAt h p.jn = some (c.jn.map jnT)
  pl : h[p.pl]? = some (dtkOb (jnK c.jn))
  og : lstAt h p.og = some (c.og.map ogT)
  o0 : n ≤ p.a
  o1 : p.a < p.jn
  o2 : p.jn < p.pl
  o3 : p.pl < p.og
  o4 : p.og < h.length
structure Fp (p : Cmp) (h h' : Hh) : Prop where
  le : h.length ≤ h'.length
  keep : ∀ x, x < h.length → x ≠ p.a → x ≠ p.jn → x ≠ p.pl → x ≠ p.og → h'[x]? = h[x]?
theorem Fp.refl (p : Cmp) (h : Hh) : Fp p h h := ⟨Nat.le_refl _, fun _ _ _ _ _ _ => rfl⟩
theorem Fp.trans {p : Cmp} {h h1 h2 : Hh} (a : Fp p h h1) (b : Fp p h1 h2) : Fp p h h2 :=
  ⟨Nat.le_trans a.le b.le, fun x hx h1 h2 h3 h4 => (b.keep x (Nat.lt_of_lt_of_le hx a.le) h1 h2 h3 h4).trans (a.keep x hx h1 h2 h3 h4)⟩
theorem Fp.app (p : Cmp) (h z : Hh) : Fp p h (h ++ z) := ⟨by simp, fun x hx _ _ _ _ => List.getElem?_append_left hx⟩
section
variable {n lim : Nat} {t1 t2 v : T} {p : Cmp} {c : Cz} {h h' : Hh}
theorem CmAt.fz (q : CmAt n h t1 t2 lim v p c) (f : Fp p h h') : Fz n h h' :=
  have := q.o0; have := q.o1; have := q.o2; have := q.o3; have := q.o4
  ⟨f.le, fun x hx => f.keep x (by omega) (by omega) (by omega) (by omega) (by omega)⟩
theorem CmAt.lst (q : CmAt n h t1 t2 lim v p c) (f : Fp p h h') {x : Nat} {ts : List T} (e : lstAt h x = some ts) (hx : p.og < x) : lstAt h' x = some ts := by
  have := q.o1; have := q.o2; have := q.o3
  unfold lstAt at e ⊢
  rw [f.keep x (lstAt_lt e) (by omega) (by omega) (by omega) (by omega)]
  exact e
theorem CmAt.app (q : CmAt n h t1 t2 lim v p c) (z : Hh) : CmAt n (h ++ z) t1 t2 lim v p c := by
  have := q.o1; have := q.o2; have := q.o3; have := q.o4
  have k : ∀ x, x < h.length → (h ++ z)[x]? = h[x]? := fun x hx => List.getElem?_append_left hx
  exact ⟨by rw [k _ (by omega)]; exact q.ins, lstAt_app z q.jn, by rw [k _ (by omega)]; exact q.pl, lstAt_app z q.og, q.o0, q.o1, q.o2, q.o3, by simp; omega⟩
theorem CmAt.i (q : CmAt n h t1 t2 lim v p c) : insAt h p.a = some (("Comparison" : Str), cmIns t1 t2 lim p ++ [(("parted" : Str), v)]) := insAt_of q.ins
def keepH (h : Hh) (p : Cmp) (c : Cz) (e : Jn) (o : Option (Nat × Dd)) : Hh :=
  ((h.set p.pl (dtkOb (jnK (c.jn ++ [e])))).set p.jn (.lst (c.jn.map jnT ++ [jnT e]))).set p.og (.lst (c.og.map ogT ++ [ogT o]))
theorem CmAt.keep (q : CmAt n h t1 t2 lim v p c) (e : Jn) (o : Option (Nat × Dd)) : CmAt n (keepH h p c e o) t1 t2 lim v p ⟨c.jn ++ [e], c.og ++ [o]⟩ ∧ Fp p h (keepH h p c e o) := by
  have := q.o1; have := q.o2; have := q.o3; have := q.o4
  have ne : ∀ x, x ≠ p.pl → x ≠ p.jn → x ≠ p.og → (keepH h p c e o)[x]? = h[x]? := fun x h1 h2 h3 => by
    unfold keepH
    rw [List.getElem?_set_ne (Ne.symm h3), List.getElem?_set_ne (Ne.symm h2), List.getElem?_set_ne (Ne.symm h1)]
  have ln : (keepH h p c e o).length = h.length := by unfold keepH; simp
  refine ⟨⟨by rw [ne _ (by omega) (by omega) (by omega)]; exact q.ins, ?_, ?_, ?_, q.o0, q.o1, q.o2, q.o3, by rw [ln]; exact q.o4⟩, by rw [ln]; exact Nat.le_refl _, fun x _ _ h2 h3 h4 => ne x h3 h2 h4⟩
  · unfold keepH
    rw [lstAt_set_ne (by omega), lstAt_set_self (by simp; omega), List.map_append]
    rfl
  · unfold keepH
    rw [List.getElem?_set_ne (by omega), List.getElem?_set_ne (by omega), List.getElem?_set_self (by omega)]
  · unfold keepH
    rw [lstAt_set_self (by simp; omega), List.map_append]
    rfl
theorem CmAt.part (q : CmAt n h t1 t2 lim v p c) (u : T) {fs : List (Str × T)} (e : fs = cmIns t1 t2 lim p ++ [(("parted" : Str), u)]) : CmAt n (h.set p.a (.ins "Comparison" fs)) t1 t2 lim u p c ∧ Fp p h (h.set p.a (.ins "Comparison" fs)) := by
  have := q.o1; have := q.o2; have := q.o3; have := q.o4
  exact ⟨⟨by rw [List.getElem?_set_self (by omega), e], by rw [lstAt_set_ne (by omega)]; exact q.jn, by rw [List.getElem?_set_ne (by omega)]; exact q.pl, by rw [lstAt_set_ne (by omega)]; exact q.og, q.o0, q.o1, q.o2, q.o3, by simp; exact q.o4⟩,
    by simp, fun x _ h1 _ _ _ => List.getElem?_set_ne (Ne.symm h1)⟩
end
end W3
end

section
namespace W3
open PySem
end W3
end

section
namespace W3
open PySem
def nextJ (P S : Pz) (D : Dd) (e : Jn) : Jn := match movC P D e.1, movC S (reD S.f D) e.2 with
  | some x, some y => (x.1, y.1)
  | _, _ => e
abbrev prt (P S : Pz) (D : Dd) (e : Jn) : Bool := partsB (movC P D e.1) (movC S (reD S.f D) e.2)
structure CzFullE (e0 : Jn) (P S : Pz) (Ds : List Dd) (c : Cz) : Prop where
  st : ∀ (k j : Nat) (D : Dd), c.og[k]? = some (some (j, D)) → j < k ∧ D ∈ Ds ∧ ∃ ej, c.jn[j]? = some ej ∧ prt P S D ej = false ∧ c.jn[k]? = some (nextJ P S D ej)
  z : ∀ k, c.og[k]? = some none → k = 0
  s0 : c.jn[0]? = some e0
def dep (c : Cz) (i : Nat) : Nat := (runD c.og i).length
def ToJ (P S : Pz) (c : Cz) (k : Nat) (e : Jn) (D : Dd) : Prop := prt P S D e = false ∧ ∃ k', c.jn[k']? = some (nextJ P S D e) ∧ dep c k' ≤ dep c k + 1
structure CzBfs (P S : Pz) (Ds : List Dd) (c : Cz) (i : Nat) : Prop where
  done : ∀ (k : Nat) (e : Jn), k < i → c.jn[k]? = some e → ∀ D ∈ Ds, ToJ P S c k e D
  mono : ∀ j k : Nat, j ≤ k → k < c.jn.length → dep c j ≤ dep c k
  bd : i < c.jn.length → ∀ k : Nat, k < c.jn.length → dep c k ≤ dep c i + 1
structure CzMid (e0 : Jn) (P S : Pz) (Es : List Dd) (c : Cz) (i : Nat) (e : Jn) (seen : List Dd) : Prop where
  full : CzFullE e0 P S Es c
  bfs : CzBfs P S Es c i
  here : ∀ D ∈ seen, ToJ P S c i e D
inductive CrOkE (e0 : Jn) (P S : Pz) (Ds : List Dd) (lim : Nat) : Cr → Prop where
  | lim : CrOkE e0 P S Ds lim .lim
  | part (c : Cz) (i : Nat) (e : Jn) (D : Dd) : CzOk P S lim c → CzFullE e0 P S Ds c → CzBfs P S Ds c i → c.jn[i]? = some e → D ∈ Ds → prt P S D e = true → CrOkE e0 P S Ds lim (.part (runD c.og i ++ [D]) c)
  | done (c : Cz) : CzOk P S lim c → CzFullE e0 P S Ds c → CzBfs P S Ds c c.jn.length → CrOkE e0 P S Ds lim (.done c)
def shwF (P S : Pz) : List Dd → Jn → Option Nat
  | [], _ => none
  | D :: Ds, e => if prt P S D e = true then some 1 else (shwF P S Ds (nextJ P S D e)).map (· + 1)
end W3
end

section
namespace W3
open PySem
def swJ (e : Jn) : Jn := (e.2, e.1)
def swO (fm : Fm) : Option (Nat × Dd) → Option (Nat × Dd) := fun o => o.map fun p => (p.1, reD fm p.2)
def swC (fm : Fm) (c : Cz) : Cz := ⟨c.jn.map swJ, c.og.map (swO fm)⟩
inductive GoSw (fm : Fm) : Go → Go → Prop where
  | lim : GoSw fm .lim .lim
  | part (D : Dd) (c : Cz) : GoSw fm (.part D c) (.part (reD fm D) (swC fm c))
  | on (c : Cz) : GoSw fm (.on c) (.on (swC fm c))
inductive CrSw : Cr → Cr → Prop where
  | lim : CrSw .lim .lim
  | part (r r' : List Dd) (c c' : Cz) : CrSw (.part r c) (.part r' c')
  | done (c : Cz) (fm : Fm) : CrSw (.done c) (.done (swC fm c))
structure PairL (P S : Pz) (rs : Bool) (L : List Jn) : Prop where
  sd : ∀ e ∈ L, SdOk P.f P.r.sending e.1 ∧ SdOk S.f S.r.sending e.2 ∧ SameL e.1 e.2
  st : (startD P.f, startD S.f) ∈ L
  cl : ∀ e ∈ L, ∀ D ∈ deedsD P.f rs, prt P S D e = false ∧ nextJ P S D e ∈ L
theorem PairL.same {P S : Pz} {rs : Bool} {L M : List Jn} (q : PairL P S rs L) (h : ∀ e, e ∈ M ↔ e ∈ L) : PairL P S rs M :=
  ⟨fun e he => q.sd e ((h e).mp he), (h _).mpr q.st, fun e he D hD => ⟨(q.cl e ((h e).mp he) D hD).1, (h _).mpr (q.cl e ((h e).mp he) D hD).2⟩⟩
def SameR (P S : Pz) (Ds : List Dd) (e : Jn) : Prop := ∀ w : List Dd, (∀ D ∈ w, D ∈ Ds) → shwF P S w e = none
theorem SameR.step {P S : Pz} {Ds : List Dd} {e : Jn} (q : SameR P S Ds e) {D : Dd} (hD : D ∈ Ds) : prt P S D e = false ∧ SameR P S Ds (nextJ P S D e) := by
  have h1 : prt P S D e = false := by
    have := q [D] fun E hE => by simp at hE; subst hE; exact hD
    unfold shwF at this
    split at this
    · cases this
    · rename_i h
      cases hp : prt P S D e with
      | false => rfl
      | true => exact absurd hp h
  refine ⟨h1, fun w hw => ?_⟩
  have := q (D :: w) fun E hE => by
    rcases List.mem_cons.mp hE with rfl | hE
    · exact hD
    · exact hw E hE
  unfold shwF at this
  rw [if_neg (by rw [h1]; exact Bool.false_ne_true)] at this
  cases h : shwF P S w (nextJ P S D e) with
  | none => rfl
  | some n => rw [h] at this; cases this
end W3
end

section
namespace W3
open PySem
end W3
namespace W3
open PySem
end W3
end

section
namespace W3
open PySem
structure W72 where
  K : List Jn
  g : Bool
  T : List Jn
structure B72 (P S : Pz) (Ds : List Dd) (s : W72) : Prop where
  nd : s.K.Nodup
  sd : ∀ e ∈ s.K, SdOk P.f P.r.sending e.1 ∧ SdOk S.f S.r.sending e.2
  st : (startD P.f, startD S.f) ∈ s.K
  tg : ∀ t ∈ s.T, t ∈ s.K ∧ (t = (startD P.f, startD S.f) ∨ ∃ e ∈ s.K, ∃ D ∈ Ds, ∃ x y, movC P D e.1 = some x ∧ movC S (reD S.f D) e.2 = some y ∧ t = (x.1, y.1) ∧ t ≠ e)
  tn : s.T ≠ []
def Cl72 (P S : Pz) (Ds : List Dd) (K : List Jn) (e : Jn) : Prop := ∀ D ∈ Ds, ∀ x y, movC P D e.1 = some x → movC S (reD S.f D) e.2 = some y → (x.1, y.1) ∈ K
structure I72 (P S : Pz) (Ds : List Dd) (n : Nat) (s : W72) : Prop where
  b : B72 P S Ds s
  l : s.K.length ≤ 40 + Ds.length
  d : s.K.length ≤ 40 → (∀ (k : Nat) (e : Jn), k < n → s.K[k]? = some e → Cl72 P S Ds s.K e) ∧ (s.g = true ↔ ∀ (k : Nat) (e : Jn), k < n → s.K[k]? = some e → SameL e.1 e.2 ∧ ∀ D ∈ Ds, prt P S D e = false)
end W3
end

section
namespace W3
open PySem
abbrev A77 := Nat → Nat → Option Bool
def homeL (a : A77) (l k : Nat) : Option Nat := (List.range (min l k)).find? fun i => decide (a i k = some true)
def home (a : A77) (k : Nat) : Option Nat := homeL a k k
def leadL (a : A77) (l k : Nat) : Nat := (homeL a l k).getD k
def lead (a : A77) (k : Nat) : Nat := leadL a k k
abbrev Gs := List (Nat × List Nat)
structure Eq77 (a : A77) (n : Nat) : Prop where
  tr : ∀ i j k, i < j → j < k → k < n → a i j = some true → a j k = some true → a i k = some true
structure GOk (a : A77) (k : Nat) (G : Gs) : Prop where
  nd : (G.map (·.1)).Nodup
  ld : ∀ g ∈ G, home a g.1 = none ∧ g.1 < k
  mm : ∀ g ∈ G, ∀ x, x ∈ g.2 ↔ x < k ∧ lead a x = g.1
  al : ∀ x, x < k → lead a x ∈ G.map (·.1)
abbrev Gu := List (Nat × Nat × List Nat)
def natsT (l : List Nat) : List T := l.map fun i => T.int (i : Nat)
def outU (G : Gu) : Gs := G.map fun g => (g.1, g.2.2)
def updU (G : Gu) (m k : Nat) : Gu := G.map fun g => if g.1 = m then (g.1, g.2.1, g.2.2 ++ [k]) else g
theorem nodup_inj {α β : Type} {f : α → β} : ∀ {l : List α}, (l.map f).Nodup → ∀ {a b : α}, a ∈ l → b ∈ l → f a = f b → a = b
  | x :: l, nd, a, b, ha, hb, e => by
    rw [List.map_cons, List.nodup_cons] at nd
    rcases List.mem_cons.mp ha with ea | ha
    · rcases List.mem_cons.mp hb with eb | hb
      · rw [ea, eb]
      · exact absurd (List.mem_map.mpr ⟨b, hb, by rw [← e, ea]⟩) nd.1
    · rcases List.mem_cons.mp hb with eb | hb
      · exact absurd (List.mem_map.mpr ⟨a, ha, by rw [e, eb]⟩) nd.1
      · exact nodup_inj nd.2 ha hb e
structure HU (h : Hh) (n : Nat) (G : Gu) : Prop where
  ks : (G.map (·.1)).Nodup
  us : (G.map (·.2.1)).Nodup
  at_ : ∀ g ∈ G, lstAt h g.2.1 = some (natsT g.2.2)
  lo : ∀ g ∈ G, n ≤ g.2.1
theorem HU.nil (h : Hh) (n : Nat) : HU h n [] := ⟨List.nodup_nil, List.nodup_nil, fun g h => (by cases h), fun g h => (by cases h)⟩
theorem HU.app {h : Hh} {n : Nat} {G : Gu} (q : HU h n G) (z : Hh) : HU (h ++ z) n G := ⟨q.ks, q.us, fun g hg => lstAt_app z (q.at_ g hg), q.lo⟩
theorem updU_ks (G : Gu) (m k : Nat) : (updU G m k).map (·.1) = G.map (·.1) := by
  unfold updU
  rw [List.map_map]
  refine List.map_congr_left fun x _ => ?_
  show (if x.1 = m then (x.1, x.2.1, x.2.2 ++ [k]) else x).1 = x.1
  split <;> rfl
theorem updU_us (G : Gu) (m k : Nat) : (updU G m k).map (·.2.1) = G.map (·.2.1) := by
  unfold updU
  rw [List.map_map]
  refine List.map_congr_left fun x _ => ?_
  show (if x.1 = m then (x.1, x.2.1, x.2.2 ++ [k]) else x).2.1 = x.2.1
  split <;> rfl
theorem HU.upd {h : Hh} {n k : Nat} {G : Gu} (q : HU h n G) {g0 : Nat × Nat × List Nat} (h0 : g0 ∈ G) : HU (h.set g0.2.1 (.lst (natsT (g0.2.2 ++ [k])))) n (updU G g0.1 k) := by
  refine ⟨by rw [updU_ks]; exact q.ks, by rw [updU_us]; exact q.us, fun g hg => ?_, fun g hg => ?_⟩
  · obtain ⟨x, hx, rfl⟩ := List.mem_map.mp hg
    split
    · rename_i e
      have := nodup_inj q.ks hx h0 e
      subst this
      exact lstAt_set_self (lstAt_lt (q.at_ x hx))
    · rename_i e
      have ne : x.2.1 ≠ g0.2.1 := fun z => e (by rw [nodup_inj q.us hx h0 z])
      rw [lstAt_set_ne (fun z => ne z.symm)]
      exact q.at_ x hx
  · obtain ⟨x, hx, rfl⟩ := List.mem_map.mp hg
    split
    · exact q.lo x hx
    · exact q.lo x hx
theorem HU.new {h : Hh} {n m r : Nat} {l : List Nat} {G : Gu} (q : HU h n G) (hm : m ∉ G.map (·.1)) (hr : ∀ g ∈ G, g.2.1 ≠ r) (e : lstAt h r = some (natsT l)) (hn : n ≤ r) : HU h n (G ++ [(m, r, l)]) := by
  refine ⟨?_, ?_, fun g hg => ?_, fun g hg => ?_⟩
  · rw [List.map_append]
    exact List.nodup_append.mpr ⟨q.ks, by simp, fun a ha b hb z => by simp at hb; subst hb; subst z; exact hm ha⟩
  · rw [List.map_append]
    exact List.nodup_append.mpr ⟨q.us, by simp, fun a ha b hb z => by
      simp at hb; subst hb; subst z
      obtain ⟨g, hg, e⟩ := List.mem_map.mp ha
      exact hr g hg e⟩
  · rcases List.mem_append.mp hg with h | h
    · exact q.at_ g h
    · simp at h; subst h; exact e
  · rcases List.mem_append.mp hg with h | h
    · exact q.lo g h
    · simp at h; subst h; exact hn
def GrpAt (h : Hh) (y : Nat) (gs : List (List Nat)) : Prop := ∃ us : List Nat, lstAt h y = some (us.map T.ref) ∧ us.length = gs.length ∧ ∀ (j u : Nat) (g : List Nat), us[j]? = some u → gs[j]? = some g → lstAt h u = some (natsT g)
theorem GrpAt.app {h : Hh} {y : Nat} {gs : List (List Nat)} (q : GrpAt h y gs) (z : Hh) : GrpAt (h ++ z) y gs := by
  obtain ⟨us, e, l, m⟩ := q
  exact ⟨us, lstAt_app z e, l, fun j u g h1 h2 => lstAt_app z (m j u g h1 h2)⟩
theorem GrpAt.of {h : Hh} {n y : Nat} {G : Gu} (q : HU h n G) (e : lstAt h y = some (G.map fun g => T.ref g.2.1)) : GrpAt h y ((outU G).map (·.2)) := by
  refine ⟨G.map (·.2.1), by rw [List.map_map]; exact e, by unfold outU; simp, fun j u g h1 h2 => ?_⟩
  rw [List.getElem?_map] at h1
  unfold outU at h2
  rw [List.map_map, List.getElem?_map] at h2
  cases ex : G[j]? with
  | none => rw [ex] at h1; cases h1
  | some x =>
    rw [ex] at h1 h2
    cases h1; cases h2
    exact q.at_ x (List.mem_of_getElem? ex)
theorem GrpAt.same {h : Hh} {y y' n : Nat} {gs : List (List Nat)} (a : GrpAt h y gs) (b : GrpAt h y' gs) (hl : gs.length ≤ 1000) (hg : ∀ g ∈ gs, g.length ≤ 1000) : SameV h (n + 2) (.ref y) (.ref y') := by
  obtain ⟨us, e, l, m⟩ := a
  obtain ⟨us', e', l', m'⟩ := b
  refine .inr ⟨us.map T.ref, us'.map T.ref, .inr ⟨.inl ⟨y, rfl, e⟩, .inl ⟨y', rfl, e'⟩⟩, by simp [l, l'], by simp; omega, fun i s t es et => ?_⟩
  rw [List.getElem?_map] at es et
  cases eu : us[i]? with
  | none => rw [eu] at es; cases es
  | some u =>
    cases eu' : us'[i]? with
    | none => rw [eu'] at et; cases et
    | some u' =>
      rw [eu] at es; rw [eu'] at et
      cases es; cases et
      have hi : i < gs.length := by have := (List.getElem?_eq_some_iff.mp eu).1; omega
      have eg := List.getElem?_eq_getElem hi
      have h1 := m i u _ eu eg
      have h2 := m' i u' _ eu' eg
      refine SameV.lists h1 h2 (by unfold natsT; have := hg _ (List.mem_of_getElem? eg); simp; omega) fun x hx => ?_
      unfold natsT at hx
      obtain ⟨k, _, rfl⟩ := List.mem_map.mp hx
      exact pure_flat rfl
@[simp] theorem e_setD (so se sf : SE) (σ : St3) (h : Hh) : sSetD so se sf σ h = (so σ h).bind fun x h1 => if isDic x h1 = true then (se σ h1).bind fun k h2 => (sf σ h2).bind fun t h3 => setDT x k t h3 else .stk := Eq.trans rfl rfl
@[simp] theorem e_lRg (a : SE) (σ : St3) (h : Hh) : sLRg a σ h = (a σ h).bind fun x h1 => match x with
  | .int n => if 0 ≤ n ∧ n ≤ 1000000 then alloc (.lst (rangeT 0 n.toNat)) h1 else .stk
  | _ => .stk := Eq.trans rfl rfl
@[simp] theorem e_lVals (so : SE) (σ : St3) (h : Hh) : sLVals so σ h = (so σ h).bind fun x h1 => match obAt h1 x with
  | some (.dic kvs) => alloc (.lst (kvs.map (·.2))) h1
  | _ => .stk := Eq.trans rfl rfl
@[simp] theorem e_ssForEn (a : SA) (g : SG) (b : SS) (σ : St3) (h : Hh) : ssForEn a g b σ h = (a σ h).flo σ fun xs h1 => match xs with
  | [.ref l] => (match lstAt h1 l with | some ts => forEn l g b ts.length 0 σ h1 | none => .stk)
  | _ => .stk := Eq.trans rfl rfl
theorem wp_forEn {l : Nat} {ts : List T} {g : SG} {b : SS} {σ : St3} {h : Hh} {Q : FQ} (I : Nat → St3 → Hh → Prop) (hI : ∀ i σ h, I i σ h → lstAt h l = some ts) (h0 : I 0 σ h)
    (hs : ∀ (i : Nat) x σ h, ts[i]? = some x → I i σ h → ∃ σ1, g (.tup [.int (i : Nat), x]) σ = some σ1 ∧ (b σ1 h).wp (Q.loop (I (i + 1))))
    (he : ∀ σ h, I ts.length σ h → Q.n σ h) : (forEn l g b ts.length 0 σ h).wp Q := by
  suffices H : ∀ k i σ h, i + k = ts.length → I i σ h → (forEn l g b k i σ h).wp Q from H _ _ _ _ (by omega) h0
  intro k
  induction k with
  | zero =>
    intro i σ h e q
    have e1 : i = ts.length := by omega
    unfold forEn enAt
    rw [hI _ _ _ q]
    simp only [List.getElem?_eq_none (show ts.length ≤ i by omega)]
    exact he σ h (e1 ▸ q)
  | succ k ih =>
    intro i σ h e q
    have ex : ts[i]? = some ts[i] := by simp [show i < ts.length by omega]
    obtain ⟨σ1, e1, w⟩ := hs i _ σ h ex q
    unfold forEn enAt
    rw [hI _ _ _ q]
    simp only [ex, e1]
    revert w
    cases b σ1 h with
    | nx σ2 h2 => exact fun w => ih (i + 1) σ2 h2 (by omega) w
    | ct σ2 h2 => exact fun w => ih (i + 1) σ2 h2 (by omega) w
    | bk σ2 h2 => exact fun w => w
    | rt t h2 => exact fun w => w
    | exc c fs σ2 h2 => exact fun w => w
    | stk => exact fun w => w
end W3
end

section
namespace W3
open PySem PySem.Spec PyProof.Rows
open L2
def txE (e : Int × Value) : Str := PyProof.Rows.strOf e.2
structure SzOk (w : World) (es : Array (Int × Value)) (t : SetTable) : Prop where
  b : es.size < scanBound
  f : t.fits es.size = true
  r : Ris t.place.toList
  l : w.params.followText "set-order" = true ∨ t.led = true
  g : ∀ e ∈ es.toList, ∃ k tk, e = (hashStr w k, Value.str k tk)
  n : (es.toList.map txE).Nodup
def Sz (w : World) (D : Addr) (acc : List Str) (h : Heap) : Prop := ∃ o es ep t, h.get? D = some o ∧ o.ExactSet ∧ o.data = .set es ep t ∧ SzOk w es t ∧ ∀ k, k ∈ es.toList.map txE ↔ k ∈ acc
theorem Sz.same {w : World} {D : Addr} {acc : List Str} {h h' : Heap} (q : Sz w D acc h) (k : ∀ o, h.get? D = some o → h'.get? D = some o) : Sz w D acc h' := by
  obtain ⟨o, es, ep, t, ho, z⟩ := q
  exact ⟨o, es, ep, t, k o ho, z⟩
section
variable {P : Program} {w : World} {A : Around} {E : Value → Shared → Prop} {s : Shared} {D : Addr}
end
section
variable {X : Cx}
end
section
variable {prog : Program} {w : World} {A : Around} {E : Value → Shared → Prop} {s : Shared} {D : Addr}
end
section
variable {X : Cx} {P : Pq} {W : WX} {a b c o e tg iter : Expr} {sa sb sc so : SE} {pos pos' apos cpos p p2 q2 : Pos} {es : List Expr} {ar : SA} {si : SI}
end
end W3
end

section
namespace W3
open PySem PySem.Spec PyProof.Rows
open L2
section
variable {X : Cx} {P : Pq} {W : WX} {ar : SA} {a : Expr} {pos p tpos cpos : Pos} {body : List Stmt} {x1 : SS} {elts : List Expr} {kk : Nat}
end
end W3
end

section
namespace W3
open PySem PySem.Spec PyProof.Rows
open L2
section
variable {X : Cx} {P : Pq} {W : WX} {a : Expr} {sa : SE}
end
end W3
end

section
namespace OwLen
open PySem PySem.Spec PyProof.Rows PySem.W
section
variable {prog : Program} {w : World} {A : Around} {E : Value → Shared → Prop} {s : Shared} {K : PySem.W.Frag} {x C D f : Addr} {ox od : Obj} {odd : Option Obj}
end
end OwLen
namespace L2
open PySem PySem.Spec PyProof.Rows
section
variable {X : Cx} {CX : CXT} {k : Nat} {C g : Addr} {fd : FuncData} {ps : List Str} {sp : Sp} {E : XK}
end
end L2
namespace W3
open PySem PySem.Spec PyProof.Rows
open L2
end W3
end

section
namespace OwBin
open PySem PySem.Spec PyProof.Rows PySem.W
section
variable {prog : Program} {w : World} {A : Around} {E : Value → Shared → Prop} {s : Shared} {K : PySem.W.Frag} {x y C f : Addr} {ox oy : Obj} {od od2 : Option Obj} {h₀ : Heap} {L : Addr} {m : Str → Option Value}
end
end OwBin
namespace W3
open PySem PySem.Spec PyProof.Rows
open L2
section
variable {X : Cx} {P : Pq} {W : WX} {a : Expr} {sa : SE} {pos : Pos} {cn : Str} {C g : Addr} {k : Nat} {fd : FuncData} {ps : List Str} {ff : List T → Hh → Res T}
end
end W3
end

section
namespace W3
open PySem PySem.Spec PyProof.Rows
open L2
section
variable {X : Cx}
end
end W3
end

section
namespace W3
open PySem PySem.Spec PyProof.Rows
open L2
def mPop0 (x : T) (vs : List T) (h : Hh) : Res T :=
  match x, vs with
  | .ref l, [] => (match lstAt h l with
    | some ts => (match ts[ts.length - 1]? with | some t => .ok t (h.set l (.lst ts.dropLast)) | none => .stk)
    | none => .stk)
  | _, _ => .stk
theorem RTs.dropLast {K : PySem.W.Frag} {mg : Str → Option Value} {m : Mp} {H : Hp} : ∀ {ts : List T} {vs : List V}, RTs K mg m H ts vs → RTs K mg m H ts.dropLast vs.dropLast
  | _, _, .nil => .nil
  | _, _, .cons p .nil => .nil
  | _, _, .cons p (.cons q r) => .cons p (RTs.dropLast (.cons q r))
section
variable {X : Cx}
end
@[simp] theorem e_pop0 (l : Nat) (h : Hh) : mPop0 (.ref l) [] h = match lstAt h l with
    | some ts => (match ts[ts.length - 1]? with | some t => .ok t (h.set l (.lst ts.dropLast)) | none => .stk)
    | none => .stk := Eq.trans rfl rfl
end W3
end

section
namespace W3
open PySem PySem.Spec PyProof.Rows
open L2
inductive Tst (X : Cx) : Expr → List Value → Prop
  | one {x : Str} {c : Value} {np : Pos} : Names X x c → Tst X (.Name x np) [c]
  | two {x y : Str} {c d : Value} {p q tp : Pos} {kk : Nat} : Names X x c → Names X y d → Tst X (.Tuple [.Name x p, .Name y q] kk tp) [c, d]
  | three {x y z : Str} {c d e : Value} {p q r tp : Pos} {kk : Nat} : Names X x c → Names X y d → Names X z e → Tst X (.Tuple [.Name x p, .Name y q, .Name z r] kk tp) [c, d, e]
inductive HdsB (X : Cx) : List ExceptHandler → List (List Value × Option Nat × Tsu) → Prop
  | nil : HdsB X [] []
  | cons {e : Expr} {c : List Value} {ts : Tsu} {b₀ : Stmt} {suite : List Stmt} {pos' : Pos} {hds : List ExceptHandler} {l : List (List Value × Option Nat × Tsu)} (hc : Tst X e c)
      (hsu : ∀ (a : Addr) (oe : Obj) (cls : Value) (d : Option Addr) (pn : List (Addr × Obj)), Zc cls d oe → (∃ vs, oe.data = .fields vs) → PSs (X.suite a ((a, oe) :: pn)) (b₀ :: suite) (ts a cls d)) (r : HdsB X hds l) :
      HdsB X (.ExceptHandler (some e) none (b₀ :: suite) pos' :: hds) ((c, none, ts) :: l)
  | cas {e : Expr} {n : Str} {i : Nat} {c : List Value} {ts : Tsu} {b₀ : Stmt} {suite : List Stmt} {pos' : Pos} {hds : List ExceptHandler} {l : List (List Value × Option Nat × Tsu)} (hi : X.N[i]? = some n) (hln : X.env.kindOf n = some .local) (hc : Tst X e c)
      (hsu : ∀ (a : Addr) (oe : Obj) (cls : Value) (d : Option Addr) (pn : List (Addr × Obj)), Zc cls d oe → (∃ vs, oe.data = .fields vs) → PSs (X.suite a ((a, oe) :: pn)) (b₀ :: suite) (ts a cls d)) (r : HdsB X hds l) :
      HdsB X (.ExceptHandler (some e) (some n) (b₀ :: suite) pos' :: hds) ((c, some i, ts) :: l)
section
variable {X : Cx} {body : List Stmt} {h₀ : ExceptHandler} {hds : List ExceptHandler} {l : List (List Value × Option Nat × Tsu)} {pos : Pos} {tb : WX → TS} {Wout : WX}
end
inductive DHs2 (X : Cx) (XS : XSub) : List ExceptHandler → List Hdl → Prop
  | nil : DHs2 X XS [] []
  | cons {x : Str} {cv : Value} {b₀ : Stmt} {suite : List Stmt} {np pos' : Pos} {hds : List ExceptHandler} {l : List Hdl} {k : Str → List (Str × T) → SS} (hc : Names X x cv) (hx : Catches X XS x cv) (hk : HOk X XS none (b₀ :: suite) k) (r : DHs2 X XS hds l) :
      DHs2 X XS (.ExceptHandler (some (.Name x np)) none (b₀ :: suite) pos' :: hds) (⟨x, none, k⟩ :: l)
  | cas {x n : Str} {i : Nat} {cv : Value} {b₀ : Stmt} {suite : List Stmt} {np pos' : Pos} {hds : List ExceptHandler} {l : List Hdl} {k : Str → List (Str × T) → SS} (hi : X.N[i]? = some n) (hln : X.env.kindOf n = some .local) (hc : Names X x cv) (hx : Catches X XS x cv)
      (hk : HOk X XS (some i) (b₀ :: suite) k) (r : DHs2 X XS hds l) :
      DHs2 X XS (.ExceptHandler (some (.Name x np)) (some n) (b₀ :: suite) pos' :: hds) (⟨x, some i, k⟩ :: l)
  | tup2 {x y : Str} {cv cv' : Value} {b₀ : Stmt} {suite : List Stmt} {p p' pos' tp : Pos} {kk : Nat} {hds : List ExceptHandler} {l : List Hdl} {k : Str → List (Str × T) → SS} (hc : Names X x cv) (hc' : Names X y cv') (hx : Catches X XS x cv) (hx' : Catches X XS y cv') (hk : HOk X XS none (b₀ :: suite) k) (r : DHs2 X XS hds l) :
      DHs2 X XS (.ExceptHandler (some (.Tuple [.Name x p, .Name y p'] kk tp)) none (b₀ :: suite) pos' :: hds) (⟨x, none, k⟩ :: ⟨y, none, k⟩ :: l)
  | tup3 {x y z : Str} {cv cv' cv'' : Value} {b₀ : Stmt} {suite : List Stmt} {p p' p'' pos' tp : Pos} {kk : Nat} {hds : List ExceptHandler} {l : List Hdl} {k : Str → List (Str × T) → SS} (hc : Names X x cv) (hc' : Names X y cv') (hc'' : Names X z cv'') (hx : Catches X XS x cv) (hx' : Catches X XS y cv') (hx'' : Catches X XS z cv'') (hk : HOk X XS none (b₀ :: suite) k) (r : DHs2 X XS hds l) :
      DHs2 X XS (.ExceptHandler (some (.Tuple [.Name x p, .Name y p', .Name z p''] kk tp)) none (b₀ :: suite) pos' :: hds) (⟨x, none, k⟩ :: ⟨y, none, k⟩ :: ⟨z, none, k⟩ :: l)
section
variable {X : Cx} {P : Pq} {W : WX}
end
end W3
end

section
namespace W3
open PySem PySem.Spec PyProof.Rows
open L2
def tupD (h : Hh) (y : T) : Bool := match toD h 24 y with | some (.tuple _) => true | _ => false
def oEqT (x y : T) (h : Hh) : Res T := if dicB h x = true ∧ tupD h y = true then .ok (.bl false) h else oEq x y h
def oNeT (x y : T) (h : Hh) : Res T := if dicB h x = true ∧ tupD h y = true then .ok (.bl true) h else oNe x y h
section
variable {X : Cx}
end
@[simp] theorem e_eqT_nd (x y : T) (h : Hh) (hx : dicB h x = false) : oEqT x y h = oEq x y h := by unfold oEqT; rw [if_neg (by rw [hx]; simp)]
@[simp] theorem e_neT_nd (x y : T) (h : Hh) (hx : dicB h x = false) : oNeT x y h = oNe x y h := by unfold oNeT; rw [if_neg (by rw [hx]; simp)]
end W3
end

section
namespace W3
open PySem PySem.Spec PyProof.Rows
open L2
section
variable {X : Cx} {body : List Stmt} {h₀ : ExceptHandler} {hds : List ExceptHandler} {l : List (Value × Option Nat × Tsu)} {pos : Pos} {tb : WX → TS} {Wout : WX}
end
section
variable {X : Cx} {P : Pq} {W : WX}
end
section
variable {X : Cx} {XS : XSub} {sl : Option Nat} {e : Expr} {pos : Pos}
end
end W3
end

section
namespace W3
open PySem PySem.Spec PyProof.Rows
open L2
def sCut (so : SE) : SE := fun σ h => (so σ h).bind fun _ _ => .stk
section
variable {X : Cx} {P : Pq} {W : WX} {o : Expr} {apos pos : Pos} {so : SE} {xs : List Stmt}
end
@[simp] theorem e_sCut (so : SE) (σ : St3) (h : Hh) : sCut so σ h = (so σ h).bind fun _ _ => .stk := Eq.trans rfl rfl
end W3
end

section
namespace W3
open PySem PySem.Spec PyProof.Rows
open L2
section
variable {X : Cx}
end
section
variable {X : Cx} {P : Pq} {W : WX} {e : Expr} {so : SE} {apos cpos : Pos}
end
section
variable {X : Cx}
theorem HR.sub {m : Mp} {h : Hh} {H H' : Hp} (R : HR X.K X.mg X.w m h H) (k : ∀ b o, H b = some o → H' b = some o) : Ext m H m H' ∧ HR X.K X.mg X.w m h H' := by
  have E : Ext m H m H' := ⟨fun _ _ e => e, fun _ _ e => .inl e, fun a o e => ⟨o, k a o e⟩, fun a o e _ => k a o e, fun a vs e => k a _ e, fun a o u e => k a _ e, fun a fs e => k a _ e⟩
  refine ⟨E, R.dom, R.inj, fun l o q => ?_⟩
  obtain ⟨a, e1, r⟩ := R.ob l o q
  obtain ⟨u, hu, _⟩ := r.some
  exact ⟨a, e1, r.moveT E.tr (by rw [k a u hu, hu])⟩
end
end W3
end

section
namespace L2
open PySem PySem.Spec PyProof.Rows
def keyV : Key → V
  | .inl i => .int i
  | .inr s => .str s
section
variable {X : Cx} {e : Expr} {te : TE} {p apos cpos pos : Pos}
end
end L2
namespace W3
open PySem PySem.Spec PyProof.Rows
open L2
theorem RK.keys {K : PySem.W.Frag} {mg : Str → Option Value} {m : Mp} {H : Hp} {kvs : List (T × T)} {ks : List (Key × V)} (r : RK K mg m H kvs ks) (hi : ∀ q ∈ kvs, ∃ i, q.1 = T.int i) : RTs K mg m H (kvs.map (·.1)) (ks.map fun q => keyV q.1) := by
  induction r with
  | nil => exact .nil
  | cons q _ ih =>
    obtain ⟨i, e⟩ := hi _ (List.mem_cons_self ..)
    cases e
  | consI q _ ih => exact .cons (.int _) (ih fun q hq => hi q (List.mem_cons_of_mem _ hq))
def sLKeys (so : SE) : SE := fun σ h => (so σ h).bind fun x h1 => match obAt h1 x with
  | some (.dic kvs) => if kvs.all (fun q => match q.1 with | .int _ => true | _ => false) then alloc (.lst (kvs.map (·.1))) h1 else .stk
  | _ => .stk
@[simp] theorem e_sLKeys (so : SE) (σ : St3) (h : Hh) : sLKeys so σ h = (so σ h).bind fun x h1 => match obAt h1 x with
  | some (.dic kvs) => if kvs.all (fun q => match q.1 with | .int _ => true | _ => false) then alloc (.lst (kvs.map (·.1))) h1 else .stk
  | _ => .stk := Eq.trans rfl rfl
section
variable {X : Cx} {P : Pq} {W : WX} {e : Expr} {se : SE} {apos cpos pos p : Pos}
end
end W3
end

section
namespace W3
open PySem PySem.Spec PyProof.Rows
open L2
section
variable {P : Program} {w : World} {A : Around} {E : Value → Shared → Prop} {s : Shared}
end
section
variable {X : Cx} {P : Pq} {W : WX} {a : Expr} {sa : SE} {pos p p2 q2 : Pos}
end
end W3
end

section
namespace W3
open PySem PySem.Spec PyProof.Rows
open L2
end W3
end

section
namespace W3
open PySem PySem.Spec PyProof.Rows
open L2
theorem spl_mem (S : List Nat) : ∀ (l : List Nat) (k : Nat) (acc : List Nat), ∀ z ∈ TL.spl S k acc l, ∀ c ∈ z, c ∈ acc ∨ c ∈ l
  | [], k, acc, z, hz, c, hc => by
    rw [TL.spl_nil] at hz
    rw [List.mem_singleton] at hz
    subst hz
    exact .inl hc
  | d :: r, 0, acc, z, hz, c, hc => by
    have hz' : z ∈ (if TL.pre S (d :: r) = true then acc :: TL.spl S (S.length - 1) [] r else TL.spl S 0 (acc ++ [d]) r) := hz
    split at hz'
    · rcases List.mem_cons.mp hz' with e | q
      · subst e; exact .inl hc
      · rcases spl_mem S r _ _ z q c hc with x | x
        · cases x
        · exact .inr (.tail _ x)
    · rcases spl_mem S r _ _ z hz' c hc with x | x
      · rcases List.mem_append.mp x with y | y
        · exact .inl y
        · rw [List.mem_singleton] at y; subst y; exact .inr (.head _)
      · exact .inr (.tail _ x)
  | d :: r, k + 1, acc, z, hz, c, hc => by
    have hz' : z ∈ TL.spl S k acc r := hz
    rcases spl_mem S r k acc z hz' c hc with x | x
    · exact .inl x
    · exact .inr (.tail _ x)
theorem tl_ne {b : Str} (hb : (b.length == 0) = false) : TL.tl b ≠ [] := by
  intro e
  have : b.length = 0 := by
    rw [TL.len_tl, e]
    rfl
  rw [this] at hb
  cases hb
theorem split_ok {a b : Str} (ha : PyData.strOk a = true) (hb : (b.length == 0) = false) (hk : b.cps.all (· < 256) = true) : ∀ y ∈ Txt.split a b, PyData.strOk y = true := by
  intro y hy
  have e := TL.split_spl a b (tl_ne hb) (TL.kind_ok hk)
  have hm : TL.tl y ∈ TL.spl (TL.tl b) 0 [] (TL.tl a) := by rw [← e]; exact List.mem_map.mpr ⟨y, hy, rfl⟩
  unfold PyData.strOk at ha ⊢
  rw [← Array.all_toList, List.all_eq_true] at ha ⊢
  intro c hc
  rcases spl_mem _ _ _ _ _ hm c hc with x | x
  · cases x
  · exact ha c x
theorem rts_txts {K : PySem.W.Frag} {mg : Str → Option Value} {m : Mp} {H : Hp} : ∀ {ys : List Str}, (∀ y ∈ ys, PyData.strOk y = true) → RTs K mg m H (ys.map T.str) (ys.map V.str)
  | [], _ => .nil
  | y :: ys, h => .cons (.str (h y (.head _))) (rts_txts fun z hz => h z (.tail _ hz))
def mSplit (x : T) (vs : List T) (h : Hh) : Res T := match x, vs with
  | .str a, [.str b] => if (b.length == 0) = false ∧ b.cps.all (· < 256) = true ∧ a.length + 2 ≤ sizeLine then alloc (.lst ((Txt.split a b).map T.str)) h else .stk
  | _, _ => .stk
theorem nx_split : NoXM mSplit := fun x y h c fs h' e => by
  unfold mSplit alloc at e
  (repeat' split at e) <;> cases e
section
variable {X : Cx} {P : Pq} {W : WX} {a b c o e : Expr} {sa sb sc so : SE} {pos pos' apos cpos p : Pos} {es : List Expr} {ar : SA}
theorem ms_split : MtS X "str.split" mSplit := by
  intro pins s σ H x xs v us Q I rx rs ⟨m, h, t, ts, r, rr, R, o⟩
  cases r with
  | @str a ha =>
    match ts, rr with
    | [t1], rr =>
      obtain ⟨y, rfl, r1⟩ := rr.one
      cases r1 with
      | @str b hb =>
        have o' : OutP X.K X.mg X.w Q m H (if (b.length == 0) = false ∧ b.cps.all (· < 256) = true ∧ a.length + 2 ≤ sizeLine then alloc (.lst ((Txt.split a b).map T.str)) h else .stk) := o
        split at o'
        · rename_i hc
          obtain ⟨h1, h2, h3⟩ := hc
          refine mt_split pins s σ H _ _ v us Q I rx rs ⟨a, b, rfl, rfl, h1, h3, fun p hp => ?_⟩
          exact o' _ _ _ (Ext.alloc R hp) (.ref Mp.put_same) (R.alloc hp ⟨_, upd_same, rts_txts (split_ok ha h1 h2)⟩)
        · exact False.elim o'
      | _ => exact False.elim o
    | [], _ => exact False.elim o
    | t1 :: t2 :: r3, _ =>
      have e : mSplit (.str a) (t1 :: t2 :: r3) h = .stk := by cases t1 <;> rfl
      rw [e] at o
      exact False.elim o
  | _ => exact False.elim (by revert o; unfold mSplit; exact fun o => o)
end
def numS (i : Int) : Str := toString i
def bStr (xs : List T) (h : Hh) : Res T := match xs with
  | [.str a] => .ok (.str a) h
  | [.int i] => if 0 ≤ i ∧ i ≤ 9 then .ok (.str (numS i)) h else .stk
  | _ => .stk
theorem nx_bstr : NoXL bStr := fun xs h c fs h' e => by unfold bStr at e; (repeat' split at e) <;> cases e
theorem digit_ok : ∀ n : Fin 10, PyData.strOk (toString (n.val : Int)) = true ∧ (n.val : Int).natAbs.log2 < 1920 := by decide +kernel
theorem digit_of {i : Int} (h0 : 0 ≤ i) (h1 : i ≤ 9) : PyData.strOk (toString i) = true ∧ i.natAbs.log2 < 1920 := by
  have e := digit_ok ⟨i.toNat, by omega⟩
  have q : ((i.toNat : Nat) : Int) = i := Int.toNat_of_nonneg h0
  dsimp only at e
  rw [q] at e
  exact e
theorem cs_str {X : Cx} : CallR X (.type "str") (rPL X.K X.mg X.w bStr) := by
  intro pins s σ H xs us Q I ru ⟨m, h, ts, r, R, o⟩
  unfold bStr at o
  split at o
  · obtain ⟨v, rfl, r1⟩ := r.one
    cases r1 with
    | str ha => exact SkE.call_str_str pins s σ H _ us Q I ru ⟨_, rfl, o _ m H (Ext.refl _ _) (.str ha) R⟩
  · obtain ⟨v, rfl, r1⟩ := r.one
    cases r1 with
    | int _ =>
      rename_i i
      split at o
      · rename_i hz
        obtain ⟨z1, z2⟩ := digit_of hz.1 hz.2
        exact call_str_int pins s σ H _ us Q I ru ⟨_, rfl, z2, o (.str (numS i)) m H (Ext.refl _ _) (.str (x := numS i) z1) R⟩
      · exact False.elim o
  · exact False.elim o
@[simp] theorem e_str_s (a : Str) (h : Hh) : bStr [.str a] h = .ok (.str a) h := Eq.trans rfl rfl
theorem e_str_i {i : Int} (h0 : 0 ≤ i) (h1 : i ≤ 9) (h : Hh) : bStr [.int i] h = .ok (.str (numS i)) h := by
  unfold bStr
  exact if_pos ⟨h0, h1⟩
theorem e_split (a b : Str) (h : Hh) : mSplit (.str a) [.str b] h = if (b.length == 0) = false ∧ b.cps.all (· < 256) = true ∧ a.length + 2 ≤ sizeLine then alloc (.lst ((Txt.split a b).map T.str)) h else .stk := Eq.trans rfl rfl
def keyTx (e : DictEntry) : Option Str := match e.key with | .str x _ => some x | _ => none
def keysB (K : PySem.W.Frag) (a : Addr) (ks : List Str) : Bool := match K.lookup a with
  | some ⟨_, _, .dict es _, _⟩ => decide (es.toList.map keyTx = ks.map some)
  | _ => false
def numB (K : PySem.W.Frag) (a : Addr) (k : Str) (i : Int) : Bool := match PySem.W.nsIn K a k with
  | some (some (.int j _)) => decide (j = i)
  | _ => false
structure KNum (K : PySem.W.Frag) (w : World) (a : Addr) (kvs : List (Str × Int)) : Prop where
  dic : ∃ es n, KDict K w a es n
  keys : keysB K a (kvs.map Prod.fst) = true
  vals : ∀ k i, kvs.lookup k = some i → numB K a k i = true
theorem find_none {es : List DictEntry} {ks : List Str} (e : es.map keyTx = ks.map some) {z : Str} (hz : z ∉ ks) : es.find? (fun x => x.key.isStr z) = none ∧ es.any (·.refKey) = false := by
  induction es generalizing ks with
  | nil => exact ⟨rfl, rfl⟩
  | cons x r ih =>
    cases ks with
    | nil => cases e
    | cons k ks =>
      rw [List.map_cons, List.map_cons] at e
      injection e with e1 e2
      obtain ⟨i1, i2⟩ := ih e2 (fun q => hz (.tail _ q))
      have hk : ∃ t, x.key = .str k t := by
        unfold keyTx at e1
        split at e1
        · rename_i y t q
          cases e1
          exact ⟨t, q⟩
        · cases e1
      obtain ⟨t, hk⟩ := hk
      have hne : (k == z) = false := by
        cases q : k == z with
        | false => rfl
        | true =>
          have : k = z := by simpa using q
          exact absurd (this ▸ List.mem_cons_self) hz
      refine ⟨?_, ?_⟩
      · rw [List.find?_cons]
        have : x.key.isStr z = false := by rw [hk]; exact hne
        rw [this]
        exact i1
      · rw [List.any_cons, i2, Bool.or_false]
        unfold DictEntry.refKey
        rw [hk]
theorem KNum.none {K : PySem.W.Frag} {w : World} {a : Addr} {kvs : List (Str × Int)} (D : KNum K w a kvs) {z : Str} (hz : kvs.lookup z = none) : PySem.W.nsIn K a z = some none := by
  have hm : z ∉ kvs.map Prod.fst := by
    intro q
    obtain ⟨⟨k, i⟩, h1, h2⟩ := List.mem_map.mp q
    rw [List.lookup_eq_none_iff] at hz
    have := hz _ h1
    rw [← h2] at this
    simp at this
  have hk := D.keys
  unfold keysB at hk
  unfold PySem.W.nsIn
  split at hk
  · rename_i es n sl q
    rw [q]
    have e : es.toList.map keyTx = (kvs.map Prod.fst).map some := of_decide_eq_true hk
    obtain ⟨i1, i2⟩ := find_none e hm
    dsimp only
    rw [i1, i2]
    rfl
  · cases hk
theorem KNum.some {K : PySem.W.Frag} {w : World} {a : Addr} {kvs : List (Str × Int)} (D : KNum K w a kvs) {z : Str} {i : Int} (hz : kvs.lookup z = some i) : ∃ t, PySem.W.nsIn K a z = some (some (.int i t)) := by
  have h := D.vals z i hz
  unfold numB at h
  split at h
  · rename_i j t q
    have : j = i := of_decide_eq_true h
    subst this
    exact ⟨t, q⟩
  · cases h
def oNumIx (kvs : List (Str × Int)) (x : T) (h : Hh) : Res T := match x with | .str s => (match kvs.lookup s with | some i => .ok (.int i) h | none => .stk) | _ => .stk
theorem nx_numIx (kvs : List (Str × Int)) : NoX1 (oNumIx kvs) := fun x h c fs h' e => by unfold oNumIx at e; (repeat' split at e) <;> cases e
def oNumIn (kvs : List (Str × Int)) (x : T) (h : Hh) : Res T := match x with | .str s => .ok (.bl (kvs.lookup s).isSome) h | _ => .stk
theorem nx_numIn (kvs : List (Str × Int)) : NoX1 (oNumIn kvs) := fun x h c fs h' e => by unfold oNumIn at e; (repeat' split at e) <;> cases e
section
variable {X : Cx} {P : Pq} {W : WX} {a b c o e : Expr} {sa sb sc so : SE} {pos pos' apos cpos p : Pos} {es : List Expr} {ar : SA}
theorem de_numIx {x : Str} {kvs : List (Str × Int)} (hm : ∃ a, X.mg x = some (.ref a) ∧ KNum X.K X.w a kvs) (hb : DE X P W b sb) (hg : Gl X x := by rfl) (hd : (x == ("__debug__" : Str)) = false := by decide) (hs : PlainIx b := by intro _ _; rfl) :
    DE X P W (.Subscript (.Name x p) b pos) (s1 (oNumIx kvs) sb) := by
  obtain ⟨a, hm, kd⟩ := hm
  refine PE.imp (pe_ix ix_kdict (pe_glob (v := .ref a) hg hm rfl hd) hb hs) fun σV H Q h => ?_
  refine tG.mono (fun v H1 hq => ?_) (one (nx_numIx kvs) h)
  obtain ⟨m, h, t, r, R, o⟩ := hq
  cases r with
  | str hs =>
    rename_i k
    have o' : OutP X.K X.mg X.w Q m H1 (match kvs.lookup k with | some i => .ok (.int i) h | none => .stk) := o
    split at o'
    · rename_i i e
      obtain ⟨t, q1⟩ := kd.some e
      obtain ⟨es, n, D⟩ := kd.dic
      exact ⟨a, k, .int i, rfl, rfl, ⟨es, n, .int i t, D.at_, D.lit, q1, ⟨t, rfl⟩⟩, o' _ m H1 (Ext.refl _ _) (.int i) R⟩
    · exact False.elim o'
  | _ => exact False.elim o
theorem numIn_read {d : Addr} {kvs : List (Str × Int)} (kd : KNum X.K X.w d kvs) {v : V} {H1 : Hp} {Q : VK} (hq : rP1 X.K X.mg X.w (oNumIn kvs) v H1 Q) : ∃ (z : Str) (r : Option Value), v = .str z ∧ V.ref d = .ref d ∧ PySem.W.nsIn X.K d z = some r ∧ Q (.bl r.isSome) H1 := by
  obtain ⟨m, h, t, r, R, o⟩ := hq
  cases r with
  | str hs =>
    rename_i k
    have o' : OutP X.K X.mg X.w Q m H1 (.ok (.bl (kvs.lookup k).isSome) h) := o
    cases e : kvs.lookup k with
    | none =>
      rw [e] at o'
      exact ⟨k, none, rfl, rfl, kd.none e, o' _ m H1 (Ext.refl _ _) (.bl _) R⟩
    | some i =>
      obtain ⟨t, q1⟩ := kd.some e
      rw [e] at o'
      exact ⟨k, some (.int i t), rfl, rfl, q1, o' _ m H1 (Ext.refl _ _) (.bl _) R⟩
  | _ => exact False.elim o
theorem dt_numIn {x : Str} {kvs : List (Str × Int)} {px : Pos} (hm : ∃ a, X.mg x = some (.ref a) ∧ KNum X.K X.w a kvs) (ha : DE X P W a sa) (hg : Gl X x := by rfl) (hd : (x == ("__debug__" : Str)) = false := by decide) (hb : behindInMarks .In (.Name x px) = false := by rfl) :
    DT X P W (.Compare a [.In] [.Name x px] pos) (sT (s1 (oNumIn kvs) sa)) := by
  obtain ⟨d, hm, kd⟩ := hm
  obtain ⟨es, n, D⟩ := kd.dic
  refine PT.imp (pt_cmpR (op_in_kd D) ha (pe_glob (v := .ref d) hg hm rfl hd) hb) fun σV H Q ⟨m, h, σ, A, o⟩ => ?_
  have h1 : tI X.K X.mg X.w P W (s1 (oNumIn kvs) sa) σV H (fun x H1 => ∃ k, x = .bl k ∧ Q k H1) := A.first (rel1 := RT X.K X.mg) o fun m1 h1 t x H1 E1 r A1 o1 => by
    cases r with
    | bl k => exact ⟨k, rfl, o1 k m1 H1 (Ext.refl _ _) rfl A1.hr⟩
    | _ => exact False.elim o1
  exact tG.mono (fun v H1 hq => numIn_read (Q := fun x H' => ∃ k, x = V.bl k ∧ Q k H') kd hq) (one (nx_numIn kvs) h1)
end
inductive NumRows (K : PySem.W.Frag) (a : Addr) : List (Str × Int) → Prop
  | nil : NumRows K a []
  | cons {k : Str} {i : Int} {r : List (Str × Int)} : numB K a k i = true → NumRows K a r → NumRows K a ((k, i) :: r)
theorem knum_of {K : PySem.W.Frag} {w : World} {a : Addr} {kvs : List (Str × Int)} (h1 : ∃ es n, KDict K w a es n) (h2 : keysB K a (kvs.map Prod.fst) = true) (h3 : NumRows K a kvs) : KNum K w a kvs := ⟨h1, h2, by
  clear h2
  intro k i e
  induction h3 with
  | nil => cases e
  | @cons k0 i0 r q _ ih =>
    simp only [List.lookup] at e
    split at e
    · rename_i hk
      cases e
      have : k = k0 := by simpa using hk
      subst this
      exact q
    · exact ih e⟩
section
variable {X : Cx} {P : Pq} {W : WX} {pos p : Pos}
end
end W3
end

section
namespace W3
open PySem PySem.Spec PyProof.Rows
open L2
def sOrV (a b : SE) : SE := fun σ h => (a σ h).bind fun t h1 => match t with
  | .tup ts => if ts.isEmpty = true then b σ h1 else .ok (.tup ts) h1
  | _ => .stk
@[simp] theorem e_sOrV (a b : SE) (σ : St3) (h : Hh) : sOrV a b σ h = (a σ h).bind fun t h1 => match t with
  | .tup ts => if ts.isEmpty = true then b σ h1 else .ok (.tup ts) h1
  | _ => .stk := Eq.trans rfl rfl
section
variable {X : Cx} {P : Pq} {W : WX} {a b : Expr} {sa sb : SE} {pos : Pos} {rest : List Expr}
end
end W3
end

section
namespace W3
open PySem PySem.Spec PyProof.Rows
open L2
section
variable {X : Cx} {P : Pq} {W : WX} {a b c o e : Expr} {ta tb : TE} {sa sb sc so : SE} {pos pos' apos cpos p : Pos} {es : List Expr} {ar : SA} {st : Stmt} {rest : List Stmt} {x1 x2 : SS}
abbrev DET (X : Cx) (P : Pq) (W : WX) (e : Expr) (se : SE) : Prop := PET X e (tI X.K X.mg X.w P W se)
abbrev DST (X : Cx) (P : Pq) (W : WX) (st : Stmt) (ss : SS) : Prop := PST X st (tS X.K X.mg X.w P W ss)
abbrev DSsT (X : Cx) (P : Pq) (W : WX) (st : List Stmt) (ss : SS) : Prop := PSsT X st (tS X.K X.mg X.w P W ss)
theorem PET.imp {t t' : TE} (h : PET X e t) (k : ∀ σ H Q, t' σ H Q → t σ H Q) : PET X e t' := fun pins s σ H Q h0 I hw => h pins s σ H Q h0 I (k _ _ _ hw)
theorem PAT.imp {t t' : TA} (h : PAT X es t) (k : ∀ σ H Q, t' σ H Q → t σ H Q) : PAT X es t' := fun pos pins s σ H Q h0 I hw => h pos pins s σ H Q h0 I (k _ _ _ hw)
theorem PST.imp {t t' : TS} (h : PST X st t) (k : ∀ D σ H, t' D σ H → t D σ H) : PST X st t' := fun pins s σ H D h0 I hw => h pins s σ H D h0 I (k _ _ _ hw)
theorem PSsT.imp {t t' : TS} {sts : List Stmt} (h : PSsT X sts t) (k : ∀ D σ H, t' D σ H → t D σ H) : PSsT X sts t' := fun pins s σ H D h0 I hw => h pins s σ H D h0 I (k _ _ _ hw)
theorem PET.of {t : TE} (h : PE X e t) : PET X e t := fun pins s σ H Q _ I q => h.run pins s σ H Q I q
theorem PAT.of {t : TA} (h : PA X es t) : PAT X es t := fun pos pins s σ H Q _ I q => h.run pos pins s σ H Q I q
theorem dst_of (h : DS X P W st x1) : DST X P W st x1 := PST.of h
theorem dsst_of {sts : List Stmt} (h : DSs X P W sts x1) : DSsT X P W sts x1 := PSsT.of h
theorem pst_if {c : Expr} {p q : List Stmt} {tc : TT} {t u : TS} (hc : PT X c tc) (ha : PSsT X p t) (hb : PSsT X q u) : PST X (.If c p q pos) (tIfS tc t u) := by
  intro pins s σ H D h0 I h
  refine wpAny_If (wpAny_mono (PySem.wpAny_toks (hc.run pins s σ H _ I h)) (fun d s1 q1 => ?_) fun _ _ x => x.2)
  obtain ⟨hk, H1, I1, q1⟩ := q1
  cases d with
  | true => exact ha pins s1 σ H1 D (Nat.le_trans h0 hk) I1 q1
  | false => exact hb pins s1 σ H1 D (Nat.le_trans h0 hk) I1 q1
theorem pst_ret (he : PET X e ta) : PST X (.Return (some e) pos) (tRet ta) := fun pins s σ H D h0 I h =>
  wpAny_Return_some (thn (he pins s σ H _ h0 I h) fun v s1 ⟨x, H1, I1, r1, q1⟩ => ⟨x, σ, H1, I1, r1, q1⟩)
theorem pet_opL {op : Operator} {r : R2} (ho : OpR X (binaryOp op) r) (ha : PET X a ta) (hb : PE X b tb) : PET X (.BinOp a op b pos) (tOp r ta tb) := fun pins s σ H Q h0 I h =>
  wpAny_BinOp (thn (ha pins s σ H _ h0 I h) fun v s1 ⟨x, H1, I1, r1, q1⟩ => thn (hb.run pins s1 σ H1 _ I1 q1) fun u s2 ⟨y, H2, I2, r2, q2⟩ => ho pins s2 σ H2 x y v u Q I2 r1 r2 q2)
theorem pet_opR {op : Operator} {r : R2} (ho : OpR X (binaryOp op) r) (ha : PE X a ta) (hb : PET X b tb) : PET X (.BinOp a op b pos) (tOp r ta tb) := fun pins s σ H Q h0 I h =>
  wpAny_BinOp (wpAny_mono (PySem.wpAny_toks (ha.run pins s σ H _ I h)) (fun v s1 q => by
    obtain ⟨hk, x, H1, I1, r1, q1⟩ := q
    exact thn (hb pins s1 σ H1 _ (Nat.le_trans h0 hk) I1 q1) fun u s2 ⟨y, H2, I2, r2, q2⟩ => ho pins s2 σ H2 x y v u Q I2 r1 r2 q2) fun _ _ z => z.2)
theorem det_opL {op : Operator} {f : T → T → Hh → Res T} (ho : OpR X (binaryOp op) (rP2 X.K X.mg X.w f)) (hf : NoX2 f) (ha : DET X P W a sa) (hb : DE X P W b sb) : DET X P W (.BinOp a op b pos) (s2 f sa sb) :=
  PET.imp (pet_opL ho ha hb) fun σV H Q h => two hf h
theorem det_opR {op : Operator} {f : T → T → Hh → Res T} (ho : OpR X (binaryOp op) (rP2 X.K X.mg X.w f)) (hf : NoX2 f) (ha : DE X P W a sa) (hb : DET X P W b sb) : DET X P W (.BinOp a op b pos) (s2 f sa sb) :=
  PET.imp (pet_opR ho ha hb) fun σV H Q h => two hf h
theorem dat_cons_read {σV : L2.St} {H : Hp} {Q : List V → Hp → Prop} (h : tAr X.K X.mg X.w P W (saCons sa ar) σV H Q) : tCons (tI X.K X.mg X.w P W sa) (tAr X.K X.mg X.w P W ar) σV H Q := by
  obtain ⟨m, h, σ, A, o⟩ := h
  refine A.first (rel1 := RT X.K X.mg) o fun m1 h1 t1 x H1 E1 r1 A1 o1 => ?_
  refine A1.first (rel1 := RTs X.K X.mg) o1 fun m2 h2 t2 y H2 E2 r2 A2 o2 => ?_
  exact o2 _ m2 H2 (Ext.refl _ _) (.cons (r1.ext E2) r2) A2.hr
theorem dst_if {ta : ST} {p q : List Stmt} (hc : DT X P W c ta) (ha : DSsT X P W p x1) (hb : DSsT X P W q x2) : DST X P W (.If c p q pos) (ssIf ta x1 x2) := PST.imp (pst_if hc ha hb) fun D σV H ⟨m, h, σ, A, o⟩ => by
  refine A.flo (rel1 := fun _ _ a b => a = b) o fun m1 h1 t x H1 E1 r A1 o1 => ?_
  subst r
  cases t with
  | true => exact ⟨m1, h1, σ, A1, o1⟩
  | false => exact ⟨m1, h1, σ, A1, o1⟩
theorem dst_ret (ha : DET X P W a sa) : DST X P W (.Return (some a) pos) (ssRet sa) := PST.imp (pst_ret ha) fun D σV H ⟨m, h, σ, A, o⟩ => by
  refine A.flo (rel1 := RT X.K X.mg) o fun m1 h1 t x H1 E1 r A1 o1 => ?_
  exact o1 x m1 H1 (Ext.refl _ _) r A1.hr
theorem dss_read {D : Ends} {σV : L2.St} {H : Hp} (h : tS X.K X.mg X.w P W (ssCons x1 x2) D σV H) : tSeq (tS X.K X.mg X.w P W x1) (tS X.K X.mg X.w P W x2) D σV H := by
  obtain ⟨m, h, σ, A, o⟩ := h
  refine ⟨m, h, σ, A, ?_⟩
  have o' : OutS X.K X.mg X.w W D m H ((x1 σ h).seq x2) := o
  cases e : x1 σ h with
  | nx σ1 h1 =>
    rw [e] at o'
    exact fun σV1 m1 H1 E1 s1 R1 => ⟨m1, h1, σ1, ⟨s1, R1, P.st E1 A.pr⟩, OutS.ext E1 o'⟩
  | rt t h1 => rw [e] at o'; exact o'
  | bk σ1 h1 => rw [e] at o'; exact o'
  | ct σ1 h1 => rw [e] at o'; exact o'
  | exc c fs σ1 h1 => rw [e] at o'; exact o'
  | stk => rw [e] at o'; exact o'
theorem dsst_cons (h1 : DST X P W st x1) (h2 : DSsT X P W rest x2) : DSsT X P W (st :: rest) (ssCons x1 x2) := PSsT.imp (psst_cons h1 h2) fun D σV H h => dss_read h
theorem pe_lstTok {z : Str} {j : Nat} {tr : TA} (ha : PA X es tr) (pins : List (Addr × Obj)) (s : Shared) (σ : L2.St) (H : Hp) (Q : VK) (I : Inv X pins σ H s) (hq : tLst (tCons (tC (.str z)) tr) σ H Q) :
    wpAny (model X.prog X.w) X.A (eval (.List (.Constant (.str z) j cpos :: es) p) X.env) (fun v s1 => 1 ≤ s1.toks ∧ EP X pins σ Q v s1) X.xe s := by
  refine wpAny_List_spliced ?_
  show wpAny _ _ (spliced ((false, eval (.Constant (.str z) j cpos) X.env) :: backTo p (starEach es X.env))) _ _ s
  refine Calls.spliced_cons (Calls.Constant_str ?_)
  have I1 : Inv X pins σ H { s with toks := s.toks + 1 } := I.tok (s.toks + 1)
  refine wpAny_mono (PySem.wpAny_toks_of (n := 1) (show 1 ≤ s.toks + 1 by omega) (ha.run p pins { s with toks := s.toks + 1 } σ H _ I1 hq)) (fun us s1 q => ?_) (fun _ _ x => x.2)
  obtain ⟨hk, xs, H1, I2, r, hz, q⟩ := q
  refine ⟨by rw [List.length_cons, ← r.length]; exact hz, hk, ?_⟩
  have hf : H1 s1.heap.objs.size = none := I2.hok.fresh (Nat.le_refl _)
  refine ⟨.ref s1.heap.objs.size, upd H1 s1.heap.objs.size (.lst (V.str z :: xs)), I2.laid (t' := s1.toks) (fun b u e => Heap.get?_push_of_some _ e) (Nat.le_refl _) ?_, rfl, q _ hf⟩
  exact ⟨hz, _, 0, .cons ⟨_, rfl⟩ r, Heap.get?_push_size _ rfl⟩
theorem pss_tok {i : Nat} {x z : Str} {j : Nat} {tr : TA} {u : TS} (hN : X.N.Nodup) (hi : X.N[i]? = some x) (hx : Loc X.env.scope x) (ha : PA X es tr) (h2 : PSsT X rest u)
    (hs : swapsWith (.List (.Constant (.str z) j cpos :: es) p) (some (.Name x pos')) pos.line X.env = pure false := by rfl) (hf : X.fn x = true ∨ X.env.scope.names.lookup x = some .local := by first | exact .inl rfl | exact .inr rfl | assumption) :
    PSs X (.Assign [.Name x pos'] (.List (.Constant (.str z) j cpos :: es) p) pos :: rest) (tSeq (tAsg (tLst (tCons (tC (.str z)) tr)) (gName i)) u) := by
  refine ⟨fun pins s σ H D I h => ?_⟩
  refine wpAny_execs_cons (wpAny_Assign_Name (wpAny_mono (pe_lstTok ha pins s σ H (fun y H1 => gName i y σ H1 (u D)) I h) (fun v s1 q => ?_) fun _ _ x => x) hs)
  obtain ⟨hk, y, H1, I1, r1, q1⟩ := q
  refine wpAny_mono (PySem.wpAny_toks (store_ok (Q := fun _ s2 => Inv X pins (σ.set i (some y)) H1 s2) I1 hN hi hx r1 (fun s2 I2 => I2) hf)) (fun _ s2 q => ?_) fun _ _ z => z.2
  exact h2 pins s2 _ H1 D (Nat.le_trans hk q.1) q.2 q1
theorem dss_tok {i : Nat} {x z : Str} {j : Nat} (hN : X.N.Nodup) (hi : X.N[i]? = some x) (hx : Loc X.env.scope x) (hz : PyData.strOk z = true) (ha : DA X P W es ar) (h2 : DSsT X P W rest x2)
    (hs : swapsWith (.List (.Constant (.str z) j cpos :: es) p) (some (.Name x pos')) pos.line X.env = pure false := by rfl) (hf : X.fn x = true ∨ X.env.scope.names.lookup x = some .local := by first | exact .inl rfl | exact .inr rfl | assumption) :
    DSs X P W (.Assign [.Name x pos'] (.List (.Constant (.str z) j cpos :: es) p) pos :: rest) (ssCons (ssAsg (sLst (saCons (sC (.str z)) ar)) (sgName i)) x2) := by
  refine PSs.imp (pss_tok hN hi hx ha h2 hs hf) fun D σV H h => ?_
  have h := dss_read h
  obtain ⟨m, h, σ, A, o⟩ := (h : tS X.K X.mg X.w P W (ssAsg (sLst (saCons (sC (.str z)) ar)) (sgName i)) { D with nx := tS X.K X.mg X.w P W x2 D } σV H)
  have h1 : tI X.K X.mg X.w P W (sLst (saCons (sC (.str z)) ar)) σV H (fun y H1 => gName i y σV H1 (tS X.K X.mg X.w P W x2 D)) := by
    refine A.flo (rel1 := RT X.K X.mg) o fun m1 h1 t y H1 E1 r A1 o1 => ?_
    exact o1 _ m1 H1 (Ext.refl _ _) (A1.sr.set r i) A1.hr
  obtain ⟨m, h, σ, A, o⟩ := h1
  have h2 : tAr X.K X.mg X.w P W (saCons (sC (.str z)) ar) σV H (fun xs H1 => xs.length ≤ sizeLine ∧ ∀ p, H1 p = none → gName i (.ref p) σV (upd H1 p (.lst xs)) (tS X.K X.mg X.w P W x2 D)) := by
    refine A.first (rel1 := RTs X.K X.mg) o fun m1 h1 t1 x H1 E1 r1 A1 o1 => ?_
    split at o1
    · rename_i hz
      refine ⟨by rw [← r1.length]; exact hz, fun p hp => ?_⟩
      exact OutP.newLst A1.hr r1 (o1.outP (fun _ _ _ z => by cases z)) hp
    · exact False.elim o1
  obtain ⟨m, h, σ, A, o⟩ := dat_cons_read h2
  exact o (.str z) m H (Ext.refl _ _) (.str hz) A.hr
theorem replace_split {x y : Str} (hb : (y.length == 0) = false) (hk : y.cps.all (· < 256) = true) (z : Str) : Txt.replace x y z = Txt.join z (Txt.split x y) := by
  have key : ∀ w : Str, Txt.join z [w] = w := fun w => by rw [TL.join_eq]; rfl
  have hlen : x.length < y.length → (Builtin.Str.occurrences x y 0 x.length (x.length + 1)).isEmpty = true := by
    intro hlt
    obtain ⟨f, g, hn⟩ := PySem.StrLaws.occ_tight x y (TL.len1 (tl_ne hb))
    cases ho : Builtin.Str.occurrences x y 0 x.length (x.length + 1) with
    | nil => rfl
    | cons c r =>
      rw [ho] at g
      have hc : c + y.length ≤ x.length := g.2.1.1
      omega
  unfold Txt.replace Txt.split
  rw [hb, Bool.false_and, Bool.or_false]
  by_cases h1 : (decide (x.length < y.length) || decide (Builtin.Str.strKind x < Builtin.Str.strKind y)) = true
  · rw [if_pos h1]
    have hlt : x.length < y.length := by
      simp only [Bool.or_eq_true, decide_eq_true_eq] at h1
      rcases h1 with h | h
      · exact h
      · exact absurd h (TL.kind_ok hk)
    rw [if_pos (hlen hlt), key]
  · rw [if_neg h1]
    by_cases h2 : (Builtin.Str.occurrences x y 0 x.length (x.length + 1)).isEmpty = true
    · rw [if_pos h2, if_pos h2, key]
    · rw [if_neg h2, if_neg h2]
      rfl
theorem replace_ok {x y z : Str} (hx : PyData.strOk x = true) (hz : PyData.strOk z = true) (hb : (y.length == 0) = false) (hk : y.cps.all (· < 256) = true) : PyData.strOk (Txt.replace x y z) = true := by
  rw [replace_split hb hk]
  exact strOk_join hz (split_ok hx hb hk)
def oRepl (y z : Str) (x : T) (h : Hh) : Res T := match x with
  | .str s => if s.length + (s.length + 1) * z.length ≤ 16777216 then .ok (.str (Txt.replace s y z)) h else .stk
  | _ => .stk
theorem nx_repl (y z : Str) : NoX1 (oRepl y z) := fun x h c fs h' e => by unfold oRepl at e; (repeat' split at e) <;> cases e
@[simp] theorem e_repl (y z s : Str) (h : Hh) : oRepl y z (.str s) h = if s.length + (s.length + 1) * z.length ≤ 16777216 then .ok (.str (Txt.replace s y z)) h else .stk := Eq.trans rfl rfl
theorem pet_repl {y z : Str} {j0 j1 : Nat} {p0 p1 : Pos} {to : TE} (ho : PE X o to) (hyz : (y == z) = false)
    (hst : starEach [.Constant (.str y) j0 p0, .Constant (.str z) j1 p1] X.env = [(false, eval (.Constant (.str y) j0 p0) X.env), (false, eval (.Constant (.str z) j1 p1) X.env)] := by rfl)
    (hbase : attributeBase o "replace" X.env (eval o X.env) = eval o X.env := by rfl) (hline : (apos.endLine == cpos.line) = true := by rfl) :
    PET X (.Call (.Attribute o "replace" apos) [.Constant (.str y) j0 p0, .Constant (.str z) j1 p1] [] cpos) (fun σ H Q => to σ H fun v H1 => ∃ x : Str, v = .str x ∧ x.length + (x.length + 1) * z.length ≤ 16777216 ∧ Q (.str (Txt.replace x y z)) H1) := by
  intro pins s σ H Q h0 I h
  refine PySem.Call_method2 hbase hst hline (wpAny_mono (PySem.wpAny_toks (ho.run pins s σ H _ I h)) (fun v s1 q => ?_) fun _ _ x => x.2)
  obtain ⟨hk, xv, H1, I1, r1, x, rfl, hb, q⟩ := q
  obtain ⟨tx, rfl⟩ := r1
  refine ⟨"str", _, PySem.F.plainAttrs_str, PySem.F.slot_str_replace, PySem.F.type_str_replace, typeIs_str _ _ _, (fun _ e => nomatch e), Calls.callWith_builtin rfl (Calls.evalArgs_plain (Calls.spliced_cons (Calls.Constant_str ?_)))⟩
  refine Calls.spliced_cons (Calls.Constant_str (Calls.spliced_nil ?_))
  have h1 : 1 ≤ s1.toks := Nat.le_trans h0 hk
  exact PySem.SC.replace (show s1.toks ≠ 0 by omega) (show s1.toks + 1 ≠ 0 by omega) (show s1.toks ≠ s1.toks + 1 by omega) hyz hb fun t' k => ⟨.str (Txt.replace x y z), H1, I1.tok k, ⟨t', rfl⟩, q⟩
theorem det_repl {y z : Str} {j0 j1 : Nat} {p0 p1 : Pos} (ho : DE X P W o so) (hyz : (y == z) = false) (hy : (y.length == 0) = false) (hk : y.cps.all (· < 256) = true) (hz : PyData.strOk z = true)
    (hst : starEach [.Constant (.str y) j0 p0, .Constant (.str z) j1 p1] X.env = [(false, eval (.Constant (.str y) j0 p0) X.env), (false, eval (.Constant (.str z) j1 p1) X.env)] := by rfl)
    (hbase : attributeBase o "replace" X.env (eval o X.env) = eval o X.env := by rfl) (hline : (apos.endLine == cpos.line) = true := by rfl) :
    DET X P W (.Call (.Attribute o "replace" apos) [.Constant (.str y) j0 p0, .Constant (.str z) j1 p1] [] cpos) (s1 (oRepl y z) so) :=
  PET.imp (pet_repl ho hyz hst hbase hline) fun σV H Q h => by
    refine tG.mono (fun v H1 hq => ?_) (one (nx_repl y z) h)
    obtain ⟨m, h, t, r, R, o⟩ := hq
    cases r with
    | @str s hs =>
      have o' : OutP X.K X.mg X.w Q m H1 (if s.length + (s.length + 1) * z.length ≤ 16777216 then .ok (.str (Txt.replace s y z)) h else .stk) := o
      split at o'
      · rename_i hc
        exact ⟨s, rfl, hc, o' _ m H1 (Ext.refl _ _) (.str (replace_ok hs hz hy hk)) R⟩
      · exact False.elim o'
    | _ => exact False.elim o
end
end W3
end

section
namespace W3
open PySem PySem.Spec PyProof.Rows
open L2
section
variable {X : Cx}
theorem tokd {α : Type} {t : Sem α} {Q : α → Shared → Prop} {E : Value → Shared → Prop} {M : Model} {A : Around} {s : Shared} (h0 : 1 ≤ s.toks) (h : wpAny M A t Q E s) : wpAny M A t (fun a z => 1 ≤ z.toks ∧ Q a z) E s :=
  wpAny_mono (PySem.wpAny_toks_of h0 h) (fun _ _ q => q) fun _ _ q => q.2
theorem lct_core {pins : List (Addr × Obj)} {s : Shared} {σ : L2.St} {H : Hp} {Q : VK} {elt tg iter : Expr} {ifs : List Expr} {scope : Scope} {own : List (Str × Nat)} {pos pos' : Pos} {wi : TI} {g : TG} {tt : TT} {te : TE}
    {use : Option (Value → Sem Unit)} {Qf : Value → Shared → Prop}
    (t0 : 1 ≤ s.toks) (calm : X.calm = true) (nd : X.N.Nodup) (inv : Inv X pins σ H s) (pi : PI X tg iter wi) (blk : BlkOk X.N X.env.scope scope own)
    (Pg : ∀ (s : Shared) (H : Hp) (C : Addr) (cl : List (Str × Addr)) (ps : List Addr), PG (X.blk s H scope (compEnvC scope cl C X.env) ps) tg g)
    (Pt : ∀ (s : Shared) (H : Hp) (C : Addr) (cl : List (Str × Addr)) (ps : List Addr), PTs (X.blk s H scope (compEnvC scope cl C X.env) ps) ifs tt)
    (Pe : ∀ (s : Shared) (H : Hp) (C : Addr) (cl : List (Str × Addr)) (ps : List Addr), PET (X.blk s H scope (compEnvC scope cl C X.env) ps) elt te)
    (nofold : ∀ x, foldedSetIterable iter X.env x = pure x) (want : tLc wi g tt te (own.map (·.2)) σ H Q)
    (leave : ∀ D C z m G, Inv X pins σ G z → Q (.ref D) G → z.heap.Ns C m → FpOk X pins G C → compPost (model X.prog X.w) X.A X.xe use Qf (.ref D) C (.ok .next) z) :
    wpAny (model X.prog X.w) X.A (comprehension (.ListComp elt [⟨tg, iter, ifs, 0⟩] scope pos) scope X.env pos' (newList []) false (eval iter X.env) use) Qf X.xe s := by
  have outer : ∀ y ∈ scope.names, y.2 = .free → ∃ c, X.env.cells.lookup y.1 = some c := by
    intro y hy hfr
    cases blk.free y hy hfr with
    | inl q => exact inv.ok.has _ (.inl q)
    | inr q => exact inv.ok.has _ (.inr q)
  refine wpAny_comprehension_free (use := use) rfl nofold (closure_ok outer) blk.kind (fun y hy e => by rw [blk.uniq y hy, e])
    (thn (tokd t0 (pi.run pins s σ H _ inv want)) fun xv a ⟨ta, ha⟩ => thn (tokd ta ha) fun itv b ⟨tb, hb⟩ => ?_)
  obtain ⟨it, ps, nx, J, G, rfl, ib, TT, sb, fb, q⟩ := hb
  refine wpAny_newObj_type (newEnv_comp ?_) (by show 0 ≤ sizeLine; decide)
  have hfr : G b.heap.objs.size = none := ib.hok.fresh (Nat.le_refl _)
  obtain ⟨W, ⟨k0, hw0⟩, turns⟩ := q _ hfr
  have len : ∀ c ∈ ps, c < b.heap.objs.size := by
    intro c hc
    obtain ⟨o, ho, _⟩ := TT.obj _ _ sb c hc
    exact Heap.lt_size ho
  obtain ⟨c, ec⟩ : ∃ c : Shared, c = { b with heap := b.heap.push { cls := .type "list", data := .seq ([] : List Value).toArray } } := ⟨_, rfl⟩
  have hc : c.heap = b.heap.push { cls := .type "list", data := .seq ([] : List Value).toArray } := by rw [ec]
  have tc : 1 ≤ c.toks := by rw [ec]; exact tb
  have icl : Inv X pins σ (upd G b.heap.objs.size (.lst [])) c := by
    rw [ec]
    exact ib.laid (t' := b.toks) (fun c o ho => Heap.get?_push_of_some _ ho) (Nat.le_refl _) ⟨Nat.zero_le _, [], 0, .nil, Heap.get?_push_size _ rfl⟩
  have fc : ∀ k ∈ ps, FpOk X pins (upd G b.heap.objs.size (.lst [])) k ∧ k < c.heap.objs.size := by
    intro k hk
    have l := len k hk
    refine ⟨⟨?_, (fb k hk).2⟩, by rw [hc, Heap.size_push]; exact Nat.lt_succ_of_lt l⟩
    rw [upd_ne (Nat.ne_of_lt l)]
    exact (fb k hk).1
  have sc : nx 0 c.heap := TT.keep _ _ _ sb fun k _ o ho => by rw [hc]; exact Heap.get?_push_of_some _ ho
  rw [← ec]
  generalize b.heap.objs.size = D at hfr hw0 turns icl fc len ⊢
  have st := block_start icl blk nd fc
  generalize hG : upd G D (.lst []) = G0 at *
  show codeAny _ _ (.compStart (.ListComp elt [⟨tg, iter, ifs, 0⟩] scope pos) 0 (.ref it) (.ref D) (compEnvC scope (cellsFrom (c.heap.objs.size + 1) scope.names (cloFrom X.env.cells scope.names [])) c.heap.objs.size X.env)) (compPost (model X.prog X.w) X.A X.xe use Qf (.ref D) c.heap.objs.size) { c with heap := pushCells (c.heap.push { cls := .type "dict", data := .dict #[] }) scope.names }
  have pg := Pg c G0 c.heap.objs.size (cellsFrom (c.heap.objs.size + 1) scope.names (cloFrom X.env.cells scope.names [])) ps
  have pt := Pt c G0 c.heap.objs.size (cellsFrom (c.heap.objs.size + 1) scope.names (cloFrom X.env.cells scope.names [])) ps
  have pe := Pe c G0 c.heap.objs.size (cellsFrom (c.heap.objs.size + 1) scope.names (cloFrom X.env.cells scope.names [])) ps
  generalize hB : compEnvC scope (cellsFrom (c.heap.objs.size + 1) scope.names (cloFrom X.env.cells scope.names [])) c.heap.objs.size X.env = B at st pg pt pe ⊢
  have loc : B.locals = c.heap.objs.size := by rw [← hB]; rfl
  obtain ⟨d, ed⟩ : ∃ d : Shared, d = { c with heap := pushCells (c.heap.push { cls := .type "dict", data := .dict #[] }) scope.names } := ⟨_, rfl⟩
  rw [← ed] at st ⊢
  have td : 1 ≤ d.toks := by rw [ed]; exact tc
  have sd : nx 0 d.heap := TT.keep _ _ _ sc fun k _ o ho => by rw [ed]; exact pushCells_keeps _ _ _ _ (Heap.get?_push_of_some _ ho)
  have none0 : ∀ k ∈ ps, G0 k = none := fun k hk => (fc k hk).1.1
  have still : ∀ {τ : L2.St} {K : Hp} {z : Shared}, Inv (X.blk c G0 scope B ps) [] τ K z → (∀ k ∈ ps, K k = none) → ∀ k ∈ ps, FpOk (X.blk c G0 scope B ps) [] K k := by
    intro τ K z iz hn k hk
    exact ⟨hn k hk, (iz.ok.exf k hk).1, iz.ok.exfs k hk, .inl hk, fun x e q => (iz.ok.exf k hk).2 x e q, fun p hp => by simp at hp⟩
  have lp : codeAny (model X.prog X.w) X.A (.compLoop (.ListComp elt [⟨tg, iter, ifs, 0⟩] scope pos) 0 (.ref it) (.ref D) B) (compPost (model X.prog X.w) X.A X.xe use Qf (.ref D) c.heap.objs.size) d := by
    refine compLoop_any (fun m z => 1 ≤ z.toks ∧ ∃ i K, Inv (X.blk c G0 scope B ps) [] (wipe σ (own.map (·.2))) K z ∧ nx i z.heap ∧ (∀ k ∈ ps, K k = none) ∧ W i m K) ?_ k0 ⟨td, 0, G0, st, sd, none0, hw0⟩
    rintro m z ⟨tz, i, K, iz, sz, nz, wz⟩
    rcases turns i m K wz with ⟨stop, qq⟩ | ⟨go, Nx, small, step⟩
    · refine thnF (TT.done (X.blk c G0 scope B ps) rfl rfl rfl calm i [] z _ K (fun _ _ => False) iz (still iz nz) sz stop) fun r y ⟨er, iy⟩ => ?_
      subst er
      have back : Inv X pins σ K y := icl.call' (ch := ps) iy.os iy.base iy.hok iy.bare fun k hk => ⟨(fc k hk).1.2.2.2.1, (fc k hk).1.2.1, (fc k hk).1.2.2.2.2.1, (fc k hk).1.2.2.2.2.2⟩
      have free : K c.heap.objs.size = none := by rw [← loc]; exact iy.free
      obtain ⟨mm, hm, _⟩ := iy.loc
      have hm : y.heap.Ns B.locals mm := hm
      rw [loc] at hm
      exact leave D c.heap.objs.size y mm K back qq hm (icl.fpOk (Nat.le_refl _) free)
    · refine thnF (tokd tz (TT.item (X.blk c G0 scope B ps) rfl rfl rfl calm i [] z _ K (fun _ _ => False) iz (still iz nz) sz go)) fun r y ⟨ty, u, er, hy⟩ => ?_
      subst er
      refine thnF (tokd ty hy) fun _ e ⟨te', x, L, ie, re, ye, se, ne⟩ => ?_
      have ip := ie.pinned (still ie ne) (TT.obj _ _ se)
      refine thnF (tokd te' (pg.run _ e _ L x u _ ip re (step x L ye))) fun _ f ⟨tf, τ, L1, if_, hw, q1⟩ => ?_
      refine thnF (tokd tf (pt.run _ f τ L1 _ if_ q1)) fun v n ⟨tn', L2', i2, q2⟩ => ?_
      have close : ∀ {w : Shared} {K' : Hp}, 1 ≤ w.toks → Inv (X.blk c G0 scope B ps) ([] ++ pinsAt ps e.heap) τ K' w → Nx K' → ∃ m', m' < m ∧ 1 ≤ w.toks ∧ ∃ i K, Inv (X.blk c G0 scope B ps) [] (wipe σ (own.map (·.2))) K w ∧ nx i w.heap ∧ (∀ k ∈ ps, K k = none) ∧ W i m' K := by
        intro w K' tw iw hx
        obtain ⟨m', lt, w'⟩ := small K' hx
        have held : ∀ k ∈ ps, ∀ o, e.heap.get? k = some o → w.heap.get? k = some o ∧ K' k = none := by
          intro k hk o ho
          have := iw.pin (k, o) (List.mem_append_right _ (List.mem_append_right _ (mem_pinsAt hk ho)))
          exact ⟨this.1, this.2.1⟩
        refine ⟨m', lt, tw, i + 1, K', (iw.unpinned (pins := [])).weak (by rw [← hw, wipe_length]) (fun j v hv => ?_), TT.keep _ _ _ se fun k hk o ho => (held k hk o ho).1, fun k hk => ?_, w'⟩
        · rw [← hw] at hv
          exact (wipe_some hv).1
        · obtain ⟨o, ho, _⟩ := TT.obj _ _ se k hk
          exact (held k hk o ho).2
      cases v with
      | false =>
        rw [if_neg Bool.false_ne_true] at q2 ⊢
        exact close tn' i2 q2
      | true =>
        rw [if_pos rfl] at q2 ⊢
        refine thnF (tokd tn' (pe _ n τ L2' _ tn' i2 q2)) fun zv r ⟨tr, yv, M, i3, r3, ac, hac, lac, hx⟩ => ?_
        exact thnF (tokd tr (app_ok (X := X.blk c G0 scope B ps) (Q := fun _ w => Inv (X.blk c G0 scope B ps) ([] ++ pinsAt ps e.heap) τ (upd M D (.lst (ac ++ [yv]))) w) i3 hac lac r3 fun w iw => iw)) fun _ w ⟨tw, iw⟩ => close tw iw hx
  exact codeAny_compStart_list lp (TT.self X.A 0 _ _ _ sd lp)
theorem pet_lc {elt tg iter : Expr} {ifs : List Expr} {scope : Scope} {own : List (Str × Nat)} {pos : Pos} {wi : TI} {g : TG} {tt : TT} {te : TE} (calm : X.calm = true) (nd : X.N.Nodup) (pi : PI X tg iter wi) (blk : BlkOk X.N X.env.scope scope own)
    (Pg : ∀ (s : Shared) (H : Hp) (C : Addr) (cl : List (Str × Addr)) (ps : List Addr), PG (X.blk s H scope (compEnvC scope cl C X.env) ps) tg g)
    (Pt : ∀ (s : Shared) (H : Hp) (C : Addr) (cl : List (Str × Addr)) (ps : List Addr), PTs (X.blk s H scope (compEnvC scope cl C X.env) ps) ifs tt)
    (Pe : ∀ (s : Shared) (H : Hp) (C : Addr) (cl : List (Str × Addr)) (ps : List Addr), PET (X.blk s H scope (compEnvC scope cl C X.env) ps) elt te) (nofold : ∀ x, foldedSetIterable iter X.env x = pure x := by intro _; rfl) :
    PET X (.ListComp elt [⟨tg, iter, ifs, 0⟩] scope pos) (tLc wi g tt te (own.map (·.2))) := by
  intro pins s σ H Q t0 inv want
  rw [eval_ListComp]
  refine lct_core t0 calm nd inv pi blk Pg Pt Pe nofold want fun D C z m G iz q hn ⟨f0, f1, f2, f3, f4, f5⟩ => ⟨m, hn, fun _ sb => ?_⟩
  exact ⟨.ref D, G, iz.turned (t' := z.toks) (fun b o hb ho => (sb.2 b hb).trans ho) f0 f1 f3 f4 f5, rfl, q⟩
variable {P : Pq} {W : WX} {si : SI}
theorem det_lc {elt tg iter : Expr} {ifs : List Expr} {scope : Scope} {own : List (Str × Nat)} {is : List Nat} {g : SG} {tt : ST} {te : SE} {pos : Pos} (calm : X.calm = true) (nd : X.N.Nodup) (di : DI X P W tg iter si) (blk : BlkOk X.N X.env.scope scope own)
    (Pg : ∀ (s : Shared) (H : Hp) (C : Addr) (cl : List (Str × Addr)) (ps : List Addr), DG (X.blk s H scope (compEnvC scope cl C X.env) ps) P tg is g)
    (Pt : ∀ (s : Shared) (H : Hp) (C : Addr) (cl : List (Str × Addr)) (ps : List Addr), DTs (X.blk s H scope (compEnvC scope cl C X.env) ps) P WF ifs tt)
    (Pe : ∀ (s : Shared) (H : Hp) (C : Addr) (cl : List (Str × Addr)) (ps : List Addr), DET (X.blk s H scope (compEnvC scope cl C X.env) ps) P WF elt te)
    (his : ∀ i ∈ is, i ∈ own.map (·.2) := by decide) (nofold : ∀ x, foldedSetIterable iter X.env x = pure x := by intro _; rfl) :
    DET X P W (.ListComp elt [⟨tg, iter, ifs, 0⟩] scope pos) (sLc (saLc si g tt te (own.map (·.2)))) :=
  PET.imp (pet_lc (own := own) (wi := tG X.K X.mg X.w (SrcJ X.K X.mg X.w) P W si) (g := tTg X.K X.mg X.w P is g) (tt := tTst X.K X.mg X.w P WF tt) (te := tI X.K X.mg X.w P WF te) calm nd di blk Pg Pt Pe nofold) fun σV H Q h => lc_read his (lc_keep h)
end
end W3
end

section
namespace W3
open PySem
theorem sp_tl : TL.tl (" " : Str) = [32] := by decide +kernel
theorem nl_tl : TL.tl ("\n" : Str) = [10] := by decide +kernel
theorem em_tl : TL.tl ("" : Str) = [] := by decide +kernel
theorem sp_256 : ((" " : Str)).cps.all (· < 256) = true := by decide +kernel
theorem nl_256 : (("\n" : Str)).cps.all (· < 256) = true := by decide +kernel
def Wd (s : Str) : Prop := 32 ∉ TL.tl s ∧ 10 ∉ TL.tl s
theorem Nm.wd {s : Str} (h : Nm s) : Wd s := by
  obtain ⟨_, _, h3⟩ := h
  exact ⟨fun q => absurd (h3 _ q) (by decide +kernel), fun q => absurd (h3 _ q) (by decide +kernel)⟩
theorem Nm.le8 {s : Str} (h : Nm s) : s.length ≤ 8 := h.2.1
def lnW (ws : List Str) : Str := Txt.join " " ws
def txL (ls : List Str) : Str := Txt.join "" (ls.map fun l => l ++ "\n")
theorem tl_lnW (ws : List Str) : TL.tl (lnW ws) = TL.joinL [32] (ws.map TL.tl) := by
  unfold lnW
  rw [TL.join_eq, TL.tl_join, sp_tl]
theorem joinL_nil : ∀ (ps : List (List Nat)), TL.joinL [] ps = ps.flatten
  | [] => rfl
  | [p] => by simp [TL.joinL]
  | p :: q :: r => by
    show p ++ ([] ++ TL.joinL [] (q :: r)) = _
    rw [joinL_nil (q :: r)]
    rfl
theorem tl_txL (ls : List Str) : TL.tl (txL ls) = (ls.map fun l => TL.tl l ++ [10]).flatten := by
  unfold txL
  rw [TL.join_eq, TL.tl_join, em_tl, joinL_nil, List.map_map]
  congr 2
  funext l
  show TL.tl (l ++ "\n") = _
  rw [TL.tl_append, nl_tl]
theorem spl_lines : ∀ (ls : List (List Nat)), (∀ l ∈ ls, 10 ∉ l) → TL.spl [10] 0 [] (ls.map fun l => l ++ [10]).flatten = ls ++ [[]]
  | [], _ => rfl
  | l :: ls, h => by
    rw [List.map_cons, List.flatten_cons, List.append_assoc]
    rw [TL.spl_part1 (S := []) (h l (.head _)), List.nil_append, spl_lines ls fun x hx => h x (.tail _ hx)]
    rfl
def rowsTx (s : Str) : List (List Str) := (Txt.split s "\n").dropLast.map fun l => Txt.split l " "
theorem split_lines_of {ls : List Str} (h : ∀ l ∈ ls, 10 ∉ TL.tl l) : Txt.split (txL ls) "\n" = ls ++ [("" : Str)] := by
  refine TL.map_tl_inj ?_
  rw [TL.split_spl _ _ (by rw [nl_tl]; simp) (TL.kind_ok nl_256), nl_tl, tl_txL]
  rw [show (ls.map fun l => TL.tl l ++ [10]) = (ls.map TL.tl).map fun l => l ++ [10] by rw [List.map_map]; rfl]
  rw [spl_lines _ (fun l hl => by obtain ⟨x, hx, rfl⟩ := List.mem_map.mp hl; exact h x hx)]
  rw [List.map_append, List.map_cons, em_tl]
  rfl
theorem mem_joinL {S : List Nat} {c : Nat} : ∀ {ps : List (List Nat)}, c ∈ TL.joinL S ps → c ∈ S ∨ ∃ p ∈ ps, c ∈ p
  | [], h => by cases h
  | [p], h => .inr ⟨p, List.mem_cons_self, h⟩
  | p :: q :: r, h => by
    have h' : c ∈ p ++ (S ++ TL.joinL S (q :: r)) := h
    rcases List.mem_append.mp h' with x | x
    · exact .inr ⟨p, List.mem_cons_self, x⟩
    · rcases List.mem_append.mp x with y | y
      · exact .inl y
      · rcases mem_joinL y with z | ⟨p', hp, z⟩
        · exact .inl z
        · exact .inr ⟨p', .tail _ hp, z⟩
theorem rowsOf_txL {rows : List (List Str)} (hne : ∀ r ∈ rows, r ≠ []) (hw : ∀ r ∈ rows, ∀ w ∈ r, Wd w) : rowsTx (txL (rows.map lnW)) = rows := by
  unfold rowsTx
  rw [split_lines_of (ls := rows.map lnW) (fun l hl q => ?_)]
  · rw [List.dropLast_concat, List.map_map]
    conv => rhs; rw [← List.map_id rows]
    refine List.map_congr_left fun r hr => ?_
    show Txt.split (Txt.join " " r) " " = r
    exact TL.split_join sp_tl sp_256 (hne r hr) fun p hp => (hw r hr p hp).1
  · obtain ⟨r, hr, rfl⟩ := List.mem_map.mp hl
    rw [tl_lnW] at q
    rcases mem_joinL q with z | ⟨p, hp, z⟩
    · simp at z
    · obtain ⟨w, hw2, rfl⟩ := List.mem_map.mp hp
      exact (hw r hr w hw2).2 z
theorem txL_end {ls : List Str} (h : ls ≠ []) : (txL ls).cps.toList.getLast? = some 10 := by
  show (TL.tl (txL ls)).getLast? = some 10
  rw [tl_txL]
  obtain ⟨a, b, rfl⟩ : ∃ a b, ls = a ++ [b] := ⟨ls.dropLast, ls.getLast h, (List.dropLast_concat_getLast h).symm⟩
  rw [List.map_append, List.flatten_append]
  simp
def wE : Ent → Str | none => "-" | some s => s
def rowWs (hd : Str) (r : List Ent) : List Str := hd :: r.map wE
def aloneL : List Str := ["alone"]
def ln2 (a b : Str) : List Str := [a, b]
def nearWs : Nr → List (List Str) | .alone r => [aloneL, rowWs "near" r] | .looks g rs => ln2 "looks" g :: rs.map (rowWs "near")
def farWs : Option (List Ent) → List (List Str) | none => [] | some r => [rowWs "far" r]
def fieldWs (p : Str × Fd) : List (List Str) := ln2 "field" p.1 :: ln2 "first" p.2.first :: (nearWs p.2.nr ++ farWs p.2.far)
structure RowT (r : List Ent) : Prop where
  ne : r ≠ []
  len : r.length ≤ 20
  nm : ∀ s, some s ∈ r → Nm s
def NrT : Nr → Prop | .alone r => RowT r | .looks g rs => Nm g ∧ rs ≠ [] ∧ rs.length ≤ 20 ∧ ∀ r ∈ rs, RowT r
structure FdT (f : Fd) : Prop where
  first : Nm f.first
  nr : NrT f.nr
  far : ∀ r, f.far = some r → RowT r
structure FmT (fm : Fm) : Prop where
  wne : fm.words ≠ []
  wlen : fm.words.length ≤ 20
  wnm : ∀ w ∈ fm.words, Nm w
  flen : fm.fields.length ≤ 20
  fs : ∀ p ∈ fm.fields, Nm p.1 ∧ FdT p.2
  r1 : 1 ≤ fm.room
  r3 : fm.room ≤ 3
theorem FmOk.t {fm : Fm} (o : FmOk fm) : FmT fm := by
  have row : ∀ {r : List Ent}, RowOk fm.words.length r → RowT r := fun {r} q => ⟨fun e => by have := q.len; rw [e] at this; have := o.w2; simp at *; omega, by have := q.len; have := o.w3; omega, q.nm⟩
  refine ⟨fun e => by have := o.w2; rw [e] at this; simp at this, by have := o.w3; omega, o.wn.nm, by have := o.f3; omega, fun p hp => ?_, o.r1, o.r3⟩
  have f := o.fs p hp
  have n := o.fn.nm p.1 (List.mem_map.mpr ⟨p, hp, rfl⟩)
  refine ⟨n, o.wn.nm _ f.first, ?_, fun r e => row (f.far r e)⟩
  have q := f.nr
  cases h : p.2.nr with
  | alone r => rw [h] at q; exact row q
  | looks g rs =>
    rw [h] at q
    obtain ⟨q1, q2, q3, q4⟩ := q
    refine ⟨o.fn.nm _ q1, fun e => ?_, by have := o.w3; omega, fun r hr => row (q4 r hr)⟩
    rw [e] at q3
    have := o.w2
    simp at q3
    omega
structure Rd where
  done : List (Str × Fd)
  last : Str
  nm : Str
  fi : Str
  lk : Option Str
  rows : List (List Ent)
  far : Option (List Ent)
def rd0 : Rd := ⟨[], "room", "", "", none, [], none⟩
def Rd.fd (r : Rd) : Fd := ⟨r.fi, match r.lk with | none => .alone (r.rows.headD []) | some g => .looks g r.rows, r.far⟩
def Rd.close (r : Rd) : Rd := { r with done := r.done ++ [(r.nm, r.fd)], rows := [], lk := none, far := none }
def fullS (s : Str) : Bool := decide (s = "room") || decide (s = "near") || decide (s = "far")
def eW (w : Str) : Ent := if w = "-" then none else some w
def wentB (w : Str) : Bool := decide (w = "-") || nmB w
def entsB (ws : List Str) : Bool := !ws.isEmpty && ws.all wentB
def lineB (hd : Str) : List Str → Bool | [a, b] => decide (a = hd) && nmB b | _ => false
def rdField (r : Rd) (ws : List Str) : Option Rd := if fullS r.last = true ∧ lineB "field" ws = true then some { (if r.last = "room" then r else r.close) with nm := ws.getD 1 "", last := "field" } else none
def rdFirst (r : Rd) (ws : List Str) : Option Rd := if r.last = "field" ∧ lineB "first" ws = true then some { r with fi := ws.getD 1 "", last := "first" } else none
def rdLooks (r : Rd) (hd : Str) (ws : List Str) : Option Rd := if r.last = "first" then (if ws = aloneL then some { r with last := hd } else if lineB "looks" ws = true then some { r with lk := some (ws.getD 1 ""), last := hd } else none) else none
def nearP (r : Rd) : Prop := (r.last = "near" → r.lk.isSome = true) ∧ (r.last ≠ "near" → r.last = "alone" ∨ r.last = "looks")
instance (r : Rd) : Decidable (nearP r) := by unfold nearP; exact inferInstance
def rdRow (r : Rd) (hd : Str) (ws : List Str) : Option Rd := if entsB ws.tail = true then
  (if hd = "far" then (if r.last = "near" then some { r with far := some (ws.tail.map eW), last := hd } else none)
   else if nearP r then some { r with rows := r.rows ++ [ws.tail.map eW], last := hd } else none) else none
def rdHd (r : Rd) (hd : Str) (ws : List Str) : Option Rd :=
  if hd = "field" then rdField r ws
  else if hd = "first" then rdFirst r ws
  else if hd = "alone" ∨ hd = "looks" then rdLooks r hd ws
  else if hd = "near" ∨ hd = "far" then rdRow r hd ws
  else none
def readR (r : Rd) (ws : List Str) : Option Rd := rdHd r (ws.headD "") ws
def roomL : List (Str × Int) := [("1", 1), ("2", 2), ("3", 3)]
def rmLnB (ws : List Str) : Bool := match ws with | [a, b] => decide (a = "room") && (roomL.lookup b).isSome | _ => false
def wdLnB (ws : List Str) : Bool := decide (ws.headD "" = "words") && (decide (1 < ws.length) && ws.tail.all nmB)
def headB (k : Nat) (ws : List Str) : Bool := if k = 0 then wdLnB ws else rmLnB ws
def parseL : Nat → Rd → List (List Str) → Nat ⊕ Rd
  | _, r, [] => .inr r
  | k, r, ws :: q => if k < 2 then (if headB k ws = true then parseL (k + 1) r q else .inl (k + 1)) else
    match readR r ws with | some r1 => parseL (k + 1) r1 q | none => .inl (k + 1)
theorem nm_ne {s : Str} (h : Nm s) : s ≠ "-" := by
  rintro rfl
  exact absurd (h.2.2 45 (by decide +kernel)) (by decide +kernel)
theorem eW_wE {r : List Ent} (h : ∀ s, some s ∈ r → Nm s) : (r.map wE).map eW = r := by
  rw [List.map_map]
  conv => rhs; rw [← List.map_id r]
  refine List.map_congr_left fun e he => ?_
  cases e with
  | none => exact (by decide +kernel : eW (wE none) = none)
  | some s => exact if_neg (nm_ne (h s he))
theorem entsB_row {r : List Ent} (h : RowT r) : entsB (r.map wE) = true := by
  unfold entsB
  rw [Bool.and_eq_true]
  refine ⟨?_, List.all_eq_true.mpr fun w hw => ?_⟩
  · cases r with
    | nil => exact absurd rfl h.ne
    | cons a b => rfl
  · obtain ⟨e, he, rfl⟩ := List.mem_map.mp hw
    unfold wentB
    cases e with
    | none => exact (by decide +kernel : (decide (wE none = "-") || nmB (wE none)) = true)
    | some s => rw [Bool.or_eq_true]; exact .inr (nmB_iff.mpr (h.nm s he))
theorem lineB_two {hd n : Str} (h : Nm n) : lineB hd (ln2 hd n) = true := by
  show (decide (hd = hd) && nmB n) = true
  rw [nmB_iff.mpr h]
  simp
theorem lit_ne : ("first" : Str) ≠ "field" ∧ ("alone" : Str) ≠ "field" ∧ ("looks" : Str) ≠ "field" ∧ ("near" : Str) ≠ "field" ∧ ("far" : Str) ≠ "field" ∧
    ("alone" : Str) ≠ "first" ∧ ("looks" : Str) ≠ "first" ∧ ("near" : Str) ≠ "first" ∧ ("far" : Str) ≠ "first" := by decide +kernel
theorem lit_ne2 : ¬ (("near" : Str) = "alone" ∨ ("near" : Str) = "looks") ∧ ¬ (("far" : Str) = "alone" ∨ ("far" : Str) = "looks") ∧ ("near" : Str) ≠ "far" ∧ ("alone" : Str) ≠ "near" ∧ ("looks" : Str) ≠ "near" := by decide +kernel
theorem readR_field {r : Rd} {n : Str} (hf : fullS r.last = true) (hn : Nm n) : readR r (ln2 "field" n) = some { (if r.last = "room" then r else r.close) with nm := n, last := "field" } := by
  show rdHd r "field" (ln2 "field" n) = _
  unfold rdHd
  rw [if_pos (rfl : ("field" : Str) = "field")]
  unfold rdField
  rw [if_pos ⟨hf, lineB_two hn⟩]
  rfl
theorem readR_first {r : Rd} {n : Str} (hl : r.last = "field") (hn : Nm n) : readR r (ln2 "first" n) = some { r with fi := n, last := "first" } := by
  show rdHd r "first" (ln2 "first" n) = _
  unfold rdHd
  rw [if_neg lit_ne.1, if_pos (rfl : ("first" : Str) = "first")]
  unfold rdFirst
  rw [if_pos ⟨hl, lineB_two hn⟩]
  rfl
theorem readR_alone {r : Rd} (hl : r.last = "first") : readR r aloneL = some { r with last := "alone" } := by
  show rdHd r "alone" aloneL = _
  unfold rdHd
  rw [if_neg lit_ne.2.1, if_neg lit_ne.2.2.2.2.2.1, if_pos (.inl rfl : ("alone" : Str) = "alone" ∨ ("alone" : Str) = "looks")]
  unfold rdLooks
  rw [if_pos hl, if_pos (rfl : aloneL = aloneL)]
theorem readR_looks {r : Rd} {n : Str} (hl : r.last = "first") (hn : Nm n) : readR r (ln2 "looks" n) = some { r with lk := some n, last := "looks" } := by
  show rdHd r "looks" (ln2 "looks" n) = _
  unfold rdHd
  rw [if_neg lit_ne.2.2.1, if_neg lit_ne.2.2.2.2.2.2.1, if_pos (.inr rfl : ("looks" : Str) = "alone" ∨ ("looks" : Str) = "looks")]
  unfold rdLooks
  rw [if_pos hl, if_neg (by unfold ln2 aloneL; simp : ln2 "looks" n ≠ aloneL), if_pos (lineB_two hn)]
  rfl
theorem readR_near {r : Rd} {e : List Ent} (he : RowT e) (hl : nearP r) : readR r (rowWs "near" e) = some { r with rows := r.rows ++ [e], last := "near" } := by
  show rdHd r "near" (rowWs "near" e) = _
  unfold rdHd
  rw [if_neg lit_ne.2.2.2.1, if_neg lit_ne.2.2.2.2.2.2.2.1, if_neg lit_ne2.1, if_pos (.inl rfl : ("near" : Str) = "near" ∨ ("near" : Str) = "far")]
  unfold rdRow
  rw [show (rowWs "near" e).tail = e.map wE from rfl, if_pos (entsB_row he), if_neg lit_ne2.2.2.1, if_pos hl, eW_wE he.nm]
theorem readR_far {r : Rd} {e : List Ent} (he : RowT e) (hl : r.last = "near") : readR r (rowWs "far" e) = some { r with far := some e, last := "far" } := by
  show rdHd r "far" (rowWs "far" e) = _
  unfold rdHd
  rw [if_neg lit_ne.2.2.2.2.1, if_neg lit_ne.2.2.2.2.2.2.2.2, if_neg lit_ne2.2.1, if_pos (.inr rfl : ("far" : Str) = "near" ∨ ("far" : Str) = "far")]
  unfold rdRow
  rw [show (rowWs "far" e).tail = e.map wE from rfl, if_pos (entsB_row he), if_pos (rfl : ("far" : Str) = "far"), if_pos hl, eW_wE he.nm]
theorem nearP_near {r : Rd} {g : Str} (h1 : r.last = "near") (h2 : r.lk = some g) : nearP r := ⟨fun _ => by rw [h2]; rfl, fun z => absurd h1 z⟩
theorem nearP_alone {r : Rd} (h1 : r.last = "alone") : nearP r := ⟨fun z => absurd (h1.symm.trans z) lit_ne2.2.2.2.1, fun _ => .inl h1⟩
theorem nearP_looks {r : Rd} (h1 : r.last = "looks") : nearP r := ⟨fun z => absurd (h1.symm.trans z) lit_ne2.2.2.2.2, fun _ => .inr h1⟩
theorem parseL_step {k : Nat} {r r1 : Rd} {ws : List Str} {q : List (List Str)} (hk : 2 ≤ k) (h : readR r ws = some r1) : parseL k r (ws :: q) = parseL (k + 1) r1 q := by
  show (if k < 2 then _ else match readR r ws with | some r1 => parseL (k + 1) r1 q | none => .inl (k + 1)) = _
  rw [if_neg (by omega), h]
def Nr.lk : Nr → Option Str | .alone _ => none | .looks g _ => some g
def Nr.rows : Nr → List (List Ent) | .alone r => [r] | .looks _ rs => rs
theorem near_rows {g : Str} : ∀ (rs : List (List Ent)) (k : Nat) (r : Rd) (q : List (List Str)), 2 ≤ k → (∀ e ∈ rs, RowT e) → r.last = "near" → r.lk = some g →
    parseL k r (rs.map (rowWs "near") ++ q) = parseL (k + rs.length) { r with rows := r.rows ++ rs } q
  | [], k, r, q, hk, _, hl, hg => by simp
  | e :: rs, k, r, q, hk, he, hl, hg => by
    rw [List.map_cons, List.cons_append, parseL_step hk (readR_near (he e (.head _)) (nearP_near hl hg))]
    have ih := near_rows (g := g) rs (k + 1) { r with rows := r.rows ++ [e], last := "near" } q (by omega) (fun x hx => he x (.tail _ hx)) rfl hg
    refine ih.trans ?_
    rw [show k + 1 + rs.length = k + (e :: rs).length by simp; omega]
    congr 1
    obtain ⟨d, l, n, f, lk, rows, far⟩ := r
    dsimp only at hl ⊢
    rw [hl, List.append_assoc]
    rfl
def lastF (o : Option (List Ent)) : Str := match o with | none => "near" | some _ => "far"
def Rd.aft (r : Rd) (p : Str × Fd) : Rd := ⟨(if r.last = "room" then r else r.close).done, lastF p.2.far, p.1, p.2.first, p.2.nr.lk, p.2.nr.rows, p.2.far⟩
theorem Rd.aft_full (r : Rd) (p : Str × Fd) : fullS (r.aft p).last = true ∧ (r.aft p).last ≠ "room" := by
  unfold Rd.aft lastF
  cases p.2.far with
  | none => exact (by decide +kernel : fullS "near" = true ∧ ("near" : Str) ≠ "room")
  | some e => exact (by decide +kernel : fullS "far" = true ∧ ("far" : Str) ≠ "room")
theorem Rd.aft_fd (r : Rd) {p : Str × Fd} : (r.aft p).fd = p.2 := by
  obtain ⟨n, ⟨fi, nr, far⟩⟩ := p
  cases nr <;> rfl
theorem field_read {p : Str × Fd} {k : Nat} {r : Rd} {q : List (List Str)} (hk : 2 ≤ k) (hn : Nm p.1) (hp : FdT p.2) (hf : fullS r.last = true) (h0 : r.last = "room" → r.rows = [] ∧ r.lk = none ∧ r.far = none) :
    parseL k r (fieldWs p ++ q) = parseL (k + (fieldWs p).length) (r.aft p) q := by
  obtain ⟨n, ⟨fi, nr, far⟩⟩ := p
  have e0 : ∃ d, (if r.last = "room" then r else r.close).done = d ∧ (if r.last = "room" then r else r.close).rows = [] ∧ (if r.last = "room" then r else r.close).lk = none ∧ (if r.last = "room" then r else r.close).far = none := by
    by_cases h : r.last = "room"
    · rw [if_pos h]; exact ⟨_, rfl, h0 h⟩
    · rw [if_neg h]; exact ⟨_, rfl, rfl, rfl, rfl⟩
  unfold Rd.aft
  show parseL k r (ln2 "field" n :: ln2 "first" fi :: (nearWs nr ++ farWs far) ++ q) = _
  rw [List.cons_append, parseL_step hk (readR_field hf hn)]
  generalize (if r.last = "room" then r else r.close) = r1 at e0 ⊢
  obtain ⟨d, e1, e2, e3, e4⟩ := e0
  rw [List.cons_append, parseL_step (by omega) (readR_first rfl hp.first)]
  obtain ⟨d1, l1, n1, f1, k1, w1, a1⟩ := r1
  dsimp only at e1 e2 e3 e4 ⊢
  subst e1 e2 e3 e4
  have fin : ∀ (m : Nat) (lk : Option Str) (rows : List (List Ent)), 2 ≤ m → parseL m ⟨d1, "near", n, fi, lk, rows, none⟩ (farWs far ++ q) = parseL (m + (farWs far).length) ⟨d1, lastF far, n, fi, lk, rows, far⟩ q := by
    intro m lk rows hm
    cases far with
    | none => rfl
    | some e =>
      show parseL m _ (rowWs "far" e :: q) = _
      rw [parseL_step hm (readR_far (hp.far e rfl) rfl)]
      rfl
  rw [List.append_assoc]
  cases nr with
  | alone e =>
    show parseL (k + 1 + 1) _ (aloneL :: rowWs "near" e :: (farWs far ++ q)) = _
    rw [parseL_step (by omega) (readR_alone rfl), parseL_step (by omega) (readR_near (hp.nr : RowT e) (nearP_alone rfl))]
    refine (fin (k + 1 + 1 + 1 + 1) none [e] (by omega)).trans ?_
    congr 1
    show k + 1 + 1 + 1 + 1 + (farWs far).length = k + (ln2 "field" n :: ln2 "first" fi :: (aloneL :: rowWs "near" e :: farWs far)).length
    simp
    omega
  | looks g rs =>
    obtain ⟨hg, hne, hle, hrs⟩ := (hp.nr : Nm g ∧ rs ≠ [] ∧ rs.length ≤ 20 ∧ ∀ r ∈ rs, RowT r)
    cases rs with
    | nil => exact absurd rfl hne
    | cons e rs =>
      show parseL (k + 1 + 1) _ (ln2 "looks" g :: rowWs "near" e :: (rs.map (rowWs "near") ++ (farWs far ++ q))) = _
      rw [parseL_step (by omega) (readR_looks rfl hg), parseL_step (by omega) (readR_near (hrs e (.head _)) (nearP_looks rfl))]
      rw [near_rows (g := g) rs _ _ _ (by omega) (fun x hx => hrs x (.tail _ hx)) rfl rfl]
      refine (fin _ (some g) _ (by omega)).trans ?_
      congr 1
      show _ = k + (ln2 "field" n :: ln2 "first" fi :: (ln2 "looks" g :: (rowWs "near" e :: rs.map (rowWs "near")) ++ farWs far)).length
      simp
      omega
theorem fields_read : ∀ (fs : List (Str × Fd)) (k : Nat) (r : Rd), 2 ≤ k → (∀ p ∈ fs, Nm p.1 ∧ FdT p.2) → fullS r.last = true → (r.last = "room" → r.rows = [] ∧ r.lk = none ∧ r.far = none) →
    ∃ r1, parseL k r (fs.flatMap fieldWs) = .inr r1 ∧ fullS r1.last = true ∧ (if r1.last = "room" then r1 else r1.close).done = (if r.last = "room" then r else r.close).done ++ fs
  | [], k, r, _, _, hf, _ => ⟨r, rfl, hf, by simp⟩
  | p :: fs, k, r, hk, hp, hf, h0 => by
    obtain ⟨a1, a2⟩ := r.aft_full p
    obtain ⟨r1, e1, e2, e3⟩ := fields_read fs (k + (fieldWs p).length) (r.aft p) (by omega) (fun x hx => hp x (.tail _ hx)) a1 (fun e => absurd e a2)
    refine ⟨r1, ?_, e2, ?_⟩
    · rw [List.flatMap_cons, field_read hk (hp p (.head _)).1 (hp p (.head _)).2 hf h0]
      exact e1
    · rw [e3, if_neg a2]
      show (r.aft p).done ++ [((r.aft p).nm, (r.aft p).fd)] ++ fs = _
      rw [Rd.aft_fd]
      simp [Rd.aft]
end W3
end

section
namespace W3
open PySem
theorem strsOf_tSs : ∀ ys : List Str, strsOf (tSs ys) = some ys
  | [] => rfl
  | y :: ys => by
    show (strsOf (tSs ys)).map (y :: ·) = _
    rw [strsOf_tSs ys]
    rfl
theorem sum_le {f : Str → Nat} {k : Nat} : ∀ {ys : List Str}, (∀ y ∈ ys, f y ≤ k) → (ys.map f).sum ≤ ys.length * k
  | [], _ => by simp
  | y :: ys, h => by
    rw [List.map_cons, List.sum_cons, List.length_cons, Nat.succ_mul]
    have h1 := h y (.head _)
    have h2 := sum_le (ys := ys) (fun z hz => h z (.tail _ hz))
    omega
theorem joinT_ok {a : Str} {ys : List Str} {h : Hh} (n k : Nat) (hn : ys.length ≤ n) (hk : ∀ y ∈ ys, y.length ≤ k) (hz : n * (k + a.length) ≤ 16777216) : joinT a (tSs ys) h = .ok (.str (Txt.join a ys)) h := by
  unfold joinT
  rw [strsOf_tSs]
  have h1 : (ys.map (·.length)).sum ≤ ys.length * k := sum_le hk
  have h2 : ys.length * (k + a.length) ≤ n * (k + a.length) := Nat.mul_le_mul_right _ hn
  rw [Nat.mul_add] at h2
  exact if_pos (by omega)
theorem lits_len : (" " : Str).length = 1 ∧ ("" : Str).length = 0 ∧ ("\n" : Str).length = 1 ∧ ("field " : Str).length = 6 ∧ ("first " : Str).length = 6 ∧ ("looks " : Str).length = 6 ∧ ("room " : Str).length = 5 := by decide +kernel
theorem len_joinL {S : List Nat} {k : Nat} : ∀ {ps : List (List Nat)}, (∀ p ∈ ps, p.length ≤ k) → (TL.joinL S ps).length ≤ ps.length * (k + S.length)
  | [], _ => by simp [TL.joinL]
  | [p], h => by
    have := h p (.head _)
    show p.length ≤ 1 * (k + S.length)
    omega
  | p :: q :: r, h => by
    have h1 := h p (.head _)
    have h2 := len_joinL (S := S) (ps := q :: r) (fun z hz => h z (.tail _ hz))
    show (p ++ (S ++ TL.joinL S (q :: r))).length ≤ (p :: q :: r).length * (k + S.length)
    rw [List.length_append, List.length_append, List.length_cons (a := p), Nat.succ_mul]
    omega
theorem lnW_len {ws : List Str} {k : Nat} (h : ∀ w ∈ ws, w.length ≤ k) : (lnW ws).length ≤ ws.length * (k + 1) := by
  rw [TL.len_tl, tl_lnW]
  have := len_joinL (S := [32]) (k := k) (ps := ws.map TL.tl) (fun p hp => by
    obtain ⟨w, hw, rfl⟩ := List.mem_map.mp hp
    rw [← TL.len_tl]
    exact h w hw)
  rwa [List.length_map] at this
theorem lnW_two (a b : Str) : lnW (ln2 a b) = a ++ " " ++ b := by
  unfold lnW
  rw [TL.join_eq]
  rfl
def JoinTW (f : Fn) : Prop := ∀ {l : Nat} {ls : List Str} {h : Hh} {Q : T → Hh → Prop} {E : EQ}, lstAt h l = some (tSs ls) → ls.length ≤ 2000 → (∀ x ∈ ls, x.length ≤ 2000) → (∀ z, Q (.str (txL ls)) (h ++ z)) → (f [.ref l] h).wp Q E
def wentT : T → Bool | .str s => wentB s | _ => false
def nmT : T → Bool | .str s => nmB s | _ => false
theorem all_nm (ws : List Str) : (ws.map T.str).all nmT = ws.all nmB := by rw [List.all_map]; rfl
@[simp] theorem wentT_s (s : Str) : wentT (.str s) = wentB s := Eq.trans rfl rfl
@[simp] theorem nmT_s (s : Str) : nmT (.str s) = nmB s := Eq.trans rfl rfl
def ShW (ws : List Str) : Prop := ∀ w ∈ ws, w.length ≤ 1000
def rdFs (rd : Rd) (lf lr : Nat) : List (Str × T) := [("fields_read", .ref lf), ("last_line", .str rd.last), ("name_read", .str rd.nm), ("first_read", .str rd.fi), ("looks_read", tE rd.lk), ("near_rows", .ref lr), ("far_row", tFar rd.far)]
structure RdIn (n : Nat) (h : Hh) (l lf lr : Nat) (rd : Rd) : Prop where
  at_ : h[l]? = some (.ins "FieldReader" (rdFs rd lf lr))
  fl : lstAt h lf = some (rd.done.map tPair)
  rl : lstAt h lr = some (rd.rows.map tRow)
  ne : lf ≠ lr
  nl : n ≤ l
  nf : n ≤ lf
  nr : n ≤ lr
def RdAt (n : Nat) (h : Hh) (l : Nat) (rd : Rd) : Prop := ∃ lf lr, RdIn n h l lf lr rd
def Rd.cl (rd : Rd) : Rd := if rd.last = "room" then rd else rd.close
structure RowsTx (h : Hh) (x : Nat) (rows : List (List Str)) : Prop where
  ex : ∃ ls : List Nat, lstAt h x = some (ls.map T.ref) ∧ ls.length = rows.length ∧ ∀ (i a : Nat) (ws : List Str), ls[i]? = some a → rows[i]? = some ws → lstAt h a = some (tSs ws)
def SplitW (f : Fn) : Prop := ∀ {s : Str} {h : Hh} {Q : T → Hh → Prop} {E : EQ}, s.length ≤ 1000000 → (∀ z x, h.length ≤ x → RowsTx (h ++ z) x (rowsTx s) → Q (.ref x) (h ++ z)) → (f [.str s] h).wp Q E
theorem RdIn.app {n l lf lr : Nat} {h : Hh} {rd : Rd} (q : RdIn n h l lf lr rd) (z : Hh) : RdIn n (h ++ z) l lf lr rd :=
  ⟨by rw [List.getElem?_append_left (List.getElem?_eq_some_iff.mp q.at_).1]; exact q.at_, lstAt_app z q.fl, lstAt_app z q.rl, q.ne, q.nl, q.nf, q.nr⟩
theorem RdAt.app {n l : Nat} {h : Hh} {rd : Rd} (q : RdAt n h l rd) (z : Hh) : RdAt n (h ++ z) l rd := by
  obtain ⟨lf, lr, q⟩ := q
  exact ⟨lf, lr, q.app z⟩
def nlT : T → T | .str s => .str (s ++ "\n") | x => x
@[simp] theorem nl_s (s : Str) : nlT (.str s) = .str (s ++ "\n") := Eq.trans rfl rfl
theorem nl_map (ls : List Str) : (tSs ls).map nlT = tSs (ls.map fun s => s ++ "\n") := by
  unfold tSs
  rw [List.map_map, List.map_map]
  rfl
section
variable {rd : Rd} {lf lr : Nat}
end
theorem lst_ins {h : Hh} {l k : Nat} {c : Str} {fs : List (Str × T)} {ts : List T} (e : h[l]? = some (.ins c fs)) (q : lstAt h k = some ts) : k ≠ l := by
  rintro rfl
  have := of_lstAt q
  rw [e] at this
  cases this
theorem lstAt_other {h : Hh} {l k : Nat} {o : Ob} (hk : k ≠ l) : lstAt (h.set l o) k = lstAt h k := by
  unfold lstAt
  rw [List.getElem?_set_ne (fun e => hk e.symm)]
theorem RdIn.set {n l lf lr : Nat} {h : Hh} {rd rd' : Rd} (q : RdIn n h l lf lr rd) (e1 : rd'.done = rd.done) (e2 : rd'.rows = rd.rows) : RdIn n (h.set l (.ins "FieldReader" (rdFs rd' lf lr))) l lf lr rd' :=
  ⟨List.getElem?_set_self (List.getElem?_eq_some_iff.mp q.at_).1, by rw [lstAt_other (lst_ins q.at_ q.fl), e1]; exact q.fl, by rw [lstAt_other (lst_ins q.at_ q.rl), e2]; exact q.rl, q.ne, q.nl, q.nf, q.nr⟩
theorem RdIn.row {n l lf lr : Nat} {h : Hh} {rd : Rd} (q : RdIn n h l lf lr rd) (r : List Ent) : RdIn n (h.set lr (.lst (rd.rows.map tRow ++ [tRow r]))) l lf lr { rd with rows := rd.rows ++ [r] } :=
  ⟨by rw [List.getElem?_set_ne (lst_ins q.at_ q.rl)]; exact q.at_, by rw [lstAt_other q.ne]; exact q.fl, by rw [lstAt_set_self (lstAt_lt q.rl)]; simp, q.ne, q.nl, q.nf, q.nr⟩
structure NewR (h h' : Hh) (fs : List (Str × T)) : Prop where
  at_ : h'[h.length]? = some (.ins "FieldReader" fs)
  fl : lstAt h' (h.length + 1) = some []
  fz : Fz h.length h h'
  len : h'.length = h.length + 2
theorem NewR.set {h h' : Hh} {fs : List (Str × T)} (q : NewR h h' fs) (fs' : List (Str × T)) : NewR h (h'.set h.length (.ins "FieldReader" fs')) fs' :=
  ⟨List.getElem?_set_self (by rw [q.len]; omega), by rw [lstAt_other (by omega)]; exact q.fl, q.fz.trans (Fz.set (Nat.le_refl _) _), by rw [List.length_set]; exact q.len⟩
theorem NewR.first (h : Hh) : NewR h (h ++ [Ob.ins "FieldReader" [], Ob.lst []]) [] :=
  ⟨by simp, by rw [lstAt_app_k]; rfl, Fz.app (Nat.le_refl _) _, by simp⟩
theorem NewR.last {h h' : Hh} {fs : List (Str × T)} (q : NewR h h' fs) (fs' : List (Str × T)) (he : fs' = rdFs rd0 (h.length + 1) (h.length + 2)) : RdAt h.length ((h' ++ [Ob.lst []]).set h.length (.ins "FieldReader" fs')) h.length rd0 ∧ Fz h.length h ((h' ++ [Ob.lst []]).set h.length (.ins "FieldReader" fs')) := by
  subst he
  refine ⟨⟨h.length + 1, h.length + 2, ⟨List.getElem?_set_self (by rw [List.length_append, q.len]; omega), ?_, ?_, by omega, Nat.le_refl _, by omega, by omega⟩⟩, ?_⟩
  · rw [lstAt_other (by omega)]
    exact lstAt_app _ q.fl
  · rw [lstAt_other (by omega), ← q.len]
    exact lstAt_new
  · exact (q.fz.trans (Fz.app q.fz.1 _)).trans (Fz.set (Nat.le_refl _) _)
def rdT : T → T | .str s => tE (eW s) | x => x
@[simp] theorem rdT_s (s : Str) : rdT (.str s) = tE (eW s) := Eq.trans rfl rfl
theorem atI_last {α : Type} {xs : List α} (h : xs ≠ []) : L2.atI xs (-1) = xs.getLast? := by
  have hp : 0 < xs.length := List.length_pos_iff.mpr h
  unfold L2.atI L2.ixN
  rw [if_neg (by omega), if_pos (by omega)]
  show xs[((-1 : Int) + xs.length).toNat]? = _
  rw [List.getLast?_eq_getElem?]
  congr 1
  omega
theorem spl_len (S : List Nat) : ∀ (l : List Nat) (k : Nat) (acc : List Nat), ∀ z ∈ TL.spl S k acc l, z.length ≤ acc.length + l.length
  | [], k, acc, z, hz => by
    rw [TL.spl_nil, List.mem_singleton] at hz
    subst hz
    simp
  | d :: r, 0, acc, z, hz => by
    have hz' : z ∈ (if TL.pre S (d :: r) = true then acc :: TL.spl S (S.length - 1) [] r else TL.spl S 0 (acc ++ [d]) r) := hz
    split at hz'
    · rcases List.mem_cons.mp hz' with e | q
      · subst e; simp
      · have := spl_len S r _ _ z q
        simp at this ⊢
        omega
    · have := spl_len S r _ _ z hz'
      simp at this ⊢
      omega
  | d :: r, k + 1, acc, z, hz => by
    have hz' : z ∈ TL.spl S k acc r := hz
    have := spl_len S r k acc z hz'
    simp
    omega
theorem split_len1 {a b : Str} (hb : (b.length == 0) = false) (hk : b.cps.all (· < 256) = true) : ∀ y ∈ Txt.split a b, y.length ≤ a.length := by
  intro y hy
  have e := TL.split_spl a b (tl_ne hb) (TL.kind_ok hk)
  have hm : TL.tl y ∈ TL.spl (TL.tl b) 0 [] (TL.tl a) := by rw [← e]; exact List.mem_map.mpr ⟨y, hy, rfl⟩
  have := spl_len _ _ _ _ _ hm
  rw [TL.len_tl y, TL.len_tl a]
  simpa using this
theorem split_ne {a b : Str} (hb : (b.length == 0) = false) (hk : b.cps.all (· < 256) = true) : Txt.split a b ≠ [] := by
  intro e0
  have e := TL.split_spl a b (tl_ne hb) (TL.kind_ok hk)
  rw [e0] at e
  have : ∀ (S l : List Nat) (k : Nat) (acc : List Nat), TL.spl S k acc l ≠ [] := by
    intro S l
    induction l with
    | nil => intro k acc; rw [TL.spl_nil]; simp
    | cons d r ih =>
      intro k acc
      cases k with
      | zero =>
        show (if TL.pre S (d :: r) = true then acc :: TL.spl S (S.length - 1) [] r else TL.spl S 0 (acc ++ [d]) r) ≠ []
        split
        · simp
        · exact ih _ _
      | succ k => exact ih k acc
  exact this _ _ _ _ e.symm
theorem sep_ok : ((" " : Str).length == 0) = false ∧ (("\n" : Str).length == 0) = false := by decide +kernel
theorem cut_last1 {α : Type} (xs : List α) : cutT xs none (some (-1)) = xs.dropLast := by
  unfold cutT
  rw [show HT.sIx xs.length 0 none = 0 from rfl, List.drop_zero, Nat.sub_zero]
  have : HT.sIx xs.length xs.length (some (-1)) = xs.length - 1 := by
    show (if (-1 : Int) < 0 then ((-1 : Int) + (xs.length : Int)).toNat else min (-1 : Int).toNat xs.length) = _
    rw [if_pos (by omega)]
    omega
  rw [this, List.dropLast_eq_take]
theorem e_split_nl {s : Str} (hs : s.length ≤ 1000000) (h : Hh) : mSplit (.str s) [.str "\n"] h = .ok (.ref h.length) (h ++ [Ob.lst (tSs (Txt.split s "\n"))]) := by
  have hsz := sz
  rw [e_split, if_pos ⟨sep_ok.2, nl_256, by omega⟩]
  rfl
theorem e_split_sp {s : Str} (hs : s.length ≤ 1000000) (h : Hh) : mSplit (.str s) [.str " "] h = .ok (.ref h.length) (h ++ [Ob.lst (tSs (Txt.split s " "))]) := by
  have hsz := sz
  rw [e_split, if_pos ⟨sep_ok.1, sp_256, by omega⟩]
  rfl
theorem Fz.mono {n m : Nat} {h h' : Hh} (z : Fz n h h') (hm : m ≤ n) : Fz m h h' := ⟨z.1, fun k hk => z.2 k (by omega)⟩
theorem txL_len {k : Nat} : ∀ {ls : List Str}, (∀ x ∈ ls, x.length ≤ k) → (txL ls).length ≤ ls.length * (k + 1) := by
  intro ls h
  rw [TL.len_tl, tl_txL]
  induction ls with
  | nil => simp
  | cons l ls ih =>
    rw [List.map_cons, List.flatten_cons, List.length_append, List.length_cons (a := l), Nat.succ_mul]
    have h1 := h l (.head _)
    have h2 := ih fun x hx => h x (.tail _ hx)
    rw [TL.len_tl] at h1
    rw [List.length_append, List.length_singleton]
    omega
end W3
end

section
namespace W3
open PySem
theorem spl_ne (S : List Nat) : ∀ (l : List Nat) (k : Nat) (acc : List Nat), TL.spl S k acc l ≠ []
  | [], k, acc => by rw [TL.spl_nil]; simp
  | d :: r, 0, acc => by
    show (if TL.pre S (d :: r) = true then acc :: TL.spl S (S.length - 1) [] r else TL.spl S 0 (acc ++ [d]) r) ≠ []
    split
    · simp
    · exact spl_ne S r _ _
  | d :: r, k + 1, acc => spl_ne S r k acc
theorem pre_one {c d : Nat} (h : d ≠ c) (r : List Nat) : TL.pre [c] (d :: r) = false := by
  cases q : TL.pre [c] (d :: r) with
  | false => rfl
  | true =>
    have : (d == c) = true := by
      first
      | (simpa [TL.pre] using q)
      | (revert q; unfold TL.pre; simp)
    exact absurd (by simpa using this) h
theorem pre_hit (c : Nat) (r : List Nat) : TL.pre [c] (c :: r) = true := TL.pre_self [c] r
def putN (c : Nat) (D : List Nat) (x : Nat) : List Nat := if x = c then D else [x]
theorem joinL_repl (c : Nat) (D : List Nat) : ∀ (l : List Nat) (acc : List Nat), TL.joinL D (TL.spl [c] 0 acc l) = acc ++ l.flatMap (putN c D)
  | [], acc => by rw [TL.spl_nil]; simp [TL.joinL]
  | d :: r, acc => by
    by_cases h : d = c
    · subst h
      rw [TL.spl_hit (pre_hit d r)]
      have ih := joinL_repl d D r []
      show TL.joinL D (acc :: TL.spl [d] 0 [] r) = _
      cases hs : TL.spl [d] 0 [] r with
      | nil => exact absurd hs (spl_ne _ _ _ _)
      | cons x y =>
        rw [hs] at ih
        show acc ++ (D ++ TL.joinL D (x :: y)) = _
        rw [ih, List.flatMap_cons, show putN d D d = D from if_pos rfl]
        rfl
    · rw [TL.spl_miss (pre_one h r), joinL_repl c D r (acc ++ [d]), List.flatMap_cons, show putN c D d = [d] from if_neg h]
      simp
theorem putN_self (c : Nat) (l : List Nat) : l.flatMap (putN c [c]) = l := by
  have : putN c [c] = fun x => [x] := by
    funext x
    unfold putN
    split
    · rename_i h; rw [h]
    · rfl
  rw [this]
  simp
theorem joinL_spl1 (c : Nat) (l acc : List Nat) : TL.joinL [c] (TL.spl [c] 0 acc l) = acc ++ l := by rw [joinL_repl, putN_self]
theorem join_split {a b : Str} {c : Nat} (hb : TL.tl b = [c]) (hk : b.cps.all (· < 256) = true) : Txt.join b (Txt.split a b) = a := by
  refine TL.ext_tl ?_
  rw [TL.join_eq, TL.tl_join, TL.split_spl a b (by rw [hb]; simp) (TL.kind_ok hk), hb, joinL_spl1]
  rfl
theorem lnW_split (l : Str) : lnW (Txt.split l " ") = l := join_split sp_tl sp_256
theorem spl_endc (c : Nat) : ∀ (l : List Nat) (acc : List Nat), TL.spl [c] 0 acc (l ++ [c]) = TL.spl [c] 0 acc l ++ [[]]
  | [], acc => by
    show TL.spl [c] 0 acc (c :: []) = _
    rw [TL.spl_hit (pre_hit c []), TL.spl_nil]
    rfl
  | d :: r, acc => by
    rw [List.cons_append]
    by_cases h : d = c
    · subst h
      rw [TL.spl_hit (pre_hit d _), TL.spl_hit (pre_hit d r)]
      show acc :: TL.spl [d] 0 [] (r ++ [d]) = acc :: TL.spl [d] 0 [] r ++ [[]]
      rw [spl_endc d r []]
      rfl
    · rw [TL.spl_miss (pre_one h _), TL.spl_miss (pre_one h _), spl_endc c r]
theorem joinL_ends (c : Nat) : ∀ (ps : List (List Nat)), TL.joinL [c] (ps ++ [[]]) = (ps.map fun l => l ++ [c]).flatten
  | [] => rfl
  | p :: ps => by
    rw [List.map_cons, List.flatten_cons, ← joinL_ends c ps, List.cons_append]
    cases h : ps ++ [[]] with
    | nil => simp at h
    | cons x y =>
      show p ++ ([c] ++ TL.joinL [c] (x :: y)) = _
      rw [List.append_assoc]
theorem split_tl (s : Str) : (Txt.split s "\n").map TL.tl = TL.spl [10] 0 [] (TL.tl s) := by rw [TL.split_spl s "\n" (by rw [nl_tl]; simp) (TL.kind_ok nl_256), nl_tl]
theorem txL_rows {s : Str} (h : s.cps.toList.getLast? = some 10) : txL ((rowsTx s).map lnW) = s := by
  have e1 : (rowsTx s).map lnW = (Txt.split s "\n").dropLast := by
    unfold rowsTx
    rw [List.map_map]
    conv => rhs; rw [← List.map_id (Txt.split s "\n").dropLast]
    exact List.map_congr_left fun l _ => lnW_split l
  rw [e1]
  have h' : (TL.tl s).getLast? = some 10 := h
  obtain ⟨a, ea⟩ : ∃ a, TL.tl s = a ++ [10] := by
    refine ⟨(TL.tl s).dropLast, ?_⟩
    have hne : TL.tl s ≠ [] := by intro q; rw [q] at h'; cases h'
    rw [List.getLast?_eq_some_getLast hne] at h'
    injection h' with h'
    conv => lhs; rw [← List.dropLast_concat_getLast hne, h']
  refine TL.ext_tl ?_
  have e2 := split_tl s
  rw [ea, spl_endc] at e2
  have e3 : ((Txt.split s "\n").dropLast).map TL.tl = TL.spl [10] 0 [] a := by
    rw [List.map_dropLast, e2, List.dropLast_concat]
  rw [tl_txL, show ((Txt.split s "\n").dropLast.map fun l => TL.tl l ++ [10]) = ((Txt.split s "\n").dropLast.map TL.tl).map fun l => l ++ [10] by rw [List.map_map]; rfl, e3, ← joinL_ends, ← spl_endc, joinL_spl1, ea]
  rfl
inductive St : Rd → List (List Str) → Prop
  | room {d n f} : St ⟨d, "room", n, f, none, [], none⟩ (d.flatMap fieldWs)
  | field {d n f} : St ⟨d, "field", n, f, none, [], none⟩ (d.flatMap fieldWs ++ [ln2 "field" n])
  | first {d n f} : St ⟨d, "first", n, f, none, [], none⟩ (d.flatMap fieldWs ++ [ln2 "field" n, ln2 "first" f])
  | alone {d n f} : St ⟨d, "alone", n, f, none, [], none⟩ (d.flatMap fieldWs ++ [ln2 "field" n, ln2 "first" f, aloneL])
  | looks {d n f g} : St ⟨d, "looks", n, f, some g, [], none⟩ (d.flatMap fieldWs ++ [ln2 "field" n, ln2 "first" f, ln2 "looks" g])
  | near1 {d n f r} : St ⟨d, "near", n, f, none, [r], none⟩ (d.flatMap fieldWs ++ fieldWs (n, ⟨f, .alone r, none⟩))
  | near2 {d n f g rs} : rs ≠ [] → St ⟨d, "near", n, f, some g, rs, none⟩ (d.flatMap fieldWs ++ fieldWs (n, ⟨f, .looks g rs, none⟩))
  | far1 {d n f r o} : St ⟨d, "far", n, f, none, [r], some o⟩ (d.flatMap fieldWs ++ fieldWs (n, ⟨f, .alone r, some o⟩))
  | far2 {d n f g rs o} : rs ≠ [] → St ⟨d, "far", n, f, some g, rs, some o⟩ (d.flatMap fieldWs ++ fieldWs (n, ⟨f, .looks g rs, some o⟩))
theorem rowsTx_ne (s : Str) : ∀ ws ∈ rowsTx s, ws ≠ [] := by
  intro ws hw
  unfold rowsTx at hw
  obtain ⟨l, _, rfl⟩ := List.mem_map.mp hw
  exact split_ne sep_ok.1 sp_256
structure LnN (m : Nat) (x : Str) : Prop where
  len : x.length ≤ m
  no : 10 ∉ TL.tl x
theorem LnN.mono {m k : Nat} {x : Str} (h : LnN m x) (hk : m ≤ k) : LnN k x := ⟨Nat.le_trans h.len hk, h.no⟩
theorem LnN.add {m k : Nat} {x y : Str} (h : LnN m x) (g : LnN k y) : LnN (m + k) (x ++ y) := ⟨by have := h.len; have := g.len; rw [TL.len_tl, TL.tl_append, List.length_append, ← TL.len_tl, ← TL.len_tl]; omega, by
  rw [TL.tl_append]
  intro q
  rcases List.mem_append.mp q with q | q
  · exact h.no q
  · exact g.no q⟩
theorem flat_len2 (c : Nat) (D : List Nat) : ∀ (l : List Nat), D.length = 2 → (l.flatMap (putN c D)).length ≤ 2 * l.length
  | [], _ => by simp
  | x :: l, h => by
    rw [List.flatMap_cons, List.length_append, List.length_cons]
    have h1 := flat_len2 c D l h
    have h2 : (putN c D x).length ≤ 2 := by
      unfold putN
      split
      · omega
      · simp
    omega
theorem dbl_tl : TL.tl ("  " : Str) = [32, 32] ∧ (("  " : Str)).cps.all (· < 256) = true := by decide +kernel
theorem LnN.dbl {m : Nat} {x : Str} (h : LnN m x) : LnN (2 * m) (Txt.replace x " " "  ") := by
  have e : TL.tl (Txt.replace x " " "  ") = (TL.tl x).flatMap (putN 32 [32, 32]) := by
    rw [replace_split sep_ok.1 sp_256, TL.join_eq, TL.tl_join, TL.split_spl x " " (by rw [sp_tl]; simp) (TL.kind_ok sp_256), sp_tl, dbl_tl.1, joinL_repl]
    rfl
  refine ⟨?_, ?_⟩
  · have := flat_len2 32 [32, 32] (TL.tl x) rfl
    have hl := h.len
    rw [TL.len_tl] at hl ⊢
    rw [e]
    omega
  · rw [e]
    intro q
    obtain ⟨a, ha, hq⟩ := List.mem_flatMap.mp q
    unfold putN at hq
    split at hq
    · simp at hq
    · rw [List.mem_singleton] at hq
      subst hq
      exact h.no ha
theorem spl_parts_end : ∀ (ls : List (List Nat)) (b : List Nat), (∀ l ∈ ls, 10 ∉ l) → 10 ∉ b → TL.spl [10] 0 [] ((ls.map fun l => l ++ [10]).flatten ++ b) = ls ++ [b]
  | [], b, _, hb => by
    have key : ∀ (b acc : List Nat), 10 ∉ b → TL.spl [10] 0 acc b = [acc ++ b] := by
      intro b
      induction b with
      | nil => intro acc _; rw [TL.spl_nil]; simp
      | cons d r ih =>
        intro acc h
        rw [TL.spl_miss (pre_one (fun e => h (by subst e; exact List.mem_cons_self)) r), ih _ (fun q => h (.tail _ q))]
        simp
    show TL.spl [10] 0 [] b = [b]
    rw [key b [] hb]
    rfl
  | l :: ls, b, h, hb => by
    rw [List.map_cons, List.flatten_cons, List.append_assoc, List.append_assoc]
    rw [TL.spl_part1 (S := []) (h l (.head _)), List.nil_append, spl_parts_end ls b (fun x hx => h x (.tail _ hx)) hb]
    rfl
theorem rows_rest {ls : List Str} {b s : Str} (h : ∀ x ∈ ls, 10 ∉ TL.tl x) (hb : 10 ∉ TL.tl b) (e : TL.tl s = TL.tl (txL ls) ++ TL.tl b) : rowsTx s = ls.map fun l => Txt.split l " " := by
  have e2 : Txt.split s "\n" = ls ++ [b] := by
    refine TL.map_tl_inj ?_
    rw [split_tl, e, tl_txL, show (ls.map fun l => TL.tl l ++ [10]) = (ls.map TL.tl).map fun l => l ++ [10] by rw [List.map_map]; rfl,
      spl_parts_end _ _ (fun l hl => by obtain ⟨x, hx, rfl⟩ := List.mem_map.mp hl; exact h x hx) hb, List.map_append]
    rfl
  unfold rowsTx
  rw [e2, List.dropLast_concat]
structure TxOk (s : Str) : Prop where
  len : s.length ≤ 500000
  rows : (rowsTx s).length ≤ 1000
  row : ∀ ws ∈ rowsTx s, ShW ws ∧ ws.length ≤ 1000
theorem rows_sh {m : Nat} {ls : List Str} (hm : m ≤ 900) (h : ∀ x ∈ ls, LnN m x) : ∀ ws ∈ ls.map fun l => Txt.split l " ", ShW ws ∧ ws.length ≤ 1000 := by
  intro ws hw
  obtain ⟨x, hx, rfl⟩ := List.mem_map.mp hw
  have hl := (h x hx).len
  refine ⟨fun w hq => ?_, ?_⟩
  · have := split_len1 sep_ok.1 sp_256 w hq
    omega
  · have : (Txt.split x " ").length ≤ x.length + 2 := PyProof.Rows.split_le x " "
    omega
theorem tx_whole {m : Nat} {ls : List Str} (hm : m ≤ 900) (hl : ls.length ≤ 510) (h : ∀ x ∈ ls, LnN m x) : TxOk (txL ls) ∧ (txL ls).length ≤ 510 * 901 := by
  have h3 := txL_len (k := m) (fun x hx => (h x hx).len)
  have h4 : ls.length * (m + 1) ≤ 510 * 901 := Nat.mul_le_mul hl (by omega)
  have e := rows_rest (s := txL ls) (b := "") (fun x hx => (h x hx).no) (by rw [em_tl]; simp) (by rw [em_tl, List.append_nil])
  refine ⟨⟨by omega, by rw [e, List.length_map]; omega, ?_⟩, by omega⟩
  rw [e]
  exact rows_sh hm h
theorem in_t3 (s a b c : Str) (h : Hh) : oIn (.str s) (.tup [.str a, .str b, .str c]) h = .ok (.bl (decide (s = a ∨ s = b ∨ s = c))) h := by
  have e : oIn (.str s) (.tup [.str a, .str b, .str c]) h = .ok (.bl (decide (s ∈ [a, b, c]))) h := oIn_tup (ss := [a, b, c])
  rw [e]
  congr 2
  exact decide_eq_decide.mpr (by simp)
theorem in_t2 (s a b : Str) (h : Hh) : oIn (.str s) (.tup [.str a, .str b]) h = .ok (.bl (decide (s = a ∨ s = b))) h := by
  have e : oIn (.str s) (.tup [.str a, .str b]) h = .ok (.bl (decide (s ∈ [a, b]))) h := oIn_tup (ss := [a, b])
  rw [e]
  congr 2
  exact decide_eq_decide.mpr (by simp)
def LNmE (f : Fn) : Prop := ∀ {w : Str} {h : Hh}, w.length ≤ 1000 → f [.str w] h = .ok (.bl (nmB w)) h
def Fb (b : Nat) (h h' : Hh) : Prop := h.length ≤ h'.length ∧ ∀ k, k < h.length → k ≠ b → h'[k]? = h[k]?
theorem Fb.app (b : Nat) (h z : Hh) : Fb b h (h ++ z) := ⟨by simp, fun k hk _ => List.getElem?_append_left hk⟩
theorem Fb.fz {b n : Nat} {h h' : Hh} (f : Fb b h h') (hb : n ≤ b) (hn : n ≤ h.length) : Fz n h h' := ⟨f.1, fun k hk => f.2 k (by omega) (by omega)⟩
theorem Fb.lst {b k : Nat} {h h' : Hh} {ts : List T} (f : Fb b h h') (e : lstAt h k = some ts) (hk : k ≠ b) : lstAt h' k = some ts := by
  have hl := lstAt_lt e
  unfold lstAt at e ⊢
  rw [f.2 k hl hk]
  exact e
theorem cut_n1 (ls : List Str) (i : Nat) : cutT (tSs ls) none (some (i : Int)) = tSs (ls.take i) := by
  rw [cut_to]
  unfold tSs
  rw [List.map_take]
theorem cut_n2 (ls : List Str) (i : Nat) : cutT (tSs ls) (some (i : Int)) none = tSs (ls.drop i) := by
  rw [cut_from]
  unfold tSs
  rw [List.map_drop]
end W3
end

section
namespace W3
open PySem
inductive Td where
  | ent (a b : Str) | lea (a : Str) | ans (k : Nat) | snd | rst
def ansW (k : Nat) : Str := if k = 0 then "0" else if k = 1 then "1" else "2"
def ansL : List (Str × Int) := [("0", 0), ("1", 1), ("2", 2)]
def Td.t : Td → T
  | .ent a b => .tup [.str "enter", .str a, .str b]
  | .lea a => .tup [.str "leave", .str a]
  | .ans k => .tup [.str "answer", .int k]
  | .snd => .tup [.str "send"]
  | .rst => .tup [.str "reset"]
def Td.ws : Td → List Str
  | .ent a b => ["enter", a, b]
  | .lea a => ["leave", a]
  | .ans k => ["answer", ansW k]
  | .snd => ["send"]
  | .rst => ["reset"]
def Td.ok : Td → Prop
  | .ent a b => Nm a ∧ Nm b
  | .lea a => Nm a
  | .ans k => k < 3
  | .snd => True
  | .rst => True
def rdD : List Str → Option Td
  | [a] => if a = "send" then some .snd else if a = "reset" then some .rst else none
  | [a, b] => if a = "answer" then (ansL.lookup b).map (fun i => .ans i.toNat) else if a = "leave" ∧ nmB b = true then some (.lea b) else none
  | [a, b, c] => if a = "enter" ∧ nmB b = true ∧ nmB c = true then some (.ent b c) else none
  | _ => none
def parseDL : Nat → List (List Str) → Nat ⊕ List Td
  | _, [] => .inr []
  | k, ws :: q => match rdD ws with
    | none => .inl (k + 1)
    | some d => match parseDL (k + 1) q with | .inl e => .inl e | .inr ds => .inr (d :: ds)
def parseD (s : Str) : Nat ⊕ List Td := if s = "" ∨ s.cps.toList.getLast? = some 10 then parseDL 0 (rowsTx s) else .inl 0
def fmtD (ds : List Td) : Str := txL (ds.map fun d => lnW d.ws)
theorem lits42 : ("answer" : Str) ≠ "leave" ∧ ("leave" : Str) ≠ "answer" ∧ ("reset" : Str) ≠ "send" ∧ ("send" : Str) ≠ "reset" := by decide +kernel
theorem ans_look {k : Nat} (h : k < 3) : ansL.lookup (ansW k) = some (k : Int) := by
  have : k = 0 ∨ k = 1 ∨ k = 2 := by omega
  rcases this with rfl | rfl | rfl <;> decide +kernel
theorem ans_back {b : Str} {i : Int} (h : ansL.lookup b = some i) : i.toNat < 3 ∧ ansW i.toNat = b ∧ (i.toNat : Int) = i := by
  unfold ansL at h
  simp only [List.lookup] at h
  split at h
  · rename_i e; rw [beq_iff_eq] at e; subst e; cases h; decide +kernel
  · split at h
    · rename_i e; rw [beq_iff_eq] at e; subst e; cases h; decide +kernel
    · split at h
      · rename_i e; rw [beq_iff_eq] at e; subst e; cases h; decide +kernel
      · cases h
theorem rd_ws {d : Td} (h : d.ok) : rdD d.ws = some d := by
  cases d with
  | ent a b =>
    show (if ("enter" : Str) = "enter" ∧ nmB a = true ∧ nmB b = true then some (Td.ent a b) else none) = _
    rw [if_pos ⟨rfl, nmB_iff.mpr h.1, nmB_iff.mpr h.2⟩]
  | lea a =>
    show (if ("leave" : Str) = "answer" then (ansL.lookup a).map (fun i => Td.ans i.toNat) else if ("leave" : Str) = "leave" ∧ nmB a = true then some (Td.lea a) else none) = _
    rw [if_neg lits42.2.1, if_pos ⟨rfl, nmB_iff.mpr h⟩]
  | ans k =>
    have e : rdD (Td.ans k).ws = if ("answer" : Str) = "answer" then (ansL.lookup (ansW k)).map (fun i => Td.ans i.toNat) else if ("answer" : Str) = "leave" ∧ nmB (ansW k) = true then some (.lea (ansW k)) else none := rfl
    rw [e, if_pos rfl, ans_look h]
    rfl
  | snd =>
    show (if ("send" : Str) = "send" then some Td.snd else if ("send" : Str) = "reset" then some Td.rst else none) = _
    rw [if_pos rfl]
  | rst =>
    show (if ("reset" : Str) = "send" then some Td.snd else if ("reset" : Str) = "reset" then some Td.rst else none) = _
    rw [if_neg lits42.2.2.1, if_pos rfl]
theorem rd_back {ws : List Str} {d : Td} (h : rdD ws = some d) : d.ws = ws ∧ d.ok := by
  unfold rdD at h
  split at h
  · split at h
    · rename_i e; cases h; subst e; exact ⟨rfl, trivial⟩
    · split at h
      · rename_i e; cases h; subst e; exact ⟨rfl, trivial⟩
      · cases h
  · split at h
    · rename_i a b e
      subst e
      cases q : ansL.lookup b with
      | none => rw [q] at h; cases h
      | some i =>
        rw [q] at h
        cases h
        obtain ⟨q1, q2, _⟩ := ans_back q
        exact ⟨by show [("answer" : Str), ansW i.toNat] = _; rw [q2], q1⟩
    · split at h
      · rename_i e; cases h; obtain ⟨e, n⟩ := e; subst e; exact ⟨rfl, nmB_iff.mp n⟩
      · cases h
  · split at h
    · rename_i e; cases h; obtain ⟨e, n, m⟩ := e; subst e; exact ⟨rfl, nmB_iff.mp n, nmB_iff.mp m⟩
    · cases h
  · cases h
theorem ws_wd {d : Td} (h : d.ok) : d.ws ≠ [] ∧ ∀ w ∈ d.ws, Wd w ∧ w.length ≤ 8 := by
  have l : (Wd "enter" ∧ ("enter" : Str).length ≤ 8) ∧ (Wd "leave" ∧ ("leave" : Str).length ≤ 8) ∧ (Wd "answer" ∧ ("answer" : Str).length ≤ 8) ∧ (Wd "send" ∧ ("send" : Str).length ≤ 8) ∧ (Wd "reset" ∧ ("reset" : Str).length ≤ 8) := by
    refine ⟨⟨⟨?_, ?_⟩, ?_⟩, ⟨⟨?_, ?_⟩, ?_⟩, ⟨⟨?_, ?_⟩, ?_⟩, ⟨⟨?_, ?_⟩, ?_⟩, ⟨⟨?_, ?_⟩, ?_⟩⟩ <;> decide +kernel
  have nm : ∀ {s : Str}, Nm s → Wd s ∧ s.length ≤ 8 := fun q => ⟨q.wd, q.le8⟩
  cases d with
  | ent a b => exact ⟨by simp [Td.ws], fun w hw => by
      rcases List.mem_cons.mp hw with rfl | hw
      · exact l.1
      rcases List.mem_cons.mp hw with rfl | hw
      · exact nm h.1
      · rw [List.mem_singleton] at hw; subst hw; exact nm h.2⟩
  | lea a => exact ⟨by simp [Td.ws], fun w hw => by
      rcases List.mem_cons.mp hw with rfl | hw
      · exact l.2.1
      · rw [List.mem_singleton] at hw; subst hw; exact nm h⟩
  | ans k => exact ⟨by simp [Td.ws], fun w hw => by
      rcases List.mem_cons.mp hw with rfl | hw
      · exact l.2.2.1
      · rw [List.mem_singleton] at hw
        subst hw
        have h : k < 3 := h
        have : k = 0 ∨ k = 1 ∨ k = 2 := by omega
        rcases this with rfl | rfl | rfl
        · refine ⟨⟨?_, ?_⟩, ?_⟩ <;> decide +kernel
        · refine ⟨⟨?_, ?_⟩, ?_⟩ <;> decide +kernel
        · refine ⟨⟨?_, ?_⟩, ?_⟩ <;> decide +kernel⟩
  | snd => exact ⟨by simp [Td.ws], fun w hw => by
      have hw : w ∈ [("send" : Str)] := hw
      rw [List.mem_singleton] at hw; subst hw; exact l.2.2.2.1⟩
  | rst => exact ⟨by simp [Td.ws], fun w hw => by
      have hw : w ∈ [("reset" : Str)] := hw
      rw [List.mem_singleton] at hw; subst hw; exact l.2.2.2.2⟩
theorem rows_fmtD {ds : List Td} (h : ∀ d ∈ ds, d.ok) : rowsTx (fmtD ds) = ds.map Td.ws := by
  have e : fmtD ds = txL ((ds.map Td.ws).map lnW) := by unfold fmtD; rw [List.map_map]; rfl
  rw [e]
  refine rowsOf_txL (fun r hr => ?_) (fun r hr w hw => ?_)
  · obtain ⟨d, hd, rfl⟩ := List.mem_map.mp hr
    exact (ws_wd (h d hd)).1
  · obtain ⟨d, hd, rfl⟩ := List.mem_map.mp hr
    exact ((ws_wd (h d hd)).2 w hw).1
theorem parseDL_cons (k : Nat) (ws : List Str) (q : List (List Str)) : parseDL k (ws :: q) = match rdD ws with
    | none => .inl (k + 1)
    | some d => match parseDL (k + 1) q with | .inl e => .inl e | .inr ds => .inr (d :: ds) := rfl
theorem parseDL_ws : ∀ (ds : List Td) (k : Nat), (∀ d ∈ ds, d.ok) → parseDL k (ds.map Td.ws) = .inr ds
  | [], _, _ => rfl
  | d :: ds, k, h => by
    rw [List.map_cons, parseDL_cons, rd_ws (h d (.head _)), parseDL_ws ds (k + 1) fun x hx => h x (.tail _ hx)]
theorem parse_fmtD {ds : List Td} (h : ∀ d ∈ ds, d.ok) : parseD (fmtD ds) = .inr ds := by
  have e : fmtD ds = "" ∨ (fmtD ds).cps.toList.getLast? = some 10 := by
    cases ds with
    | nil => exact .inl (by decide +kernel)
    | cons a b => exact .inr (txL_end (by simp))
  unfold parseD
  rw [if_pos e, rows_fmtD h, parseDL_ws ds 0 h]
theorem parseDL_back : ∀ (rows : List (List Str)) (k : Nat) (ds : List Td), parseDL k rows = .inr ds → ds.map Td.ws = rows ∧ ∀ d ∈ ds, d.ok
  | [], k, ds, e => by
    injection e with e
    subst e
    exact ⟨rfl, fun _ q => by cases q⟩
  | ws :: q, k, ds, e => by
    rw [parseDL_cons] at e
    cases h : rdD ws with
    | none => rw [h] at e; cases e
    | some d =>
      rw [h] at e
      dsimp only at e
      cases h2 : parseDL (k + 1) q with
      | inl z => rw [h2] at e; cases e
      | inr ds2 =>
        rw [h2] at e
        injection e with e
        subst e
        obtain ⟨a, b⟩ := parseDL_back q (k + 1) ds2 h2
        obtain ⟨c, d2⟩ := rd_back h
        refine ⟨by rw [List.map_cons, a, c], fun x hx => ?_⟩
        rcases List.mem_cons.mp hx with rfl | hx
        · exact d2
        · exact b x hx
theorem fmt_parseD {s : Str} {ds : List Td} (e : parseD s = .inr ds) : fmtD ds = s ∧ (∀ d ∈ ds, d.ok) ∧ ds.map Td.ws = rowsTx s := by
  unfold parseD at e
  split at e
  · rename_i c
    obtain ⟨a, b⟩ := parseDL_back _ _ _ e
    refine ⟨?_, b, a⟩
    have e2 : fmtD ds = txL ((ds.map Td.ws).map lnW) := by unfold fmtD; rw [List.map_map]; rfl
    rw [e2, a]
    rcases c with c | c
    · subst c
      decide +kernel
    · exact txL_rows c
  · cases e
theorem parseDL_step {k : Nat} {q : List (List Str)} {ws : List Str} (e : q[k]? = some ws) :
    parseDL k (q.drop k) = match rdD ws with | none => .inl (k + 1) | some d => match parseDL (k + 1) (q.drop (k + 1)) with | .inl e => .inl e | .inr ds => .inr (d :: ds) := by
  obtain ⟨h1, h2⟩ := List.getElem?_eq_some_iff.mp e
  rw [List.drop_eq_getElem_cons h1, h2]
  rfl
def Rd42 (rows : List (List Str)) (i : Nat) (ds : List Td) : Prop := (∀ d ∈ ds, d.ok) ∧ ds.length = i ∧ (∀ e, parseDL i (rows.drop i) = .inl e → parseDL 0 rows = .inl e) ∧ ∀ ds2, parseDL i (rows.drop i) = .inr ds2 → parseDL 0 rows = .inr (ds ++ ds2)
theorem rd42_0 (rows : List (List Str)) : Rd42 rows 0 [] := ⟨fun _ q => (by cases q), rfl, fun e h => by simpa using h, fun ds h => by simpa using h⟩
theorem rd42_good {rows : List (List Str)} {i : Nat} {ds : List Td} {ws : List Str} {d : Td} (h : Rd42 rows i ds) (e : rows[i]? = some ws) (hr : rdD ws = some d) : Rd42 rows (i + 1) (ds ++ [d]) := by
  obtain ⟨a, l, b, c⟩ := h
  have st := parseDL_step e
  rw [hr] at st
  dsimp only at st
  refine ⟨fun x hx => ?_, by rw [List.length_append, l]; rfl, fun k q => b k (by rw [st, q]), fun ds2 q => ?_⟩
  · rcases List.mem_append.mp hx with z | z
    · exact a x z
    · rw [List.mem_singleton] at z; subst z; exact (rd_back hr).2
  · rw [c (d :: ds2) (by rw [st, q])]
    simp
theorem rd42_bad {rows : List (List Str)} {i : Nat} {ds : List Td} {ws : List Str} (h : Rd42 rows i ds) (e : rows[i]? = some ws) (hr : rdD ws = none) : parseDL 0 rows = .inl (i + 1) := by
  have st := parseDL_step e
  rw [hr] at st
  exact h.2.2.1 _ st
theorem rd42_end {rows : List (List Str)} {ds : List Td} (h : Rd42 rows rows.length ds) : parseDL 0 rows = .inr ds := by
  have := h.2.2.2 [] (by rw [List.drop_length]; rfl)
  simpa using this
theorem ans_in (b : Str) : (ansL.lookup b).isSome = decide (b = "0" ∨ b = "1" ∨ b = "2") := by
  unfold ansL
  simp only [List.lookup]
  by_cases h1 : b = "0"
  · subst h1; decide +kernel
  by_cases h2 : b = "1"
  · subst h2; decide +kernel
  by_cases h3 : b = "2"
  · subst h3; decide +kernel
  rw [beq_false_of_ne h1, beq_false_of_ne h2, beq_false_of_ne h3]
  simp [h1, h2, h3]
theorem rd_1 (a : Str) : (rdD [a]).isSome = (decide (a = "send") || decide (a = "reset")) := by
  show (if a = "send" then some Td.snd else if a = "reset" then some Td.rst else none).isSome = _
  by_cases h1 : a = "send"
  · simp [h1]
  · by_cases h2 : a = "reset"
    · rw [if_neg h1, if_pos h2]; simp [h2]
    · simp [h1, h2]
theorem rd_2 (a b : Str) : (rdD [a, b]).isSome = if a = "answer" then decide (b = "0" ∨ b = "1" ∨ b = "2") else (decide (a = "leave") && nmB b) := by
  show (if a = "answer" then (ansL.lookup b).map (fun i => Td.ans i.toNat) else if a = "leave" ∧ nmB b = true then some (Td.lea b) else none).isSome = _
  by_cases h1 : a = "answer"
  · rw [if_pos h1, if_pos h1, Option.isSome_map, ans_in]
  · rw [if_neg h1, if_neg h1]
    by_cases h2 : a = "leave"
    · cases h3 : nmB b <;> simp [h2]
    · simp [h2]
theorem rd_3 (a b c : Str) : (rdD [a, b, c]).isSome = (decide (a = "enter") && (nmB b && nmB c)) := by
  show (if a = "enter" ∧ nmB b = true ∧ nmB c = true then some (Td.ent b c) else none).isSome = _
  by_cases h2 : a = "enter"
  · cases h3 : nmB b <;> cases h4 : nmB c <;> simp [h2]
  · simp [h2]
theorem lit42 : ("answer" : Str) ≠ "send" ∧ ("answer" : Str) ≠ "reset" ∧ ("leave" : Str) ≠ "send" ∧ ("leave" : Str) ≠ "reset" ∧ ("leave" : Str) ≠ "answer" ∧ ("enter" : Str) ≠ "send" ∧ ("enter" : Str) ≠ "reset" ∧ ("enter" : Str) ≠ "answer" ∧ ("enter" : Str) ≠ "leave" ∧
  ("send" : Str) ≠ "answer" ∧ ("reset" : Str) ≠ "answer" ∧ ("send" : Str) ≠ "leave" ∧ ("reset" : Str) ≠ "leave" ∧ ("send" : Str) ≠ "enter" ∧ ("reset" : Str) ≠ "enter" ∧ ("answer" : Str) ≠ "enter" ∧ ("leave" : Str) ≠ "enter" := by decide +kernel
def tOD : Option Td → T | none => .non | some d => d.t
def RdDW (f : Fn) : Prop := ∀ {h : Hh} {r : Nat} {ws : List Str} {Q : T → Hh → Prop} {E : EQ}, lstAt h r = some (tSs ws) → ShW ws → ws ≠ [] → ws.length ≤ 1000000 → (∀ z, Q (tOD (rdD ws)) (h ++ z)) → (f [.ref r] h).wp Q E
def PDW (f : Fn) : Prop := ∀ {s : Str} {h : Hh} {Q : T → Hh → Prop} {E : EQ}, TxOk s → (∀ k, parseD s = .inl k → ∀ o, E "InvalidText" [("line", .int (k : Nat))] (h ++ o)) →
  (∀ ds, parseD s = .inr ds → ∀ z, lstAt (h ++ z) h.length = some (ds.map Td.t) → Q (.ref h.length) (h ++ z)) → (f [.str s] h).wp Q E
def FmtDW (f : Fn) : Prop := ∀ {l : Nat} {ds : List Td} {h : Hh} {Q : T → Hh → Prop} {E : EQ}, lstAt h l = some (ds.map Td.t) → ds.length ≤ 1000 → (∀ d ∈ ds, d.ok) → (∀ z, Q (.str (fmtD ds)) (h ++ z)) → (f [.ref l] h).wp Q E
def NmDW (f : Fn) : Prop := ∀ {h : Hh} {l : Nat} {Q : T → Hh → Prop} {E : EQ}, IsBox h l → (∀ w h', Nm w → Up l h h' → Q (.str w) h') → (f [.ref l] h).wp Q E
def DdDW (f : Fn) : Prop := ∀ {h : Hh} {l : Nat} {Q : T → Hh → Prop} {E : EQ}, IsBox h l → (∀ (d : Td) h', d.ok → Up l h h' → Q d.t h') → (f [.ref l] h).wp Q E
def LineDW (f : Fn) : Prop := ∀ {h : Hh} {d : Td} {Q : T → Hh → Prop} {E : EQ}, d.ok → (∀ z, Q (.str (lnW d.ws)) (h ++ z)) → (f [d.t] h).wp Q E
def FitsDW (f : Fn) : Prop := ∀ {h : Hh} {x : Str} {Q : T → Hh → Prop} {E : EQ}, x.length ≤ 1000 → (∀ z, Q (.bl (rdD (Txt.split x " ")).isSome) (h ++ z)) → (f [.str x] h).wp Q E
def SpoilW42 (f : Fn) : Prop := ∀ {h : Hh} {l r m : Nat} {ls : List Str} {Q : T → Hh → Prop} {E : EQ}, IsBox h l → lstAt h r = some (tSs ls) → ls.length ≤ 1000 → m ≤ 1000 → (∀ x ∈ ls, LnN m x) →
  (∀ r' ls' h', lstAt h' r' = some (tSs ls') → ls'.length ≤ ls.length + 1 → (∀ x ∈ ls', LnN (2 * m + 20) x) → Up l h h' → Q (.ref r') h') → (f [.ref l, .ref r] h).wp Q E
def ToldW42 (f : Fn) : Prop := ∀ {s : Str} {h : Hh} {Q : T → Hh → Prop} {E : EQ}, TxOk s → (∀ k, parseD s = .inl k → ∀ z, Q (.tup [.str "line", .int (k : Nat), .bl true]) (h ++ z)) →
  (∀ ds, parseD s = .inr ds → ∀ z, Q (.tup [.str "text", .str s, .bl true]) (h ++ z)) → (f [.str s] h).wp Q E
def M42 : List Str := ["", "send 1", "leave", "leave A", "enter a", "enter a toolongname", "answer", "answer 3", "answer 00", "reset now", "Send", " send", "send ", "leave a b", "enter a b", "answer -1", "leave send", "answer yes", "leave\ta", "send\t", "enter a\tb"]
theorem M42_ln : ∀ x ∈ M42, LnN 20 x := by
  have h : M42.all (fun x => decide (x.length ≤ 20 ∧ 10 ∉ TL.tl x)) = true := by decide +kernel
  intro x hx
  have := of_decide_eq_true (List.all_eq_true.mp h x hx)
  exact ⟨this.1, this.2⟩
theorem line_ln {d : Td} (h : d.ok) : LnN 26 (lnW d.ws) := by
  have hw := (ws_wd h).2
  refine ⟨?_, fun q => ?_⟩
  · have h1 := lnW_len (ws := d.ws) (k := 8) (fun w hq => (hw w hq).2)
    have h2 : d.ws.length ≤ 3 := by cases d <;> simp [Td.ws]
    cases d with
    | ent a b =>
      have : (lnW (Td.ent a b).ws).length ≤ 26 := by
        show (lnW ["enter", a, b]).length ≤ 26
        rw [TL.len_tl, tl_lnW]
        show (TL.tl "enter" ++ ([32] ++ (TL.tl a ++ ([32] ++ TL.tl b)))).length ≤ 26
        have e1 := h.1.le8
        have e2 := h.2.le8
        rw [TL.len_tl] at e1 e2
        have e3 : (TL.tl ("enter" : Str)).length = 5 := by decide +kernel
        simp only [List.length_append, List.length_cons, List.length_nil, e3]
        omega
      exact this
    | lea a => have : (Td.lea a).ws.length = 2 := rfl; rw [this] at h1; omega
    | ans k => have : (Td.ans k).ws.length = 2 := rfl; rw [this] at h1; omega
    | snd => have : (Td.snd).ws.length = 1 := rfl; rw [this] at h1; omega
    | rst => have : (Td.rst).ws.length = 1 := rfl; rw [this] at h1; omega
  · rw [tl_lnW] at q
    rcases mem_joinL q with z | ⟨p, hp, z⟩
    · simp at z
    · obtain ⟨w, hw2, rfl⟩ := List.mem_map.mp hp
      exact (hw w hw2).1.2 z
def rdT42 (a : Str) (rest : List Str) : T :=
  if (a = "send" ∨ a = "reset") ∧ rest = [] then .tup [.str a]
  else if a = "answer" ∧ rest.length = 1 ∧ (ansL.lookup (rest.headD "")).isSome = true then .tup [.str a, .int ((ansL.lookup (rest.headD "")).getD 0)]
  else if ((a = "enter" ∧ rest.length = 2) ∨ (a = "leave" ∧ rest.length = 1)) ∧ rest.all nmB = true then .tup (tSs (a :: rest)) else .non
theorem rd_gen (a : Str) (rest : List Str) : tOD (rdD (a :: rest)) = rdT42 a rest := by
  obtain ⟨n1, n2, n3, n4, n5, n6, n7, n8, n9, m1, m2, m3, m4, m5, m6, m7, m8⟩ := lit42
  unfold rdT42
  match rest with
  | [] =>
    show tOD (if a = "send" then some Td.snd else if a = "reset" then some Td.rst else none) = _
    by_cases h1 : a = "send"
    · subst h1; rw [if_pos rfl, if_pos ⟨.inl rfl, rfl⟩]; rfl
    · by_cases h2 : a = "reset"
      · subst h2; rw [if_neg h1, if_pos rfl, if_pos ⟨.inr rfl, rfl⟩]; rfl
      · rw [if_neg h1, if_neg h2, if_neg (by rintro ⟨z | z, _⟩; exact h1 z; exact h2 z), if_neg (by simp), if_neg (by simp)]; rfl
  | [b] =>
    show tOD (if a = "answer" then (ansL.lookup b).map (fun i => Td.ans i.toNat) else if a = "leave" ∧ nmB b = true then some (Td.lea b) else none) = _
    rw [if_neg (c := (a = "send" ∨ a = "reset") ∧ [b] = []) (by simp)]
    by_cases h1 : a = "answer"
    · subst h1
      rw [if_pos rfl]
      cases q : ansL.lookup b with
      | none =>
        rw [if_neg (by rintro ⟨_, _, z⟩; rw [show ansL.lookup (([b] : List Str).headD "") = none from q] at z; cases z), if_neg (by rintro ⟨z | z, _⟩; exact m7 z.1; exact lits42.1 z.1)]
        rfl
      | some i =>
        have e : ansL.lookup (([b] : List Str).headD "") = some i := q
        rw [if_pos ⟨rfl, rfl, by rw [e]; rfl⟩, e]
        obtain ⟨q1, q2, q3⟩ := ans_back q
        show T.tup [.str "answer", .int (i.toNat : Int)] = T.tup [.str "answer", .int i]
        rw [q3]
    · rw [if_neg h1, if_neg (c := a = "answer" ∧ _) (fun z => h1 z.1)]
      by_cases h2 : a = "leave" ∧ nmB b = true
      · rw [if_pos h2, if_pos ⟨.inr ⟨h2.1, rfl⟩, by simp [h2.2]⟩]
        obtain ⟨rfl, _⟩ := h2
        rfl
      · rw [if_neg h2, if_neg]
        · rfl
        · rintro ⟨z | z, w⟩
          · cases z.2
          · exact h2 ⟨z.1, by simpa using w⟩
  | [b, c] =>
    show tOD (if a = "enter" ∧ nmB b = true ∧ nmB c = true then some (Td.ent b c) else none) = _
    rw [if_neg (c := (a = "send" ∨ a = "reset") ∧ [b, c] = []) (by simp), if_neg (c := a = "answer" ∧ _) (by simp)]
    by_cases h2 : a = "enter" ∧ nmB b = true ∧ nmB c = true
    · rw [if_pos h2, if_pos ⟨.inl ⟨h2.1, rfl⟩, by simp [h2.2.1, h2.2.2]⟩]
      obtain ⟨rfl, _⟩ := h2
      rfl
    · rw [if_neg h2, if_neg]
      · rfl
      · rintro ⟨z | z, w⟩
        · have w : nmB b = true ∧ nmB c = true := by simpa using w
          exact h2 ⟨z.1, w⟩
        · cases z.2
  | b :: c :: d :: e =>
    rw [if_neg (by simp), if_neg (by simp), if_neg (by simp)]
    rfl
def strT42 : T → T | .int i => .str (numS i) | x => x
theorem str_t {d : Td} (h : d.ok) : ∃ ts, d.t = .tup ts ∧ ts.length ≤ 3 ∧ ts.map strT42 = tSs d.ws ∧ ∀ x ∈ ts, ∀ h : Hh, bStr [x] h = .ok (strT42 x) h := by
  cases d with
  | ent a b => exact ⟨_, rfl, by simp, rfl, fun x hx h => by simp at hx; rcases hx with rfl | rfl | rfl <;> rfl⟩
  | lea a => exact ⟨_, rfl, by simp, rfl, fun x hx h => by simp at hx; rcases hx with rfl | rfl <;> rfl⟩
  | ans k =>
    have hk : k < 3 := h
    refine ⟨_, rfl, by simp, ?_, fun x hx h => ?_⟩
    · have : k = 0 ∨ k = 1 ∨ k = 2 := by omega
      have n3 : numS 0 = "0" ∧ numS 1 = "1" ∧ numS 2 = "2" := by decide +kernel
      show [T.str "answer", .str (numS (k : Int))] = [T.str "answer", .str (ansW k)]
      rcases this with rfl | rfl | rfl
      · rw [show numS ((0 : Nat) : Int) = "0" from n3.1]; rfl
      · rw [show numS ((1 : Nat) : Int) = "1" from n3.2.1]; rfl
      · rw [show numS ((2 : Nat) : Int) = "2" from n3.2.2]; rfl
    · simp at hx
      rcases hx with rfl | rfl
      · rfl
      · exact e_str_i (i := (k : Int)) (by omega) (by omega) h
  | snd => exact ⟨_, rfl, by simp, rfl, fun x hx h => by simp at hx; subst hx; rfl⟩
  | rst => exact ⟨_, rfl, by simp, rfl, fun x hx h => by simp at hx; subst hx; rfl⟩
theorem tup_join42 {ws : List Str} (hl : ws.length ≤ 3) (hw : ∀ w ∈ ws, w.length ≤ 8) (h : Hh) : joinT " " (tSs ws) h = .ok (.str (lnW ws)) h := joinT_ok 3 8 hl hw (by rw [lits_len.1]; omega)
theorem ws3 (d : Td) : d.ws.length ≤ 3 := by cases d <;> simp [Td.ws]
theorem cut_one {α : Type} (xs : List α) (i : Nat) : cutT xs (some (i : Int)) (some ((i : Int) + 1)) = (xs.drop i).take 1 := by
  unfold cutT
  rw [show (i : Int) + 1 = ((i + 1 : Nat) : Int) by omega, sIx_nat, sIx_nat]
  by_cases h : i < xs.length
  · rw [Nat.min_eq_left (by omega), Nat.min_eq_left (by omega)]
    congr 1
    omega
  · rw [Nat.min_eq_right (by omega), Nat.min_eq_right (by omega), List.drop_length, List.drop_eq_nil_of_le (by omega)]
    simp
def repT42 : T → T | .str s => .str (Txt.replace s " " "  ") | x => x
theorem rep_map42 (ls : List Str) : (tSs ls).map repT42 = tSs (ls.map fun s => Txt.replace s " " "  ") := by
  unfold tSs
  rw [List.map_map, List.map_map]
  rfl
theorem join_nl42 {ls : List Str} (hn : ls.length ≤ 2000) (hk : ∀ x ∈ ls, x.length ≤ 2000) (h : Hh) : joinT "" (tSs (ls.map fun s => s ++ "\n")) h = .ok (.str (txL ls)) h := by
  obtain ⟨z1, z2, z3, _⟩ := lits_len
  exact joinT_ok (a := "") (ys := ls.map fun s => s ++ "\n") (h := h) 2000 2001 (by rw [List.length_map]; exact hn) (fun y hy => by
      obtain ⟨s, hs, rfl⟩ := List.mem_map.mp hy
      have := hk s hs
      rw [str_len_app, z3]
      omega) (by rw [z2]; omega)
theorem td_pure (d : Td) : PureT 1 d.t := by
  cases d <;> exact .inr ⟨_, rfl, by simp, fun x hx => by
    simp at hx
    first | (rcases hx with rfl | rfl | rfl <;> rfl) | (rcases hx with rfl | rfl <;> rfl) | (subst hx; rfl)⟩
theorem td_same {h : Hh} {a b : Nat} {ds : List Td} (ea : lstAt h a = some (ds.map Td.t)) (eb : lstAt h b = some (ds.map Td.t)) (hl : ds.length ≤ 1000) : SameV h 7 (.ref a) (.ref b) :=
  .inr ⟨ds.map Td.t, ds.map Td.t, .inr ⟨.inl ⟨_, rfl, ea⟩, .inl ⟨_, rfl, eb⟩⟩, rfl, by rw [List.length_map]; omega, fun i x y hx hy => by
    rw [hx] at hy
    cases hy
    obtain ⟨d, _, rfl⟩ := List.mem_map.mp (List.mem_of_getElem? hx)
    exact ((td_pure d).add 5).same⟩
def mC : Nat → Nat | 0 => 26 | n + 1 => 2 * mC n + 20
theorem send_tl : 10 ∉ TL.tl ("send" : Str) ∧ ("send" : Str).length = 4 ∧ (TL.tl ("send" : Str)).getLast? = some 100 := by decide +kernel
theorem tx_send {m : Nat} {ls : List Str} (hm : m ≤ 900) (hl : ls.length ≤ 510) (h : ∀ x ∈ ls, LnN m x) : TxOk (txL ls ++ "send") := by
  have h1 := (tx_whole hm hl h).2
  have e := rows_rest (s := txL ls ++ "send") (b := "send") (fun x hx => (h x hx).no) send_tl.1 (by rw [TL.tl_append])
  refine ⟨?_, by rw [e, List.length_map]; omega, ?_⟩
  · rw [TL.len_tl, TL.tl_append, List.length_append, ← TL.len_tl, ← TL.len_tl, send_tl.2.1]
    omega
  · rw [e]
    exact rows_sh hm h
theorem parseD_send (ls : List Str) : parseD (txL ls ++ "send") = .inl 0 := by
  have e : (TL.tl (txL ls ++ "send")).getLast? = some 100 := by
    rw [TL.tl_append, List.getLast?_append, send_tl.2.2]
    rfl
  unfold parseD
  rw [if_neg]
  rintro (z | z)
  · rw [z, em_tl] at e; cases e
  · have z : (TL.tl (txL ls ++ "send")).getLast? = some 10 := z
    rw [e] at z
    cases z
theorem parseD_whole {m : Nat} {ls : List Str} (h : ∀ x ∈ ls, LnN m x) : parseD (txL ls) = parseDL 0 (ls.map fun l => Txt.split l " ") := by
  have e := rows_rest (s := txL ls) (b := "") (fun x hx => (h x hx).no) (by rw [em_tl]; simp) (by rw [em_tl, List.append_nil])
  unfold parseD
  rw [if_pos, e]
  cases ls with
  | nil => exact .inl (by decide +kernel)
  | cons a b => exact .inr (txL_end (by simp))
def Lp42 (ns : List Int) (l : Nat) (a0 a3 a7 a9 a10 : Option T) (i : Nat) (σ : St3) (h' : Hh) : Prop := IsBox h' l ∧ ∃ (y : Nat) (ls : List Str) (a4 : Option T), lstAt h' y = some (tSs ls) ∧ ls.length ≤ 40 + i ∧ (∀ x ∈ ls, LnN (mC i) x) ∧
  σ = [some (.fl (ns.map T.int)), some (.ref l), a0, a3, a4, some (.ref y), none, a7, none, a9, a10, none]
def Du42 (h0 : Hh) (ls : List Str) (s : Str) (y : Nat) (a0 a1 a2 a3 a9 a10 : Option T) (i : Nat) (σ : St3) (h' : Hh) : Prop := (∃ z, h' = h0 ++ z) ∧ ∃ (due : T) (a4 : Option T), ((∃ ds, Rd42 (ls.map fun l => Txt.split l " ") i ds ∧ due = .tup [.str "text", .str s, .bl true]) ∨ (∃ e : Nat, parseDL 0 (ls.map fun l => Txt.split l " ") = .inl e ∧ due = .tup [.str "line", .int e, .bl true])) ∧
  σ = [a0, a1, a2, a3, a4, some (.ref y), none, some (.str s), none, a9, a10, some due]
theorem tup_pure (a b c : T) (ha : flatT a = true) (hb : flatT b = true) (hc : flatT c = true) : PureT 7 (.tup [a, b, c]) := .inr ⟨_, rfl, by simp, fun x hx => by
  simp at hx
  rcases hx with rfl | rfl | rfl
  · exact pure_flat ha
  · exact pure_flat hb
  · exact pure_flat hc⟩
end W3
end

section
namespace LW
open PySem W3
noncomputable section
def CS : List (Str × List Str) := []
def XS : XSub := [("InvalidText", ["InvalidText", "ShownError"])]
def FL : List Str := ["line"]
structure FF where
  is_name : List T → Hh → Res T
  joined : List T → Hh → Res T
  split_lines : List T → Hh → Res T
  format_deeds : List T → Hh → Res T
  read_deed : List T → Hh → Res T
  parse_deeds : List T → Hh → Res T
  _law_mix : List T → Hh → Res T
  _law_box : List T → Hh → Res T
  _law_draw : List T → Hh → Res T
  _law_same : List T → Hh → Res T
  _law_name : List T → Hh → Res T
  _law_deed : List T → Hh → Res T
  _law_line : List T → Hh → Res T
  _law_is_name : List T → Hh → Res T
  _law_fits : List T → Hh → Res T
  _law_spoiled : List T → Hh → Res T
  _law_told : List T → Hh → Res T
  law : List T → Hh → Res T
def b_is_name_1 (F : FF) : SS :=
  ssCons (ssRet (sC (.bl false)))
  (ssNil)
def b_is_name_2 (F : FF) : SS :=
  ssCons (ssRet (sOver bAll (saLc (siE (sVar 0)) (sgName 1) (stYes) (s2 oIn (sVar 1) (sC (.str "abcdefghijklmnopqrstuvwxyz"))) [1])))
  (ssNil)
def b_is_name (F : FF) : SS :=
  ssCons (ssIf (stOr (stNot (sT (s1 (oIsK .str) (sVar 0)))) (stNot (sT (sChain oLe oLe (sC (.int 1)) (sCl bLen (saCons (sVar 0) (saNil))) (sC (.int 8))))))
  (b_is_name_1 F)
  (ssNil))
  (b_is_name_2 F)
def b_joined (F : FF) : SS :=
  ssCons (ssRet (sMtS mJoin (sC (.str "")) (saCons (sLc (saLc (siE (sVar 0)) (sgName 1) (stYes) (s2 oAdd (sVar 1) (sC (.str "\n"))) [1])) (saNil))))
  (ssNil)
def b_split_lines (F : FF) : SS :=
  ssCons (ssRet (sLc (saLc (siE (sSl (sMtS mSplit (sVar 0) (saCons (sC (.str "\n")) (saNil))) (soNone) (soSome (s1 oNeg (sC (.int 1)))))) (sgName 1) (stYes) (sMtS mSplit (sVar 1) (saCons (sC (.str " ")) (saNil))) [1])))
  (ssNil)
def b_format_deeds (F : FF) : SS :=
  ssCons (ssRet (sCl (arN 1 F.joined) (saCons (sLc (saLc (siE (sVar 0)) (sgName 2) (stYes) (sMtS mJoin (sC (.str " ")) (saCons (sLc (saLc (siE (sVar 2)) (sgName 1) (stYes) (sCl bStr (saCons (sVar 1) (saNil))) [1])) (saNil))) [2])) (saNil))))
  (ssNil)
def b_read_deed_3 (F : FF) : SS :=
  ssCons (ssRet (sTup (saCons (sVar 1) (saNil))))
  (ssNil)
def b_read_deed_5 (F : FF) : SS :=
  ssCons (ssRet (sTup (saCons (sVar 1) (saCons (s1 (oNumIx [("0", 0), ("1", 1), ("2", 2)]) (s2 oIx (sVar 2) (sC (.int 0)))) (saNil)))))
  (ssNil)
def b_read_deed_8 (F : FF) : SS :=
  ssCons (ssRet (sCl bTuple (saCons (sVar 0) (saNil))))
  (ssNil)
def b_read_deed_9 (F : FF) : SS :=
  ssCons (ssRet (sC .non))
  (ssNil)
def b_read_deed_7 (F : FF) : SS :=
  ssCons (ssIf (stAnd (sT (s2 oIn (sVar 1) (sTup (saCons (sC (.str "enter")) (saCons (sC (.str "leave")) (saNil)))))) (stAnd (sT (s2 oEq (sCl bLen (saCons (sVar 2) (saNil))) (sVar 3))) (sT (sOver bAll (saLc (siE (sVar 2)) (sgName 4) (stYes) (sCl (arN 1 F.is_name) (saCons (sVar 4) (saNil))) [4])))))
  (b_read_deed_8 F)
  (ssNil))
  (b_read_deed_9 F)
def b_read_deed_6 (F : FF) : SS :=
  ssCons (ssAsg (sIf (sT (s2 oEq (sVar 1) (sC (.str "enter")))) (sC (.int 2)) (sC (.int 1))) (sgName 3))
  (b_read_deed_7 F)
def b_read_deed_4 (F : FF) : SS :=
  ssCons (ssIf (stAnd (sT (s2 oEq (sVar 1) (sC (.str "answer")))) (stAnd (sT (s2 oEq (sCl bLen (saCons (sVar 2) (saNil))) (sC (.int 1)))) (sT (s1 (oNumIn [("0", 0), ("1", 1), ("2", 2)]) (s2 oIx (sVar 2) (sC (.int 0)))))))
  (b_read_deed_5 F)
  (ssNil))
  (b_read_deed_6 F)
def b_read_deed_2 (F : FF) : SS :=
  ssCons (ssIf (stAnd (sT (s2 oIn (sVar 1) (sTup (saCons (sC (.str "send")) (saCons (sC (.str "reset")) (saNil)))))) (sT (s2 oEq (sCl bLen (saCons (sVar 2) (saNil))) (sC (.int 0)))))
  (b_read_deed_3 F)
  (ssNil))
  (b_read_deed_4 F)
def b_read_deed_1 (F : FF) : SS :=
  ssCons (ssAsg (sSl (sVar 0) (soSome (sC (.int 1))) (soNone)) (sgName 2))
  (b_read_deed_2 F)
def b_read_deed (F : FF) : SS :=
  ssCons (ssAsg (s2 oIx (sVar 0) (sC (.int 0))) (sgName 1))
  (b_read_deed_1 F)
def b_parse_deeds_1 (F : FF) : SS :=
  ssCons (ssRaiseX "InvalidText" ["line"] (saCons (sC (.int 0)) (saNil)))
  (ssNil)
def b_parse_deeds_6 (F : FF) : SS :=
  ssCons (ssRaiseX "InvalidText" ["line"] (saCons (s2 oAdd (sVar 2) (sC (.int 1))) (saNil)))
  (ssNil)
def b_parse_deeds_7 (F : FF) : SS :=
  ssCons (ssExpr (sMtL mAppend (sVar 1) (saCons (sVar 4) (saNil))))
  (ssNil)
def b_parse_deeds_5 (F : FF) : SS :=
  ssCons (ssIf (sT (s2 oIs (sVar 4) (sC .non)))
   (b_parse_deeds_6 F)
   (ssNil))
  (b_parse_deeds_7 F)
def b_parse_deeds_4 (F : FF) : SS :=
  ssCons (ssAsg (sCl (arN 1 F.read_deed) (saCons (sVar 3) (saNil))) (sgName 4))
  (b_parse_deeds_5 F)
def b_parse_deeds_8 (F : FF) : SS :=
  ssCons (ssRet (sVar 1))
  (ssNil)
def b_parse_deeds_3 (F : FF) : SS :=
  ssCons (ssForEn (saCons (sCl (arN 1 F.split_lines) (saCons (sVar 0) (saNil))) (saNil)) (sgTup 2 (sgsCons (sgName 2) (sgsCons (sgName 3) (sgsNil))))
  (b_parse_deeds_4 F))
  (b_parse_deeds_8 F)
def b_parse_deeds_2 (F : FF) : SS :=
  ssCons (ssAsg (sLst (saNil)) (sgName 1))
  (b_parse_deeds_3 F)
def b_parse_deeds (F : FF) : SS :=
  ssCons (ssIf (stAnd (sT (s2 oNe (sVar 0) (sC (.str "")))) (sT (s2 oNe (s2 oIx (sVar 0) (s1 oNeg (sC (.int 1)))) (sC (.str "\n")))))
  (b_parse_deeds_1 F)
  (ssNil))
  (b_parse_deeds_2 F)
def b__law_mix_2 (F : FF) : SS :=
  ssCons (ssRet (s2 oMod (s2 oMul (sVar 2) (s2 oAdd (s2 oDiv (sVar 2) (sC (.int 2003))) (sC (.int 40692)))) (sC (.int 2147483399))))
  (ssNil)
def b__law_mix_1 (F : FF) : SS :=
  ssCons (ssAsg (s2 oMod (s2 oMul (sVar 2) (s2 oAdd (s2 oDiv (sVar 2) (sC (.int 1009))) (sC (.int 69621)))) (sC (.int 2147483647))) (sgName 2))
  (b__law_mix_2 F)
def b__law_mix (F : FF) : SS :=
  ssCons (ssAsg (s2 oMod (s2 oMul (s2 oAdd (s2 oAdd (sCl bInt (saCons (sVar 0) (saNil))) (s2 oMul (sC (.int 7919)) (sVar 1))) (sC (.int 1))) (sC (.int 48271))) (sC (.int 2147483647))) (sgName 2))
  (b__law_mix_1 F)
def b__law_box_3 (F : FF) : SS :=
  ssCons (ssAsg (sCl (arN 2 F._law_mix) (saCons (s2 oAdd (sVar 3) (sVar 2)) (saCons (sC (.int 3)) (saNil)))) (sgName 3))
  (ssNil)
def b__law_box_4 (F : FF) : SS :=
  ssCons (ssRet (sLst (saCons (sVar 1) (saCons (sC (.int 0)) (saCons (sC (.int 0)) (saCons (sVar 3) (saCons (sC (.int 0)) (saNil))))))))
  (ssNil)
def b__law_box_2 (F : FF) : SS :=
  ssCons (ssFor (siE (sVar 1)) (sgName 2)
  (b__law_box_3 F))
  (b__law_box_4 F)
def b__law_box_1 (F : FF) : SS :=
  ssCons (ssAsg (sC (.int 11)) (sgName 3))
  (b__law_box_2 F)
def b__law_box (F : FF) : SS :=
  ssCons (ssAsg (sLc (saLc (siE (sSl (sVar 0) (soNone) (soSome (sC (.int 63))))) (sgName 2) (stYes) (sCl bInt (saCons (sVar 2) (saNil))) [2])) (sgName 1))
  (b__law_box_1 F)
def b__law_draw_5 (F : FF) : SS :=
  ssCons (ssRet (s2 oMod (sCl bInt (saCons (sCl (arN 2 F._law_mix) (saCons (sVar 2) (saCons (s2 oIx (sVar 0) (sC (.int 4))) (saNil)))) (saNil))) (sVar 1)))
  (ssNil)
def b__law_draw_6 (F : FF) : SS :=
  ssCons (ssSub (sVar 0) (sC (.int 2)) (sVar 2))
  (ssNil)
def b__law_draw_4 (F : FF) : SS :=
  ssCons (ssIf (sT (s2 oLt (sVar 2) (s2 oPow (sC (.int 10)) (sC (.int 18)))))
   (b__law_draw_5 F)
   (ssNil))
  (b__law_draw_6 F)
def b__law_draw_3 (F : FF) : SS :=
  ssCons (ssSub (sVar 0) (sC (.int 1)) (s2 oAdd (s2 oIx (sVar 0) (sC (.int 1))) (sC (.int 1))))
  (b__law_draw_4 F)
def b__law_draw_2 (F : FF) : SS :=
  ssCons (ssAsg (s2 oIx (s2 oIx (sVar 0) (sC (.int 0))) (s2 oIx (sVar 0) (sC (.int 1)))) (sgName 2))
  (b__law_draw_3 F)
def b__law_draw_8 (F : FF) : SS :=
  ssCons (ssRet (s2 oMod (sCl bInt (saCons (sCl (arN 2 F._law_mix) (saCons (s2 oIx (sVar 0) (sC (.int 3))) (saCons (s2 oIx (sVar 0) (sC (.int 4))) (saNil)))) (saNil))) (sVar 1)))
  (ssNil)
def b__law_draw_11 (F : FF) : SS :=
  ssCons (ssRet (sVar 3))
  (ssNil)
def b__law_draw_10 (F : FF) : SS :=
  ssCons (ssSub (sVar 0) (sC (.int 2)) (s2 oDiv (sCl bInt (saCons (s2 oIx (sVar 0) (sC (.int 2))) (saNil))) (sVar 1)))
  (b__law_draw_11 F)
def b__law_draw_9 (F : FF) : SS :=
  ssCons (ssAsg (s2 oMod (sCl bInt (saCons (s2 oIx (sVar 0) (sC (.int 2))) (saNil))) (sVar 1)) (sgName 3))
  (b__law_draw_10 F)
def b__law_draw_7 (F : FF) : SS :=
  ssCons (ssIf (sT (s2 oEq (s2 oIx (sVar 0) (sC (.int 2))) (sC (.int 0))))
  (b__law_draw_8 F)
  (ssNil))
  (b__law_draw_9 F)
def b__law_draw_1 (F : FF) : SS :=
  ssCons (ssIf (stAnd (sT (s2 oEq (s2 oIx (sVar 0) (sC (.int 2))) (sC (.int 0)))) (sT (s2 oLt (s2 oIx (sVar 0) (sC (.int 1))) (sCl bLen (saCons (s2 oIx (sVar 0) (sC (.int 0))) (saNil))))))
  (b__law_draw_2 F)
  (ssNil))
  (b__law_draw_7 F)
def b__law_draw (F : FF) : SS :=
  ssCons (ssSub (sVar 0) (sC (.int 4)) (s2 oAdd (s2 oIx (sVar 0) (sC (.int 4))) (sC (.int 1))))
  (b__law_draw_1 F)
def b__law_same_2 (F : FF) : SS :=
  ssCons (ssRet (sC (.bl false)))
  (ssNil)
def b__law_same_4 (F : FF) : SS :=
  ssCons (ssRet (sC (.bl false)))
  (ssNil)
def b__law_same_5 (F : FF) : SS :=
  ssCons (ssRet (sOver bAll (saLc (siRange1 (saCons (sCl bLen (saCons (sVar 1) (saNil))) (saNil))) (sgName 2) (stYes) (sCl (arN 2 F._law_same) (saCons (s2 oIx (sVar 0) (sVar 2)) (saCons (s2 oIx (sVar 1) (sVar 2)) (saNil)))) [2])))
  (ssNil)
def b__law_same_3 (F : FF) : SS :=
  ssCons (ssIf (sT (s2 oNe (sCl bLen (saCons (sVar 0) (saNil))) (sCl bLen (saCons (sVar 1) (saNil)))))
   (b__law_same_4 F)
   (ssNil))
  (b__law_same_5 F)
def b__law_same_1 (F : FF) : SS :=
  ssCons (ssIf (stOr (sT (s2 oNe (s1 (oIsK .tuple) (sVar 1)) (s1 (oIsK .tuple) (sVar 0)))) (sT (s2 oNe (s1 (oIsK .list) (sVar 1)) (s1 (oIsK .list) (sVar 0)))))
   (b__law_same_2 F)
   (ssNil))
  (b__law_same_3 F)
def b__law_same_7 (F : FF) : SS :=
  ssCons (ssRet (s2 oIs (sVar 0) (sC .non)))
  (ssNil)
def b__law_same_9 (F : FF) : SS :=
  ssCons (ssRet (sIf (sT (s1 (oIsK .bool) (sVar 1))) (sIf (sT (s1 (oIsK .bool) (sVar 0))) (s2 oEq (sVar 1) (sVar 0)) (sC (.bl false))) (sC (.bl false))))
  (ssNil)
def b__law_same_11 (F : FF) : SS :=
  ssCons (ssRet (sIf (sT (s1 (oIsK .int) (sVar 0))) (s2 oEq (sVar 0) (sVar 1)) (sC (.bl false))))
  (ssNil)
def b__law_same_12 (F : FF) : SS :=
  ssCons (ssRet (sIf (sT (s1 (oIsK .str) (sVar 0))) (s2 oEq (sVar 0) (sVar 1)) (sC (.bl false))))
  (ssNil)
def b__law_same_10 (F : FF) : SS :=
  ssCons (ssIf (sT (s1 (oIsK .int) (sVar 1)))
  (b__law_same_11 F)
  (ssNil))
  (b__law_same_12 F)
def b__law_same_8 (F : FF) : SS :=
  ssCons (ssIf (stOr (sT (s1 (oIsK .bool) (sVar 1))) (sT (s1 (oIsK .bool) (sVar 0))))
  (b__law_same_9 F)
  (ssNil))
  (b__law_same_10 F)
def b__law_same_6 (F : FF) : SS :=
  ssCons (ssIf (sT (s2 oIs (sVar 1) (sC .non)))
  (b__law_same_7 F)
  (ssNil))
  (b__law_same_8 F)
def b__law_same (F : FF) : SS :=
  ssCons (ssIf (stOr (sT (s1 (oIsK .tuple) (sVar 1))) (sT (s1 (oIsK .list) (sVar 1))))
  (b__law_same_1 F)
  (ssNil))
  (b__law_same_6 F)
def b__law_name_2 (F : FF) : SS :=
  ssCons (ssRet (s2 oIx (sLst (saCons (sC (.str "enter")) (saCons (sC (.str "leave")) (saCons (sC (.str "send")) (saCons (sC (.str "answer")) (saCons (sC (.str "reset")) (saNil))))))) (sCl (arN 2 F._law_draw) (saCons (sVar 0) (saCons (sC (.int 5)) (saNil))))))
  (ssNil)
def b__law_name_4 (F : FF) : SS :=
  ssCons (ssAsg (s2 oAdd (sVar 1) (s2 oIx (sC (.str "abcdefghijklmnopqrstuvwxyz")) (sCl (arN 2 F._law_draw) (saCons (sVar 0) (saCons (sC (.int 26)) (saNil)))))) (sgName 1))
  (ssNil)
def b__law_name_5 (F : FF) : SS :=
  ssCons (ssRet (sVar 1))
  (ssNil)
def b__law_name_3 (F : FF) : SS :=
  ssCons (ssFor (siRange1 (saCons (s2 oAdd (sC (.int 1)) (sCl (arN 2 F._law_draw) (saCons (sVar 0) (saCons (sC (.int 8)) (saNil))))) (saNil))) (sgName 2)
  (b__law_name_4 F))
  (b__law_name_5 F)
def b__law_name_1 (F : FF) : SS :=
  ssCons (ssIf (sT (s2 oEq (sCl (arN 2 F._law_draw) (saCons (sVar 0) (saCons (sC (.int 6)) (saNil)))) (sC (.int 0))))
  (b__law_name_2 F)
  (ssNil))
  (b__law_name_3 F)
def b__law_name (F : FF) : SS :=
  ssCons (ssAsg (sC (.str "")) (sgName 1))
  (b__law_name_1 F)
def b__law_deed_2 (F : FF) : SS :=
  ssCons (ssRet (sTup (saCons (sC (.str "enter")) (saCons (sCl (arN 1 F._law_name) (saCons (sVar 0) (saNil))) (saCons (sCl (arN 1 F._law_name) (saCons (sVar 0) (saNil))) (saNil))))))
  (ssNil)
def b__law_deed_4 (F : FF) : SS :=
  ssCons (ssRet (sTup (saCons (sC (.str "leave")) (saCons (sCl (arN 1 F._law_name) (saCons (sVar 0) (saNil))) (saNil)))))
  (ssNil)
def b__law_deed_6 (F : FF) : SS :=
  ssCons (ssRet (sTup (saCons (sC (.str "answer")) (saCons (sCl (arN 2 F._law_draw) (saCons (sVar 0) (saCons (sC (.int 3)) (saNil)))) (saNil)))))
  (ssNil)
def b__law_deed_7 (F : FF) : SS :=
  ssCons (ssRet (s2 oIx (sLst (saCons (sTup (saCons (sC (.str "send")) (saNil))) (saCons (sTup (saCons (sC (.str "reset")) (saNil))) (saNil)))) (s2 oSub (sVar 1) (sC (.int 4)))))
  (ssNil)
def b__law_deed_5 (F : FF) : SS :=
  ssCons (ssIf (sT (s2 oEq (sVar 1) (sC (.int 3))))
  (b__law_deed_6 F)
  (ssNil))
  (b__law_deed_7 F)
def b__law_deed_3 (F : FF) : SS :=
  ssCons (ssIf (sT (s2 oEq (sVar 1) (sC (.int 2))))
  (b__law_deed_4 F)
  (ssNil))
  (b__law_deed_5 F)
def b__law_deed_1 (F : FF) : SS :=
  ssCons (ssIf (sT (s2 oLt (sVar 1) (sC (.int 2))))
  (b__law_deed_2 F)
  (ssNil))
  (b__law_deed_3 F)
def b__law_deed (F : FF) : SS :=
  ssCons (ssAsg (sCl (arN 2 F._law_draw) (saCons (sVar 0) (saCons (sC (.int 6)) (saNil)))) (sgName 1))
  (b__law_deed_1 F)
def b__law_line_1 (F : FF) : SS :=
  ssCons (ssRet (s2 oAdd (sC (.str "answer ")) (s2 oIx (sLst (saCons (sC (.str "0")) (saCons (sC (.str "1")) (saCons (sC (.str "2")) (saNil))))) (s2 oIx (sVar 0) (sC (.int 1))))))
  (ssNil)
def b__law_line_2 (F : FF) : SS :=
  ssCons (ssRet (sMtS mJoin (sC (.str " ")) (saCons (sVar 0) (saNil))))
  (ssNil)
def b__law_line (F : FF) : SS :=
  ssCons (ssIf (sT (s2 oEq (s2 oIx (sVar 0) (sC (.int 0))) (sC (.str "answer"))))
  (b__law_line_1 F)
  (ssNil))
  (b__law_line_2 F)
def b__law_is_name (F : FF) : SS :=
  ssCons (ssRet (sIf (sT (sChain oLe oLe (sC (.int 1)) (sCl bLen (saCons (sVar 0) (saNil))) (sC (.int 8)))) (sOver bAll (saLc (siE (sVar 0)) (sgName 1) (stYes) (s2 oIn (sVar 1) (sC (.str "abcdefghijklmnopqrstuvwxyz"))) [1])) (sC (.bl false))))
  (ssNil)
def b__law_fits_2 (F : FF) : SS :=
  ssCons (ssRet (s2 oEq (sCl bLen (saCons (sVar 1) (saNil))) (sC (.int 1))))
  (ssNil)
def b__law_fits_4 (F : FF) : SS :=
  ssCons (ssRet (sIf (sT (s2 oEq (sCl bLen (saCons (sVar 1) (saNil))) (sC (.int 2)))) (s2 oIn (s2 oIx (sVar 1) (sC (.int 1))) (sTup (saCons (sC (.str "0")) (saCons (sC (.str "1")) (saCons (sC (.str "2")) (saNil)))))) (sC (.bl false))))
  (ssNil)
def b__law_fits_6 (F : FF) : SS :=
  ssCons (ssRet (sIf (sT (s2 oEq (sCl bLen (saCons (sVar 1) (saNil))) (sC (.int 2)))) (sCl (arN 1 F._law_is_name) (saCons (s2 oIx (sVar 1) (sC (.int 1))) (saNil))) (sC (.bl false))))
  (ssNil)
def b__law_fits_7 (F : FF) : SS :=
  ssCons (ssRet (sIf (sT (s2 oEq (s2 oIx (sVar 1) (sC (.int 0))) (sC (.str "enter")))) (sIf (sT (s2 oEq (sCl bLen (saCons (sVar 1) (saNil))) (sC (.int 3)))) (sIf (sT (sCl (arN 1 F._law_is_name) (saCons (s2 oIx (sVar 1) (sC (.int 1))) (saNil)))) (sCl (arN 1 F._law_is_name) (saCons (s2 oIx (sVar 1) (sC (.int 2))) (saNil))) (sC (.bl false))) (sC (.bl false))) (sC (.bl false))))
  (ssNil)
def b__law_fits_5 (F : FF) : SS :=
  ssCons (ssIf (sT (s2 oEq (s2 oIx (sVar 1) (sC (.int 0))) (sC (.str "leave"))))
  (b__law_fits_6 F)
  (ssNil))
  (b__law_fits_7 F)
def b__law_fits_3 (F : FF) : SS :=
  ssCons (ssIf (sT (s2 oEq (s2 oIx (sVar 1) (sC (.int 0))) (sC (.str "answer"))))
  (b__law_fits_4 F)
  (ssNil))
  (b__law_fits_5 F)
def b__law_fits_1 (F : FF) : SS :=
  ssCons (ssIf (stOr (sT (s2 oEq (s2 oIx (sVar 1) (sC (.int 0))) (sC (.str "send")))) (sT (s2 oEq (s2 oIx (sVar 1) (sC (.int 0))) (sC (.str "reset")))))
  (b__law_fits_2 F)
  (ssNil))
  (b__law_fits_3 F)
def b__law_fits (F : FF) : SS :=
  ssCons (ssAsg (sMtS mSplit (sVar 0) (saCons (sC (.str " ")) (saNil))) (sgName 1))
  (b__law_fits_1 F)
def b__law_spoiled_6 (F : FF) : SS :=
  ssCons (ssRet (s2 oAdd (s2 oAdd (sSl (sVar 1) (soNone) (soSome (sVar 2))) (sLst (saCons (s2 oIx (sVar 4) (sCl (arN 2 F._law_draw) (saCons (sVar 0) (saCons (sCl bLen (saCons (sVar 4) (saNil))) (saNil))))) (saNil)))) (sSl (sVar 1) (soSome (s2 oAdd (sVar 2) (sVar 3))) (soNone))))
  (ssNil)
def b__law_spoiled_8 (F : FF) : SS :=
  ssCons (ssRet (s2 oAdd (sSl (sVar 1) (soNone) (soSome (sVar 2))) (sSl (sVar 1) (soSome (s2 oAdd (sVar 2) (sC (.int 1)))) (soNone))))
  (ssNil)
def b__law_spoiled_10 (F : FF) : SS :=
  ssCons (ssRet (s2 oAdd (s2 oAdd (sSl (sVar 1) (soNone) (soSome (sVar 2))) (sSl (sVar 1) (soSome (sVar 2)) (soSome (s2 oAdd (sVar 2) (sC (.int 1)))))) (sSl (sVar 1) (soSome (sVar 2)) (soNone))))
  (ssNil)
def b__law_spoiled_12 (F : FF) : SS :=
  ssCons (ssRet (s2 oAdd (s2 oAdd (sSl (sVar 1) (soNone) (soSome (sVar 2))) (sLc (saLc (siE (sSl (sVar 1) (soSome (sVar 2)) (soSome (s2 oAdd (sVar 2) (sC (.int 1)))))) (sgName 5) (stYes) (s1 (oRepl " " "  ") (sVar 5)) [5]))) (sSl (sVar 1) (soSome (s2 oAdd (sVar 2) (sC (.int 1)))) (soNone))))
  (ssNil)
def b__law_spoiled_13 (F : FF) : SS :=
  ssCons (ssRet (sVar 1))
  (ssNil)
def b__law_spoiled_11 (F : FF) : SS :=
  ssCons (ssIf (sT (s2 oEq (sVar 3) (sC (.int 4))))
  (b__law_spoiled_12 F)
  (ssNil))
  (b__law_spoiled_13 F)
def b__law_spoiled_9 (F : FF) : SS :=
  ssCons (ssIf (sT (s2 oEq (sVar 3) (sC (.int 3))))
  (b__law_spoiled_10 F)
  (ssNil))
  (b__law_spoiled_11 F)
def b__law_spoiled_7 (F : FF) : SS :=
  ssCons (ssIf (sT (s2 oEq (sVar 3) (sC (.int 2))))
  (b__law_spoiled_8 F)
  (ssNil))
  (b__law_spoiled_9 F)
def b__law_spoiled_5 (F : FF) : SS :=
  ssCons (ssIf (sT (s2 oLt (sVar 3) (sC (.int 2))))
  (b__law_spoiled_6 F)
  (ssNil))
  (b__law_spoiled_7 F)
def b__law_spoiled_4 (F : FF) : SS :=
  ssCons (ssExpr (sMtL mExtend (sVar 4) (saCons (sLst (saCons (sC (.str "answer yes")) (saCons (sC (.str "leave\ta")) (saCons (sC (.str "send\t")) (saCons (sC (.str "enter a\tb")) (saNil)))))) (saNil))))
  (b__law_spoiled_5 F)
def b__law_spoiled_3 (F : FF) : SS :=
  ssCons (ssExpr (sMtL mExtend (sVar 4) (saCons (sLst (saCons (sC (.str "reset now")) (saCons (sC (.str "Send")) (saCons (sC (.str " send")) (saCons (sC (.str "send ")) (saCons (sC (.str "leave a b")) (saCons (sC (.str "enter a b")) (saCons (sC (.str "answer -1")) (saCons (sC (.str "leave send")) (saNil)))))))))) (saNil))))
  (b__law_spoiled_4 F)
def b__law_spoiled_2 (F : FF) : SS :=
  ssCons (ssAsg (sLst (saCons (sC (.str "")) (saCons (sC (.str "send 1")) (saCons (sC (.str "leave")) (saCons (sC (.str "leave A")) (saCons (sC (.str "enter a")) (saCons (sC (.str "enter a toolongname")) (saCons (sC (.str "answer")) (saCons (sC (.str "answer 3")) (saCons (sC (.str "answer 00")) (saNil))))))))))) (sgName 4))
  (b__law_spoiled_3 F)
def b__law_spoiled_1 (F : FF) : SS :=
  ssCons (ssAsg (sCl (arN 2 F._law_draw) (saCons (sVar 0) (saCons (sC (.int 6)) (saNil)))) (sgName 3))
  (b__law_spoiled_2 F)
def b__law_spoiled (F : FF) : SS :=
  ssCons (ssAsg (sCl (arN 2 F._law_draw) (saCons (sVar 0) (saCons (s2 oAdd (sCl bLen (saCons (sVar 1) (saNil))) (sC (.int 1))) (saNil)))) (sgName 2))
  (b__law_spoiled_1 F)
def b__law_told_1 (F : FF) : SS :=
  ssCons (ssAsg (sCl (arN 1 F.parse_deeds) (saCons (sVar 0) (saNil))) (sgName 1))
  (ssNil)
def b__law_told_3 (F : FF) : SS :=
  ssCons (ssRet (sTup (saCons (sC (.str "none")) (saCons (sC .non) (saCons (sC (.bl false)) (saNil))))))
  (ssNil)
def b__law_told_4 (F : FF) : SS :=
  ssCons (ssRet (sTup (saCons (sC (.str "text")) (saCons (sCl (arN 1 F.format_deeds) (saCons (sVar 1) (saNil))) (saCons (sC (.bl true)) (saNil))))))
  (ssNil)
def b__law_told_2 (F : FF) : SS :=
  ssCons (ssIf (stNot (sT (s1 (oIsK .list) (sVar 1))))
  (b__law_told_3 F)
  (ssNil))
  (b__law_told_4 F)
def b__law_told (F : FF) : SS :=
  ssCons (ssTryX XS (b__law_told_1 F) (⟨"InvalidText", some 2, fun c fs => ssRet (sTup (saCons (sC (.str "line")) (saCons (sXf fs "line") (saCons (sC (.bl ((ssOf XS c).contains "ShownError"))) (saNil)))))⟩ :: []))
  (b__law_told_2 F)
def b_law_7 (F : FF) : SS :=
  ssCons (ssRet (sC (.bl false)))
  (ssNil)
def b_law_10 (F : FF) : SS :=
  ssCons (ssRet (sC (.bl false)))
  (ssNil)
def b_law_13 (F : FF) : SS :=
  ssCons (ssRet (sC (.bl false)))
  (ssNil)
def b_law_15 (F : FF) : SS :=
  ssCons (ssAsg (sCl (arN 2 F._law_spoiled) (saCons (sVar 1) (saCons (sVar 5) (saNil)))) (sgName 5))
  (ssNil)
def b_law_18 (F : FF) : SS :=
  ssCons (ssAsg (s2 oAdd (sVar 7) (sC (.str "send"))) (sgName 7))
  (ssNil)
def b_law_22 (F : FF) : SS :=
  ssCons (ssAsg (sTup (saCons (sC (.str "line")) (saCons (s2 oAdd (sVar 4) (sC (.int 1))) (saCons (sC (.bl true)) (saNil))))) (sgName 11))
  (ssNil)
def b_law_21 (F : FF) : SS :=
  ssCons (ssIf (stAnd (sT (s2 oEq (s2 oIx (sVar 11) (sC (.int 0))) (sC (.str "text")))) (stNot (sT (sCl (arN 1 F._law_fits) (saCons (s2 oIx (sVar 5) (sVar 4)) (saNil))))))
   (b_law_22 F)
   (ssNil))
  (ssNil)
def b_law_24 (F : FF) : SS :=
  ssCons (ssAsg (sTup (saCons (sC (.str "line")) (saCons (sC (.int 0)) (saCons (sC (.bl true)) (saNil))))) (sgName 11))
  (ssNil)
def b_law_25 (F : FF) : SS :=
  ssCons (ssRet (sCl (arN 2 F._law_same) (saCons (sCl (arN 1 F._law_told) (saCons (sVar 7) (saNil))) (saCons (sVar 11) (saNil)))))
  (ssNil)
def b_law_23 (F : FF) : SS :=
  ssCons (ssIf (sT (s2 oEq (sVar 2) (sC (.int 0))))
  (b_law_24 F)
  (ssNil))
  (b_law_25 F)
def b_law_20 (F : FF) : SS :=
  ssCons (ssFor (siRange1 (saCons (sCl bLen (saCons (sVar 5) (saNil))) (saNil))) (sgName 4)
  (b_law_21 F))
  (b_law_23 F)
def b_law_19 (F : FF) : SS :=
  ssCons (ssAsg (sTup (saCons (sC (.str "text")) (saCons (sVar 7) (saCons (sC (.bl true)) (saNil))))) (sgName 11))
  (b_law_20 F)
def b_law_17 (F : FF) : SS :=
  ssCons (ssIf (sT (s2 oEq (sVar 2) (sC (.int 0))))
  (b_law_18 F)
  (ssNil))
  (b_law_19 F)
def b_law_16 (F : FF) : SS :=
  ssCons (ssAsg (sMtS mJoin (sC (.str "")) (saCons (sLc (saLc (siE (sVar 5)) (sgName 8) (stYes) (s2 oAdd (sVar 8) (sC (.str "\n"))) [8])) (saNil))) (sgName 7))
  (b_law_17 F)
def b_law_14 (F : FF) : SS :=
  ssCons (ssFor (siRange1 (saCons (sC (.int 2)) (saNil))) (sgName 4)
  (b_law_15 F))
  (b_law_16 F)
def b_law_12 (F : FF) : SS :=
  ssCons (ssIf (stNot (sT (sCl (arN 2 F._law_same) (saCons (sCl (arN 1 F.parse_deeds) (saCons (sVar 7) (saNil))) (saCons (sVar 3) (saNil))))))
  (b_law_13 F)
  (ssNil))
  (b_law_14 F)
def b_law_11 (F : FF) : SS :=
  ssCons (ssExpr (sMtL mAppend (sVar 10) (saCons (sC (.str "changed")) (saNil))))
  (b_law_12 F)
def b_law_9 (F : FF) : SS :=
  ssCons (ssIf (stNot (sT (sCl (arN 2 F._law_same) (saCons (sVar 10) (saCons (sVar 3) (saNil))))))
  (b_law_10 F)
  (ssNil))
  (b_law_11 F)
def b_law_8 (F : FF) : SS :=
  ssCons (ssAsg (sCl (arN 1 F.parse_deeds) (saCons (sVar 7) (saNil))) (sgName 10))
  (b_law_9 F)
def b_law_6 (F : FF) : SS :=
  ssCons (ssIf (stOr (stNot (sT (sCl (arN 2 F._law_same) (saCons (sCl (arN 1 F.format_deeds) (saCons (sVar 9) (saNil))) (saCons (sVar 7) (saNil)))))) (stNot (sT (sCl (arN 2 F._law_same) (saCons (sVar 9) (saCons (sVar 3) (saNil)))))))
  (b_law_7 F)
  (ssNil))
  (b_law_8 F)
def b_law_5 (F : FF) : SS :=
  ssCons (ssAsg (sCl bList (saCons (sVar 3) (saNil))) (sgName 9))
  (b_law_6 F)
def b_law_4 (F : FF) : SS :=
  ssCons (ssAsg (sMtS mJoin (sC (.str "")) (saCons (sLc (saLc (siE (sVar 5)) (sgName 8) (stYes) (s2 oAdd (sVar 8) (sC (.str "\n"))) [8])) (saNil))) (sgName 7))
  (b_law_5 F)
def b_law_3 (F : FF) : SS :=
  ssCons (ssAsg (sLc (saLc (siE (sVar 3)) (sgName 6) (stYes) (sCl (arN 1 F._law_line) (saCons (sVar 6) (saNil))) [6])) (sgName 5))
  (b_law_4 F)
def b_law_2 (F : FF) : SS :=
  ssCons (ssAsg (sLc (saLc (siRange1 (saCons (sCl (arN 2 F._law_draw) (saCons (sVar 1) (saCons (sC (.int 41)) (saNil)))) (saNil))) (sgName 4) (stYes) (sCl (arN 1 F._law_deed) (saCons (sVar 1) (saNil))) [4])) (sgName 3))
  (b_law_3 F)
def b_law_1 (F : FF) : SS :=
  ssCons (ssAsg (sCl (arN 2 F._law_draw) (saCons (sVar 1) (saCons (sC (.int 6)) (saNil)))) (sgName 2))
  (b_law_2 F)
def b_law (F : FF) : SS :=
  ssCons (ssAsg (sCl (arN 1 F._law_box) (saCons (sVar 0) (saNil))) (sgName 1))
  (b_law_1 F)
def FF.stk : FF := ⟨fun _ _ => .stk, fun _ _ => .stk, fun _ _ => .stk, fun _ _ => .stk, fun _ _ => .stk, fun _ _ => .stk, fun _ _ => .stk, fun _ _ => .stk, fun _ _ => .stk, fun _ _ => .stk, fun _ _ => .stk, fun _ _ => .stk, fun _ _ => .stk, fun _ _ => .stk, fun _ _ => .stk, fun _ _ => .stk, fun _ _ => .stk, fun _ _ => .stk⟩
def stepF (F : FF) : FF where
  is_name := defRun 2 (b_is_name F)
  joined := defRun 2 (b_joined F)
  split_lines := defRun 2 (b_split_lines F)
  format_deeds := defRun 3 (b_format_deeds F)
  read_deed := defRun 5 (b_read_deed F)
  parse_deeds := defRun 5 (b_parse_deeds F)
  _law_mix := defRun 3 (b__law_mix F)
  _law_box := defRun 4 (b__law_box F)
  _law_draw := defRun 4 (b__law_draw F)
  _law_same := defRun 3 (b__law_same F)
  _law_name := defRun 3 (b__law_name F)
  _law_deed := defRun 2 (b__law_deed F)
  _law_line := defRun 1 (b__law_line F)
  _law_is_name := defRun 2 (b__law_is_name F)
  _law_fits := defRun 2 (b__law_fits F)
  _law_spoiled := defRun 6 (b__law_spoiled F)
  _law_told := defRun 3 (b__law_told F)
  law := defRun 12 (b_law F)
def runF : Nat → FF
  | 0 => FF.stk
  | k + 1 => stepF (runF k)
end
end LW
end

section
namespace LW
open PySem W3
theorem ok_mix (F : FF) : MixW (defRun 3 (b__law_mix F)) := by
  intro v k h Q E hq
  have e1 : ∀ x : Int, 0 ≤ x % 2147483647 ∧ x % 2147483647 < 2147483647 := fun x => by omega
  have q := e1 ((v + 7919 * k + 1) * 48271)
  simp [b__law_mix, b__law_mix_1, b__law_mix_2]
  rw [e_mul_l (by omega) (by omega)]
  simp
  have q := e1 (((v + 7919 * k + 1) * 48271 % 2147483647 * ((v + 7919 * k + 1) * 48271 % 2147483647 / 1009 + 69621)))
  rw [e_mul_l (by omega) (by omega)]
  simp [hq]
theorem ok_box {F : FF} (m : MixW F._law_mix) : BoxW (defRun 4 (b__law_box F)) := by
  intro ns h Q E hns hq
  obtain ⟨ms, em, hm⟩ := cut_ints ns none (some 63)
  simp [b__law_box, b__law_box_1, em]
  refine wp_lcm (ts := ms.map T.int) id (szle (by simp; omega)) lstAt_new (fun x hx => ?_) ?_
  · obtain ⟨n, _, rfl⟩ := List.mem_map.mp hx
    simp
  simp [b__law_box_1, b__law_box_2]
  refine wp_for (ts := ms.map T.int) (fun i σ h1 => (∃ a z, σ = [some (T.fl (List.map T.int ns)), some (T.ref (List.length h + 1)), a, some (T.int z)]) ∧ h1 = h ++ [Ob.lst (List.map T.int ms), Ob.lst (List.map T.int ms)])
    (fun i σ h1 q => by rw [q.2]; simp [Src.Is]) ⟨⟨_, _, rfl⟩, rfl⟩ (fun i x σ h1 ex q => ?_) (fun σ h1 q => ?_)
  · obtain ⟨⟨a, z, rfl⟩, rfl⟩ := q
    obtain ⟨n, rfl⟩ := map_int_get ex
    refine ⟨_, rfl, ?_⟩
    simp [b__law_box_3]
    refine m fun y => ?_
    simp
  · obtain ⟨⟨a, z, rfl⟩, rfl⟩ := q
    simp [sizeLine, b__law_box_4]
    refine hq _ _ ⟨h.length + 1, ms, 0, 0, z, 0, ?_, ?_, by omega, by omega⟩ (by simp) (fun k hk => ?_) (fun c hc => ?_)
    · simp [BoxL]
    · simp
    · rw [List.getElem?_append_left hk]
    · unfold BoxC at hc
      simp at hc
      omega
theorem ok_draw {F : FF} (M : MixW F._law_mix) : DrawW (defRun 4 (b__law_draw F)) := by
  intro h l m Q E hb h0 h1 hq
  obtain ⟨c, cells, i, d, s, n, e, e2, hi, hd⟩ := hb
  have hne := IsBox.ne e e2
  have hlt := lstAt_lt e
  unfold BoxL at e
  have ec : ∀ o, lstAt (List.set h l o) c = some (cells.map T.int) := fun o => by rw [lstAt_set_ne hne]; exact e2
  have key : ∀ i' d' s' n', 0 ≤ i' → 0 ≤ d' → Up l h (List.set h l (.lst [T.ref c, T.int i', T.int d', T.int s', T.int n'])) := fun i' d' s' n' q1 q2 =>
    ⟨by simp, fun k _ hk => List.getElem?_set_ne (Ne.symm hk), ⟨c, cells, i', d', s', n', lstAt_set_self hlt, ec _, q1, q2⟩, by unfold BoxC; rw [lstAt_set_self hlt, e]⟩
  have hmod : ∀ x : Int, 0 ≤ x % m ∧ x % m < m := fun x => ⟨Int.emod_nonneg _ (by omega), Int.emod_lt_of_pos _ h0⟩
  simp [b__law_draw, b__law_draw_1, b__law_draw_2, b__law_draw_3, b__law_draw_4, b__law_draw_5, b__law_draw_6, b__law_draw_7, b__law_draw_8, b__law_draw_9, b__law_draw_10, b__law_draw_11, e, hlt]
  by_cases hd0 : d = 0
  · subst hd0
    by_cases hi2 : i < cells.length
    · obtain ⟨x, ex, qx⟩ := atI_int (xs := cells.map T.int) hi (by simpa using hi2)
      obtain ⟨z, rfl⟩ := map_int_get qx
      simp [ec, hlt, hi2, ex, h0, h1]
      refine ⟨fun hz => M fun y => ?_, fun hz => ⟨fun hz0 => by omega, fun hz0 => ?_⟩⟩
      · simp [h0]
        exact hq _ _ (hmod _).1 (hmod _).2 (key _ _ _ _ (by omega) (by omega))
      · exact hq _ _ (hmod _).1 (hmod _).2 (key _ _ _ _ (by omega) (Int.ediv_nonneg (by omega) (by omega)))
    · simp [ec, hlt, hi2, h0]
      refine M fun y => ?_
      simp [h0]
      exact hq _ _ (hmod _).1 (hmod _).2 (key _ _ _ _ (by omega) (by omega))
  · simp [hd0, hlt, h0, h1]
    exact hq _ _ (hmod _).1 (hmod _).2 (key _ _ _ _ (by omega) (Int.ediv_nonneg (by omega) (by omega)))
theorem ok_is_name (F : FF) : IsB (defRun 2 (b_is_name F)) 0 nameB := by
  intro v h j
  have hsz := sz
  apply eq_of_wp
  cases hv : isStr v with
  | false => simp [b_is_name, b_is_name_1, b_is_name_2, j_str j.jd, hv, nameB_not]
  | true =>
    obtain ⟨s, rfl⟩ := of_isStr hv
    have hl : s.length ≤ 1000 := j.jd
    simp [b_is_name, b_is_name_1, b_is_name_2, show s.length ≤ sizeLine by omega]
    refine ⟨fun h1 => ⟨fun h8 => ?_, fun h8 => ?_⟩, fun h1 => ?_⟩
    · simp [nameB, nmB, show ¬ s.length ≤ 8 by omega]
    · refine lcm_all (p := fun t => match t with | .str s => ltB s | _ => false) (szle (by rw [List.length_map, ← str_len]; omega)) rfl (fun x hx => ?_) ?_
      · obtain ⟨c, hc, rfl⟩ := List.mem_map.mp hx
        refine ⟨_, rfl, ?_⟩
        simp only [e_s2, e_sVar, e_sC, Res.bind_ok, List.set_cons_succ, List.set_cons_zero, List.getElem?_cons_succ, List.getElem?_cons_zero, oIn_ch]
        simp [ltB, LETS]
      · simp [nameB, nmB, show 1 ≤ s.length by omega, show s.length ≤ 8 by omega]
        rw [show s.cps.all _ = s.cps.toList.all _ from (Array.all_toList).symm]
        simp only [ltB, List.all_cons, List.all_nil, Bool.and_true]
    · simp [nameB, nmB, show ¬ 1 ≤ s.length by omega]
theorem ok_same0 (F : FF) : SameW 0 (defRun 3 (b__law_same F)) := by
  intro t u h ⟨e, hf⟩
  subst e
  apply eq_of_wp
  cases t <;> simp [flatT] at hf <;> simp [b__law_same, b__law_same_6, b__law_same_7, b__law_same_8, b__law_same_9, b__law_same_10, b__law_same_11, b__law_same_12]
theorem ok_same {F : FF} {n : Nat} (ih : SameW n F._law_same) : SameW (n + 1) (defRun 3 (b__law_same F)) := by
  intro t u h q
  rcases q with ⟨e, hf⟩ | ⟨ts, us, hk, hl, hz, hs⟩
  · exact ok_same0 F (h := h) ⟨e, hf⟩
  · have hsz := sz
    have key : (lcRun (.its (rangeT 0 (us.length : Int).toNat)) (sgName 2) stYes (sCl (arN 2 F._law_same) (saCons (s2 oIx (sVar 0) (sVar 2)) (saCons (s2 oIx (sVar 1) (sVar 2)) saNil))) [some t, some u, none] ((Src.its (rangeT 0 (us.length : Int).toNat)).len h) 0 [] h) = .ok ((rangeT 0 us.length).map fun _ => .bl true) h := by
      rw [show ((us.length : Int)).toNat = us.length by omega]
      refine lc_map (fun _ => .bl true) (szle (by simp; omega)) rfl fun x hx => ?_
      obtain ⟨i, ex⟩ := List.getElem?_of_mem hx
      obtain ⟨rfl, hi⟩ := range_at ex
      have e1 : us[i]? = some us[i] := by simp [hi]
      have e2 : ts[i]? = some ts[i] := by simp [show i < ts.length by omega]
      have a1 := atI_nat e1
      have a2 := atI_nat e2
      have st := ih (hs i _ _ e2 e1)
      refine ⟨_, rfl, ?_⟩
      rcases hk with ⟨rfl, rfl⟩ | ⟨k1, k2⟩
      · simp [a1, a2, st]
      · simp [k1.ix, k2.ix, a1, a2, st]
    apply eq_of_wp
    rcases hk with ⟨rfl, rfl⟩ | ⟨k1, k2⟩
    · simp [b__law_same, b__law_same_1, b__law_same_3, b__law_same_5, hl]
      rw [e_rng (by omega) (by omega)]
      simp
      simp at key
      rw [key]
      simp
    · simp [b__law_same, b__law_same_1, b__law_same_3, b__law_same_5, k1.isK, k2.isK, k1.len, k2.len, hl]
      rw [e_rng (by omega) (by omega)]
      simp
      simp at key
      rw [key]
      simp
theorem ok_joined {F : FF} : JoinTW (defRun 2 (b_joined F)) := by
  intro l ls h Q E e hn hk hq
  have hsz := sz
  obtain ⟨z1, z2, z3, _⟩ := lits_len
  simp [b_joined, srcOf, e]
  refine wp_lcm (s := .live l) (ts := tSs ls) nlT (szle (by simp; omega)) e (fun x hx => ?_) ?_
  · obtain ⟨s, hs, rfl⟩ := List.mem_map.mp hx
    have := hk s hs
    exact ⟨_, rfl, by simp [z3, show s.length + 1 ≤ sizeLine by omega]⟩
  · rw [nl_map]
    have ej := fun h' => joinT_ok (a := "") (ys := ls.map fun s => s ++ "\n") (h := h') 2000 2001 (by rw [List.length_map]; exact hn) (fun y hy => by
      obtain ⟨s, hs, rfl⟩ := List.mem_map.mp hy
      have := hk s hs
      rw [str_len_app, z3]
      omega) (by rw [z2]; omega)
    generalize hL : (ls.map fun s => s ++ ("\n" : Str)) = L at ej
    have eq : txL ls = Txt.join "" L := by rw [← hL]; rfl
    rw [← eq] at ej
    simp
    rw [ej]
    simp
    exact hq _
theorem ok_split_lines {F : FF} : SplitW (defRun 2 (b_split_lines F)) := by
  intro s h Q E hs hq
  have hsz := sz
  obtain ⟨s1, s2⟩ := sep_ok
  have hlen : (Txt.split s "\n").length ≤ s.length + 2 := PyProof.Rows.split_le s "\n"
  have hmem : ∀ y ∈ (Txt.split s "\n").dropLast, y.length ≤ s.length := fun y hy => split_len1 s2 nl_256 y (List.dropLast_subset _ hy)
  have hdl : (Txt.split s "\n").dropLast.length ≤ s.length + 2 := by rw [List.length_dropLast]; omega
  have hr : rowsTx s = (Txt.split s "\n").dropLast.map fun l => Txt.split l " " := rfl
  have hcut : cutT (tSs (Txt.split s "\n")) none (some (-1)) = tSs (Txt.split s "\n").dropLast := by
    rw [cut_last1]
    unfold tSs
    rw [List.map_dropLast]
  simp [b_split_lines, e_split_nl hs]
  rw [hcut]
  generalize hM : (Txt.split s "\n").dropLast = M at hmem hdl hr
  rw [show (h ++ [Ob.lst (tSs (Txt.split s "\n")), Ob.lst (tSs M)]) = (h ++ [Ob.lst (tSs (Txt.split s "\n"))]) ++ [Ob.lst (tSs M)] by simp, show h.length + 1 = (h ++ [Ob.lst (tSs (Txt.split s "\n"))]).length by simp]
  generalize [Ob.lst (tSs (Txt.split s "\n"))] = H1
  have hM2 : lstAt (h ++ H1 ++ [Ob.lst (tSs M)]) (h ++ H1).length = some (tSs M) := lstAt_new
  have hfz : Fz h.length h (h ++ H1 ++ [Ob.lst (tSs M)]) := by rw [List.append_assoc]; exact Fz.app (Nat.le_refl _) _
  generalize (h ++ H1).length = x at hM2 ⊢
  generalize h ++ H1 ++ [Ob.lst (tSs M)] = g at hM2 hfz ⊢
  refine wp_lc (ts := tSs M) (szle (by simp; omega)) (fun i acc h' => (∃ z, h' = g ++ z ∧ z = (M.take i).map fun l => Ob.lst (tSs (Txt.split l " "))) ∧ acc = (List.range i).map fun j => T.ref (g.length + j)) (fun i acc h' q => ?_) ⟨⟨[], by simp, by simp⟩, by simp⟩ (fun i y acc h' hy q => ?_) (fun acc h' q => ?_)
  · obtain ⟨⟨z, rfl, _⟩, _⟩ := q
    exact lstAt_app z hM2
  · obtain ⟨⟨z, rfl, hz⟩, rfl⟩ := q
    unfold tSs at hy
    rw [List.getElem?_map] at hy
    cases e : M[i]? with
    | none => rw [e] at hy; cases hy
    | some l =>
      rw [e] at hy
      cases hy
      have hl := hmem l (List.mem_of_getElem? e)
      have hi := (List.getElem?_eq_some_iff.mp e).1
      refine ⟨_, rfl, ?_⟩
      simp [e_split_sp (show l.length ≤ 1000000 by omega)]
      have lz : z.length = i := by rw [hz, List.length_map, List.length_take]; omega
      refine ⟨?_, ?_⟩
      · rw [List.take_succ, List.getElem?_map, e, hz, List.map_take]
        rfl
      · rw [List.range_succ, List.map_append, lz]
        rfl
  · obtain ⟨⟨z, rfl, hz⟩, rfl⟩ := q
    rw [show (tSs M).length = M.length by simp] at hz ⊢
    rw [List.take_length] at hz
    simp
    have lz : z.length = M.length := by rw [hz, List.length_map]
    obtain ⟨z0, rfl⟩ := hfz.out
    have := hq (z0 ++ (z ++ [Ob.lst ((List.range M.length).map fun j => T.ref ((h ++ z0).length + j))])) ((h ++ z0).length + z.length) (by simp; omega) ?_
    · rw [← List.append_assoc] at this
      exact this
    · rw [← List.append_assoc, ← List.append_assoc]
      generalize h ++ z0 = g
      rw [show g.length + z.length = (g ++ z).length by simp]
      refine ⟨(List.range M.length).map fun j => g.length + j, ?_, by rw [hr]; simp, fun i a ws ha hw => ?_⟩
      · rw [List.map_map]
        exact lstAt_new
      · rw [List.getElem?_map] at ha
        cases e : (List.range M.length)[i]? with
        | none => rw [e] at ha; cases ha
        | some j =>
          rw [e] at ha
          cases ha
          obtain ⟨hi, hj⟩ := List.getElem?_eq_some_iff.mp e
          rw [List.getElem_range] at hj
          subst hj
          rw [hr, List.getElem?_map] at hw
          cases e2 : M[i]? with
          | none => rw [e2] at hw; cases hw
          | some l =>
            rw [e2] at hw
            cases hw
            refine lstAt_app _ ?_
            rw [lstAt_app_k]
            unfold lstAt
            rw [hz, List.getElem?_map, e2]
            rfl
theorem ok__law_is_name {F : FF} : LNmE (defRun 2 (b__law_is_name F)) := by
  intro s h hl
  have hsz := sz
  apply eq_of_wp
  simp [b__law_is_name, show s.length ≤ sizeLine by omega]
  refine ⟨fun h1 => ⟨fun h8 => ?_, fun h8 => ?_⟩, fun h1 => ?_⟩
  · refine lcm_all (p := fun t => match t with | .str s => ltB s | _ => false) (szle (by rw [List.length_map, ← str_len]; omega)) rfl (fun x hx => ?_) ?_
    · obtain ⟨c, hc, rfl⟩ := List.mem_map.mp hx
      refine ⟨_, rfl, ?_⟩
      simp only [e_s2, e_sVar, e_sC, Res.bind_ok, List.set_cons_succ, List.set_cons_zero, List.getElem?_cons_succ, List.getElem?_cons_zero, oIn_ch]
      simp [ltB, LETS]
    · simp [nmB, show 1 ≤ s.length by omega, show s.length ≤ 8 by omega]
      rw [show s.cps.all _ = s.cps.toList.all _ from (Array.all_toList).symm]
      simp only [ltB, List.all_cons, List.all_nil, Bool.and_true]
  · simp [nmB, show ¬ s.length ≤ 8 by omega]
  · simp [nmB, show ¬ 1 ≤ s.length by omega]
end LW
end

section
namespace LW
open PySem W3
theorem jd_w42 {w : Str} (hw : w.length ≤ 1000) {h : Hh} : JdN 0 (T.str w) h := hw
theorem ok__law_name42 {F : FF} (D : DrawW F._law_draw) : NmDW (defRun 3 (b__law_name F)) := by
  intro h l Q E hb hq
  have hsz := sz
  simp [b__law_name, b__law_name_1]
  refine D hb (by omega) (by omega) fun d h1 d0 d1 u1 => ?_
  have b1 := u1.box
  simp
  refine ⟨fun _ => ?_, fun _ => ?_⟩
  · simp [b__law_name_2, show 5 ≤ sizeLine by omega]
    have hm : lstAt (h1 ++ [Ob.lst (tSs ["enter", "leave", "send", "answer", "reset"])]) h1.length = some (tSs ["enter", "leave", "send", "answer", "reset"]) := lstAt_new
    have up := u1.up (Up.app b1 [Ob.lst (tSs ["enter", "leave", "send", "answer", "reset"])])
    have b2 := b1.app [Ob.lst (tSs ["enter", "leave", "send", "answer", "reset"])]
    have hlb := b1.lt
    show (F._law_draw [T.ref l, T.int 5] (h1 ++ [Ob.lst (tSs ["enter", "leave", "send", "answer", "reset"])])).wp _ _
    generalize h1 ++ [Ob.lst (tSs ["enter", "leave", "send", "answer", "reset"])] = h2 at hm up b2 ⊢
    refine D b2 (by omega) (by omega) fun d2 h3 d20 d21 u2 => ?_
    have hm2 := u2.lst hm (by omega)
    obtain ⟨w, ew, hw⟩ := atI_map T.str (xs := ["enter", "leave", "send", "answer", "reset"]) d20 d21
    have ew : L2.atI (tSs ["enter", "leave", "send", "answer", "reset"]) d2 = some (.str w) := ew
    have nw : Nm w := by
      have : (["enter", "leave", "send", "answer", "reset"] : List Str).all nmB = true := by decide +kernel
      exact nmB_iff.mp (List.all_eq_true.mp this w hw)
    have q1 := hq w h3 nw (up.up u2)
    simp at ew
    simp [hm2, ew]
    exact q1
  · simp [b__law_name_3]
    refine D b1 (by omega) (by omega) fun d2 h2 d20 d21 u2 => ?_
    simp
    rw [e_rng (by omega) (by omega)]
    simp
    refine wp_for (s := .its (rangeT 0 (1 + d2).toNat)) (ts := rangeT 0 (1 + d2).toNat) (fun j σ h' => ∃ (w : Str) (a2 : Option T), σ = [some (T.ref l), some (T.str w), a2] ∧ w.length = j ∧ Lt w ∧ Up l h h') (fun i σ h1 q => rfl) ⟨_, none, rfl, rfl, Lt.nil, u1.up u2⟩ (fun j x σ h' ex q => ?_) (fun σ h' q => ?_)
    · obtain ⟨w, a2, rfl, hw, lw, up⟩ := q
      obtain ⟨rfl, hj⟩ := range_at ex
      refine ⟨_, rfl, ?_⟩
      simp [b__law_name_4]
      refine D up.box (by omega) (by omega) fun d3 h3 d30 d31 u3 => ?_
      obtain ⟨c, hc, ec⟩ := lets_at d30 (by omega)
      simp [ec, show 26 ≤ sizeLine by omega, show w.length + 1 ≤ sizeLine by omega]
      exact ⟨by omega, lw.app (Lt.one hc), up.up u3⟩
    · obtain ⟨w, a2, rfl, hw, lw, up⟩ := q
      rw [range_length] at hw
      simp [b__law_name_5]
      exact hq w h' ⟨by omega, by omega, lw⟩ up
theorem ok__law_deed42 {F : FF} (D : DrawW F._law_draw) (N : NmDW F._law_name) : DdDW (defRun 2 (b__law_deed F)) := by
  intro h l Q E hb hq
  have hsz := sz
  simp [b__law_deed]
  refine D hb (by omega) (by omega) fun d h1 d0 d1 u1 => ?_
  simp [b__law_deed_1]
  refine ⟨fun _ => ?_, fun _ => ?_⟩
  · simp [b__law_deed_2]
    refine N u1.box fun w h2 nw u2 => ?_
    simp
    refine N u2.box fun w2 h3 nw2 u3 => ?_
    simp [show 3 ≤ sizeLine by omega]
    exact hq (.ent w w2) h3 ⟨nw, nw2⟩ (u1.up (u2.up u3))
  simp [b__law_deed_3]
  refine ⟨fun _ => ?_, fun _ => ?_⟩
  · simp [b__law_deed_4]
    refine N u1.box fun w h2 nw u2 => ?_
    simp [show 2 ≤ sizeLine by omega]
    exact hq (.lea w) h2 nw (u1.up u2)
  simp [b__law_deed_5]
  refine ⟨fun _ => ?_, fun _ => ?_⟩
  · simp [b__law_deed_6]
    refine D u1.box (by omega) (by omega) fun k h2 k0 k1 u2 => ?_
    simp [show 2 ≤ sizeLine by omega]
    obtain ⟨j, rfl⟩ : ∃ j : Nat, k = j := ⟨k.toNat, by omega⟩
    exact hq (.ans j) h2 (show j < 3 by omega) (u1.up u2)
  · have : d = 4 ∨ d = 5 := by omega
    rcases this with rfl | rfl
    · simp [b__law_deed_7, show 1 ≤ sizeLine by omega, show 2 ≤ sizeLine by omega]
      exact hq .snd _ trivial (u1.up (Up.app u1.box _))
    · simp [b__law_deed_7, show 1 ≤ sizeLine by omega, show 2 ≤ sizeLine by omega]
      exact hq .rst _ trivial (u1.up (Up.app u1.box _))
theorem ok__law_line42 {F : FF} : LineDW (defRun 1 (b__law_line F)) := by
  intro h d Q E o hq
  have hsz := sz
  have hw := (ws_wd o).2
  have q0 := hq []
  rw [List.append_nil] at q0
  have la : ("enter" : Str) ≠ "answer" ∧ ("leave" : Str) ≠ "answer" ∧ ("send" : Str) ≠ "answer" ∧ ("reset" : Str) ≠ "answer" := by decide +kernel
  cases d with
  | ans k =>
    have hk : k < 3 := o
    have ea : ("answer " : Str).length = 7 := by decide +kernel
    have el : ("0" : Str).length = 1 ∧ ("1" : Str).length = 1 ∧ ("2" : Str).length = 1 := by decide +kernel
    have e2 : ("answer " : Str) = "answer" ++ " " := by decide +kernel
    have l2 : lnW (Td.ans k).ws = "answer" ++ " " ++ ansW k := lnW_two "answer" (ansW k)
    rw [l2, ← e2] at hq
    have q1 := hq [Ob.lst [T.str "0", T.str "1", T.str "2"]]
    have : k = 0 ∨ k = 1 ∨ k = 2 := by omega
    rcases this with rfl | rfl | rfl
    · simp [b__law_line, Td.t, b__law_line_1, show 3 ≤ sizeLine by omega, ea, el]
      exact q1
    · simp [b__law_line, Td.t, b__law_line_1, show 3 ≤ sizeLine by omega, ea, el]
      exact q1
    · simp [b__law_line, Td.t, b__law_line_1, show 3 ≤ sizeLine by omega, ea, el]
      exact q1
  | ent a b =>
    have ej := fun h => tup_join42 (ws := (Td.ent a b).ws) (by simp [Td.ws]) (fun w q => (hw w q).2) h
    simp [b__law_line, Td.t, la.1, b__law_line_2]
    show (joinT " " (tSs (Td.ent a b).ws) h).wp _ _
    rw [ej]
    simp
    exact q0
  | lea a =>
    have ej := fun h => tup_join42 (ws := (Td.lea a).ws) (by simp [Td.ws]) (fun w q => (hw w q).2) h
    simp [b__law_line, Td.t, la.2.1, b__law_line_2]
    show (joinT " " (tSs (Td.lea a).ws) h).wp _ _
    rw [ej]
    simp
    exact q0
  | snd =>
    have ej := fun h => tup_join42 (ws := Td.snd.ws) (by simp [Td.ws]) (fun w q => (hw w q).2) h
    simp [b__law_line, Td.t, la.2.2.1, b__law_line_2]
    show (joinT " " (tSs (Td.snd).ws) h).wp _ _
    rw [ej]
    simp
    exact q0
  | rst =>
    have ej := fun h => tup_join42 (ws := Td.rst.ws) (by simp [Td.ws]) (fun w q => (hw w q).2) h
    simp [b__law_line, Td.t, la.2.2.2, b__law_line_2]
    show (joinT " " (tSs (Td.rst).ws) h).wp _ _
    rw [ej]
    simp
    exact q0
theorem ok__law_fits42 {F : FF} (N : LNmE F._law_is_name) : FitsDW (defRun 2 (b__law_fits F)) := by
  intro h x Q E hx hq
  have hsz := sz
  simp [b__law_fits, e_split_sp (show x.length ≤ 1000000 by omega)]
  have hw : ShW (Txt.split x " ") := fun w hq => Nat.le_trans (split_len1 sep_ok.1 sp_256 w hq) hx
  have hne : Txt.split x " " ≠ [] := split_ne sep_ok.1 sp_256
  have q1 := hq [Ob.lst (tSs (Txt.split x " "))]
  have he : lstAt (h ++ [Ob.lst (tSs (Txt.split x " "))]) h.length = some (tSs (Txt.split x " ")) := lstAt_new
  generalize Txt.split x " " = ws at hw hne q1 he ⊢
  generalize h ++ [Ob.lst (tSs ws)] = g at q1 he ⊢
  generalize h.length = r at he ⊢
  obtain ⟨n1, n2, n3, n4, n5, n6, n7, n8, n9, m1, m2, m3, m4, m5, m6, m7, m8⟩ := lit42
  match ws, hne, he, q1, hw with
  | [a], _, he, q1, hw =>
    rw [rd_1] at q1
    by_cases h1 : a = "send"
    · simp [b__law_fits_1, he, h1, b__law_fits_2]
      simpa [h1] using q1
    by_cases h2 : a = "reset"
    · simp [b__law_fits_1, he, h2, b__law_fits_2]
      simpa [h2] using q1
    have q1 : Q (.bl false) g := by simpa [h1, h2] using q1
    simp [b__law_fits_1, he, h1, h2, b__law_fits_3, b__law_fits_4, b__law_fits_5, b__law_fits_6, b__law_fits_7]
    simp [q1]
  | [a, b], _, he, q1, hw =>
    have nb := N (h := g) (hw b (by simp))
    rw [rd_2] at q1
    by_cases h1 : a = "send"
    · have q1 : Q (.bl false) g := by simpa [h1, m1, m3] using q1
      simp [b__law_fits_1, he, h1, b__law_fits_2]
      exact q1
    by_cases h2 : a = "reset"
    · have q1 : Q (.bl false) g := by simpa [h2, m2, m4] using q1
      simp [b__law_fits_1, he, h2, b__law_fits_2]
      exact q1
    by_cases h3 : a = "answer"
    · simp [b__law_fits_1, he, h3, n1, n2, b__law_fits_3, b__law_fits_4, in_t3]
      simpa [h3] using q1
    by_cases h4 : a = "leave"
    · simp [b__law_fits_1, he, h4, n3, n4, n5, b__law_fits_3, b__law_fits_5, b__law_fits_6, nb]
      simpa [h4, n5] using q1
    have q1 : Q (.bl false) g := by simpa [h3, h4] using q1
    simp [b__law_fits_1, he, h1, h2, h3, h4, b__law_fits_3, b__law_fits_5, b__law_fits_7]
    simp [q1]
  | [a, b, c], _, he, q1, hw =>
    have nb := N (h := g) (hw b (by simp))
    have nc := N (h := g) (hw c (by simp))
    rw [rd_3] at q1
    by_cases h5 : a = "enter"
    · simp [b__law_fits_1, he, h5, n6, n7, n8, n9, b__law_fits_3, b__law_fits_5, b__law_fits_7, nb, nc]
      cases e1 : nmB b with
      | false => simpa [h5, e1] using q1
      | true => simpa [h5, e1] using q1
    have q1 : Q (.bl false) g := by simpa [h5] using q1
    by_cases h1 : a = "send"
    · simp [b__law_fits_1, he, h1, b__law_fits_2]
      exact q1
    by_cases h2 : a = "reset"
    · simp [b__law_fits_1, he, h2, b__law_fits_2]
      exact q1
    simp [b__law_fits_1, he, h1, h2, h5, b__law_fits_3, b__law_fits_4, b__law_fits_5, b__law_fits_6, b__law_fits_7]
    simp [q1]
  | a :: b :: c :: d :: e, _, he, q1, hw =>
    have q1 : Q (.bl false) g := q1
    simp [b__law_fits_1, he, b__law_fits_2, b__law_fits_3, b__law_fits_4, b__law_fits_5, b__law_fits_6, b__law_fits_7, show ¬ ((e.length : Int) + 1 + 1 + 1 + 1 = 1) by omega, show ¬ ((e.length : Int) + 1 + 1 + 1 + 1 = 2) by omega, show ¬ ((e.length : Int) + 1 + 1 + 1 + 1 = 3) by omega]
    simp [q1]
end LW
end

section
namespace LW
open PySem W3
theorem ok_read_deed42 {F : FF} (N : IsB F.is_name 0 nameB) : RdDW (defRun 5 (b_read_deed F)) := by
  intro h r ws Q E e hs hne hl hq
  have hsz := sz
  cases ws with
  | nil => exact absurd rfl hne
  | cons a rest =>
    rw [rd_gen] at hq
    have hc : cutT (T.str a :: rest.map T.str) (some 1) none = tSs rest := cut_from (T.str a :: rest.map T.str) 1
    simp [b_read_deed, e, b_read_deed_1]
    rw [hc]
    have q1 := fun z => hq ([Ob.lst (tSs rest)] ++ z)
    have hr : lstAt (h ++ [Ob.lst (tSs rest)]) h.length = some (tSs rest) := lstAt_new
    have e1 := lstAt_app [Ob.lst (tSs rest)] e
    simp only [← List.append_assoc] at q1
    generalize h ++ [Ob.lst (tSs rest)] = g at hr e1 q1 ⊢
    generalize h.length = r2 at hr ⊢
    have q0 := q1 []
    rw [List.append_nil] at q0
    clear q1 hq
    have hrl : rest.length ≤ 1000000 := by simp at hl; omega
    have last : ¬ ((a = "send" ∨ a = "reset") ∧ rest = []) → ¬ (a = "answer" ∧ rest.length = 1 ∧ (ansL.lookup (rest.headD "")).isSome = true) → ∀ m : Int, m = (if a = "enter" then 2 else 1) →
        (b_read_deed_7 F [some (.ref r), some (.str a), some (.ref r2), some (.int m), none] g).wp (FQ.df Q E) := by
      intro c1 c2 m hm
      unfold rdT42 at q0
      rw [if_neg c1, if_neg c2] at q0
      by_cases ce : (a = "enter" ∨ a = "leave") ∧ (rest.length : Int) = m
      · have c3 : (a = "enter" ∧ rest.length = 2) ∨ (a = "leave" ∧ rest.length = 1) := by
          by_cases ae : a = "enter"
          · rw [if_pos ae] at hm; exact .inl ⟨ae, by omega⟩
          · rw [if_neg ae] at hm; exact .inr ⟨ce.1.resolve_left ae, by omega⟩
        simp [b_read_deed_7, in_t2, hr, ce.1, ce.2]
        refine lcm_all (p := nmT) (ts := tSs rest) (szle (by simp; omega)) hr (fun x hx => ?_) ?_
        · obtain ⟨s, hw, rfl⟩ := List.mem_map.mp hx
          exact ⟨_, rfl, by simp [N (jd_w42 (hs s (.tail _ hw))), nameB]⟩
        · rw [all_nm]
          cases ca : rest.all nmB with
          | true =>
            rw [if_pos ⟨c3, ca⟩] at q0
            simp [b_read_deed_8, e1, show rest.length + 1 ≤ sizeLine by omega]
            exact q0
          | false =>
            rw [if_neg (fun z => by rw [ca] at z; cases z.2)] at q0
            simp [b_read_deed_9]
            exact q0
      · have q0 : Q .non g := by
          rw [if_neg] at q0
          · exact q0
          · rintro ⟨z | z, _⟩
            · exact ce ⟨.inl z.1, by rw [if_pos z.1] at hm; omega⟩
            · exact ce ⟨.inr z.1, by rw [if_neg (by rw [z.1]; exact lit42.2.2.2.2.2.2.2.2.2.2.2.2.2.2.2.2)] at hm; omega⟩
        simp [b_read_deed_7, in_t2, hr, b_read_deed_9]
        exact ⟨fun z => ⟨fun z2 => absurd ⟨z, z2⟩ ce, fun _ => q0⟩, fun _ _ => q0⟩
    have six : ¬ ((a = "send" ∨ a = "reset") ∧ rest = []) → ¬ (a = "answer" ∧ rest.length = 1 ∧ (ansL.lookup (rest.headD "")).isSome = true) → (b_read_deed_6 F [some (.ref r), some (.str a), some (.ref r2), none, none] g).wp (FQ.df Q E) := by
      intro c1 c2
      simp [b_read_deed_6]
      refine ⟨fun z => last c1 c2 2 (by rw [if_pos z]), fun z => last c1 c2 1 (by rw [if_neg z])⟩
    have four : ¬ ((a = "send" ∨ a = "reset") ∧ rest = []) → (b_read_deed_4 F [some (.ref r), some (.str a), some (.ref r2), none, none] g).wp (FQ.df Q E) := by
      intro c1
      by_cases ca : a = "answer"
      · by_cases cl : rest.length = 1
        · obtain ⟨b, rfl⟩ := List.length_eq_one_iff.mp cl
          cases q : ansL.lookup b with
          | some i =>
            have i1 : ∀ h, oNumIn [("0", 0), ("1", 1), ("2", 2)] (.str b) h = .ok (.bl true) h := fun h => by
              show Res.ok (T.bl (ansL.lookup b).isSome) h = _
              rw [q]; rfl
            have i2 : ∀ h, oNumIx [("0", 0), ("1", 1), ("2", 2)] (.str b) h = .ok (.int i) h := fun h => by
              show (match ansL.lookup b with | some i => Res.ok (T.int i) h | none => .stk) = _
              rw [q]
            have c2 : a = "answer" ∧ ([b] : List Str).length = 1 ∧ (ansL.lookup (([b] : List Str).headD "")).isSome = true := ⟨ca, rfl, by show (ansL.lookup b).isSome = true; rw [q]; rfl⟩
            unfold rdT42 at q0
            rw [if_neg c1, if_pos c2, show ansL.lookup (([b] : List Str).headD "") = some i from q] at q0
            simp [b_read_deed_4, hr, ca, i1, i2, b_read_deed_5, show 2 ≤ sizeLine by omega]
            rw [ca] at q0
            exact q0
          | none =>
            have i1 : ∀ h, oNumIn [("0", 0), ("1", 1), ("2", 2)] (.str b) h = .ok (.bl false) h := fun h => by
              show Res.ok (T.bl (ansL.lookup b).isSome) h = _
              rw [q]; rfl
            have s6 := six c1 (by rintro ⟨_, _, z⟩; rw [show ansL.lookup (([b] : List Str).headD "") = none from q] at z; cases z)
            rw [ca] at s6
            simp [b_read_deed_4, hr, ca, i1]
            exact s6
        · have s6 := six c1 (fun z => cl z.2.1)
          rw [ca] at s6
          simp [b_read_deed_4, ca, hr, show ¬ ((rest.length : Int) = 1) by omega]
          exact s6
      · simp [b_read_deed_4, ca]
        exact six c1 (fun z => ca z.1)
    simp [b_read_deed_2, in_t2, hr]
    refine ⟨fun ca => ⟨fun h0 => ?_, fun h0 => four (fun z => h0 z.2)⟩, fun x y => four (by rintro ⟨z | z, _⟩; exact x z; exact y z)⟩
    unfold rdT42 at q0
    rw [if_pos ⟨ca, h0⟩] at q0
    simp [b_read_deed_3, show 1 ≤ sizeLine by omega]
    exact q0
theorem ok_format_deeds42 {F : FF} (J : JoinTW F.joined) : FmtDW (defRun 3 (b_format_deeds F)) := by
  intro l ds h Q E e hl ho hq
  have hsz := sz
  simp [b_format_deeds, srcOf, e]
  refine wp_lc (s := .live l) (ts := ds.map Td.t) (szle (by rw [List.length_map]; omega)) (fun i acc h' => (∃ z, h' = h ++ z) ∧ acc = tSs ((ds.take i).map fun d => lnW d.ws)) (fun i acc h' q => ?_) ⟨⟨[], by simp⟩, by simp⟩ (fun i x acc h' hx q => ?_) (fun acc h' q => ?_)
  · obtain ⟨⟨z, rfl⟩, _⟩ := q
    exact lstAt_app z e
  · obtain ⟨⟨z, rfl⟩, rfl⟩ := q
    rw [List.getElem?_map] at hx
    cases ed : ds[i]? with
    | none => rw [ed] at hx; cases hx
    | some d =>
      rw [ed] at hx
      cases hx
      have od := ho d (List.mem_of_getElem? ed)
      obtain ⟨ts, et, tl, tm, tb⟩ := str_t od
      have hw := (ws_wd od).2
      refine ⟨_, rfl, ?_⟩
      rw [et]
      simp [srcOf]
      refine wp_lcm (s := .its ts) (ts := ts) strT42 (szle (by omega)) rfl (fun x hx => ⟨_, rfl, ?_⟩) ?_
      · simp [tb x hx]
      · rw [tm]
        simp
        rw [tup_join42 (ws3 d) (fun w q => (hw w q).2)]
        simp
        rw [List.take_succ, List.getElem?_map, ed]
        rfl
  · obtain ⟨⟨z, rfl⟩, rfl⟩ := q
    rw [List.length_map, List.take_length]
    simp
    refine J (ls := ds.map fun d => lnW d.ws) (by rw [← List.append_assoc, show h.length + z.length = (h ++ z).length by simp, lstAt_new]; unfold tSs; rw [List.map_map]) (by rw [List.length_map]; omega) (fun x hx => ?_) fun z2 => ?_
    · obtain ⟨d, hd, rfl⟩ := List.mem_map.mp hx
      have := (line_ln (ho d hd)).len
      omega
    · simp only [List.append_assoc]
      exact hq _
theorem ok_parse_deeds42 {F : FF} (Sp : SplitW F.split_lines) (Rd : RdDW F.read_deed) : PDW (defRun 5 (b_parse_deeds F)) := by
  rintro s h Q E ⟨hs, hrn, hsh⟩ he hq
  have hsz := sz
  have hle : s.length ≤ sizeLine := by omega
  have main : (s = "" ∨ s.cps.toList.getLast? = some 10) → (b_parse_deeds_2 F [some (.str s), none, none, none, none] h).wp (FQ.df Q E) := by
    intro hc
    have hfin : parseD s = parseDL 0 (rowsTx s) := if_pos hc
    have hne := rowsTx_ne s
    have ne0 : ∀ k, rowsTx s = k → k = rowsTx s := fun k e => e.symm
    simp [b_parse_deeds_2, b_parse_deeds_3]
    refine Sp (by omega) fun z x hx hrows => ?_
    have hf0 : lstAt (h ++ [Ob.lst []]) h.length = some [] := lstAt_new
    have hf := lstAt_app z hf0
    have fz0 : Fz h.length h (h ++ [Ob.lst []] ++ z) := by rw [List.append_assoc]; exact Fz.app (Nat.le_refl _) _
    have hxn : h.length < x := by simp at hx; omega
    generalize h ++ [Ob.lst []] ++ z = g at hrows hf fz0 ⊢
    obtain ⟨ls, hls, hll, hlw⟩ := hrows.ex
    generalize rowsTx s = rows at hfin hne hrn hsh hll hlw
    have hg := lstAt_lt hf
    generalize hn : h.length = n at hf fz0 hxn hg ⊢
    have fin : ∀ h', Fb n g h' → ∃ o, h' = h ++ o := fun h' f => by
      have := fz0.trans (f.fz (Nat.le_refl _) (by omega))
      rw [← hn] at this
      exact this.out
    simp [hls]
    rw [show ls.length = (ls.map T.ref).length by simp]
    refine wp_forEn (fun i σ h' => Fb n g h' ∧ ∃ (ds : List Td) (a b c : Option T), Rd42 rows i ds ∧ lstAt h' n = some (ds.map Td.t) ∧ σ = [some (.str s), some (.ref n), a, b, c]) (fun i σ h' q => ?_) ⟨⟨Nat.le_refl _, fun _ _ _ => rfl⟩, [], none, none, none, rd42_0 rows, hf, rfl⟩ (fun i y σ h' hy q => ?_) (fun σ h' q => ?_)
    · exact q.1.lst hls (by omega)
    · obtain ⟨fb, ds, a, b, c, rd, hd, rfl⟩ := q
      rw [List.getElem?_map] at hy
      cases e : ls[i]? with
      | none => rw [e] at hy; cases hy
      | some k =>
        rw [e] at hy
        cases hy
        have hi := (List.getElem?_eq_some_iff.mp e).1
        have er : rows[i]? = some (rows[i]'(by omega)) := List.getElem?_eq_getElem _
        generalize rows[i]'(by omega) = ws at er
        have hm := List.mem_of_getElem? er
        have k1 := hlw i k ws e er
        have wn := hne ws hm
        have kn : k ≠ n := by
          rintro rfl
          rw [hf] at k1
          cases ws with
          | nil => exact wn rfl
          | cons p q => cases k1
        have kw := fb.lst k1 kn
        refine ⟨_, by simp; rfl, ?_⟩
        simp [b_parse_deeds_4]
        refine Rd kw (hsh ws hm).1 wn (by have := (hsh ws hm).2; omega) fun z2 => ?_
        have fb2 : Fb n g (h' ++ z2) := ⟨Nat.le_trans fb.1 (by simp), fun j hj hjn => by rw [List.getElem?_append_left (Nat.lt_of_lt_of_le hj fb.1)]; exact fb.2 j hj hjn⟩
        have hd2 := lstAt_app z2 hd
        generalize h' ++ z2 = h2 at fb2 hd2 ⊢
        cases hr : rdD ws with
        | none =>
          have hp := rd42_bad rd er hr
          rw [hp] at hfin
          obtain ⟨o, eo⟩ := fin _ fb2
          have q1 := he _ hfin o
          rw [← eo, show (((i + 1 : Nat) : Int)) = (i : Int) + 1 by omega] at q1
          simp [tOD, b_parse_deeds_5, b_parse_deeds_6]
          exact q1
        | some d =>
          have rd2 := rd42_good rd er hr
          have hlt := lstAt_lt hd2
          have et : ∃ ts, d.t = .tup ts := by cases d <;> exact ⟨_, rfl⟩
          obtain ⟨ts, et⟩ := et
          have hil : ds.length < sizeLine := by rw [rd.2.1]; omega
          simp [tOD, et, b_parse_deeds_5, b_parse_deeds_7, hd2, hil]
          refine ⟨⟨by rw [List.length_set]; exact fb2.1, fun j hj hjn => by rw [List.getElem?_set_ne (fun e => hjn e.symm)]; exact fb2.2 j hj hjn⟩, ds ++ [d], rd2, ?_⟩
          rw [lstAt_set_self hlt, List.map_append, List.map_cons, et]
          rfl
    · obtain ⟨fb, ds, a, b, c, rd, hd, rfl⟩ := q
      rw [List.length_map, hll] at rd
      rw [rd42_end rd] at hfin
      obtain ⟨o, rfl⟩ := fin _ fb
      simp [b_parse_deeds_8]
      subst hn
      exact hq ds hfin o hd
  simp [b_parse_deeds, hle]
  refine ⟨fun h0 => main (.inl h0), fun h0 => ?_⟩
  have hne : s.cps.toList ≠ [] := by
    intro z
    exact h0 (TL.ext_tl (by rw [em_tl]; exact z))
  rw [atI_last hne]
  have hn10 : (⟨#[10]⟩ : Str) = "\n" := by decide +kernel
  cases hend : s.cps.toList.getLast? with
  | none => exact absurd (List.getLast?_eq_none_iff.mp hend) hne
  | some c =>
    by_cases hc : c = 10
    · subst hc
      simp [hn10]
      exact main (.inr hend)
    · have hp : parseD s = .inl 0 := by
        unfold parseD
        rw [if_neg]
        rintro (z | z)
        · exact h0 z
        · rw [hend] at z; injection z with z; exact hc z
      have : (⟨#[c]⟩ : Str) ≠ "\n" := by
        rw [← hn10]
        intro z
        injection z with z
        have z := congrArg Array.toList z
        simp at z
        exact hc z
      have q1 := he 0 hp []
      rw [List.append_nil] at q1
      simp [this, b_parse_deeds_1]
      exact q1
theorem xs_text42 : XS.lookup ("InvalidText" : Str) = some (["InvalidText", "ShownError"] : List Str) := by decide +kernel
theorem ss_text42 : decide (("ShownError" : Str) ∈ ssOf XS "InvalidText") = true := by decide +kernel
theorem ok__law_told42 {F : FF} (Pr : PDW F.parse_deeds) (Fo : FmtDW F.format_deeds) : ToldW42 (defRun 3 (b__law_told F)) := by
  intro s h Q E hs h1 h2
  have hsz := sz
  simp [b__law_told, b__law_told_1]
  refine Pr hs (fun k e o => ?_) (fun ds e z hz => ?_)
  · simp
    rw [try_hit xs_text42 (by decide +kernel)]
    simp [slSet, show 3 ≤ sizeLine by omega, clrF, ss_text42]
    exact h1 k e o
  · obtain ⟨e1, e2, e3⟩ := fmt_parseD e
    have ek : oIsK Kd.list (.ref h.length) (h ++ z) = .ok (.bl true) (h ++ z) := LstT.isK (.inl ⟨_, rfl, hz⟩) .list
    simp [b__law_told_2, ek, b__law_told_4]
    have hn : ds.length ≤ 1000 := by
      have := hs.rows
      rw [← e3, List.length_map] at this
      exact this
    refine Fo hz hn e2 fun z2 => ?_
    simp [show 3 ≤ sizeLine by omega]
    rw [e1]
    exact h2 ds e _
end LW
end

section
namespace LW
open PySem W3
theorem ok__law_spoiled42 {F : FF} (D : DrawW F._law_draw) : SpoilW42 (defRun 6 (b__law_spoiled F)) := by
  intro h l r m ls Q E hb e hl hm hls hq
  have hsz := sz
  have hrl := box_ne hb e
  simp [b__law_spoiled, e]
  refine D hb (by omega) (by omega) fun a h1 a0 a1 u1 => ?_
  have e1 := u1.lst e hrl
  simp [b__law_spoiled_1]
  refine D u1.box (by omega) (by omega) fun k h3 k0 k1 u3 => ?_
  simp [b__law_spoiled_2, b__law_spoiled_3, b__law_spoiled_4, show 9 ≤ sizeLine by omega, show 17 ≤ sizeLine by omega, show 21 ≤ sizeLine by omega]
  have e3 := u3.lst e1 hrl
  have b3 := u3.box
  have up3 := u1.up u3
  have hl3 := b3.lt
  have hL : lstAt (h3 ++ [Ob.lst (tSs M42)]) h3.length = some (tSs M42) := lstAt_new
  have key : ∀ (z : Hh), (b__law_spoiled_5 F [some (.ref l), some (.ref r), some (.int a), some (.int k), some (.ref h3.length), none] ((h3 ++ [Ob.lst (tSs M42)]) ++ z)).wp (FQ.df Q E) := by
    intro z
    have e4 := lstAt_app z (lstAt_app [Ob.lst (tSs M42)] e3)
    have hL4 := lstAt_app z hL
    have b4 := (b3.app [Ob.lst (tSs M42)]).app z
    have up4 := (up3.up (Up.app b3 [Ob.lst (tSs M42)])).up (Up.app (b3.app [Ob.lst (tSs M42)]) z)
    have hml : h3.length ≠ l := by omega
    generalize h3.length = mm at hL4 hml ⊢
    generalize h3 ++ [Ob.lst (tSs M42)] ++ z = h4 at e4 hL4 b4 up4 ⊢
    obtain ⟨i, rfl⟩ : ∃ i : Nat, a = i := ⟨a.toNat, by omega⟩
    obtain ⟨kk, rfl⟩ : ∃ i : Nat, k = i := ⟨k.toNat, by omega⟩
    have hi : i ≤ ls.length := by omega
    have hc1 := cut_n1 ls i
    have hc2 := cut_n2 ls (i + 1)
    have hc3 := cut_n2 ls i
    have hck := cut_n2 ls (i + kk)
    have hco : cutT (tSs ls) (some (i : Int)) (some ((i : Int) + 1)) = tSs ((ls.drop i).take 1) := by
      rw [cut_one]
      unfold tSs
      rw [List.map_take, List.map_drop]
    rw [show ((i + 1 : Nat) : Int) = (i : Int) + 1 by omega] at hc2
    rw [show ((i + kk : Nat) : Int) = (i : Int) + (kk : Int) by omega] at hck
    have big : ∀ x ∈ ls, LnN (2 * m + 20) x := fun x hx => (hls x hx).mono (by omega)
    have fin : ∀ (r' : Nat) (h' : Hh) (mid : List Str) (q : Nat), lstAt h' r' = some (tSs (ls.take i ++ (mid ++ ls.drop q))) → mid.length + i ≤ q + 1 → mid.length ≤ 1 → i ≤ q → (∀ x ∈ mid, LnN (2 * m + 20) x) → Up l h h' → Q (.ref r') h' := by
      intro r' h' mid q e h1 h1' h2 hw u
      refine hq r' _ h' e ?_ (fun x hx => ?_) u
      · rw [List.length_append, List.length_take, List.length_append, List.length_drop]
        omega
      · rcases List.mem_append.mp hx with z | z
        · exact big x (List.mem_of_mem_take z)
        · rcases List.mem_append.mp z with z | z
          · exact hw x z
          · exact big x (List.mem_of_mem_drop z)
    have ht : ∀ p, List.take p (List.map T.str ls) = tSs (ls.take p) := fun p => by unfold tSs; rw [List.map_take]
    have hp : lstAt (h4 ++ [Ob.lst (tSs (ls.take i))]) h4.length = some (tSs (ls.take i)) := lstAt_new
    have e5 := lstAt_app [Ob.lst (tSs (ls.take i))] e4
    have hL5 := lstAt_app [Ob.lst (tSs (ls.take i))] hL4
    have up5 := up4.up (Up.app b4 [Ob.lst (tSs (ls.take i))])
    have b5 := b4.app [Ob.lst (tSs (ls.take i))]
    have hpl : h4.length ≠ l := by have := b4.lt; omega
    simp [b__law_spoiled_5]
    refine ⟨fun c0 => ?_, fun c0 => ?_⟩
    · simp [b__law_spoiled_6, e4, hc1]
      rw [ht]
      generalize h4 ++ [Ob.lst (tSs (ls.take i))] = h5 at hp e5 hL5 up5 b5 ⊢
      generalize h4.length = pp at hp hpl ⊢
      simp [hL5]
      refine D b5 (by show (0 : Int) < 21; omega) (by show (21 : Int) < _; omega) fun d2 h6 d20 d21 u6 => ?_
      obtain ⟨w, ew, hw⟩ := atI_map T.str (xs := M42) d20 d21
      have hw2 := (M42_ln w hw).mono (show 20 ≤ 2 * m + 20 by omega)
      have hp6 := u6.lst hp hpl
      have e6 := u6.lst e5 hrl
      have hL6 := u6.lst hL5 hml
      have up6 := up5.up u6
      have b6 := u6.box
      have ew : L2.atI (tSs M42) d2 = some (.str w) := ew
      simp [hL6, ew, fun z => lstAt_app z hp6, fun z => lstAt_app z e6, hck]
      refine ⟨fun _ => ⟨fun _ => ?_, by omega⟩, by omega⟩
      refine fin _ _ [w] (i + kk) ?_ (by simp; omega) (by simp) (by omega) (fun x hx => by rw [List.mem_singleton] at hx; subst hx; exact hw2) (up6.up (Up.app b6 _))
      rw [show ∀ (o1 o2 o3 o4 : Ob), h6 ++ [o1, o2, o3, o4] = (h6 ++ [o1, o2, o3]) ++ [o4] from fun _ _ _ _ => by simp, show h6.length + 3 = (h6 ++ [Ob.lst [T.str w], Ob.lst (List.take i (List.map T.str ls) ++ [T.str w]), Ob.lst (List.drop (i + kk) (List.map T.str ls))]).length by simp, lstAt_new]
      unfold tSs
      simp
    simp [b__law_spoiled_7]
    refine ⟨fun c1 => ?_, fun c1 => ?_⟩
    · simp [b__law_spoiled_8, e4, hc1, hc2, fun z => lstAt_app z e4]
      refine ⟨fun _ => ?_, by omega⟩
      refine fin _ _ [] (i + 1) ?_ (by simp; omega) (by simp) (by omega) (fun x hx => by cases hx) (up4.up (Up.app b4 _))
      rw [show ∀ (o p q : Ob), h4 ++ [o, p, q] = (h4 ++ [o, p]) ++ [q] from fun o p q => by simp, show ∀ (o p : Ob), h4.length + 2 = (h4 ++ [o, p]).length from fun o p => by simp, lstAt_new]
      · unfold tSs
        simp
    simp [b__law_spoiled_9]
    refine ⟨fun c2 => ?_, fun c2 => ?_⟩
    · simp [b__law_spoiled_10, e4, hc1, hco, hc3, fun z => lstAt_app z e4]
      refine ⟨fun _ => ⟨fun _ => ?_, by omega⟩, by omega⟩
      refine fin _ _ ((ls.drop i).take 1) i ?_ (by simp; omega) (by simp; omega) (by omega) (fun x hx => big x (List.mem_of_mem_drop (List.mem_of_mem_take hx))) (up4.up (Up.app b4 _))
      rw [show ∀ (o1 o2 o3 o4 o5 : Ob), h4 ++ [o1, o2, o3, o4, o5] = (h4 ++ [o1, o2, o3, o4]) ++ [o5] from fun _ _ _ _ _ => by simp, show ∀ (o1 o2 o3 o4 : Ob), h4.length + 4 = (h4 ++ [o1, o2, o3, o4]).length from fun _ _ _ _ => by simp, lstAt_new]
      · unfold tSs
        simp
    simp [b__law_spoiled_11]
    refine ⟨fun c3 => ?_, fun c3 => ?_⟩
    · simp [b__law_spoiled_12, e4, hc1, hco, hc2, fun z => lstAt_app z e4]
      have ls2 : ("  " : Str).length = 2 := by decide +kernel
      have hS : (ls.drop i).take 1 = (ls.drop i).take 1 := rfl
      rw [ht, show List.take 1 (List.drop i (List.map T.str ls)) = tSs ((ls.drop i).take 1) by unfold tSs; rw [List.map_take, List.map_drop]]
      have lS : ((ls.drop i).take 1).length ≤ 1 := by rw [List.length_take]; omega
      have lS2 : ((ls.drop i).take 1).length + i ≤ ls.length := by rw [List.length_take, List.length_drop]; omega
      have mS : ∀ x ∈ (ls.drop i).take 1, LnN m x := fun x hx => hls x (List.mem_of_mem_drop (List.mem_of_mem_take hx))
      generalize (ls.drop i).take 1 = S at lS lS2 mS ⊢
      have hSl : lstAt (h4 ++ [Ob.lst (tSs (ls.take i)), Ob.lst (tSs S)]) (h4.length + 1) = some (tSs S) := by
        rw [show ∀ (o p : Ob), h4 ++ [o, p] = (h4 ++ [o]) ++ [p] from fun o p => by simp, show ∀ (o : Ob), h4.length + 1 = (h4 ++ [o]).length from fun o => by simp, lstAt_new]
      refine wp_lcm (s := .live (h4.length + 1)) (ts := tSs S) repT42 (szle (by simp; omega)) hSl (fun x hx => ?_) ?_
      · obtain ⟨s, hs2, rfl⟩ := List.mem_map.mp hx
        have := (mS s hs2).len
        exact ⟨_, rfl, by simp [repT42, show s.length + (s.length + 1) * ("  " : Str).length ≤ 16777216 by rw [ls2]; omega]⟩
      · rw [rep_map42]
        generalize hR : (S.map fun s => Txt.replace s " " "  ") = R
        have lR : R.length = S.length := by rw [← hR, List.length_map]
        have mR : ∀ x ∈ R, LnN (2 * m + 20) x := by
          intro x hx
          rw [← hR] at hx
          obtain ⟨s, hs2, rfl⟩ := List.mem_map.mp hx
          exact (mS s hs2).dbl.mono (by omega)
        have e7 : lstAt (h4 ++ [Ob.lst (tSs (ls.take i)), Ob.lst (tSs S), Ob.lst (tSs R)]) r = some (tSs ls) := lstAt_app _ e4
        simp [fun z => lstAt_app z e4, hc2]
        refine ⟨fun _ => ⟨fun _ => ?_, by omega⟩, by omega⟩
        refine fin _ _ R (i + 1) ?_ (by omega) (by omega) (by omega) mR (up4.up (Up.app b4 _))
        rw [show ∀ (o1 o2 o3 o4 o5 o6 : Ob), h4 ++ [o1, o2, o3, o4, o5, o6] = (h4 ++ [o1, o2, o3, o4, o5]) ++ [o6] from fun _ _ _ _ _ _ => by simp, show ∀ (o1 o2 o3 o4 o5 : Ob), h4.length + 5 = (h4 ++ [o1, o2, o3, o4, o5]).length from fun _ _ _ _ _ => by simp, lstAt_new]
        · unfold tSs
          simp
    simp [b__law_spoiled_13]
    exact hq r ls h4 e4 (by omega) big up4
  have := key [Ob.lst (tSs ["reset now", "Send", " send", "send ", "leave a b", "enter a b", "answer -1", "leave send"]), Ob.lst (tSs ["answer yes", "leave\ta", "send\t", "enter a\tb"])]
  rw [List.append_assoc] at this
  exact this
end LW
end

section
namespace LW
open PySem W3
theorem ok_law42 {F : FF} (B : BoxW F._law_box) (D : DrawW F._law_draw) (De : DdDW F._law_deed) (Ln : LineDW F._law_line) (Fo : FmtDW F.format_deeds) (Pr : PDW F.parse_deeds) (Fi : FitsDW F._law_fits) (Sp : SpoilW42 F._law_spoiled) (To : ToldW42 F._law_told) (Sa : SameW 7 F._law_same)
    {ns : List Int} (hns : ns.length ≤ 63) : (defRun 12 (b_law F) [.fl (ns.map T.int)] []).wp (fun a _ => a = .bl true) noE := by
  have hsz := sz
  simp [wp_defRun, b_law]
  refine B hns fun l h0 bx0 _ _ _ => ?_
  simp [b_law_1]
  refine D bx0 (by omega) (by omega) fun en h1 _ _ u1 => ?_
  simp [b_law_2]
  refine D u1.box (by omega) (by omega) fun mn h2 m0 m1 u2 => ?_
  have bx2 := u2.box
  simp
  rw [e_rng (by omega) (by omega)]
  simp
  refine wp_lc (s := .its (rangeT 0 mn.toNat)) (ts := rangeT 0 mn.toNat) (szle (by rw [range_length]; omega)) (fun i acc h' => IsBox h' l ∧ ∃ ds : List Td, ds.length = i ∧ (∀ d ∈ ds, d.ok) ∧ acc = ds.map Td.t) (fun _ _ _ _ => rfl) ⟨bx2, [], rfl, by simp, rfl⟩ (fun i x acc h' hx q => ?_) (fun acc h3 q => ?_)
  · obtain ⟨bx, ds, hl, ho, rfl⟩ := q
    obtain ⟨rfl, hi⟩ := range_at hx
    refine ⟨_, rfl, ?_⟩
    simp
    refine De bx fun d h4 od u4 => ?_
    refine ⟨u4.box, ds ++ [d], by simp [hl], fun y hy => ?_, by simp⟩
    rcases List.mem_append.mp hy with z | z
    · exact ho y z
    · rw [List.mem_singleton] at z; subst z; exact od
  obtain ⟨bx3, ds, hl, ho, rfl⟩ := q
  rw [range_length] at hl
  have hd40 : ds.length ≤ 40 := by omega
  simp [b_law_3]
  have hd4 : lstAt (h3 ++ [Ob.lst (ds.map Td.t)]) h3.length = some (ds.map Td.t) := lstAt_new
  have bx4 := bx3.app [Ob.lst (ds.map Td.t)]
  generalize h3 ++ [Ob.lst (ds.map Td.t)] = h4 at hd4 bx4 ⊢
  generalize h3.length = a3 at hd4 ⊢
  refine wp_lc (s := .live a3) (ts := ds.map Td.t) (szle (by rw [List.length_map]; omega)) (fun i acc h' => (∃ z, h' = h4 ++ z) ∧ acc = tSs ((ds.take i).map fun d => lnW d.ws)) (fun i acc h' q => ?_) ⟨⟨[], by simp⟩, by simp⟩ (fun i x acc h' hx q => ?_) (fun acc h' q => ?_)
  · obtain ⟨⟨z, rfl⟩, _⟩ := q
    exact lstAt_app z hd4
  · obtain ⟨⟨z, rfl⟩, rfl⟩ := q
    rw [List.getElem?_map] at hx
    cases ed : ds[i]? with
    | none => rw [ed] at hx; cases hx
    | some d =>
      rw [ed] at hx
      cases hx
      refine ⟨_, rfl, ?_⟩
      simp
      refine Ln (ho d (List.mem_of_getElem? ed)) fun z2 => ?_
      refine ⟨⟨z ++ z2, by simp⟩, ?_⟩
      rw [List.take_succ, List.getElem?_map, ed]
      simp
  obtain ⟨⟨z, rfl⟩, rfl⟩ := q
  rw [List.length_map, List.take_length]
  have hln : ∀ x ∈ ds.map (fun d => lnW d.ws), LnN 26 x := fun x hx => by
    obtain ⟨d, hd, rfl⟩ := List.mem_map.mp hx
    exact line_ln (ho d hd)
  have hll : (ds.map fun d => lnW d.ws).length = ds.length := by rw [List.length_map]
  have htx : txL (ds.map fun d => lnW d.ws) = fmtD ds := rfl
  have tok : TxOk (fmtD ds) := (tx_whole (m := 26) (by omega) (by rw [hll]; omega) hln).1
  have tlen : (fmtD ds).length ≤ 510 * 901 := (tx_whole (m := 26) (by omega) (by rw [hll]; omega) hln).2
  generalize ds.map (fun d => lnW d.ws) = ls0 at hln hll htx ⊢
  have hd5 := lstAt_app [Ob.lst (tSs ls0)] (lstAt_app z hd4)
  have hl5 : lstAt (h4 ++ z ++ [Ob.lst (tSs ls0)]) (h4 ++ z).length = some (tSs ls0) := lstAt_new
  have bx5 := (bx4.app z).app [Ob.lst (tSs ls0)]
  simp
  rw [← List.append_assoc, show h4.length + z.length = (h4 ++ z).length by simp]
  generalize h4 ++ z ++ [Ob.lst (tSs ls0)] = h5 at hd5 hl5 bx5 ⊢
  generalize (h4 ++ z).length = a5 at hl5 ⊢
  simp [b_law_4, srcOf, hl5]
  refine wp_lcm (s := .live a5) (ts := tSs ls0) nlT (szle (by simp; omega)) hl5 (fun x hx => ?_) ?_
  · obtain ⟨s, hs, rfl⟩ := List.mem_map.mp hx
    have := (hln s hs).len
    exact ⟨_, rfl, by simp [lits_len.2.2.1, show s.length + 1 ≤ sizeLine by omega]⟩
  rw [nl_map]
  have ej := join_nl42 (ls := ls0) (by omega) (fun x hx => by have := (hln x hx).len; omega)
  rw [htx] at ej
  generalize (ls0.map fun s => s ++ ("\n" : Str)) = L at ej ⊢
  simp
  rw [ej]
  simp
  have hd6 := lstAt_app [Ob.lst (tSs L)] hd5
  have hl6 := lstAt_app [Ob.lst (tSs L)] hl5
  have bx6 := bx5.app [Ob.lst (tSs L)]
  generalize h5 ++ [Ob.lst (tSs L)] = h6 at hd6 hl6 bx6 ⊢
  simp [b_law_5, hd6]
  have hp7 : lstAt (h6 ++ [Ob.lst (ds.map Td.t)]) h6.length = some (ds.map Td.t) := lstAt_new
  have hd7 := lstAt_app [Ob.lst (ds.map Td.t)] hd6
  have hl7 := lstAt_app [Ob.lst (ds.map Td.t)] hl6
  have bx7 := bx6.app [Ob.lst (ds.map Td.t)]
  generalize h6 ++ [Ob.lst (ds.map Td.t)] = h7 at hp7 hd7 hl7 bx7 ⊢
  generalize h6.length = a9 at hp7 ⊢
  have same1 : ∀ h, F._law_same [.str (fmtD ds), .str (fmtD ds)] h = .ok (.bl true) h := fun h => Sa (PureT.same (pure_flat rfl))
  simp [b_law_6]
  refine Fo hp7 (by omega) ho fun z8 => ?_
  have hp8 := lstAt_app z8 hp7
  have hd8 := lstAt_app z8 hd7
  have hl8 := lstAt_app z8 hl7
  have bx8 := bx7.app z8
  simp
  generalize h7 ++ z8 = h8 at hp8 hd8 hl8 bx8 ⊢
  have sm8 : F._law_same [.ref a9, .ref a3] h8 = .ok (.bl true) h8 := Sa (td_same hp8 hd8 (by omega))
  simp [same1, sm8, b_law_8]
  refine Pr tok (fun k e => by rw [parse_fmtD ho] at e; cases e) (fun ds' e z9 hz9 => ?_)
  rw [parse_fmtD ho] at e
  cases e
  have kp9 := Up.app bx8 z9
  have hd9 := lstAt_app z9 hd8
  have hl9 := lstAt_app z9 hl8
  have la3 := lstAt_lt hd8
  have la5 := lstAt_lt hl8
  generalize h8 ++ z9 = h9 at hz9 hd9 hl9 kp9 ⊢
  have sm9 : F._law_same [.ref h8.length, .ref a3] h9 = .ok (.bl true) h9 := Sa (td_same hz9 hd9 (by omega))
  simp [b_law_9, sm9, b_law_11, hz9, show ds.length < sizeLine by omega]
  have bx10 := (kp9.set (k := h8.length) (Ob.lst (ds.map Td.t ++ [T.str "changed"])) bx8 (Nat.le_refl _) (Nat.le_refl _)).box
  have hd10 : lstAt (h9.set h8.length (Ob.lst (ds.map Td.t ++ [T.str "changed"]))) a3 = some (ds.map Td.t) := by rw [lstAt_other (by omega)]; exact hd9
  have hl10 : lstAt (h9.set h8.length (Ob.lst (ds.map Td.t ++ [T.str "changed"]))) a5 = some (tSs ls0) := by rw [lstAt_other (by omega)]; exact hl9
  generalize h9.set h8.length (Ob.lst (ds.map Td.t ++ [T.str "changed"])) = h10 at bx10 hd10 hl10 ⊢
  generalize h8.length = a10 at *
  simp [b_law_12]
  refine Pr tok (fun k e => by rw [parse_fmtD ho] at e; cases e) (fun ds' e z11 hz11 => ?_)
  rw [parse_fmtD ho] at e
  cases e
  have hd11 := lstAt_app z11 hd10
  have hl11 := lstAt_app z11 hl10
  have bx11 := bx10.app z11
  have sm11 : F._law_same [.ref h10.length, .ref a3] (h10 ++ z11) = .ok (.bl true) (h10 ++ z11) := Sa (td_same hz11 hd11 (by omega))
  simp [sm11]
  generalize h10 ++ z11 = h11 at bx11 hd11 hl11 ⊢
  clear sm11 sm9 sm8
  simp [b_law_14]
  refine wp_for (s := .its (rangeT 0 2)) (ts := rangeT 0 2) (Lp42 ns l (some (.int en)) (some (.ref a3)) (some (.str (fmtD ds))) (some (.ref a9)) (some (.ref a10))) (fun i σ h' q => rfl) ⟨bx11, a5, ls0, none, hl11, by omega, hln, rfl⟩ (fun i x σ h' hx q => ?_) (fun σ h' q => ?_)
  · obtain ⟨bx, y, ls, a4, hy, hyl, hyn, rfl⟩ := q
    obtain ⟨rfl, hi⟩ := range_at hx
    refine ⟨_, rfl, ?_⟩
    have hm : mC i ≤ 72 := by
      have : i = 0 ∨ i = 1 := by omega
      rcases this with rfl | rfl <;> decide
    simp [b_law_15]
    refine Sp bx hy (by omega) (by omega) hyn fun r' ls' h8 hy8 hl8 hn8 u8 => ?_
    simp
    exact ⟨u8.box, r', ls', _, hy8, by omega, hn8, rfl⟩
  · obtain ⟨bx, y, ls, a4, hy, hyl, hyn, rfl⟩ := q
    rw [range_length] at hyl hyn
    have hyn : ∀ x ∈ ls, LnN 164 x := hyn
    clear bx hd11 hl11 hd10 hl10 hd9 hl9 hd8 hl8 hd7 hl7 hd6 hl6 hd5 hl5 hz11 hz9 hp8 hp7
    obtain ⟨tw, twl⟩ := tx_whole (m := 164) (by omega) (show ls.length ≤ 510 by omega) hyn
    have ts := tx_send (m := 164) (by omega) (show ls.length ≤ 510 by omega) hyn
    have pw := parseD_whole hyn
    have ps := parseD_send ls
    simp [b_law_16, srcOf, hy]
    refine wp_lcm (s := .live y) (ts := tSs ls) nlT (szle (by simp; omega)) hy (fun x hx => ?_) ?_
    · obtain ⟨s, hs, rfl⟩ := List.mem_map.mp hx
      have := (hyn s hs).len
      exact ⟨_, rfl, by simp [lits_len.2.2.1, show s.length + 1 ≤ sizeLine by omega]⟩
    rw [nl_map]
    have ej := join_nl42 (ls := ls) (by omega) (fun x hx => by have := (hyn x hx).len; omega)
    generalize (ls.map fun s => s ++ ("\n" : Str)) = L at ej ⊢
    simp
    rw [ej]
    simp
    have hy2 := lstAt_app [Ob.lst (tSs L)] hy
    generalize h' ++ [Ob.lst (tSs L)] = h12 at hy2 ⊢
    have rest : ∀ (s : Str), TxOk s → (en = 0 → parseD s = .inl 0) → (en ≠ 0 → parseD s = parseDL 0 (ls.map fun l => Txt.split l " ")) →
        (b_law_19 F [some (.fl (ns.map T.int)), some (.ref l), some (.int en), some (.ref a3), a4, some (.ref y), none, some (.str s), none, some (.ref a9), some (.ref a10), none] h12).wp (FQ.df (fun a x => a = .bl true) noE) := by
      intro s hs p0 p1
      simp [b_law_19, show 3 ≤ sizeLine by omega, b_law_20, hy2, show (ls.length : Int) ≤ 1000000 by omega, show (-1 : Int) ≤ ls.length by omega]
      refine wp_for (s := .its (rangeT 0 ls.length)) (ts := rangeT 0 ls.length) (Du42 h12 ls s y (some (.fl (ns.map T.int))) (some (.ref l)) (some (.int en)) (some (.ref a3)) (some (.ref a9)) (some (.ref a10))) (fun i σ h' q => rfl) ⟨⟨[], by simp⟩, _, a4, .inl ⟨[], rd42_0 _, rfl⟩, rfl⟩ (fun i x σ h' hx q => ?_) (fun σ h' q => ?_)
      · obtain ⟨⟨z, rfl⟩, due, b4, hdue, rfl⟩ := q
        obtain ⟨rfl, hi⟩ := range_at hx
        have el : ls[i]? = some ls[i] := List.getElem?_eq_getElem hi
        have lx := hyn _ (List.mem_of_getElem? el)
        generalize ls[i] = w at el lx
        have eat : L2.atI (tSs ls) (i : Int) = some (.str w) := atI_nat (by unfold tSs; rw [List.getElem?_map, el]; rfl)
        have er : (ls.map fun l => Txt.split l " ")[i]? = some (Txt.split w " ") := by rw [List.getElem?_map, el]; rfl
        have hy3 := lstAt_app z hy2
        refine ⟨_, rfl, ?_⟩
        have nlt : ("line" : Str) ≠ "text" := by decide +kernel
        rcases hdue with ⟨ds2, hr2, rfl⟩ | ⟨e, he, rfl⟩
        · simp [b_law_21, hy3, eat]
          refine Fi (by have := lx.len; omega) fun z2 => ?_
          cases hf : rdD (Txt.split w " ") with
          | some d =>
            simp
            exact ⟨⟨z ++ z2, by simp⟩, _, _, .inl ⟨_, rd42_good hr2 er hf, rfl⟩, rfl⟩
          | none =>
            simp [b_law_22, show 3 ≤ sizeLine by omega]
            refine ⟨⟨z ++ z2, by simp⟩, _, _, .inr ⟨i + 1, rd42_bad hr2 er hf, ?_⟩, rfl⟩
            rw [show (((i + 1 : Nat) : Int)) = (i : Int) + 1 by omega]
        · simp [b_law_21, nlt]
          exact ⟨⟨z, rfl⟩, _, _, .inr ⟨e, he, rfl⟩, rfl⟩
      · obtain ⟨⟨z, rfl⟩, due, b4, hdue, rfl⟩ := q
        rw [range_length] at hdue
        have fin : ∀ (v : T) (h' : Hh), PureT 7 v → F._law_same [v, v] h' = .ok (.bl true) h' := fun v h' p => Sa p.same
        have pl : ∀ e : Nat, PureT 7 (.tup [.str "line", .int (e : Nat), .bl true]) := fun e => tup_pure _ _ _ rfl rfl rfl
        have pt : PureT 7 (.tup [.str "text", .str s, .bl true]) := tup_pure _ _ _ rfl rfl rfl
        have told : ∀ (due : T) (σ2 : St3) (h2 : Hh), (∀ k, parseD s = .inl k → due = .tup [.str "line", .int (k : Nat), .bl true]) → (∀ ds, parseD s = .inr ds → due = .tup [.str "text", .str s, .bl true]) → 
            (b_law_25 F [some (.fl (ns.map T.int)), some (.ref l), some (.int en), some (.ref a3), b4, some (.ref y), none, some (.str s), none, some (.ref a9), some (.ref a10), some due] h2).wp (FQ.df (fun a x => a = .bl true) noE) := by
          intro due σ2 h2 d1 d2
          simp [b_law_25]
          refine To hs (fun k e z3 => ?_) (fun ds e z3 => ?_)
          · rw [d1 k e]
            simp [fin _ _ (pl k)]
          · rw [d2 ds e]
            simp [fin _ _ pt]
        simp [b_law_23]
        refine ⟨fun c => ?_, fun c => ?_⟩
        · simp [b_law_24, show 3 ≤ sizeLine by omega]
          refine told _ [] _ (fun k e => ?_) (fun ds e => ?_)
          · rw [p0 c] at e; cases e; rfl
          · rw [p0 c] at e; cases e
        · refine told _ [] _ (fun k e => ?_) (fun ds e => ?_)
          · rw [p1 c] at e
            rcases hdue with ⟨ds2, hr2, rfl⟩ | ⟨e2, he, rfl⟩
            · have := rd42_end (rows := ls.map fun l => Txt.split l " ") (by rw [List.length_map]; exact hr2)
              rw [this] at e; cases e
            · rw [he] at e; cases e; rfl
          · rw [p1 c] at e
            rcases hdue with ⟨ds2, hr2, rfl⟩ | ⟨e2, he, rfl⟩
            · rfl
            · rw [he] at e; cases e
    simp [b_law_17]
    refine ⟨fun c => ?_, fun c => ?_⟩
    · simp [b_law_18, show (txL ls).length + ("send" : Str).length ≤ sizeLine by rw [send_tl.2.1]; omega]
      exact rest _ ts (fun _ => ps) (fun z => absurd c z)
    · exact rest _ tw (fun z => absurd z c) (fun _ => pw)
end LW
end

section
namespace LW
open PySem W3
theorem s__law_mix : ∀ k, MixW (runF (k + 1))._law_mix := fun k => ok_mix (F := runF (k + 0)) 
theorem s__law_box : ∀ k, BoxW (runF (k + 2))._law_box := fun k => ok_box (F := runF (k + 1)) (s__law_mix (k + 0))
theorem s__law_draw : ∀ k, DrawW (runF (k + 2))._law_draw := fun k => ok_draw (F := runF (k + 1)) (s__law_mix (k + 0))
theorem s__law_name : ∀ k, NmDW (runF (k + 3))._law_name := fun k => ok__law_name42 (F := runF (k + 2)) (s__law_draw (k + 0))
theorem s__law_deed : ∀ k, DdDW (runF (k + 4))._law_deed := fun k => ok__law_deed42 (F := runF (k + 3)) (s__law_draw (k + 1)) (s__law_name (k + 0))
theorem s__law_line : ∀ k, LineDW (runF (k + 1))._law_line := fun k => ok__law_line42 (F := runF (k + 0)) 
theorem s__law_is_name : ∀ k, LNmE (runF (k + 1))._law_is_name := fun k => ok__law_is_name (F := runF (k + 0)) 
theorem s__law_fits : ∀ k, FitsDW (runF (k + 2))._law_fits := fun k => ok__law_fits42 (F := runF (k + 1)) (s__law_is_name (k + 0))
theorem s__law_spoiled : ∀ k, SpoilW42 (runF (k + 3))._law_spoiled := fun k => ok__law_spoiled42 (F := runF (k + 2)) (s__law_draw (k + 0))
theorem s_is_name : ∀ k, IsB (runF (k + 1)).is_name 0 nameB := fun k => ok_is_name (F := runF (k + 0)) 
theorem s_joined : ∀ k, JoinTW (runF (k + 1)).joined := fun k => ok_joined (F := runF (k + 0)) 
theorem s_split_lines : ∀ k, SplitW (runF (k + 1)).split_lines := fun k => ok_split_lines (F := runF (k + 0)) 
theorem s_format_deeds : ∀ k, FmtDW (runF (k + 2)).format_deeds := fun k => ok_format_deeds42 (F := runF (k + 1)) (s_joined (k + 0))
theorem s_read_deed : ∀ k, RdDW (runF (k + 2)).read_deed := fun k => ok_read_deed42 (F := runF (k + 1)) (s_is_name (k + 0))
theorem s_parse_deeds : ∀ k, PDW (runF (k + 3)).parse_deeds := fun k => ok_parse_deeds42 (F := runF (k + 2)) (s_split_lines (k + 1)) (s_read_deed (k + 0))
theorem s__law_told : ∀ k, ToldW42 (runF (k + 4))._law_told := fun k => ok__law_told42 (F := runF (k + 3)) (s_parse_deeds (k + 0)) (s_format_deeds (k + 1))
theorem s__law_same_0 : ∀ k, SameW 0 (runF (k + 1))._law_same := fun k => ok_same0 (F := runF (k + 0)) 
theorem s__law_same_1 : ∀ k, SameW 1 (runF (k + 2))._law_same := fun k => ok_same (F := runF (k + 1)) (s__law_same_0 (k + 0))
theorem s__law_same_2 : ∀ k, SameW 2 (runF (k + 3))._law_same := fun k => ok_same (F := runF (k + 2)) (s__law_same_1 (k + 0))
theorem s__law_same_3 : ∀ k, SameW 3 (runF (k + 4))._law_same := fun k => ok_same (F := runF (k + 3)) (s__law_same_2 (k + 0))
theorem s__law_same_4 : ∀ k, SameW 4 (runF (k + 5))._law_same := fun k => ok_same (F := runF (k + 4)) (s__law_same_3 (k + 0))
theorem s__law_same_5 : ∀ k, SameW 5 (runF (k + 6))._law_same := fun k => ok_same (F := runF (k + 5)) (s__law_same_4 (k + 0))
theorem s__law_same_6 : ∀ k, SameW 6 (runF (k + 7))._law_same := fun k => ok_same (F := runF (k + 6)) (s__law_same_5 (k + 0))
theorem s__law_same_7 : ∀ k, SameW 7 (runF (k + 8))._law_same := fun k => ok_same (F := runF (k + 7)) (s__law_same_6 (k + 0))
def fuel : Nat := 9
theorem law_true : ∀ ns : List Int, ns.length ≤ 63 → ∃ h', (runF fuel).law [.fl (ns.map T.int)] [] = .ok (.bl true) h' := by
  intro ns hns
  obtain ⟨a, h', e, rfl⟩ := (ok_law42 (F := runF 8) (s__law_box (0 + 6)) (s__law_draw (0 + 6)) (s__law_deed (0 + 4)) (s__law_line (0 + 7)) (s_format_deeds (0 + 6)) (s_parse_deeds (0 + 5)) (s__law_fits (0 + 6)) (s__law_spoiled (0 + 5)) (s__law_told (0 + 4)) (s__law_same_7 (0 + 0)) hns).ok
  exact ⟨h', e⟩
end LW
end

section
namespace LW
open PySem PySem.Spec PyProof.Rows
open L2 W3
structure Ad where
  f_is_name : Addr
  d_is_name : FuncData
  f_joined : Addr
  d_joined : FuncData
  f_split_lines : Addr
  d_split_lines : FuncData
  f_format_deeds : Addr
  d_format_deeds : FuncData
  f_read_deed : Addr
  d_read_deed : FuncData
  f_parse_deeds : Addr
  d_parse_deeds : FuncData
  f__law_mix : Addr
  d__law_mix : FuncData
  f__law_box : Addr
  d__law_box : FuncData
  f__law_draw : Addr
  d__law_draw : FuncData
  f__law_same : Addr
  d__law_same : FuncData
  f__law_name : Addr
  d__law_name : FuncData
  f__law_deed : Addr
  d__law_deed : FuncData
  f__law_line : Addr
  d__law_line : FuncData
  f__law_is_name : Addr
  d__law_is_name : FuncData
  f__law_fits : Addr
  d__law_fits : FuncData
  f__law_spoiled : Addr
  d__law_spoiled : FuncData
  f__law_told : Addr
  d__law_told : FuncData
  f_law : Addr
  d_law : FuncData
  c_ShownError : Addr
  c_InvalidText : Addr
  xf_InvalidText : Addr
  xd_InvalidText : FuncData
structure Txt (w : World) (K : PySem.W.Frag) (mg : Str → Option Value) (A : Ad) : Prop where
  u_is_name : Fun K "is_name" "is_name" st_is_name A.f_is_name A.d_is_name
  b_is_name : Binds K A.d_is_name ["value"] []
  g_is_name : mg "is_name" = some (.ref A.f_is_name)
  u_joined : Fun K "joined" "joined" st_joined A.f_joined A.d_joined
  b_joined : Binds K A.d_joined ["lines"] []
  g_joined : mg "joined" = some (.ref A.f_joined)
  u_split_lines : Fun K "split_lines" "split_lines" st_split_lines A.f_split_lines A.d_split_lines
  b_split_lines : Binds K A.d_split_lines ["text"] []
  g_split_lines : mg "split_lines" = some (.ref A.f_split_lines)
  u_format_deeds : Fun K "format_deeds" "format_deeds" st_format_deeds A.f_format_deeds A.d_format_deeds
  b_format_deeds : Binds K A.d_format_deeds ["deeds"] []
  g_format_deeds : mg "format_deeds" = some (.ref A.f_format_deeds)
  u_read_deed : Fun K "read_deed" "read_deed" st_read_deed A.f_read_deed A.d_read_deed
  b_read_deed : Binds K A.d_read_deed ["words"] []
  g_read_deed : mg "read_deed" = some (.ref A.f_read_deed)
  u_parse_deeds : Fun K "parse_deeds" "parse_deeds" st_parse_deeds A.f_parse_deeds A.d_parse_deeds
  b_parse_deeds : Binds K A.d_parse_deeds ["text"] []
  g_parse_deeds : mg "parse_deeds" = some (.ref A.f_parse_deeds)
  u__law_mix : Fun K "_law_mix" "_law_mix" st__law_mix A.f__law_mix A.d__law_mix
  b__law_mix : Binds K A.d__law_mix ["_law_value", "_law_k"] []
  g__law_mix : mg "_law_mix" = some (.ref A.f__law_mix)
  u__law_box : Fun K "_law_box" "_law_box" st__law_box A.f__law_box A.d__law_box
  b__law_box : Binds K A.d__law_box ["_law_script"] []
  g__law_box : mg "_law_box" = some (.ref A.f__law_box)
  u__law_draw : Fun K "_law_draw" "_law_draw" st__law_draw A.f__law_draw A.d__law_draw
  b__law_draw : Binds K A.d__law_draw ["_law_box_here", "_law_many"] []
  g__law_draw : mg "_law_draw" = some (.ref A.f__law_draw)
  u__law_same : Fun K "_law_same" "_law_same" st__law_same A.f__law_same A.d__law_same
  b__law_same : Binds K A.d__law_same ["_law_told_here", "_law_due"] []
  g__law_same : mg "_law_same" = some (.ref A.f__law_same)
  u__law_name : Fun K "_law_name" "_law_name" st__law_name A.f__law_name A.d__law_name
  b__law_name : Binds K A.d__law_name ["_law_box_here"] []
  g__law_name : mg "_law_name" = some (.ref A.f__law_name)
  u__law_deed : Fun K "_law_deed" "_law_deed" st__law_deed A.f__law_deed A.d__law_deed
  b__law_deed : Binds K A.d__law_deed ["_law_box_here"] []
  g__law_deed : mg "_law_deed" = some (.ref A.f__law_deed)
  u__law_line : Fun K "_law_line" "_law_line" st__law_line A.f__law_line A.d__law_line
  b__law_line : Binds K A.d__law_line ["_law_deed_here"] []
  g__law_line : mg "_law_line" = some (.ref A.f__law_line)
  u__law_is_name : Fun K "_law_is_name" "_law_is_name" st__law_is_name A.f__law_is_name A.d__law_is_name
  b__law_is_name : Binds K A.d__law_is_name ["_law_word"] []
  g__law_is_name : mg "_law_is_name" = some (.ref A.f__law_is_name)
  u__law_fits : Fun K "_law_fits" "_law_fits" st__law_fits A.f__law_fits A.d__law_fits
  b__law_fits : Binds K A.d__law_fits ["_law_line_here"] []
  g__law_fits : mg "_law_fits" = some (.ref A.f__law_fits)
  u__law_spoiled : Fun K "_law_spoiled" "_law_spoiled" st__law_spoiled A.f__law_spoiled A.d__law_spoiled
  b__law_spoiled : Binds K A.d__law_spoiled ["_law_box_here", "_law_lines"] []
  g__law_spoiled : mg "_law_spoiled" = some (.ref A.f__law_spoiled)
  u__law_told : Fun K "_law_told" "_law_told" st__law_told A.f__law_told A.d__law_told
  b__law_told : Binds K A.d__law_told ["_law_text"] []
  g__law_told : mg "_law_told" = some (.ref A.f__law_told)
  u_law : Fun K "law" "law" st_law A.f_law A.d_law
  b_law : Binds K A.d_law ["_law_script"] []
  g_law : mg "law" = some (.ref A.f_law)
  cs : ClsF K mg CS
  c_ANSWER_WORDS : ∃ a, mg "ANSWER_WORDS" = some (.ref a) ∧ KNum K w a [("0", 0), ("1", 1), ("2", 2)]
  c_LETTERS : ∃ t, mg "LETTERS" = some (.str "abcdefghijklmnopqrstuvwxyz" t)
  n_all : mg "all" = none
  n_bool : mg "bool" = none
  n_enumerate : mg "enumerate" = none
  n_int : mg "int" = none
  n_isinstance : mg "isinstance" = none
  n_len : mg "len" = none
  n_list : mg "list" = none
  n_range : mg "range" = none
  n_str : mg "str" = none
  n_super : mg "super" = none
  n_tuple : mg "tuple" = none
  g_ShownError : mg "ShownError" = some (.ref A.c_ShownError)
  g_InvalidText : mg "InvalidText" = some (.ref A.c_InvalidText)
  ox_InvalidText : OexC K A.c_InvalidText
  xi_InvalidText : PySem.W.findIn K (.ref A.c_InvalidText) "__init__" = some (some (.ref A.xf_InvalidText))
  xt_InvalidText : PySem.W.typeIn K (.ref A.xf_InvalidText) = some (.type "function")
  b_InvalidText : Binds K A.xd_InvalidText ["self", "line"] []
  ct_InvalidText : CatchesK K mg XS "InvalidText" (.ref A.c_InvalidText)
  is_ShownError : IsAll K mg XS "ShownError" A.c_ShownError
  xf : XfAll K mg XS FL
structure Exs (P : Program) (w : World) (K : PySem.W.Frag) (mg : Str → Option Value) (base : Heap) (A : Ad) : Prop where
  F_InvalidText : FnOk P w K mg base (L2.CX P w) 1 A.xf_InvalidText A.xd_InvalidText ["self", "line"] (spE1 A.c_InvalidText "line")
section
variable {P : Program} {w : World} {K : PySem.W.Frag} {mg : Str → Option Value} {base : Heap} {A : Ad} {F : FF} {j : Nat}
structure Oks (P : Program) (w : World) (K : PySem.W.Frag) (mg : Str → Option Value) (base : Heap) (A : Ad) (j : Nat) (F : FF) : Prop where
  is_name : FnOk P w K mg base (L2.CX P w) j A.f_is_name A.d_is_name ["value"] (spT K mg w 1 F.is_name)
  joined : FnOk P w K mg base (L2.CX P w) j A.f_joined A.d_joined ["lines"] (spT K mg w 1 F.joined)
  split_lines : FnOk P w K mg base (L2.CX P w) j A.f_split_lines A.d_split_lines ["text"] (spT K mg w 1 F.split_lines)
  format_deeds : FnOk P w K mg base (L2.CX P w) j A.f_format_deeds A.d_format_deeds ["deeds"] (spT K mg w 1 F.format_deeds)
  read_deed : FnOk P w K mg base (L2.CX P w) j A.f_read_deed A.d_read_deed ["words"] (spT K mg w 1 F.read_deed)
  parse_deeds : FnOk P w K mg base (L2.CX P w) j A.f_parse_deeds A.d_parse_deeds ["text"] (spT K mg w 1 F.parse_deeds)
  _law_mix : FnOk P w K mg base (L2.CX P w) j A.f__law_mix A.d__law_mix ["_law_value", "_law_k"] (spT K mg w 2 F._law_mix)
  _law_box : FnOk P w K mg base (L2.CX P w) j A.f__law_box A.d__law_box ["_law_script"] (spT K mg w 1 F._law_box)
  _law_draw : FnOk P w K mg base (L2.CX P w) j A.f__law_draw A.d__law_draw ["_law_box_here", "_law_many"] (spT K mg w 2 F._law_draw)
  _law_same : FnOk P w K mg base (L2.CX P w) j A.f__law_same A.d__law_same ["_law_told_here", "_law_due"] (spT K mg w 2 F._law_same)
  _law_name : FnOk P w K mg base (L2.CX P w) j A.f__law_name A.d__law_name ["_law_box_here"] (spT K mg w 1 F._law_name)
  _law_deed : FnOk P w K mg base (L2.CX P w) j A.f__law_deed A.d__law_deed ["_law_box_here"] (spT K mg w 1 F._law_deed)
  _law_line : FnOk P w K mg base (L2.CX P w) j A.f__law_line A.d__law_line ["_law_deed_here"] (spT K mg w 1 F._law_line)
  _law_is_name : FnOk P w K mg base (L2.CX P w) j A.f__law_is_name A.d__law_is_name ["_law_word"] (spT K mg w 1 F._law_is_name)
  _law_fits : FnOk P w K mg base (L2.CX P w) j A.f__law_fits A.d__law_fits ["_law_line_here"] (spT K mg w 1 F._law_fits)
  _law_spoiled : FnOk P w K mg base (L2.CX P w) j A.f__law_spoiled A.d__law_spoiled ["_law_box_here", "_law_lines"] (spT K mg w 2 F._law_spoiled)
  _law_told : FnOk P w K mg base (L2.CX P w) j A.f__law_told A.d__law_told ["_law_text"] (spT K mg w 1 F._law_told)
  law : FnOk P w K mg base (L2.CX P w) j A.f_law A.d_law ["_law_script"] (spT K mg w 1 F.law)
theorem sc_is_name : FnScope ["value", "sign"] ["value"] (defScope st_is_name) := ⟨rfl, rfl, rfl, by decide +kernel, rfl, by decide +kernel, by decide +kernel⟩
theorem der_is_name (tx : Txt w K mg A) (ex : Exs P w K mg base A) (O : Oks P w K mg base A j F) : FnOk P w K mg base (L2.CX P w) (j + 3) A.f_is_name A.d_is_name ["value"] (spT K mg w 1 (defRun 2 (b_is_name F))) := by
  have S := sc_is_name
  refine fn_T tx.u_is_name S fun cdv Ar outer s H E hr tk hp => ?_
  have hr0 := hr.mono (Nat.le_add_right _ _)
  have hr1 := hr.mono (Nat.le_succ _)
  have hr2 := hr.mono (Nat.le_add_left 2 _)
  have hu := hu65 hr
  exact (ds_cons (ds_if (dt_w (dw_or (dt_not (dt_val (de_isk .str boot_str rfl tx.n_isinstance rfl tx.n_str (dv 0)))) (dw_or1 (dt_not (dt_chain os_le os_le nx_le nx_le de_int (de_callB cs_len nx_len rfl tx.n_len boot_len (da_cons (dv 0) da_nil)) de_int)))))
  (ds_cons (ds_ret de_bl)
   ds_nil)
  ds_nil)
  (ds_cons (ds_ret (de_overB (cl_all rfl) nx_all rfl tx.n_all boot_all (dl_lc (own := [("sign", 1)]) rfl S.nd (di_e (dv 0)) (blkOk_by rfl) (fun _ _ _ _ _ => (dg_name (i := 1) S.nd rfl (by first | exact Or.inl rfl | exact Or.inr rfl))) (fun _ _ _ _ _ => dts_nil) (fun _ _ _ _ _ => (de_cmp (os_in hu) nx_in (dv 1) (dgs tx.c_LETTERS (by decide +kernel)) rfl)))))
  ds_nil))
theorem sc_joined : FnScope ["lines", "line"] ["lines"] (defScope st_joined) := ⟨rfl, rfl, rfl, by decide +kernel, rfl, by decide +kernel, by decide +kernel⟩
theorem der_joined (tx : Txt w K mg A) (ex : Exs P w K mg base A) (O : Oks P w K mg base A j F) : FnOk P w K mg base (L2.CX P w) (j + 3) A.f_joined A.d_joined ["lines"] (spT K mg w 1 (defRun 2 (b_joined F))) := by
  have S := sc_joined
  refine fn_T tx.u_joined S fun cdv Ar outer s H E hr tk hp => ?_
  have hr0 := hr.mono (Nat.le_add_right _ _)
  have hr1 := hr.mono (Nat.le_succ _)
  have hr2 := hr.mono (Nat.le_add_left 2 _)
  have hu := hu65 hr
  exact (ds_cons (ds_ret (de_mtS ms_join nx_join PySem.F.plainAttrs_str PySem.F.slot_str_join PySem.F.type_str_join (de_str (by decide +kernel)) (da_cons (de_lc (dl_lc (own := [("line", 1)]) rfl S.nd (di_e (dv 0)) (blkOk_by rfl) (fun _ _ _ _ _ => (dg_name (i := 1) S.nd rfl (by first | exact Or.inl rfl | exact Or.inr rfl))) (fun _ _ _ _ _ => dts_nil) (fun _ _ _ _ _ => (de_op os_add nx_add (dv 1) (de_str (by decide +kernel)))))) da_nil)))
  ds_nil)
theorem sc_split_lines : FnScope ["text", "line"] ["text"] (defScope st_split_lines) := ⟨rfl, rfl, rfl, by decide +kernel, rfl, by decide +kernel, by decide +kernel⟩
theorem der_split_lines (tx : Txt w K mg A) (ex : Exs P w K mg base A) (O : Oks P w K mg base A j F) : FnOk P w K mg base (L2.CX P w) (j + 3) A.f_split_lines A.d_split_lines ["text"] (spT K mg w 1 (defRun 2 (b_split_lines F))) := by
  have S := sc_split_lines
  refine fn_T tx.u_split_lines S fun cdv Ar outer s H E hr tk hp => ?_
  have hr0 := hr.mono (Nat.le_add_right _ _)
  have hr1 := hr.mono (Nat.le_succ _)
  have hr2 := hr.mono (Nat.le_add_left 2 _)
  have hu := hu65 hr
  exact (ds_cons (ds_ret (de_lc (dl_lc (own := [("line", 1)]) rfl S.nd (di_e (de_sl (de_mtS ms_split nx_split PySem.F.plainAttrs_str PySem.F.slot_str_split PySem.F.type_str_split (dv 0) (da_cons (de_str (by decide +kernel)) da_nil)) do_none (do_some (de_un us_neg nx_neg de_int)))) (blkOk_by rfl) (fun _ _ _ _ _ => (dg_name (i := 1) S.nd rfl (by first | exact Or.inl rfl | exact Or.inr rfl))) (fun _ _ _ _ _ => dts_nil) (fun _ _ _ _ _ => (de_mtS ms_split nx_split PySem.F.plainAttrs_str PySem.F.slot_str_split PySem.F.type_str_split (dv 1) (da_cons (de_str (by decide +kernel)) da_nil))))))
  ds_nil)
theorem sc_format_deeds : FnScope ["deeds", "item", "deed"] ["deeds"] (defScope st_format_deeds) := ⟨rfl, rfl, rfl, by decide +kernel, rfl, by decide +kernel, by decide +kernel⟩
theorem der_format_deeds (tx : Txt w K mg A) (ex : Exs P w K mg base A) (O : Oks P w K mg base A j F) : FnOk P w K mg base (L2.CX P w) (j + 3) A.f_format_deeds A.d_format_deeds ["deeds"] (spT K mg w 1 (defRun 3 (b_format_deeds F))) := by
  have S := sc_format_deeds
  refine fn_T tx.u_format_deeds S fun cdv Ar outer s H E hr tk hp => ?_
  have hr0 := hr.mono (Nat.le_add_right _ _)
  have hr1 := hr.mono (Nat.le_succ _)
  have hr2 := hr.mono (Nat.le_add_left 2 _)
  have hu := hu65 hr
  exact (ds_cons (ds_ret (de_call (ps := ["lines"]) O.joined hr0 rfl tx.g_joined tx.u_joined.kp tx.b_joined tk (da_cons (de_lc (dl_lc (own := [("deed", 2)]) rfl S.nd (di_e (dv 0)) (blkOk_by rfl) (fun _ _ _ _ _ => (dg_name (i := 2) S.nd rfl (by first | exact Or.inl rfl | exact Or.inr rfl))) (fun _ _ _ _ _ => dts_nil) (fun _ _ _ _ _ => (de_mtS ms_join nx_join PySem.F.plainAttrs_str PySem.F.slot_str_join PySem.F.type_str_join (de_str (by decide +kernel)) (da_cons (de_lc (dl_lc (own := [("item", 1)]) rfl S.nd (di_e (dv 2)) (blkOk_by rfl) (fun _ _ _ _ _ => (dg_name (i := 1) S.nd rfl (by first | exact Or.inl rfl | exact Or.inr rfl))) (fun _ _ _ _ _ => dts_nil) (fun _ _ _ _ _ => (de_callTy cs_str nx_bstr rfl tx.n_str boot_str (da_cons (dv 1) da_nil))))) da_nil))))) da_nil)))
  ds_nil)
theorem sc_read_deed : FnScope ["words", "word", "rest", "many", "item"] ["words"] (defScope st_read_deed) := ⟨rfl, rfl, rfl, by decide +kernel, rfl, by decide +kernel, by decide +kernel⟩
theorem der_read_deed (tx : Txt w K mg A) (ex : Exs P w K mg base A) (O : Oks P w K mg base A j F) : FnOk P w K mg base (L2.CX P w) (j + 3) A.f_read_deed A.d_read_deed ["words"] (spT K mg w 1 (defRun 5 (b_read_deed F))) := by
  have S := sc_read_deed
  refine fn_T tx.u_read_deed S fun cdv Ar outer s H E hr tk hp => ?_
  have hr0 := hr.mono (Nat.le_add_right _ _)
  have hr1 := hr.mono (Nat.le_succ _)
  have hr2 := hr.mono (Nat.le_add_left 2 _)
  have hu := hu65 hr
  exact (ds_cons (ds_set (i := 1) S.nd rfl (by first | exact Or.inl rfl | exact Or.inr rfl) (de_ix (dv 0) de_int))
  (ds_cons (ds_set (i := 2) S.nd rfl (by first | exact Or.inl rfl | exact Or.inr rfl) (de_sl (dv 0) (do_some de_int) do_none))
  (ds_cons (ds_if (dt_w (dw_and (dt_cmp (os_in hu) nx_in (dv 1) (de_tup (da_cons (de_str (by decide +kernel)) (da_cons (de_str (by decide +kernel)) da_nil))) rfl) (dw_and1 (dt_cmp (os_eq hu) nx_eq (de_callB cs_len nx_len rfl tx.n_len boot_len (da_cons (dv 2) da_nil)) de_int rfl))))
  (ds_cons (ds_ret (de_tup (da_cons (dv 1) da_nil)))
   ds_nil)
  ds_nil)
  (ds_cons (ds_if (dt_w (dw_and (dt_cmp (os_eq hu) nx_eq (dv 1) (de_str (by decide +kernel)) rfl) (dw_and (dt_cmp (os_eq hu) nx_eq (de_callB cs_len nx_len rfl tx.n_len boot_len (da_cons (dv 2) da_nil)) de_int rfl) (dw_and1 (dt_numIn tx.c_ANSWER_WORDS (de_ix (dv 2) de_int))))))
  (ds_cons (ds_ret (de_tup (da_cons (dv 1) (da_cons (de_numIx tx.c_ANSWER_WORDS (de_ix (dv 2) de_int)) da_nil))))
   ds_nil)
  ds_nil)
  (ds_cons (ds_set (i := 3) S.nd rfl (by first | exact Or.inl rfl | exact Or.inr rfl) (de_if (dt_cmp (os_eq hu) nx_eq (dv 1) (de_str (by decide +kernel)) rfl) de_int de_int))
  (ds_cons (ds_if (dt_w (dw_and (dt_cmp (os_in hu) nx_in (dv 1) (de_tup (da_cons (de_str (by decide +kernel)) (da_cons (de_str (by decide +kernel)) da_nil))) rfl) (dw_and (dt_cmp (os_eq hu) nx_eq (de_callB cs_len nx_len rfl tx.n_len boot_len (da_cons (dv 2) da_nil)) (dv 3) rfl) (dw_and1 (dt_val (de_overB (cl_all rfl) nx_all rfl tx.n_all boot_all (dl_lc (own := [("item", 4)]) rfl S.nd (di_e (dv 2)) (blkOk_by rfl) (fun _ _ _ _ _ => (dg_name (i := 4) S.nd rfl (by first | exact Or.inl rfl | exact Or.inr rfl))) (fun _ _ _ _ _ => dts_nil) (fun _ _ _ _ _ => (de_call (ps := ["value"]) O.is_name hr0 rfl tx.g_is_name tx.u_is_name.kp tx.b_is_name takes0 (da_cons (dv 4) da_nil))))))))))
  (ds_cons (ds_ret (de_callTy cs_tuple nx_tuple rfl tx.n_tuple boot_tuple (da_cons (dv 0) da_nil)))
   ds_nil)
  ds_nil)
  (ds_cons (ds_ret de_non)
  ds_nil)))))))
theorem sc_parse_deeds : FnScope ["text", "found", "index", "words", "deed"] ["text"] (defScope st_parse_deeds) := ⟨rfl, rfl, rfl, by decide +kernel, rfl, by decide +kernel, by decide +kernel⟩
theorem der_parse_deeds (tx : Txt w K mg A) (ex : Exs P w K mg base A) (O : Oks P w K mg base A j F) : FnOk P w K mg base (L2.CX P w) (j + 3) A.f_parse_deeds A.d_parse_deeds ["text"] (spT K mg w 1 (defRun 5 (b_parse_deeds F))) := by
  have S := sc_parse_deeds
  refine fn_T tx.u_parse_deeds S fun cdv Ar outer s H E hr tk hp => ?_
  have hr0 := hr.mono (Nat.le_add_right _ _)
  have hr1 := hr.mono (Nat.le_succ _)
  have hr2 := hr.mono (Nat.le_add_left 2 _)
  have hu := hu65 hr
  exact (ds_cons (ds_if (dt_w (dw_and (dt_cmp (os_ne hu) nx_ne (dv 0) (de_str (by decide +kernel)) rfl) (dw_and1 (dt_cmp (os_ne hu) nx_ne (de_ix (dv 0) (de_un us_neg nx_neg de_int)) (de_str (by decide +kernel)) rfl))))
  (ds_cons (ds_raise1 rfl tk tx.ox_InvalidText tx.xi_InvalidText tx.xt_InvalidText ex.F_InvalidText hr2 tx.b_InvalidText rfl tx.g_InvalidText (da_cons de_int da_nil))
   ds_nil)
  ds_nil)
  (ds_cons (ds_set (i := 1) S.nd rfl (by first | exact Or.inl rfl | exact Or.inr rfl) (de_lst da_nil))
  (ds_cons (ds_forEn hp rfl rfl tx.n_enumerate (da_cons (de_call (ps := ["text"]) O.split_lines hr0 rfl tx.g_split_lines tx.u_split_lines.kp tx.b_split_lines tk (da_cons (dv 0) da_nil)) da_nil) (dg_tup rfl (dgs_cons (dg_name (i := 2) S.nd rfl (by first | exact Or.inl rfl | exact Or.inr rfl)) (dgs_cons (dg_name (i := 3) S.nd rfl (by first | exact Or.inl rfl | exact Or.inr rfl)) dgs_nil)))
  (ds_cons (ds_set (i := 4) S.nd rfl (by first | exact Or.inl rfl | exact Or.inr rfl) (de_call (ps := ["words"]) O.read_deed hr0 rfl tx.g_read_deed tx.u_read_deed.kp tx.b_read_deed tk (da_cons (dv 3) da_nil)))
   (ds_cons (ds_if (dt_cmp os_is nx_is (dv 4) de_non rfl)
   (ds_cons (ds_raise1 rfl tk tx.ox_InvalidText tx.xi_InvalidText tx.xt_InvalidText ex.F_InvalidText hr2 tx.b_InvalidText rfl tx.g_InvalidText (da_cons (de_op os_add nx_add (dv 2) de_int) da_nil))
    ds_nil)
   ds_nil)
   (ds_cons (ds_expr (de_mt ms_append nx_append PySem.F.plainAttrs_list PySem.F.slot_list_append PySem.F.type_list_append (dv 1) (da_cons (dv 4) da_nil)))
   ds_nil))))
  (ds_cons (ds_ret (dv 1))
  ds_nil))))
theorem sc__law_mix : FnScope ["_law_value", "_law_k", "_law_number"] ["_law_value", "_law_k"] (defScope st__law_mix) := ⟨rfl, rfl, rfl, by decide +kernel, rfl, by decide +kernel, by decide +kernel⟩
theorem der__law_mix (tx : Txt w K mg A) (ex : Exs P w K mg base A) (O : Oks P w K mg base A j F) : FnOk P w K mg base (L2.CX P w) (j + 3) A.f__law_mix A.d__law_mix ["_law_value", "_law_k"] (spT K mg w 2 (defRun 3 (b__law_mix F))) := by
  have S := sc__law_mix
  refine fn_T tx.u__law_mix S fun cdv Ar outer s H E hr tk hp => ?_
  have hr0 := hr.mono (Nat.le_add_right _ _)
  have hr1 := hr.mono (Nat.le_succ _)
  have hr2 := hr.mono (Nat.le_add_left 2 _)
  have hu := hu65 hr
  exact (ds_cons (ds_set (i := 2) S.nd rfl (by first | exact Or.inl rfl | exact Or.inr rfl) (de_op os_mod nx_mod (de_op os_mul nx_mul (de_op os_add nx_add (de_op os_add nx_add (de_callTy cs_int nx_bint rfl tx.n_int boot_int (da_cons (dv 0) da_nil)) (de_op os_mul nx_mul de_int (dv 1))) de_int) de_int) de_int))
  (ds_cons (ds_set (i := 2) S.nd rfl (by first | exact Or.inl rfl | exact Or.inr rfl) (de_op os_mod nx_mod (de_op os_mul nx_mul (dv 2) (de_op os_add nx_add (de_op os_div nx_div (dv 2) de_int) de_int)) de_int))
  (ds_cons (ds_ret (de_op os_mod nx_mod (de_op os_mul nx_mul (dv 2) (de_op os_add nx_add (de_op os_div nx_div (dv 2) de_int) de_int)) de_int))
  ds_nil)))
theorem sc__law_box : FnScope ["_law_script", "_law_cells", "_law_cell", "_law_seed"] ["_law_script"] (defScope st__law_box) := ⟨rfl, rfl, rfl, by decide +kernel, rfl, by decide +kernel, by decide +kernel⟩
theorem der__law_box (tx : Txt w K mg A) (ex : Exs P w K mg base A) (O : Oks P w K mg base A j F) : FnOk P w K mg base (L2.CX P w) (j + 3) A.f__law_box A.d__law_box ["_law_script"] (spT K mg w 1 (defRun 4 (b__law_box F))) := by
  have S := sc__law_box
  refine fn_T tx.u__law_box S fun cdv Ar outer s H E hr tk hp => ?_
  have hr0 := hr.mono (Nat.le_add_right _ _)
  have hr1 := hr.mono (Nat.le_succ _)
  have hr2 := hr.mono (Nat.le_add_left 2 _)
  have hu := hu65 hr
  exact (ds_cons (ds_setLc (i := 1) (own := [("_law_cell", 2)]) rfl S.nd rfl rfl (sw_true rfl rfl rfl (by decide +kernel)) (di_e (de_sl (dv 0) do_none (do_some de_int))) (blkOk_by rfl) (fun _ _ _ _ _ => (dg_name (i := 2) S.nd rfl (by first | exact Or.inl rfl | exact Or.inr rfl))) (fun _ _ _ _ _ => dts_nil) (fun _ _ _ _ _ => (de_callTy cs_int nx_bint rfl tx.n_int boot_int (da_cons (dv 2) da_nil))))
  (ds_cons (ds_set (i := 3) S.nd rfl (by first | exact Or.inl rfl | exact Or.inr rfl) de_int)
  (ds_cons (ds_for hp rfl (di_e (dv 1)) (dg_name (i := 2) S.nd rfl (by first | exact Or.inl rfl | exact Or.inr rfl))
  (ds_cons (ds_set (i := 3) S.nd rfl (by first | exact Or.inl rfl | exact Or.inr rfl) (de_call (ps := ["_law_value", "_law_k"]) O._law_mix hr0 rfl tx.g__law_mix tx.u__law_mix.kp tx.b__law_mix tk (da_cons (de_op os_add nx_add (dv 3) (dv 2)) (da_cons de_int da_nil))))
   ds_nil))
  (ds_cons (ds_ret (de_lst (da_cons (dv 1) (da_cons de_int (da_cons de_int (da_cons (dv 3) (da_cons de_int da_nil)))))))
  ds_nil))))
theorem sc__law_draw : FnScope ["_law_box_here", "_law_many", "_law_cell", "_law_digit"] ["_law_box_here", "_law_many"] (defScope st__law_draw) := ⟨rfl, rfl, rfl, by decide +kernel, rfl, by decide +kernel, by decide +kernel⟩
theorem der__law_draw (tx : Txt w K mg A) (ex : Exs P w K mg base A) (O : Oks P w K mg base A j F) : FnOk P w K mg base (L2.CX P w) (j + 3) A.f__law_draw A.d__law_draw ["_law_box_here", "_law_many"] (spT K mg w 2 (defRun 4 (b__law_draw F))) := by
  have S := sc__law_draw
  refine fn_T tx.u__law_draw S fun cdv Ar outer s H E hr tk hp => ?_
  have hr0 := hr.mono (Nat.le_add_right _ _)
  have hr1 := hr.mono (Nat.le_succ _)
  have hr2 := hr.mono (Nat.le_add_left 2 _)
  have hu := hu65 hr
  exact (ds_cons (ds_sub (dv 0) de_int (de_op os_add nx_add (de_ix (dv 0) de_int) de_int))
  (ds_cons (ds_if (dt_w (dw_and (dt_cmp (os_eq hu) nx_eq (de_ix (dv 0) de_int) de_int rfl) (dw_and1 (dt_cmp os_lt nx_lt (de_ix (dv 0) de_int) (de_callB cs_len nx_len rfl tx.n_len boot_len (da_cons (de_ix (dv 0) de_int) da_nil)) rfl))))
  (ds_cons (ds_set (i := 2) S.nd rfl (by first | exact Or.inl rfl | exact Or.inr rfl) (de_ix (de_ix (dv 0) de_int) (de_ix (dv 0) de_int)))
   (ds_cons (ds_sub (dv 0) de_int (de_op os_add nx_add (de_ix (dv 0) de_int) de_int))
   (ds_cons (ds_if (dt_cmp os_lt nx_lt (dv 2) (de_op os_pow nx_pow de_int de_int) rfl)
   (ds_cons (ds_ret (de_op os_mod nx_mod (de_callTy cs_int nx_bint rfl tx.n_int boot_int (da_cons (de_call (ps := ["_law_value", "_law_k"]) O._law_mix hr0 rfl tx.g__law_mix tx.u__law_mix.kp tx.b__law_mix tk (da_cons (dv 2) (da_cons (de_ix (dv 0) de_int) da_nil))) da_nil)) (dv 1)))
    ds_nil)
   ds_nil)
   (ds_cons (ds_sub (dv 0) de_int (dv 2))
   ds_nil))))
  ds_nil)
  (ds_cons (ds_if (dt_cmp (os_eq hu) nx_eq (de_ix (dv 0) de_int) de_int rfl)
  (ds_cons (ds_ret (de_op os_mod nx_mod (de_callTy cs_int nx_bint rfl tx.n_int boot_int (da_cons (de_call (ps := ["_law_value", "_law_k"]) O._law_mix hr0 rfl tx.g__law_mix tx.u__law_mix.kp tx.b__law_mix tk (da_cons (de_ix (dv 0) de_int) (da_cons (de_ix (dv 0) de_int) da_nil))) da_nil)) (dv 1)))
   ds_nil)
  ds_nil)
  (ds_cons (ds_set (i := 3) S.nd rfl (by first | exact Or.inl rfl | exact Or.inr rfl) (de_op os_mod nx_mod (de_callTy cs_int nx_bint rfl tx.n_int boot_int (da_cons (de_ix (dv 0) de_int) da_nil)) (dv 1)))
  (ds_cons (ds_sub (dv 0) de_int (de_op os_div nx_div (de_callTy cs_int nx_bint rfl tx.n_int boot_int (da_cons (de_ix (dv 0) de_int) da_nil)) (dv 1)))
  (ds_cons (ds_ret (dv 3))
  ds_nil))))))
theorem sc__law_same : FnScope ["_law_told_here", "_law_due", "_law_k"] ["_law_told_here", "_law_due"] (defScope st__law_same) := ⟨rfl, rfl, rfl, by decide +kernel, rfl, by decide +kernel, by decide +kernel⟩
theorem der__law_same (tx : Txt w K mg A) (ex : Exs P w K mg base A) (O : Oks P w K mg base A j F) : FnOk P w K mg base (L2.CX P w) (j + 3) A.f__law_same A.d__law_same ["_law_told_here", "_law_due"] (spT K mg w 2 (defRun 3 (b__law_same F))) := by
  have S := sc__law_same
  refine fn_T tx.u__law_same S fun cdv Ar outer s H E hr tk hp => ?_
  have hr0 := hr.mono (Nat.le_add_right _ _)
  have hr1 := hr.mono (Nat.le_succ _)
  have hr2 := hr.mono (Nat.le_add_left 2 _)
  have hu := hu65 hr
  exact (ds_cons (ds_if (dt_w (dw_or (dt_val (de_isk .tuple boot_tuple rfl tx.n_isinstance rfl tx.n_tuple (dv 1))) (dw_or1 (dt_val (de_isk .list boot_list rfl tx.n_isinstance rfl tx.n_list (dv 1))))))
  (ds_cons (ds_if (dt_w (dw_or (dt_cmp (os_ne hu) nx_ne (de_isk .tuple boot_tuple rfl tx.n_isinstance rfl tx.n_tuple (dv 1)) (de_isk .tuple boot_tuple rfl tx.n_isinstance rfl tx.n_tuple (dv 0)) rfl) (dw_or1 (dt_cmp (os_ne hu) nx_ne (de_isk .list boot_list rfl tx.n_isinstance rfl tx.n_list (dv 1)) (de_isk .list boot_list rfl tx.n_isinstance rfl tx.n_list (dv 0)) rfl))))
   (ds_cons (ds_ret de_bl)
    ds_nil)
   ds_nil)
   (ds_cons (ds_if (dt_cmp (os_ne hu) nx_ne (de_callB cs_len nx_len rfl tx.n_len boot_len (da_cons (dv 0) da_nil)) (de_callB cs_len nx_len rfl tx.n_len boot_len (da_cons (dv 1) da_nil)) rfl)
   (ds_cons (ds_ret de_bl)
    ds_nil)
   ds_nil)
   (ds_cons (ds_ret (de_overB (cl_all rfl) nx_all rfl tx.n_all boot_all (dl_lc (own := [("_law_k", 2)]) rfl S.nd (di_range1 rfl tx.n_range (da_cons (de_callB cs_len nx_len rfl tx.n_len boot_len (da_cons (dv 1) da_nil)) da_nil)) (blkOk_by rfl) (fun _ _ _ _ _ => (dg_name (i := 2) S.nd rfl (by first | exact Or.inl rfl | exact Or.inr rfl))) (fun _ _ _ _ _ => dts_nil) (fun _ _ _ _ _ => (de_call (ps := ["_law_told_here", "_law_due"]) O._law_same hr0 rfl tx.g__law_same tx.u__law_same.kp tx.b__law_same takes0 (da_cons (de_ix (dv 0) (dv 2)) (da_cons (de_ix (dv 1) (dv 2)) da_nil)))))))
   ds_nil)))
  ds_nil)
  (ds_cons (ds_if (dt_cmp os_is nx_is (dv 1) de_non rfl)
  (ds_cons (ds_ret (de_cmp os_is nx_is (dv 0) de_non rfl))
   ds_nil)
  ds_nil)
  (ds_cons (ds_if (dt_w (dw_or (dt_val (de_isk .bool boot_bool rfl tx.n_isinstance rfl tx.n_bool (dv 1))) (dw_or1 (dt_val (de_isk .bool boot_bool rfl tx.n_isinstance rfl tx.n_bool (dv 0))))))
  (ds_cons (ds_ret (de_and (de_isk .bool boot_bool rfl tx.n_isinstance rfl tx.n_bool (dv 1)) (de_and (de_isk .bool boot_bool rfl tx.n_isinstance rfl tx.n_bool (dv 0)) (de_and1 (de_cmp (os_eq hu) nx_eq (dv 1) (dv 0) rfl)))))
   ds_nil)
  ds_nil)
  (ds_cons (ds_if (dt_val (de_isk .int boot_int rfl tx.n_isinstance rfl tx.n_int (dv 1)))
  (ds_cons (ds_ret (de_and (de_isk .int boot_int rfl tx.n_isinstance rfl tx.n_int (dv 0)) (de_and1 (de_cmp (os_eq hu) nx_eq (dv 0) (dv 1) rfl))))
   ds_nil)
  ds_nil)
  (ds_cons (ds_ret (de_and (de_isk .str boot_str rfl tx.n_isinstance rfl tx.n_str (dv 0)) (de_and1 (de_cmp (os_eq hu) nx_eq (dv 0) (dv 1) rfl))))
  ds_nil)))))
theorem sc__law_name : FnScope ["_law_box_here", "_law_word", "_law_at"] ["_law_box_here"] (defScope st__law_name) := ⟨rfl, rfl, rfl, by decide +kernel, rfl, by decide +kernel, by decide +kernel⟩
theorem der__law_name (tx : Txt w K mg A) (ex : Exs P w K mg base A) (O : Oks P w K mg base A j F) : FnOk P w K mg base (L2.CX P w) (j + 3) A.f__law_name A.d__law_name ["_law_box_here"] (spT K mg w 1 (defRun 3 (b__law_name F))) := by
  have S := sc__law_name
  refine fn_T tx.u__law_name S fun cdv Ar outer s H E hr tk hp => ?_
  have hr0 := hr.mono (Nat.le_add_right _ _)
  have hr1 := hr.mono (Nat.le_succ _)
  have hr2 := hr.mono (Nat.le_add_left 2 _)
  have hu := hu65 hr
  exact (ds_cons (ds_set (i := 1) S.nd rfl (by first | exact Or.inl rfl | exact Or.inr rfl) (de_str (by decide +kernel)))
  (ds_cons (ds_if (dt_cmp (os_eq hu) nx_eq (de_call (ps := ["_law_box_here", "_law_many"]) O._law_draw hr0 rfl tx.g__law_draw tx.u__law_draw.kp tx.b__law_draw tk (da_cons (dv 0) (da_cons de_int da_nil))) de_int rfl)
  (ds_cons (ds_ret (de_ix (de_lst (da_cons (de_str (by decide +kernel)) (da_cons (de_str (by decide +kernel)) (da_cons (de_str (by decide +kernel)) (da_cons (de_str (by decide +kernel)) (da_cons (de_str (by decide +kernel)) da_nil)))))) (de_call (ps := ["_law_box_here", "_law_many"]) O._law_draw hr0 rfl tx.g__law_draw tx.u__law_draw.kp tx.b__law_draw tk (da_cons (dv 0) (da_cons de_int da_nil)))))
   ds_nil)
  ds_nil)
  (ds_cons (ds_for hp rfl (di_range1 rfl tx.n_range (da_cons (de_op os_add nx_add de_int (de_call (ps := ["_law_box_here", "_law_many"]) O._law_draw hr0 rfl tx.g__law_draw tx.u__law_draw.kp tx.b__law_draw tk (da_cons (dv 0) (da_cons de_int da_nil)))) da_nil)) (dg_name (i := 2) S.nd rfl (by first | exact Or.inl rfl | exact Or.inr rfl))
  (ds_cons (ds_set (i := 1) S.nd rfl (by first | exact Or.inl rfl | exact Or.inr rfl) (de_op os_add nx_add (dv 1) (de_ix (de_str (by decide +kernel)) (de_call (ps := ["_law_box_here", "_law_many"]) O._law_draw hr0 rfl tx.g__law_draw tx.u__law_draw.kp tx.b__law_draw tk (da_cons (dv 0) (da_cons de_int da_nil))))))
   ds_nil))
  (ds_cons (ds_ret (dv 1))
  ds_nil))))
theorem sc__law_deed : FnScope ["_law_box_here", "_law_kind"] ["_law_box_here"] (defScope st__law_deed) := ⟨rfl, rfl, rfl, by decide +kernel, rfl, by decide +kernel, by decide +kernel⟩
theorem der__law_deed (tx : Txt w K mg A) (ex : Exs P w K mg base A) (O : Oks P w K mg base A j F) : FnOk P w K mg base (L2.CX P w) (j + 3) A.f__law_deed A.d__law_deed ["_law_box_here"] (spT K mg w 1 (defRun 2 (b__law_deed F))) := by
  have S := sc__law_deed
  refine fn_T tx.u__law_deed S fun cdv Ar outer s H E hr tk hp => ?_
  have hr0 := hr.mono (Nat.le_add_right _ _)
  have hr1 := hr.mono (Nat.le_succ _)
  have hr2 := hr.mono (Nat.le_add_left 2 _)
  have hu := hu65 hr
  exact (ds_cons (ds_set (i := 1) S.nd rfl (by first | exact Or.inl rfl | exact Or.inr rfl) (de_call (ps := ["_law_box_here", "_law_many"]) O._law_draw hr0 rfl tx.g__law_draw tx.u__law_draw.kp tx.b__law_draw tk (da_cons (dv 0) (da_cons de_int da_nil))))
  (ds_cons (ds_if (dt_cmp os_lt nx_lt (dv 1) de_int rfl)
  (ds_cons (ds_ret (de_tup (da_cons (de_str (by decide +kernel)) (da_cons (de_call (ps := ["_law_box_here"]) O._law_name hr0 rfl tx.g__law_name tx.u__law_name.kp tx.b__law_name tk (da_cons (dv 0) da_nil)) (da_cons (de_call (ps := ["_law_box_here"]) O._law_name hr0 rfl tx.g__law_name tx.u__law_name.kp tx.b__law_name tk (da_cons (dv 0) da_nil)) da_nil)))))
   ds_nil)
  ds_nil)
  (ds_cons (ds_if (dt_cmp (os_eq hu) nx_eq (dv 1) de_int rfl)
  (ds_cons (ds_ret (de_tup (da_cons (de_str (by decide +kernel)) (da_cons (de_call (ps := ["_law_box_here"]) O._law_name hr0 rfl tx.g__law_name tx.u__law_name.kp tx.b__law_name tk (da_cons (dv 0) da_nil)) da_nil))))
   ds_nil)
  ds_nil)
  (ds_cons (ds_if (dt_cmp (os_eq hu) nx_eq (dv 1) de_int rfl)
  (ds_cons (ds_ret (de_tup (da_cons (de_str (by decide +kernel)) (da_cons (de_call (ps := ["_law_box_here", "_law_many"]) O._law_draw hr0 rfl tx.g__law_draw tx.u__law_draw.kp tx.b__law_draw tk (da_cons (dv 0) (da_cons de_int da_nil))) da_nil))))
   ds_nil)
  ds_nil)
  (ds_cons (ds_ret (de_ix (de_lst (da_cons (de_tup (da_cons (de_str (by decide +kernel)) da_nil)) (da_cons (de_tup (da_cons (de_str (by decide +kernel)) da_nil)) da_nil))) (de_op os_sub nx_sub (dv 1) de_int)))
  ds_nil)))))
theorem sc__law_line : FnScope ["_law_deed_here"] ["_law_deed_here"] (defScope st__law_line) := ⟨rfl, rfl, rfl, by decide +kernel, rfl, by decide +kernel, by decide +kernel⟩
theorem der__law_line (tx : Txt w K mg A) (ex : Exs P w K mg base A) (O : Oks P w K mg base A j F) : FnOk P w K mg base (L2.CX P w) (j + 3) A.f__law_line A.d__law_line ["_law_deed_here"] (spT K mg w 1 (defRun 1 (b__law_line F))) := by
  have S := sc__law_line
  refine fn_T tx.u__law_line S fun cdv Ar outer s H E hr tk hp => ?_
  have hr0 := hr.mono (Nat.le_add_right _ _)
  have hr1 := hr.mono (Nat.le_succ _)
  have hr2 := hr.mono (Nat.le_add_left 2 _)
  have hu := hu65 hr
  exact (ds_cons (ds_if (dt_cmp (os_eq hu) nx_eq (de_ix (dv 0) de_int) (de_str (by decide +kernel)) rfl)
  (ds_cons (ds_ret (de_op os_add nx_add (de_str (by decide +kernel)) (de_ix (de_lst (da_cons (de_str (by decide +kernel)) (da_cons (de_str (by decide +kernel)) (da_cons (de_str (by decide +kernel)) da_nil)))) (de_ix (dv 0) de_int))))
   ds_nil)
  ds_nil)
  (ds_cons (ds_ret (de_mtS ms_join nx_join PySem.F.plainAttrs_str PySem.F.slot_str_join PySem.F.type_str_join (de_str (by decide +kernel)) (da_cons (dv 0) da_nil)))
  ds_nil))
theorem sc__law_is_name : FnScope ["_law_word", "_law_sign"] ["_law_word"] (defScope st__law_is_name) := ⟨rfl, rfl, rfl, by decide +kernel, rfl, by decide +kernel, by decide +kernel⟩
theorem der__law_is_name (tx : Txt w K mg A) (ex : Exs P w K mg base A) (O : Oks P w K mg base A j F) : FnOk P w K mg base (L2.CX P w) (j + 3) A.f__law_is_name A.d__law_is_name ["_law_word"] (spT K mg w 1 (defRun 2 (b__law_is_name F))) := by
  have S := sc__law_is_name
  refine fn_T tx.u__law_is_name S fun cdv Ar outer s H E hr tk hp => ?_
  have hr0 := hr.mono (Nat.le_add_right _ _)
  have hr1 := hr.mono (Nat.le_succ _)
  have hr2 := hr.mono (Nat.le_add_left 2 _)
  have hu := hu65 hr
  exact (ds_cons (ds_ret (de_and (de_chain os_le os_le nx_le nx_le de_int (de_callB cs_len nx_len rfl tx.n_len boot_len (da_cons (dv 0) da_nil)) de_int) (de_and1 (de_overB (cl_all rfl) nx_all rfl tx.n_all boot_all (dl_lc (own := [("_law_sign", 1)]) rfl S.nd (di_e (dv 0)) (blkOk_by rfl) (fun _ _ _ _ _ => (dg_name (i := 1) S.nd rfl (by first | exact Or.inl rfl | exact Or.inr rfl))) (fun _ _ _ _ _ => dts_nil) (fun _ _ _ _ _ => (de_cmp (os_in hu) nx_in (dv 1) (de_str (by decide +kernel)) rfl)))))))
  ds_nil)
theorem sc__law_fits : FnScope ["_law_line_here", "_law_words"] ["_law_line_here"] (defScope st__law_fits) := ⟨rfl, rfl, rfl, by decide +kernel, rfl, by decide +kernel, by decide +kernel⟩
theorem der__law_fits (tx : Txt w K mg A) (ex : Exs P w K mg base A) (O : Oks P w K mg base A j F) : FnOk P w K mg base (L2.CX P w) (j + 3) A.f__law_fits A.d__law_fits ["_law_line_here"] (spT K mg w 1 (defRun 2 (b__law_fits F))) := by
  have S := sc__law_fits
  refine fn_T tx.u__law_fits S fun cdv Ar outer s H E hr tk hp => ?_
  have hr0 := hr.mono (Nat.le_add_right _ _)
  have hr1 := hr.mono (Nat.le_succ _)
  have hr2 := hr.mono (Nat.le_add_left 2 _)
  have hu := hu65 hr
  exact (ds_cons (ds_set (i := 1) S.nd rfl (by first | exact Or.inl rfl | exact Or.inr rfl) (de_mtS ms_split nx_split PySem.F.plainAttrs_str PySem.F.slot_str_split PySem.F.type_str_split (dv 0) (da_cons (de_str (by decide +kernel)) da_nil)))
  (ds_cons (ds_if (dt_w (dw_or (dt_cmp (os_eq hu) nx_eq (de_ix (dv 1) de_int) (de_str (by decide +kernel)) rfl) (dw_or1 (dt_cmp (os_eq hu) nx_eq (de_ix (dv 1) de_int) (de_str (by decide +kernel)) rfl))))
  (ds_cons (ds_ret (de_cmp (os_eq hu) nx_eq (de_callB cs_len nx_len rfl tx.n_len boot_len (da_cons (dv 1) da_nil)) de_int rfl))
   ds_nil)
  ds_nil)
  (ds_cons (ds_if (dt_cmp (os_eq hu) nx_eq (de_ix (dv 1) de_int) (de_str (by decide +kernel)) rfl)
  (ds_cons (ds_ret (de_and (de_cmp (os_eq hu) nx_eq (de_callB cs_len nx_len rfl tx.n_len boot_len (da_cons (dv 1) da_nil)) de_int rfl) (de_and1 (de_cmp (os_in hu) nx_in (de_ix (dv 1) de_int) (de_tup (da_cons (de_str (by decide +kernel)) (da_cons (de_str (by decide +kernel)) (da_cons (de_str (by decide +kernel)) da_nil)))) rfl))))
   ds_nil)
  ds_nil)
  (ds_cons (ds_if (dt_cmp (os_eq hu) nx_eq (de_ix (dv 1) de_int) (de_str (by decide +kernel)) rfl)
  (ds_cons (ds_ret (de_and (de_cmp (os_eq hu) nx_eq (de_callB cs_len nx_len rfl tx.n_len boot_len (da_cons (dv 1) da_nil)) de_int rfl) (de_and1 (de_call (ps := ["_law_word"]) O._law_is_name hr0 rfl tx.g__law_is_name tx.u__law_is_name.kp tx.b__law_is_name tk (da_cons (de_ix (dv 1) de_int) da_nil)))))
   ds_nil)
  ds_nil)
  (ds_cons (ds_ret (de_and (de_cmp (os_eq hu) nx_eq (de_ix (dv 1) de_int) (de_str (by decide +kernel)) rfl) (de_and (de_cmp (os_eq hu) nx_eq (de_callB cs_len nx_len rfl tx.n_len boot_len (da_cons (dv 1) da_nil)) de_int rfl) (de_and (de_call (ps := ["_law_word"]) O._law_is_name hr0 rfl tx.g__law_is_name tx.u__law_is_name.kp tx.b__law_is_name tk (da_cons (de_ix (dv 1) de_int) da_nil)) (de_and1 (de_call (ps := ["_law_word"]) O._law_is_name hr0 rfl tx.g__law_is_name tx.u__law_is_name.kp tx.b__law_is_name tk (da_cons (de_ix (dv 1) de_int) da_nil)))))))
  ds_nil)))))
theorem sc__law_spoiled : FnScope ["_law_box_here", "_law_lines", "_law_at", "_law_kind", "_law_menu", "_law_line_here"] ["_law_box_here", "_law_lines"] (defScope st__law_spoiled) := ⟨rfl, rfl, rfl, by decide +kernel, rfl, by decide +kernel, by decide +kernel⟩
theorem der__law_spoiled (tx : Txt w K mg A) (ex : Exs P w K mg base A) (O : Oks P w K mg base A j F) : FnOk P w K mg base (L2.CX P w) (j + 3) A.f__law_spoiled A.d__law_spoiled ["_law_box_here", "_law_lines"] (spT K mg w 2 (defRun 6 (b__law_spoiled F))) := by
  have S := sc__law_spoiled
  refine fn_T tx.u__law_spoiled S fun cdv Ar outer s H E hr tk hp => ?_
  have hr0 := hr.mono (Nat.le_add_right _ _)
  have hr1 := hr.mono (Nat.le_succ _)
  have hr2 := hr.mono (Nat.le_add_left 2 _)
  have hu := hu65 hr
  exact (ds_cons (ds_set (i := 2) S.nd rfl (by first | exact Or.inl rfl | exact Or.inr rfl) (de_call (ps := ["_law_box_here", "_law_many"]) O._law_draw hr0 rfl tx.g__law_draw tx.u__law_draw.kp tx.b__law_draw tk (da_cons (dv 0) (da_cons (de_op os_add nx_add (de_callB cs_len nx_len rfl tx.n_len boot_len (da_cons (dv 1) da_nil)) de_int) da_nil))))
  (ds_cons (ds_set (i := 3) S.nd rfl (by first | exact Or.inl rfl | exact Or.inr rfl) (de_call (ps := ["_law_box_here", "_law_many"]) O._law_draw hr0 rfl tx.g__law_draw tx.u__law_draw.kp tx.b__law_draw tk (da_cons (dv 0) (da_cons de_int da_nil))))
  (dss_tok (i := 4) S.nd rfl (by first | exact Or.inl rfl | exact Or.inr rfl) (by decide +kernel) (da_cons (de_str (by decide +kernel)) (da_cons (de_str (by decide +kernel)) (da_cons (de_str (by decide +kernel)) (da_cons (de_str (by decide +kernel)) (da_cons (de_str (by decide +kernel)) (da_cons (de_str (by decide +kernel)) (da_cons (de_str (by decide +kernel)) (da_cons (de_str (by decide +kernel)) da_nil))))))))
  (dsst_cons (dst_of (ds_expr (de_mt ms_extend nx_extend PySem.F.plainAttrs_list PySem.F.slot_list_extend PySem.F.type_list_extend (dv 4) (da_cons (de_lst (da_cons (de_str (by decide +kernel)) (da_cons (de_str (by decide +kernel)) (da_cons (de_str (by decide +kernel)) (da_cons (de_str (by decide +kernel)) (da_cons (de_str (by decide +kernel)) (da_cons (de_str (by decide +kernel)) (da_cons (de_str (by decide +kernel)) (da_cons (de_str (by decide +kernel)) da_nil))))))))) da_nil))))
  (dsst_cons (dst_of (ds_expr (de_mt ms_extend nx_extend PySem.F.plainAttrs_list PySem.F.slot_list_extend PySem.F.type_list_extend (dv 4) (da_cons (de_lst (da_cons (de_str (by decide +kernel)) (da_cons (de_str (by decide +kernel)) (da_cons (de_str (by decide +kernel)) (da_cons (de_str (by decide +kernel)) da_nil))))) da_nil))))
  (dsst_cons (dst_of (ds_if (dt_cmp os_lt nx_lt (dv 3) de_int rfl)
  (ds_cons (ds_ret (de_op os_add nx_add (de_op os_add nx_add (de_sl (dv 1) do_none (do_some (dv 2))) (de_lst (da_cons (de_ix (dv 4) (de_call (ps := ["_law_box_here", "_law_many"]) O._law_draw hr0 rfl tx.g__law_draw tx.u__law_draw.kp tx.b__law_draw tk (da_cons (dv 0) (da_cons (de_callB cs_len nx_len rfl tx.n_len boot_len (da_cons (dv 4) da_nil)) da_nil)))) da_nil))) (de_sl (dv 1) (do_some (de_op os_add nx_add (dv 2) (dv 3))) do_none)))
   ds_nil)
  ds_nil))
  (dsst_cons (dst_of (ds_if (dt_cmp (os_eq hu) nx_eq (dv 3) de_int rfl)
  (ds_cons (ds_ret (de_op os_add nx_add (de_sl (dv 1) do_none (do_some (dv 2))) (de_sl (dv 1) (do_some (de_op os_add nx_add (dv 2) de_int)) do_none)))
   ds_nil)
  ds_nil))
  (dsst_cons (dst_of (ds_if (dt_cmp (os_eq hu) nx_eq (dv 3) de_int rfl)
  (ds_cons (ds_ret (de_op os_add nx_add (de_op os_add nx_add (de_sl (dv 1) do_none (do_some (dv 2))) (de_sl (dv 1) (do_some (dv 2)) (do_some (de_op os_add nx_add (dv 2) de_int)))) (de_sl (dv 1) (do_some (dv 2)) do_none)))
   ds_nil)
  ds_nil))
  (dsst_cons (dst_if (dt_cmp (os_eq hu) nx_eq (dv 3) de_int rfl)
  (dsst_cons (dst_ret (det_opL os_add nx_add (det_opR os_add nx_add (de_sl (dv 1) do_none (do_some (dv 2))) (det_lc (own := [("_law_line_here", 5)]) rfl S.nd (di_e (de_sl (dv 1) (do_some (dv 2)) (do_some (de_op os_add nx_add (dv 2) de_int)))) (blkOk_by rfl) (fun _ _ _ _ _ => (dg_name (i := 5) S.nd rfl (by first | exact Or.inl rfl | exact Or.inr rfl))) (fun _ _ _ _ _ => dts_nil) (fun _ _ _ _ _ => (det_repl (dv 5) (by decide +kernel) (by decide +kernel) (by decide +kernel) (by decide +kernel))))) (de_sl (dv 1) (do_some (de_op os_add nx_add (dv 2) de_int)) do_none)))
   (dsst_of ds_nil))
  (dsst_of ds_nil))
  (dsst_of (ds_cons (ds_ret (dv 1))
  ds_nil)))))))))))
theorem sc__law_told : FnScope ["_law_text", "_law_found", "error"] ["_law_text"] (defScope st__law_told) := ⟨rfl, rfl, rfl, by decide +kernel, rfl, by decide +kernel, by decide +kernel⟩
theorem der__law_told (tx : Txt w K mg A) (ex : Exs P w K mg base A) (O : Oks P w K mg base A j F) : FnOk P w K mg base (L2.CX P w) (j + 3) A.f__law_told A.d__law_told ["_law_text"] (spT K mg w 1 (defRun 3 (b__law_told F))) := by
  have S := sc__law_told
  refine fn_T tx.u__law_told S fun cdv Ar outer s H E hr tk hp => ?_
  have hr0 := hr.mono (Nat.le_add_right _ _)
  have hr1 := hr.mono (Nat.le_succ _)
  have hr2 := hr.mono (Nat.le_add_left 2 _)
  have hu := hu65 hr
  exact (ds_cons (ds_try rfl rfl S.nd tk (fun W pn xe tk hp => (ds_cons (ds_set (i := 1) S.nd rfl (by first | exact Or.inl rfl | exact Or.inr rfl) (de_call (ps := ["text"]) O.parse_deeds hr0 rfl tx.g_parse_deeds tx.u_parse_deeds.kp tx.b_parse_deeds tk (da_cons (dv 0) da_nil)))
   ds_nil)) (DHs.cas rfl rfl ⟨rfl, by decide, .inl tx.g_InvalidText⟩ tx.ct_InvalidText (hok_ret (hx_tup (hxa_cons (hx_lift fun _ _ _ => (de_str (by decide +kernel))) (hxa_cons (hx_fld tx.xf (by decide) (i := 2) rfl (.inl rfl)) (hxa_cons (hx_isi tx.xf tx.is_ShownError (i := 2) rfl (.inl rfl) rfl tx.n_isinstance rfl tx.g_ShownError) hxa_nil))))) DHs.nil))
  (ds_cons (ds_if (dt_not (dt_val (de_isk .list boot_list rfl tx.n_isinstance rfl tx.n_list (dv 1))))
  (ds_cons (ds_ret (de_tup (da_cons (de_str (by decide +kernel)) (da_cons de_non (da_cons de_bl da_nil)))))
   ds_nil)
  ds_nil)
  (ds_cons (ds_ret (de_tup (da_cons (de_str (by decide +kernel)) (da_cons (de_call (ps := ["deeds"]) O.format_deeds hr0 rfl tx.g_format_deeds tx.u_format_deeds.kp tx.b_format_deeds tk (da_cons (dv 1) da_nil)) (da_cons de_bl da_nil)))))
  ds_nil)))
theorem sc_law : FnScope ["_law_script", "_law_box_here", "_law_ending", "_law_todo", "_law_k", "_law_lines", "_law_deed_here", "_law_text", "_law_line_here", "_law_passed", "_law_found", "_law_due"] ["_law_script"] (defScope st_law) := ⟨rfl, rfl, rfl, by decide +kernel, rfl, by decide +kernel, by decide +kernel⟩
theorem der_law (tx : Txt w K mg A) (ex : Exs P w K mg base A) (O : Oks P w K mg base A j F) : FnOk P w K mg base (L2.CX P w) (j + 3) A.f_law A.d_law ["_law_script"] (spT K mg w 1 (defRun 12 (b_law F))) := by
  have S := sc_law
  refine fn_T tx.u_law S fun cdv Ar outer s H E hr tk hp => ?_
  have hr0 := hr.mono (Nat.le_add_right _ _)
  have hr1 := hr.mono (Nat.le_succ _)
  have hr2 := hr.mono (Nat.le_add_left 2 _)
  have hu := hu65 hr
  exact (ds_cons (ds_set (i := 1) S.nd rfl (by first | exact Or.inl rfl | exact Or.inr rfl) (de_call (ps := ["_law_script"]) O._law_box hr0 rfl tx.g__law_box tx.u__law_box.kp tx.b__law_box tk (da_cons (dv 0) da_nil)))
  (ds_cons (ds_set (i := 2) S.nd rfl (by first | exact Or.inl rfl | exact Or.inr rfl) (de_call (ps := ["_law_box_here", "_law_many"]) O._law_draw hr0 rfl tx.g__law_draw tx.u__law_draw.kp tx.b__law_draw tk (da_cons (dv 1) (da_cons de_int da_nil))))
  (ds_cons (ds_setLc (i := 3) (own := [("_law_k", 4)]) rfl S.nd rfl rfl (sw_true rfl rfl rfl (by decide +kernel)) (di_range1 rfl tx.n_range (da_cons (de_call (ps := ["_law_box_here", "_law_many"]) O._law_draw hr0 rfl tx.g__law_draw tx.u__law_draw.kp tx.b__law_draw tk (da_cons (dv 1) (da_cons de_int da_nil))) da_nil)) (blkOk_by rfl) (fun _ _ _ _ _ => (dg_name (i := 4) S.nd rfl (by first | exact Or.inl rfl | exact Or.inr rfl))) (fun _ _ _ _ _ => dts_nil) (fun _ _ _ _ _ => (de_call (ps := ["_law_box_here"]) O._law_deed hr0 rfl tx.g__law_deed tx.u__law_deed.kp tx.b__law_deed takes0 (da_cons (dv 1) da_nil))))
  (ds_cons (ds_setLc (i := 5) (own := [("_law_deed_here", 6)]) rfl S.nd rfl rfl (sw_true rfl rfl rfl (by decide +kernel)) (di_e (dv 3)) (blkOk_by rfl) (fun _ _ _ _ _ => (dg_name (i := 6) S.nd rfl (by first | exact Or.inl rfl | exact Or.inr rfl))) (fun _ _ _ _ _ => dts_nil) (fun _ _ _ _ _ => (de_call (ps := ["_law_deed_here"]) O._law_line hr0 rfl tx.g__law_line tx.u__law_line.kp tx.b__law_line takes0 (da_cons (dv 6) da_nil))))
  (ds_cons (ds_set (i := 7) S.nd rfl (by first | exact Or.inl rfl | exact Or.inr rfl) (de_mtS ms_join nx_join PySem.F.plainAttrs_str PySem.F.slot_str_join PySem.F.type_str_join (de_str (by decide +kernel)) (da_cons (de_lc (dl_lc (own := [("_law_line_here", 8)]) rfl S.nd (di_e (dv 5)) (blkOk_by rfl) (fun _ _ _ _ _ => (dg_name (i := 8) S.nd rfl (by first | exact Or.inl rfl | exact Or.inr rfl))) (fun _ _ _ _ _ => dts_nil) (fun _ _ _ _ _ => (de_op os_add nx_add (dv 8) (de_str (by decide +kernel)))))) da_nil)))
  (ds_cons (ds_set (i := 9) S.nd rfl (by first | exact Or.inl rfl | exact Or.inr rfl) (de_callTy cs_list nx_list rfl tx.n_list boot_list (da_cons (dv 3) da_nil)))
  (ds_cons (ds_if (dt_w (dw_or (dt_not (dt_val (de_call (ps := ["_law_told_here", "_law_due"]) O._law_same hr0 rfl tx.g__law_same tx.u__law_same.kp tx.b__law_same tk (da_cons (de_call (ps := ["deeds"]) O.format_deeds hr0 rfl tx.g_format_deeds tx.u_format_deeds.kp tx.b_format_deeds tk (da_cons (dv 9) da_nil)) (da_cons (dv 7) da_nil))))) (dw_or1 (dt_not (dt_val (de_call (ps := ["_law_told_here", "_law_due"]) O._law_same hr0 rfl tx.g__law_same tx.u__law_same.kp tx.b__law_same tk (da_cons (dv 9) (da_cons (dv 3) da_nil))))))))
  (ds_cons (ds_ret de_bl)
   ds_nil)
  ds_nil)
  (ds_cons (ds_set (i := 10) S.nd rfl (by first | exact Or.inl rfl | exact Or.inr rfl) (de_call (ps := ["text"]) O.parse_deeds hr0 rfl tx.g_parse_deeds tx.u_parse_deeds.kp tx.b_parse_deeds tk (da_cons (dv 7) da_nil)))
  (ds_cons (ds_if (dt_not (dt_val (de_call (ps := ["_law_told_here", "_law_due"]) O._law_same hr0 rfl tx.g__law_same tx.u__law_same.kp tx.b__law_same tk (da_cons (dv 10) (da_cons (dv 3) da_nil)))))
  (ds_cons (ds_ret de_bl)
   ds_nil)
  ds_nil)
  (ds_cons (ds_expr (de_mt ms_append nx_append PySem.F.plainAttrs_list PySem.F.slot_list_append PySem.F.type_list_append (dv 10) (da_cons (de_str (by decide +kernel)) da_nil)))
  (ds_cons (ds_if (dt_not (dt_val (de_call (ps := ["_law_told_here", "_law_due"]) O._law_same hr0 rfl tx.g__law_same tx.u__law_same.kp tx.b__law_same tk (da_cons (de_call (ps := ["text"]) O.parse_deeds hr0 rfl tx.g_parse_deeds tx.u_parse_deeds.kp tx.b_parse_deeds tk (da_cons (dv 7) da_nil)) (da_cons (dv 3) da_nil)))))
  (ds_cons (ds_ret de_bl)
   ds_nil)
  ds_nil)
  (ds_cons (ds_for hp rfl (di_range1 rfl tx.n_range (da_cons de_int da_nil)) (dg_name (i := 4) S.nd rfl (by first | exact Or.inl rfl | exact Or.inr rfl))
  (ds_cons (ds_set (i := 5) S.nd rfl (by first | exact Or.inl rfl | exact Or.inr rfl) (de_call (ps := ["_law_box_here", "_law_lines"]) O._law_spoiled hr0 rfl tx.g__law_spoiled tx.u__law_spoiled.kp tx.b__law_spoiled tk (da_cons (dv 1) (da_cons (dv 5) da_nil))))
   ds_nil))
  (ds_cons (ds_set (i := 7) S.nd rfl (by first | exact Or.inl rfl | exact Or.inr rfl) (de_mtS ms_join nx_join PySem.F.plainAttrs_str PySem.F.slot_str_join PySem.F.type_str_join (de_str (by decide +kernel)) (da_cons (de_lc (dl_lc (own := [("_law_line_here", 8)]) rfl S.nd (di_e (dv 5)) (blkOk_by rfl) (fun _ _ _ _ _ => (dg_name (i := 8) S.nd rfl (by first | exact Or.inl rfl | exact Or.inr rfl))) (fun _ _ _ _ _ => dts_nil) (fun _ _ _ _ _ => (de_op os_add nx_add (dv 8) (de_str (by decide +kernel)))))) da_nil)))
  (ds_cons (ds_if (dt_cmp (os_eq hu) nx_eq (dv 2) de_int rfl)
  (ds_cons (ds_set (i := 7) S.nd rfl (by first | exact Or.inl rfl | exact Or.inr rfl) (de_op os_add nx_add (dv 7) (de_str (by decide +kernel))))
   ds_nil)
  ds_nil)
  (ds_cons (ds_set (i := 11) S.nd rfl (by first | exact Or.inl rfl | exact Or.inr rfl) (de_tup (da_cons (de_str (by decide +kernel)) (da_cons (dv 7) (da_cons de_bl da_nil)))))
  (ds_cons (ds_for hp rfl (di_range1 rfl tx.n_range (da_cons (de_callB cs_len nx_len rfl tx.n_len boot_len (da_cons (dv 5) da_nil)) da_nil)) (dg_name (i := 4) S.nd rfl (by first | exact Or.inl rfl | exact Or.inr rfl))
  (ds_cons (ds_if (dt_w (dw_and (dt_cmp (os_eq hu) nx_eq (de_ix (dv 11) de_int) (de_str (by decide +kernel)) rfl) (dw_and1 (dt_not (dt_val (de_call (ps := ["_law_line_here"]) O._law_fits hr0 rfl tx.g__law_fits tx.u__law_fits.kp tx.b__law_fits tk (da_cons (de_ix (dv 5) (dv 4)) da_nil)))))))
   (ds_cons (ds_set (i := 11) S.nd rfl (by first | exact Or.inl rfl | exact Or.inr rfl) (de_tup (da_cons (de_str (by decide +kernel)) (da_cons (de_op os_add nx_add (dv 4) de_int) (da_cons de_bl da_nil)))))
    ds_nil)
   ds_nil)
   ds_nil))
  (ds_cons (ds_if (dt_cmp (os_eq hu) nx_eq (dv 2) de_int rfl)
  (ds_cons (ds_set (i := 11) S.nd rfl (by first | exact Or.inl rfl | exact Or.inr rfl) (de_tup (da_cons (de_str (by decide +kernel)) (da_cons de_int (da_cons de_bl da_nil)))))
   ds_nil)
  ds_nil)
  (ds_cons (ds_ret (de_call (ps := ["_law_told_here", "_law_due"]) O._law_same hr0 rfl tx.g__law_same tx.u__law_same.kp tx.b__law_same tk (da_cons (de_call (ps := ["_law_text"]) O._law_told hr0 rfl tx.g__law_told tx.u__law_told.kp tx.b__law_told tk (da_cons (dv 7) da_nil)) (da_cons (dv 11) da_nil))))
  ds_nil))))))))))))))))))
theorem oks_step (tx : Txt w K mg A) (ex : Exs P w K mg base A) (O : Oks P w K mg base A j F) : Oks P w K mg base A (j + 3) (stepF F) :=
  ⟨der_is_name tx ex O, der_joined tx ex O, der_split_lines tx ex O, der_format_deeds tx ex O, der_read_deed tx ex O, der_parse_deeds tx ex O, der__law_mix tx ex O, der__law_box tx ex O, der__law_draw tx ex O, der__law_same tx ex O, der__law_name tx ex O, der__law_deed tx ex O, der__law_line tx ex O, der__law_is_name tx ex O, der__law_fits tx ex O, der__law_spoiled tx ex O, der__law_told tx ex O, der_law tx ex O⟩
theorem oks_stk : Oks P w K mg base A 0 FF.stk := by
  constructor <;> exact ⟨fun vs H Q E h => h.1, fun Ar outer s H args us vs Q E hr e0 hb hv hs => (by obtain ⟨_, _, _, _, _, _, z⟩ := hs; exact False.elim z)⟩
theorem oks_run (tx : Txt w K mg A) (ex : Exs P w K mg base A) : ∀ k, Oks P w K mg base A (3 * k) (runF k)
  | 0 => oks_stk
  | k + 1 => oks_step tx ex (oks_run tx ex k)
end
end LW
end

section
namespace LW
open PySem PySem.Spec PyProof.Rows
open L2 W3
set_option maxHeartbeats 0 in
theorem all_mk {P : Program} {w : World} {K : PySem.W.Frag} {h : Heap} {mg : Str → Option Value} {fa : Addr} (X : K.In h) (G : h.Ns mainGlobals mg) (hfa : mg "law" = some (.ref fa))
    {f_is_name : Addr} {fd_is_name : FuncData}
    {f_joined : Addr} {fd_joined : FuncData}
    {f_split_lines : Addr} {fd_split_lines : FuncData}
    {f_format_deeds : Addr} {fd_format_deeds : FuncData}
    {f_read_deed : Addr} {fd_read_deed : FuncData}
    {f_parse_deeds : Addr} {fd_parse_deeds : FuncData}
    {f__law_mix : Addr} {fd__law_mix : FuncData}
    {f__law_box : Addr} {fd__law_box : FuncData}
    {f__law_draw : Addr} {fd__law_draw : FuncData}
    {f__law_same : Addr} {fd__law_same : FuncData}
    {f__law_name : Addr} {fd__law_name : FuncData}
    {f__law_deed : Addr} {fd__law_deed : FuncData}
    {f__law_line : Addr} {fd__law_line : FuncData}
    {f__law_is_name : Addr} {fd__law_is_name : FuncData}
    {f__law_fits : Addr} {fd__law_fits : FuncData}
    {f__law_spoiled : Addr} {fd__law_spoiled : FuncData}
    {f__law_told : Addr} {fd__law_told : FuncData}
    {f_law : Addr} {fd_law : FuncData}
    {C_ShownError : Addr}
    {C_InvalidText : Addr}
    {xf_InvalidText : Addr}
    {A_ANSWER_WORDS : Addr}
    (a_is_name : PySem.W.nsIn K mainGlobals "is_name" = some (some (.ref f_is_name)))
    (U_is_name : Fun K "is_name" "is_name" st_is_name f_is_name fd_is_name)
    (a_joined : PySem.W.nsIn K mainGlobals "joined" = some (some (.ref f_joined)))
    (U_joined : Fun K "joined" "joined" st_joined f_joined fd_joined)
    (a_split_lines : PySem.W.nsIn K mainGlobals "split_lines" = some (some (.ref f_split_lines)))
    (U_split_lines : Fun K "split_lines" "split_lines" st_split_lines f_split_lines fd_split_lines)
    (a_format_deeds : PySem.W.nsIn K mainGlobals "format_deeds" = some (some (.ref f_format_deeds)))
    (U_format_deeds : Fun K "format_deeds" "format_deeds" st_format_deeds f_format_deeds fd_format_deeds)
    (a_read_deed : PySem.W.nsIn K mainGlobals "read_deed" = some (some (.ref f_read_deed)))
    (U_read_deed : Fun K "read_deed" "read_deed" st_read_deed f_read_deed fd_read_deed)
    (a_parse_deeds : PySem.W.nsIn K mainGlobals "parse_deeds" = some (some (.ref f_parse_deeds)))
    (U_parse_deeds : Fun K "parse_deeds" "parse_deeds" st_parse_deeds f_parse_deeds fd_parse_deeds)
    (a__law_mix : PySem.W.nsIn K mainGlobals "_law_mix" = some (some (.ref f__law_mix)))
    (U__law_mix : Fun K "_law_mix" "_law_mix" st__law_mix f__law_mix fd__law_mix)
    (a__law_box : PySem.W.nsIn K mainGlobals "_law_box" = some (some (.ref f__law_box)))
    (U__law_box : Fun K "_law_box" "_law_box" st__law_box f__law_box fd__law_box)
    (a__law_draw : PySem.W.nsIn K mainGlobals "_law_draw" = some (some (.ref f__law_draw)))
    (U__law_draw : Fun K "_law_draw" "_law_draw" st__law_draw f__law_draw fd__law_draw)
    (a__law_same : PySem.W.nsIn K mainGlobals "_law_same" = some (some (.ref f__law_same)))
    (U__law_same : Fun K "_law_same" "_law_same" st__law_same f__law_same fd__law_same)
    (a__law_name : PySem.W.nsIn K mainGlobals "_law_name" = some (some (.ref f__law_name)))
    (U__law_name : Fun K "_law_name" "_law_name" st__law_name f__law_name fd__law_name)
    (a__law_deed : PySem.W.nsIn K mainGlobals "_law_deed" = some (some (.ref f__law_deed)))
    (U__law_deed : Fun K "_law_deed" "_law_deed" st__law_deed f__law_deed fd__law_deed)
    (a__law_line : PySem.W.nsIn K mainGlobals "_law_line" = some (some (.ref f__law_line)))
    (U__law_line : Fun K "_law_line" "_law_line" st__law_line f__law_line fd__law_line)
    (a__law_is_name : PySem.W.nsIn K mainGlobals "_law_is_name" = some (some (.ref f__law_is_name)))
    (U__law_is_name : Fun K "_law_is_name" "_law_is_name" st__law_is_name f__law_is_name fd__law_is_name)
    (a__law_fits : PySem.W.nsIn K mainGlobals "_law_fits" = some (some (.ref f__law_fits)))
    (U__law_fits : Fun K "_law_fits" "_law_fits" st__law_fits f__law_fits fd__law_fits)
    (a__law_spoiled : PySem.W.nsIn K mainGlobals "_law_spoiled" = some (some (.ref f__law_spoiled)))
    (U__law_spoiled : Fun K "_law_spoiled" "_law_spoiled" st__law_spoiled f__law_spoiled fd__law_spoiled)
    (a__law_told : PySem.W.nsIn K mainGlobals "_law_told" = some (some (.ref f__law_told)))
    (U__law_told : Fun K "_law_told" "_law_told" st__law_told f__law_told fd__law_told)
    (a_law : PySem.W.nsIn K mainGlobals "law" = some (some (.ref f_law)))
    (U_law : Fun K "law" "law" st_law f_law fd_law)
    (a_ShownError : PySem.W.nsIn K mainGlobals "ShownError" = some (some (.ref C_ShownError)))
    (a_InvalidText : PySem.W.nsIn K mainGlobals "InvalidText" = some (some (.ref C_InvalidText)))
    (opq : PySem.W.nsIn K cStatics "thirdparty.any" = some none)
    (tops : (P.main.scope.names.lookup ("super" : Str)).isSome = false)
    (spc : PySem.W.specialIn K (.builtin "object.__class__") "__get__" = some (some (.builtin "getset_descriptor.__get__")))
    (tki : PySem.W.takesIn K (.builtin "object.__class__") = some true)
    (oxc_InvalidText : oexB K C_InvalidText = true)
    (xsa_InvalidText : PySem.W.findIn K (.ref C_InvalidText) "__setattr__" = some (some (.builtin "object.__setattr__")))
    (xbe_InvalidText : PySem.W.subIn K (.ref C_InvalidText) (.type "BaseException") = some true)
    (xty_InvalidText : PySem.W.typeIn K (.ref C_InvalidText) = some (.type "type"))
    (xk_InvalidText : PySem.W.keepIn K (.ref C_InvalidText) = true)
    (xi_InvalidText : PySem.W.findIn K (.ref C_InvalidText) "__init__" = some (some (.ref xf_InvalidText)))
    (xt_InvalidText : PySem.W.typeIn K (.ref xf_InvalidText) = some (.type "function"))
    (XI_InvalidText : XInit P K C_InvalidText xf_InvalidText "InvalidText.__init__" st_x_InvalidText)
    (xsu_InvalidText : PySem.W.ks_superIn K C_InvalidText C_InvalidText "__init__" = some (some (.builtin "ValueError.__init__")))
    (xsv_InvalidText : PySem.W.subIn K (.ref C_InvalidText) (.type "ValueError") = some true)
    (xmr_InvalidText : PySem.W.mroIn K C_InvalidText (.ref C_InvalidText) = some true)
    (xga_InvalidText : PySem.W.findIn K (.ref C_InvalidText) "__getattribute__" = some (some (.builtin "BaseException.__getattribute__")))
    (xgt_InvalidText : PySem.W.findIn K (.ref C_InvalidText) "__getattr__" = some none)
    (xcl_InvalidText : PySem.W.findIn K (.ref C_InvalidText) "__class__" = some (some (.builtin "object.__class__")))
    (xhd_InvalidText : PySem.W.hasDictIn K C_InvalidText = true)
    (xob_InvalidText : PySem.W.mroIn K C_InvalidText (.type "object") = some true)
    (xno_InvalidText_line : PySem.W.findIn K (.ref C_InvalidText) "line" = some none)
    (xm_InvalidText_InvalidText : PySem.W.exmOne K (.ref C_InvalidText) (.ref C_InvalidText) = some true)
    (xs_InvalidText_ShownError : PySem.W.kitOne K (.ref C_InvalidText) (.ref C_ShownError) = some true)
    (g_ANSWER_WORDS : PySem.W.nsIn K mainGlobals "ANSWER_WORDS" = some (some (.ref A_ANSWER_WORDS)))
    (kd_ANSWER_WORDS : ∃ es n, KDict K w A_ANSWER_WORDS es n)
    (kn_ANSWER_WORDS : (match K.lookup A_ANSWER_WORDS with | some ⟨_, _, .dict es _, _⟩ => decide (es.toList.map (fun e => (match e.key with | .str x _ => some x | _ => none : Option Str)) = ([some "0", some "1", some "2"] : List (Option Str))) | _ => false) = true)
    (kv_ANSWER_WORDS_0 : (match PySem.W.nsIn K A_ANSWER_WORDS "0" with | some (some (.int j _)) => decide (j = 0) | _ => false) = true)
    (kv_ANSWER_WORDS_1 : (match PySem.W.nsIn K A_ANSWER_WORDS "1" with | some (some (.int j _)) => decide (j = 1) | _ => false) = true)
    (kv_ANSWER_WORDS_2 : (match PySem.W.nsIn K A_ANSWER_WORDS "2" with | some (some (.int j _)) => decide (j = 2) | _ => false) = true)
    (g_LETTERS : ∃ t, mg "LETTERS" = some (.str "abcdefghijklmnopqrstuvwxyz" t))
    (z_all : PySem.W.nsIn K mainGlobals "all" = some none)
    (z_bool : PySem.W.nsIn K mainGlobals "bool" = some none)
    (z_enumerate : PySem.W.nsIn K mainGlobals "enumerate" = some none)
    (z_int : PySem.W.nsIn K mainGlobals "int" = some none)
    (z_isinstance : PySem.W.nsIn K mainGlobals "isinstance" = some none)
    (z_len : PySem.W.nsIn K mainGlobals "len" = some none)
    (z_list : PySem.W.nsIn K mainGlobals "list" = some none)
    (z_range : PySem.W.nsIn K mainGlobals "range" = some none)
    (z_str : PySem.W.nsIn K mainGlobals "str" = some none)
    (z_super : PySem.W.nsIn K mainGlobals "super" = some none)
    (z_tuple : PySem.W.nsIn K mainGlobals "tuple" = some none)
    (n : Nat) : ∃ fd : FuncData, (∀ (s : Shared) (v : Value), BindsTo s fd ⟨[v], []⟩ [("_law_script", v)]) ∧ ∀ base : Heap, K.In base → base.Ns mainGlobals mg → FnOk P w K mg base (L2.CX P w) (3 * n) fa fd ["_law_script"] (spL K (runF n).law) := by
  obtain rfl : f_law = fa := by
    have e := hfa.symm.trans (PySem.W.mg_of X G a_law)
    cases e
    rfl
  have B_is_name := U_is_name.binds (ps := ["value"]) fun _ _ _ _ _ _ us hl => match us, hl with | [_], _ => rfl
  have B_joined := U_joined.binds (ps := ["lines"]) fun _ _ _ _ _ _ us hl => match us, hl with | [_], _ => rfl
  have B_split_lines := U_split_lines.binds (ps := ["text"]) fun _ _ _ _ _ _ us hl => match us, hl with | [_], _ => rfl
  have B_format_deeds := U_format_deeds.binds (ps := ["deeds"]) fun _ _ _ _ _ _ us hl => match us, hl with | [_], _ => rfl
  have B_read_deed := U_read_deed.binds (ps := ["words"]) fun _ _ _ _ _ _ us hl => match us, hl with | [_], _ => rfl
  have B_parse_deeds := U_parse_deeds.binds (ps := ["text"]) fun _ _ _ _ _ _ us hl => match us, hl with | [_], _ => rfl
  have B__law_mix := U__law_mix.binds (ps := ["_law_value", "_law_k"]) fun _ _ _ _ _ _ us hl => match us, hl with | [_, _], _ => rfl
  have B__law_box := U__law_box.binds (ps := ["_law_script"]) fun _ _ _ _ _ _ us hl => match us, hl with | [_], _ => rfl
  have B__law_draw := U__law_draw.binds (ps := ["_law_box_here", "_law_many"]) fun _ _ _ _ _ _ us hl => match us, hl with | [_, _], _ => rfl
  have B__law_same := U__law_same.binds (ps := ["_law_told_here", "_law_due"]) fun _ _ _ _ _ _ us hl => match us, hl with | [_, _], _ => rfl
  have B__law_name := U__law_name.binds (ps := ["_law_box_here"]) fun _ _ _ _ _ _ us hl => match us, hl with | [_], _ => rfl
  have B__law_deed := U__law_deed.binds (ps := ["_law_box_here"]) fun _ _ _ _ _ _ us hl => match us, hl with | [_], _ => rfl
  have B__law_line := U__law_line.binds (ps := ["_law_deed_here"]) fun _ _ _ _ _ _ us hl => match us, hl with | [_], _ => rfl
  have B__law_is_name := U__law_is_name.binds (ps := ["_law_word"]) fun _ _ _ _ _ _ us hl => match us, hl with | [_], _ => rfl
  have B__law_fits := U__law_fits.binds (ps := ["_law_line_here"]) fun _ _ _ _ _ _ us hl => match us, hl with | [_], _ => rfl
  have B__law_spoiled := U__law_spoiled.binds (ps := ["_law_box_here", "_law_lines"]) fun _ _ _ _ _ _ us hl => match us, hl with | [_, _], _ => rfl
  have B__law_told := U__law_told.binds (ps := ["_law_text"]) fun _ _ _ _ _ _ us hl => match us, hl with | [_], _ => rfl
  have B_law := U_law.binds (ps := ["_law_script"]) fun _ _ _ _ _ _ us hl => match us, hl with | [_], _ => rfl
  have CF : ClsF K mg CS := by
    intro c fs C hm hC
    simp only [CS, List.mem_cons, List.not_mem_nil, or_false, Prod.mk.injEq] at hm
    all_goals cases hm
  obtain ⟨xcc_InvalidText, xc_InvalidText, xdc_InvalidText, xpm_InvalidText, xct_InvalidText, xan_InvalidText, XL_InvalidText, XC_InvalidText, XE_InvalidText, XD_InvalidText⟩ := XI_InvalidText.ex
  let A : Ad := { f_is_name := f_is_name, d_is_name := fd_is_name, f_joined := f_joined, d_joined := fd_joined, f_split_lines := f_split_lines, d_split_lines := fd_split_lines, f_format_deeds := f_format_deeds, d_format_deeds := fd_format_deeds, f_read_deed := f_read_deed, d_read_deed := fd_read_deed, f_parse_deeds := f_parse_deeds, d_parse_deeds := fd_parse_deeds, f__law_mix := f__law_mix, d__law_mix := fd__law_mix, f__law_box := f__law_box, d__law_box := fd__law_box, f__law_draw := f__law_draw, d__law_draw := fd__law_draw, f__law_same := f__law_same, d__law_same := fd__law_same, f__law_name := f__law_name, d__law_name := fd__law_name, f__law_deed := f__law_deed, d__law_deed := fd__law_deed, f__law_line := f__law_line, d__law_line := fd__law_line, f__law_is_name := f__law_is_name, d__law_is_name := fd__law_is_name, f__law_fits := f__law_fits, d__law_fits := fd__law_fits, f__law_spoiled := f__law_spoiled, d__law_spoiled := fd__law_spoiled, f__law_told := f__law_told, d__law_told := fd__law_told, f_law := f_law, d_law := fd_law, c_ShownError := C_ShownError, c_InvalidText := C_InvalidText, xf_InvalidText := xf_InvalidText, xd_InvalidText := fdE "__init__" "InvalidText.__init__" (defArgs st_x_InvalidText) (defBody st_x_InvalidText) (defScope st_x_InvalidText) xcc_InvalidText xc_InvalidText xdc_InvalidText xpm_InvalidText xct_InvalidText xan_InvalidText }
  have KN_ANSWER_WORDS : KNum K w A_ANSWER_WORDS [("0", 0), ("1", 1), ("2", 2)] := knum_of kd_ANSWER_WORDS kn_ANSWER_WORDS (.cons kv_ANSWER_WORDS_0 (.cons kv_ANSWER_WORDS_1 (.cons kv_ANSWER_WORDS_2 .nil)))
  have OX_InvalidText : OexC K C_InvalidText := ⟨oexB_ok oxc_InvalidText, xsa_InvalidText, xbe_InvalidText, xty_InvalidText, xk_InvalidText⟩
  have FX_InvalidText : ∀ base : Heap, FnOk P w K mg base (L2.CX P w) 1 xf_InvalidText _ ["self", "line"] (spE1 C_InvalidText "line") := fun base => exc_ok1 (st := st_x_InvalidText) ⟨OX_InvalidText, XL_InvalidText, XC_InvalidText, XE_InvalidText, xsu_InvalidText, xsv_InvalidText, xmr_InvalidText, opq, tops⟩ rfl XD_InvalidText (NdefX.nscope_by rfl) rfl rfl rfl (PySem.W.mg_none_of X G z_super) (fun L => ⟨rfl, rfl, rfl⟩) xno_InvalidText_line (fun L => rfl)
  have tx : Txt w K mg A := { u_is_name := U_is_name, b_is_name := B_is_name, g_is_name := PySem.W.mg_of X G a_is_name, u_joined := U_joined, b_joined := B_joined, g_joined := PySem.W.mg_of X G a_joined, u_split_lines := U_split_lines, b_split_lines := B_split_lines, g_split_lines := PySem.W.mg_of X G a_split_lines, u_format_deeds := U_format_deeds, b_format_deeds := B_format_deeds, g_format_deeds := PySem.W.mg_of X G a_format_deeds, u_read_deed := U_read_deed, b_read_deed := B_read_deed, g_read_deed := PySem.W.mg_of X G a_read_deed, u_parse_deeds := U_parse_deeds, b_parse_deeds := B_parse_deeds, g_parse_deeds := PySem.W.mg_of X G a_parse_deeds, u__law_mix := U__law_mix, b__law_mix := B__law_mix, g__law_mix := PySem.W.mg_of X G a__law_mix, u__law_box := U__law_box, b__law_box := B__law_box, g__law_box := PySem.W.mg_of X G a__law_box, u__law_draw := U__law_draw, b__law_draw := B__law_draw, g__law_draw := PySem.W.mg_of X G a__law_draw, u__law_same := U__law_same, b__law_same := B__law_same, g__law_same := PySem.W.mg_of X G a__law_same, u__law_name := U__law_name, b__law_name := B__law_name, g__law_name := PySem.W.mg_of X G a__law_name, u__law_deed := U__law_deed, b__law_deed := B__law_deed, g__law_deed := PySem.W.mg_of X G a__law_deed, u__law_line := U__law_line, b__law_line := B__law_line, g__law_line := PySem.W.mg_of X G a__law_line, u__law_is_name := U__law_is_name, b__law_is_name := B__law_is_name, g__law_is_name := PySem.W.mg_of X G a__law_is_name, u__law_fits := U__law_fits, b__law_fits := B__law_fits, g__law_fits := PySem.W.mg_of X G a__law_fits, u__law_spoiled := U__law_spoiled, b__law_spoiled := B__law_spoiled, g__law_spoiled := PySem.W.mg_of X G a__law_spoiled, u__law_told := U__law_told, b__law_told := B__law_told, g__law_told := PySem.W.mg_of X G a__law_told, u_law := U_law, b_law := B_law, g_law := PySem.W.mg_of X G a_law, cs := CF, c_ANSWER_WORDS := ⟨_, PySem.W.mg_of X G g_ANSWER_WORDS, KN_ANSWER_WORDS⟩, c_LETTERS := g_LETTERS, n_all := PySem.W.mg_none_of X G z_all, n_bool := PySem.W.mg_none_of X G z_bool, n_enumerate := PySem.W.mg_none_of X G z_enumerate, n_int := PySem.W.mg_none_of X G z_int, n_isinstance := PySem.W.mg_none_of X G z_isinstance, n_len := PySem.W.mg_none_of X G z_len, n_list := PySem.W.mg_none_of X G z_list, n_range := PySem.W.mg_none_of X G z_range, n_str := PySem.W.mg_none_of X G z_str, n_super := PySem.W.mg_none_of X G z_super, n_tuple := PySem.W.mg_none_of X G z_tuple, ox_InvalidText := OX_InvalidText, xi_InvalidText := xi_InvalidText, xt_InvalidText := xt_InvalidText, b_InvalidText := bindsE fun us hl => match us, hl with | [_, _], _ => rfl, g_ShownError := PySem.W.mg_of X G a_ShownError, g_InvalidText := PySem.W.mg_of X G a_InvalidText, ct_InvalidText := catches_of ⟨⟨_, PySem.W.mg_of X G a_InvalidText, xm_InvalidText_InvalidText.trans (by decide +kernel : some true = some (List.contains ["InvalidText", "ShownError"] "InvalidText"))⟩, trivial⟩, is_ShownError := isall_of ⟨⟨_, PySem.W.mg_of X G a_InvalidText, xs_InvalidText_ShownError.trans (by decide +kernel : some true = some (List.contains ["InvalidText", "ShownError"] "ShownError"))⟩, trivial⟩, xf := xfall_of ⟨⟨_, PySem.W.mg_of X G a_InvalidText, ⟨xga_InvalidText, xgt_InvalidText, xbe_InvalidText, xhd_InvalidText⟩, ⟨xga_InvalidText, xgt_InvalidText, xbe_InvalidText, xhd_InvalidText, xcl_InvalidText, spc, tki, xob_InvalidText⟩, fun f hf => by simp only [FL, List.mem_cons, List.not_mem_nil, or_false] at hf; rcases hf with rfl <;> assumption⟩, trivial⟩ }
  have ex : ∀ base : Heap, Exs P w K mg base A := fun base => ⟨FX_InvalidText base⟩
  have hbl : ∀ (s : Shared) (v : Value), BindsTo s fd_law ⟨[v], []⟩ [("_law_script", v)] := by
    obtain ⟨_, _, _, _, _, _, _, _, _, e, _, _⟩ := U_law.ex
    subst e
    exact fun s v => .of_eq rfl
  exact ⟨_, hbl, fun base _ _ => fnL (oks_run (P := P) (w := w) (base := base) tx (ex base) n).law⟩
end LW
open PySem PySem.W PySem.Calls PyProof.Rows in
set_option maxRecDepth 100000 in
set_option maxHeartbeats 0 in
theorem PySem.Challenge.cw_wrongshown_k42_whole_deed_texts_holds : PySem.Challenge.rw_wrongshown_k42_whole_deed_texts.Holds := by
  w_on; o_law
  refine HandSHeadRun.head_any (r := OpenLaw.row PySem.Challenge.rw_wrongshown_k42_whole_deed_texts) (q := view (OpenLaw.row PySem.Challenge.rw_wrongshown_k42_whole_deed_texts).prog [25]) (H := LW.hkZ) (ob := LW.obZ) (M := 20000) (loose := LW.namesZ) (d := HandSHeadRun.topDef (OpenLaw.row PySem.Challenge.rw_wrongshown_k42_whole_deed_texts).prog 25) (kwd := []) LW.obZ_eq
    (by kernel_rfl) (fun s => by kernel_rfl) LW.runZ (by kernel_rfl) (by kernel_rfl) (by kernel_rfl) (by rfl) (by first | assumption | decide +kernel) (by decide +kernel) ⟨rfl, rfl, rfl, rfl, rfl, by decide +kernel⟩ ?hw ?hc
  case hw => w_witness2
  case hc =>
    refine W3.walk3E (l := PySem.Challenge.rw_wrongshown_k42_whole_deed_texts) (k := 3 * LW.fuel) (x := "_law_script") (f := (LW.runF LW.fuel).law) rfl (by kernel_rfl) ⟨rfl, by decide, by decide⟩ LW.law_true ?F
    intro w mg fa h Y G hmg0
    obtain ⟨K, KX, c⟩ := Y
    have hmg : mg ("law" : PySem.Str) = some (.ref fa) := by
      have e : (HandSHeadRun.topDef (OpenLaw.row PySem.Challenge.rw_wrongshown_k42_whole_deed_texts).prog 25).name = ("law" : PySem.Str) := by kernel_rfl
      rw [← e]
      exact hmg0
    obtain ⟨fd_is_name, V_is_name⟩ := c.t.d.def_ 0 (d := LW.dz_is_name) rfl
    have U_is_name : L2.Fun K "is_name" "is_name" LW.st_is_name (He.fAd K ("is_name", none)) fd_is_name := W3.funOfD V_is_name
    obtain ⟨fd_joined, V_joined⟩ := c.t.d.def_ 1 (d := LW.dz_joined) rfl
    have U_joined : L2.Fun K "joined" "joined" LW.st_joined (He.fAd K ("joined", none)) fd_joined := W3.funOfD V_joined
    obtain ⟨fd_split_lines, V_split_lines⟩ := c.t.d.def_ 2 (d := LW.dz_split_lines) rfl
    have U_split_lines : L2.Fun K "split_lines" "split_lines" LW.st_split_lines (He.fAd K ("split_lines", none)) fd_split_lines := W3.funOfD V_split_lines
    obtain ⟨fd_format_deeds, V_format_deeds⟩ := c.t.d.def_ 3 (d := LW.dz_format_deeds) rfl
    have U_format_deeds : L2.Fun K "format_deeds" "format_deeds" LW.st_format_deeds (He.fAd K ("format_deeds", none)) fd_format_deeds := W3.funOfD V_format_deeds
    obtain ⟨fd_read_deed, V_read_deed⟩ := c.t.d.def_ 4 (d := LW.dz_read_deed) rfl
    have U_read_deed : L2.Fun K "read_deed" "read_deed" LW.st_read_deed (He.fAd K ("read_deed", none)) fd_read_deed := W3.funOfD V_read_deed
    obtain ⟨fd_parse_deeds, V_parse_deeds⟩ := c.t.d.def_ 5 (d := LW.dz_parse_deeds) rfl
    have U_parse_deeds : L2.Fun K "parse_deeds" "parse_deeds" LW.st_parse_deeds (He.fAd K ("parse_deeds", none)) fd_parse_deeds := W3.funOfD V_parse_deeds
    obtain ⟨fd__law_mix, V__law_mix⟩ := c.t.d.def_ 6 (d := LW.dz__law_mix) rfl
    have U__law_mix : L2.Fun K "_law_mix" "_law_mix" LW.st__law_mix (He.fAd K ("_law_mix", none)) fd__law_mix := W3.funOfD V__law_mix
    obtain ⟨fd__law_box, V__law_box⟩ := c.t.d.def_ 7 (d := LW.dz__law_box) rfl
    have U__law_box : L2.Fun K "_law_box" "_law_box" LW.st__law_box (He.fAd K ("_law_box", none)) fd__law_box := W3.funOfD V__law_box
    obtain ⟨fd__law_draw, V__law_draw⟩ := c.t.d.def_ 8 (d := LW.dz__law_draw) rfl
    have U__law_draw : L2.Fun K "_law_draw" "_law_draw" LW.st__law_draw (He.fAd K ("_law_draw", none)) fd__law_draw := W3.funOfD V__law_draw
    obtain ⟨fd__law_same, V__law_same⟩ := c.t.d.def_ 9 (d := LW.dz__law_same) rfl
    have U__law_same : L2.Fun K "_law_same" "_law_same" LW.st__law_same (He.fAd K ("_law_same", none)) fd__law_same := W3.funOfD V__law_same
    obtain ⟨fd__law_name, V__law_name⟩ := c.t.d.def_ 10 (d := LW.dz__law_name) rfl
    have U__law_name : L2.Fun K "_law_name" "_law_name" LW.st__law_name (He.fAd K ("_law_name", none)) fd__law_name := W3.funOfD V__law_name
    obtain ⟨fd__law_deed, V__law_deed⟩ := c.t.d.def_ 11 (d := LW.dz__law_deed) rfl
    have U__law_deed : L2.Fun K "_law_deed" "_law_deed" LW.st__law_deed (He.fAd K ("_law_deed", none)) fd__law_deed := W3.funOfD V__law_deed
    obtain ⟨fd__law_line, V__law_line⟩ := c.t.d.def_ 12 (d := LW.dz__law_line) rfl
    have U__law_line : L2.Fun K "_law_line" "_law_line" LW.st__law_line (He.fAd K ("_law_line", none)) fd__law_line := W3.funOfD V__law_line
    obtain ⟨fd__law_is_name, V__law_is_name⟩ := c.t.d.def_ 13 (d := LW.dz__law_is_name) rfl
    have U__law_is_name : L2.Fun K "_law_is_name" "_law_is_name" LW.st__law_is_name (He.fAd K ("_law_is_name", none)) fd__law_is_name := W3.funOfD V__law_is_name
    obtain ⟨fd__law_fits, V__law_fits⟩ := c.t.d.def_ 14 (d := LW.dz__law_fits) rfl
    have U__law_fits : L2.Fun K "_law_fits" "_law_fits" LW.st__law_fits (He.fAd K ("_law_fits", none)) fd__law_fits := W3.funOfD V__law_fits
    obtain ⟨fd__law_spoiled, V__law_spoiled⟩ := c.t.d.def_ 15 (d := LW.dz__law_spoiled) rfl
    have U__law_spoiled : L2.Fun K "_law_spoiled" "_law_spoiled" LW.st__law_spoiled (He.fAd K ("_law_spoiled", none)) fd__law_spoiled := W3.funOfD V__law_spoiled
    obtain ⟨fd__law_told, V__law_told⟩ := c.t.d.def_ 16 (d := LW.dz__law_told) rfl
    have U__law_told : L2.Fun K "_law_told" "_law_told" LW.st__law_told (He.fAd K ("_law_told", none)) fd__law_told := W3.funOfD V__law_told
    obtain ⟨fd_law, V_law⟩ := c.t.d.def_ 17 (d := LW.dz_law) rfl
    have U_law : L2.Fun K "law" "law" LW.st_law (He.fAd K ("law", none)) fd_law := W3.funOfD V_law
    obtain ⟨es_ANSWER_WORDS, nn_ANSWER_WORDS, D_ANSWER_WORDS⟩ := c.t.tab 0 (t := LW.tz_ANSWER_WORDS) rfl
    obtain ⟨fd, hb, hF⟩ := LW.all_mk (P := (PySem.Challenge.rw_wrongshown_k42_whole_deed_texts).prog) (w := w) KX G hmg (f_is_name := (He.fAd K ("is_name", none))) (f_joined := (He.fAd K ("joined", none))) (f_split_lines := (He.fAd K ("split_lines", none))) (f_format_deeds := (He.fAd K ("format_deeds", none))) (f_read_deed := (He.fAd K ("read_deed", none))) (f_parse_deeds := (He.fAd K ("parse_deeds", none))) (f__law_mix := (He.fAd K ("_law_mix", none))) (f__law_box := (He.fAd K ("_law_box", none))) (f__law_draw := (He.fAd K ("_law_draw", none))) (f__law_same := (He.fAd K ("_law_same", none))) (f__law_name := (He.fAd K ("_law_name", none))) (f__law_deed := (He.fAd K ("_law_deed", none))) (f__law_line := (He.fAd K ("_law_line", none))) (f__law_is_name := (He.fAd K ("_law_is_name", none))) (f__law_fits := (He.fAd K ("_law_fits", none))) (f__law_spoiled := (He.fAd K ("_law_spoiled", none))) (f__law_told := (He.fAd K ("_law_told", none))) (f_law := (He.fAd K ("law", none))) (C_ShownError := (He.ga K "ShownError")) (C_InvalidText := (He.ga K "InvalidText")) (xf_InvalidText := (He.ma K (He.ga K "InvalidText") "__init__")) (A_ANSWER_WORDS := (He.ga K "ANSWER_WORDS"))
      (c.o 2 rfl)
      U_is_name
      (c.o 3 rfl)
      U_joined
      (c.o 4 rfl)
      U_split_lines
      (c.o 5 rfl)
      U_format_deeds
      (c.o 6 rfl)
      U_read_deed
      (c.o 7 rfl)
      U_parse_deeds
      (c.o 8 rfl)
      U__law_mix
      (c.o 9 rfl)
      U__law_box
      (c.o 10 rfl)
      U__law_draw
      (c.o 11 rfl)
      U__law_same
      (c.o 12 rfl)
      U__law_name
      (c.o 13 rfl)
      U__law_deed
      (c.o 14 rfl)
      U__law_line
      (c.o 15 rfl)
      U__law_is_name
      (c.o 16 rfl)
      U__law_fits
      (c.o 17 rfl)
      U__law_spoiled
      (c.o 18 rfl)
      U__law_told
      (c.o 19 rfl)
      U_law
      (c.o 20 rfl)
      (c.o 21 rfl)
      (c.o 22 rfl)
      (by decide +kernel)
      (c.o 23 rfl)
      (c.o 24 rfl)
      (c.o 25 rfl)
      (c.o 26 rfl)
      (c.o 27 rfl)
      (c.o 28 rfl)
      (c.o 29 rfl)
      (c.o 30 rfl)
      (c.o 31 rfl)
      (W3.xinit_of (c.x 0 (f := LW.xz_InvalidText) (e := W3.xeV "InvalidText.__init__" LW.st_x_InvalidText) rfl rfl) (c.b 1 (b := LW.bz_1) rfl))
      (c.o 32 rfl)
      (c.o 33 rfl)
      (c.o 34 rfl)
      (c.o 35 rfl)
      (c.o 36 rfl)
      (c.o 37 rfl)
      (c.o 38 rfl)
      (c.o 39 rfl)
      (c.o 40 rfl)
      (c.o 41 rfl)
      (c.o 42 rfl)
      (c.o 43 rfl)
      (⟨_, _, D_ANSWER_WORDS⟩)
      (c.o 44 rfl)
      (c.o 45 rfl)
      (c.o 46 rfl)
      (c.o 47 rfl)
      (He.str_ok KX G (c.b 0 (b := LW.bz_0) rfl))
      (c.o 48 rfl)
      (c.o 49 rfl)
      (c.o 50 rfl)
      (c.o 51 rfl)
      (c.o 52 rfl)
      (c.o 53 rfl)
      (c.o 54 rfl)
      (c.o 55 rfl)
      (c.o 56 rfl)
      (c.o 57 rfl)
      (c.o 58 rfl)
      LW.fuel
    exact ⟨K, fd, KX, hb, hF⟩
end
