import PyProof.Rows.All
import Wide.All
import OpenK.AllK
import Wide.FinOn
import HandS.Base
import HandS.Exc
import HandS.Words
import KE.KExcPX
import HandS.Head0
import HandS.Head1
import HandS.Head2
import HandS.HeadEnd
import HandS.HeadHook1
import HandS.HeadHook2
import HandS.HeadHook3
import HandS.ForMost
import HandS.ForExc
import HandS.HotCalls
import HandS.ExcInitHot
import KE.KeyNested
import KE.KDictKeyed
import HandS.TupAny
import HandS.TupMul
import HandS.Deep
import HandS.IsInst
import HandS.Style
import HandS.Iter
import HandS.Defaults
import HandS.SetBool
import HandS.SetKeys
import HandS.SetFor
import HandS.MakeKwOnly
import KE.GoesEnum
import HandS.Zip
import HandS.Nested
import HandS.ExcInit
import HandS.ExcSuper
import HandS.TryMany
import KE.KExcSuper
import HandS.ExcField
import HandS.ExcIs
import HandS.DictComp
import HandS.TryOnly
import PyProof.SeqIndex
import PyProof.P3In
import HandS.TupSets
import KE.SortData
import HandS.More
import HandS.Dict
import HandS.Zip0
import KE.KDictZip
import HandS.Property
import HandS.NamedTupGet
import HandS.SlotsOwn
import KE.KOpsOwn
import HandS.OwnEq
import HandS.Text
import PyProof.InstNe
import HandS.Rev
import HandS.Star
import KE.LtSeq
import HandS.TupLen
import HandS.Conv
import HandS.ListItems
import KE.KDictList
import KE.KDictDisplayH
import HandS.Strs
import PyProof.ListTruth
import KE.KCallOwn
import PyProof.Conv_bool
import HandS.Small
import KE.DataMinMax
import KE.KTryMore
import PyProof.NeKinds
import HandS.TryElse
import HandS.Walk
import HandS.Finally
import HandS.WordsDict
import HandS.Flt
import HandS.RaiseMore
import HandS.Flow
import HandS.Replace
import KE.KStateDown
import HandS.Comp
import HandS.ClsMeth
import HandS.TupLe
import PyProof.StrOps2
import HandS.ExcValue
import PySem.Challenge.RW_wrongshown_k43_errors_apart
set_option Elab.async false
set_option linter.all false
set_option maxRecDepth 100000
set_option maxHeartbeats 1000000
set_option autoImplicit false
section
namespace W3
open PySem PySem.Spec PyProof.Rows
open L2
abbrev veL : List Value := [.type "ValueError", .type "Exception", .type "BaseException", .type "object"]
def oexB (K : PySem.W.Frag) (C : Addr) : Bool := match K.lookup C with
  | some ⟨.type t, _, .cls cd, sl⟩ => decide (t = "type") && (match cd.mro, sl.toList with
    | .ref C' :: bm, [_, _, _, _, some (.builtin n), _] => decide (C' = C) && (decide (n = "ValueError.__new__") && (!cd.hasDel && (cd.hasDict && PySem.HandSPX.refsVE bm)))
    | _, _ => false)
  | _ => false
abbrev FnE : Type := Option (Str × Str × Arguments × FuncBody × Scope × Addr × List Str × Value × Value × Addr)
def fnE (K : PySem.W.Frag) (f : Addr) : FnE := match K.lookup f with
  | some ⟨_, _, .func fd, _⟩ => some (fd.name, fd.qualname, fd.params, fd.body, fd.scope, fd.globals, fd.closure.map Prod.fst, fd.defaults, fd.kwdefaults, fd.builtins)
  | _ => none
def xeV (qual : Str) (st : Stmt) : FnE := some ("__init__", qual, defArgs st, .stmts (defBody st), defScope st, mainGlobals, ["__class__"], .none, .none, builtinsNs)
def cellB (K : PySem.W.Frag) (cc C : Addr) : Bool := match K.lookup cc with
  | some ⟨_, _, .cell (some (.ref D)), _⟩ => decide (D = C)
  | _ => false
def fileB (K : PySem.W.Frag) (c : Addr) (file : Str) : Bool := match K.lookup c with
  | some ⟨_, _, .fields vs, _⟩ => (match (vs[2]? : Option Value) with
    | some (Value.str g _) => file == g
    | _ => false)
  | _ => false
def initB (K : PySem.W.Frag) (C f : Addr) (file qual : Str) : Bool := match K.lookup f with
  | some ⟨_, _, .func fd, _⟩ => (match fd.closure, fd.code with
    | [(_, cc)], .ref c => cellB K cc C && (fileB K c file && PySem.W.codeIn K (.ref c) qual)
    | _, _ => false)
  | _ => false
def refsZ (o : Obj) : List Addr := match o.data with
  | .dict es _ => es.toList.flatMap fun e => He.refV e.val
  | .func fd => He.refV fd.code ++ (He.refV fd.kwdefaults ++ fd.closure.map Prod.snd)
  | .cls cd => cd.ns :: cd.mro.flatMap He.refV
  | _ => []
def growZ (g : Addr → Option Obj) (as : List Addr) : List Addr := as.flatMap fun a => match g a with
  | some o => refsZ o
  | none => []
def as0 : List Addr := [mainGlobals, cStatics]
def as1 (g : Addr → Option Obj) (gl : List Str) : List Addr := gl.map (He.ga (He.frG g as0))
def as2 (g : Addr → Option Obj) (gl : List Str) : List Addr := as0 ++ (as1 g gl ++ growZ g (as1 g gl))
def as3 (g : Addr → Option Obj) (gl : List Str) (ms : List (Str × Str)) : List Addr := ms.map fun p => He.ma (He.frG g (as2 g gl)) (He.ga (He.frG g (as2 g gl)) p.1) p.2
def propZ (g : Addr → Option Obj) (as : List Addr) : List Addr := as.flatMap fun a => match g a with
  | some ⟨.type n, _, .fields vs, _⟩ => if n == "property" then vs.toList.flatMap He.refV else []
  | _ => []
def as4 (g : Addr → Option Obj) (gl : List Str) (ms : List (Str × Str)) : List Addr := propZ g (as3 g gl ms)
def asZ (g : Addr → Option Obj) (gl : List Str) (ms : List (Str × Str)) : List Addr := as2 g gl ++ (as3 g gl ms ++ (growZ g (as3 g gl ms) ++ (as4 g gl ms ++ growZ g (as4 g gl ms))))
def frZ (g : Addr → Option Obj) (gl : List Str) (ms : List (Str × Str)) : PySem.W.Frag := He.frG g (asZ g gl ms)
abbrev AlZ : Type := He.AlT × (List FnE × Bool)
def obsZ (fn : List He.DefD) (ts : List He.Tab) (xs : List (PySem.W.Frag → Addr)) (bs : List (PySem.W.Frag → Bool)) (K : PySem.W.Frag) : AlZ := (He.obsT [] fn ts K, (xs.map fun f => fnE K (f K), bs.all fun b => b K))
def valZ (fn : List He.DefD) (ts : List He.Tab) (es : List FnE) (w : World) : AlZ := (He.valT fn ts w, (es, true))
def SaysZ (fn : List He.DefD) (ts : List He.Tab) (xs : List (PySem.W.Frag → Addr)) (es : List FnE) (bs : List (PySem.W.Frag → Bool)) (w : World) (K : PySem.W.Frag) : Prop := obsZ fn ts xs bs K = valZ fn ts es w
def hookZ (gl : List Str) (ms : List (Str × Str)) (fn : List He.DefD) (ts : List He.Tab) (xs : List (PySem.W.Frag → Addr)) (es : List FnE) (bs : List (PySem.W.Frag → Bool)) : PySem.W.Hook where
  α := AlZ
  obs := fun s => obsZ fn ts xs bs (frZ s.heap.get? gl ms)
  val := fun w => valZ fn ts es w
  says := fun w h => ∃ K : PySem.W.Frag, K.In h ∧ SaysZ fn ts xs es bs w K
  of := fun _ _ e => ⟨_, He.frG_in, e⟩
  keeps := fun _ _ _ ⟨K, hK, c⟩ k => ⟨K, PySem.W.Frag.In.keeps hK k, c⟩
theorem obsZ_eq {gl : List Str} {ms : List (Str × Str)} {fn : List He.DefD} {ts : List He.Tab} {xs : List (PySem.W.Frag → Addr)} {es : List FnE} {bs : List (PySem.W.Frag → Bool)} {g : Addr → Option Obj} {s : Shared} (h : ∀ a, g a = s.heap.get? a) : obsZ fn ts xs bs (frZ g gl ms) = (hookZ gl ms fn ts xs es bs).obs s := by
  have e : g = s.heap.get? := funext h
  rw [e] <;> rfl
abbrev FB : Type := PySem.W.Frag → Bool
def bF (c f : Str) (v : Option Value) : FB := fun K => decide (PySem.W.findIn K (.ref (He.ga K c)) f = some v)
def bN (n : Str) : FB := fun K => decide (PySem.W.nsIn K mainGlobals n = some none)
def bG (n : Str) : FB := fun K => decide (PySem.W.nsIn K mainGlobals n = some (some (.ref (He.fAd K (n, none)))))
def bC (n : Str) : FB := fun K => decide (PySem.W.nsIn K mainGlobals n = some (some (.ref (He.ga K n))))
def bT (n : Str) : FB := fun K => decide (PySem.W.typeIn K (.ref (He.ga K n)) = some (.type "type"))
def bK (n : Str) : FB := fun K => decide (PySem.W.keepIn K (.ref (He.ga K n)) = true)
section
variable {r : PySem.W.OpenRow} {q : Program} {M : Nat} {loose : List Str} {w : World} {α β : Type} {a : α} {b : β} {f : World → α} {g : World → β} {oa : PySem.W.SharedT → α} {ob : PySem.W.SharedT → β}
end
def kitAllB (K : PySem.W.Frag) (cs : List (Str × List Str × Addr)) (ts : List (Str × Addr)) : Bool := cs.all fun p => ts.all fun q => decide (PySem.W.kitOne K (.ref p.2.2) (.ref q.2) = some (p.2.1.contains q.1))
def kitVB (K : PySem.W.Frag) (cs : List (Str × List Str × Addr)) : Bool := cs.all fun p => decide (PySem.W.kitOne K (.ref p.2.2) (.type "ValueError") = some true)
end W3
end

section
namespace LW
open PySem PySem.Spec PyProof.Rows
open L2 W3
def topS (i : Nat) : Stmt := PySem.Challenge.pw_wrongshown_k43_errors_apart.main.body.getD i (.Pass ⟨0, 0, 0, 0⟩)
abbrev st__law_mix : Stmt := (topS 23)
abbrev st__law_box : Stmt := (topS 24)
abbrev st__law_draw : Stmt := (topS 25)
abbrev st__law_same : Stmt := (topS 26)
abbrev st__law_classes : Stmt := (topS 27)
abbrev st__law_errors : Stmt := (topS 28)
abbrev st__law_held : Stmt := (topS 29)
abbrev st_law : Stmt := (topS 30)
abbrev st_x_InvalidForm : Stmt := (inClass (topS 2) 0)
abbrev st_x_InvalidDeed : Stmt := (inClass (topS 6) 0)
abbrev st_x_InvalidChange : Stmt := (inClass (topS 20) 0)
abbrev st_x_InvalidBound : Stmt := (inClass (topS 14) 0)
abbrev st_x_InvalidRule : Stmt := (inClass (topS 3) 0)
abbrev st_x_InvalidKind : Stmt := (inClass (topS 18) 0)
abbrev st_x_LimitExceeded : Stmt := (inClass (topS 15) 0)
abbrev st_x_InvalidWords : Stmt := (inClass (topS 4) 0)
abbrev st_x_InvalidText : Stmt := (inClass (topS 8) 0)
abbrev st_x_InvalidTable : Stmt := (inClass (topS 7) 0)
abbrev st_x_NotComparable : Stmt := (inClass (topS 19) 0)
abbrev st_x_NoFault : Stmt := (inClass (topS 17) 0)
abbrev st_x_UnknownWord : Stmt := (inClass (topS 10) 0)
abbrev st_x_UnknownField : Stmt := (inClass (topS 9) 0)
abbrev st_x_TooManyAsked : Stmt := (inClass (topS 11) 0)
def glZ : List Str := (["_law_mix", "_law_box", "_law_draw", "_law_same", "_law_classes", "_law_errors", "_law_held", "law", "ShownError", "InvalidForm", "InvalidRule", "InvalidWords", "InvalidStanding", "InvalidDeed", "InvalidTable", "InvalidText", "UnknownField", "UnknownWord", "TooManyAsked", "NothingToUndo", "NothingToRedo", "InvalidBound", "LimitExceeded", "NoStanding", "NoFault", "InvalidKind", "NotComparable", "InvalidChange", "InvalidRules"] : List (Str))
def msZ : List (Str × Str) := ([("InvalidForm", "__init__"), ("InvalidDeed", "__init__"), ("InvalidChange", "__init__"), ("InvalidBound", "__init__"), ("InvalidRule", "__init__"), ("InvalidKind", "__init__"), ("LimitExceeded", "__init__"), ("InvalidWords", "__init__"), ("InvalidText", "__init__"), ("InvalidTable", "__init__"), ("NotComparable", "__init__"), ("NoFault", "__init__"), ("UnknownWord", "__init__"), ("UnknownField", "__init__"), ("TooManyAsked", "__init__")] : List (Str × Str))
def dz__law_mix : He.DefD := ⟨("_law_mix", none), "_law_mix", "_law_mix", defArgs st__law_mix, defBody st__law_mix, defScope st__law_mix, [], []⟩
def dz__law_box : He.DefD := ⟨("_law_box", none), "_law_box", "_law_box", defArgs st__law_box, defBody st__law_box, defScope st__law_box, [], []⟩
def dz__law_draw : He.DefD := ⟨("_law_draw", none), "_law_draw", "_law_draw", defArgs st__law_draw, defBody st__law_draw, defScope st__law_draw, [], []⟩
def dz__law_same : He.DefD := ⟨("_law_same", none), "_law_same", "_law_same", defArgs st__law_same, defBody st__law_same, defScope st__law_same, [], []⟩
def dz__law_classes : He.DefD := ⟨("_law_classes", none), "_law_classes", "_law_classes", defArgs st__law_classes, defBody st__law_classes, defScope st__law_classes, [], []⟩
def dz__law_errors : He.DefD := ⟨("_law_errors", none), "_law_errors", "_law_errors", defArgs st__law_errors, defBody st__law_errors, defScope st__law_errors, [], []⟩
def dz__law_held : He.DefD := ⟨("_law_held", none), "_law_held", "_law_held", defArgs st__law_held, defBody st__law_held, defScope st__law_held, [], []⟩
def dz_law : He.DefD := ⟨("law", none), "law", "law", defArgs st_law, defBody st_law, defScope st_law, [], []⟩
def fnZ : List He.DefD := ([dz__law_mix, dz__law_box, dz__law_draw, dz__law_same, dz__law_classes, dz__law_errors, dz__law_held, dz_law] : List (He.DefD))
def tsZ : List He.Tab := []
def xz_InvalidForm : PySem.W.Frag → Addr := fun K => (He.ma K (He.ga K "InvalidForm") "__init__")
def xz_InvalidDeed : PySem.W.Frag → Addr := fun K => (He.ma K (He.ga K "InvalidDeed") "__init__")
def xz_InvalidChange : PySem.W.Frag → Addr := fun K => (He.ma K (He.ga K "InvalidChange") "__init__")
def xz_InvalidBound : PySem.W.Frag → Addr := fun K => (He.ma K (He.ga K "InvalidBound") "__init__")
def xz_InvalidRule : PySem.W.Frag → Addr := fun K => (He.ma K (He.ga K "InvalidRule") "__init__")
def xz_InvalidKind : PySem.W.Frag → Addr := fun K => (He.ma K (He.ga K "InvalidKind") "__init__")
def xz_LimitExceeded : PySem.W.Frag → Addr := fun K => (He.ma K (He.ga K "LimitExceeded") "__init__")
def xz_InvalidWords : PySem.W.Frag → Addr := fun K => (He.ma K (He.ga K "InvalidWords") "__init__")
def xz_InvalidText : PySem.W.Frag → Addr := fun K => (He.ma K (He.ga K "InvalidText") "__init__")
def xz_InvalidTable : PySem.W.Frag → Addr := fun K => (He.ma K (He.ga K "InvalidTable") "__init__")
def xz_NotComparable : PySem.W.Frag → Addr := fun K => (He.ma K (He.ga K "NotComparable") "__init__")
def xz_NoFault : PySem.W.Frag → Addr := fun K => (He.ma K (He.ga K "NoFault") "__init__")
def xz_UnknownWord : PySem.W.Frag → Addr := fun K => (He.ma K (He.ga K "UnknownWord") "__init__")
def xz_UnknownField : PySem.W.Frag → Addr := fun K => (He.ma K (He.ga K "UnknownField") "__init__")
def xz_TooManyAsked : PySem.W.Frag → Addr := fun K => (He.ma K (He.ga K "TooManyAsked") "__init__")
def xsZ : List (PySem.W.Frag → Addr) := [xz_InvalidForm, xz_InvalidDeed, xz_InvalidChange, xz_InvalidBound, xz_InvalidRule, xz_InvalidKind, xz_LimitExceeded, xz_InvalidWords, xz_InvalidText, xz_InvalidTable, xz_NotComparable, xz_NoFault, xz_UnknownWord, xz_UnknownField, xz_TooManyAsked]
def esZ : List FnE := [xeV "InvalidForm.__init__" st_x_InvalidForm, xeV "InvalidDeed.__init__" st_x_InvalidDeed, xeV "InvalidChange.__init__" st_x_InvalidChange, xeV "InvalidBound.__init__" st_x_InvalidBound, xeV "InvalidRule.__init__" st_x_InvalidRule, xeV "InvalidKind.__init__" st_x_InvalidKind, xeV "LimitExceeded.__init__" st_x_LimitExceeded, xeV "InvalidWords.__init__" st_x_InvalidWords, xeV "InvalidText.__init__" st_x_InvalidText, xeV "InvalidTable.__init__" st_x_InvalidTable, xeV "NotComparable.__init__" st_x_NotComparable, xeV "NoFault.__init__" st_x_NoFault, xeV "UnknownWord.__init__" st_x_UnknownWord, xeV "UnknownField.__init__" st_x_UnknownField, xeV "TooManyAsked.__init__" st_x_TooManyAsked]
def bz_0 : FB := fun K => initB K (He.ga K "InvalidForm") (He.ma K (He.ga K "InvalidForm") "__init__") (PySem.Challenge.rw_wrongshown_k43_errors_apart).prog.main.file "InvalidForm.__init__"
def bz_1 : FB := fun K => initB K (He.ga K "InvalidDeed") (He.ma K (He.ga K "InvalidDeed") "__init__") (PySem.Challenge.rw_wrongshown_k43_errors_apart).prog.main.file "InvalidDeed.__init__"
def bz_2 : FB := fun K => initB K (He.ga K "InvalidChange") (He.ma K (He.ga K "InvalidChange") "__init__") (PySem.Challenge.rw_wrongshown_k43_errors_apart).prog.main.file "InvalidChange.__init__"
def bz_3 : FB := fun K => initB K (He.ga K "InvalidBound") (He.ma K (He.ga K "InvalidBound") "__init__") (PySem.Challenge.rw_wrongshown_k43_errors_apart).prog.main.file "InvalidBound.__init__"
def bz_4 : FB := fun K => initB K (He.ga K "InvalidRule") (He.ma K (He.ga K "InvalidRule") "__init__") (PySem.Challenge.rw_wrongshown_k43_errors_apart).prog.main.file "InvalidRule.__init__"
def bz_5 : FB := fun K => initB K (He.ga K "InvalidKind") (He.ma K (He.ga K "InvalidKind") "__init__") (PySem.Challenge.rw_wrongshown_k43_errors_apart).prog.main.file "InvalidKind.__init__"
def bz_6 : FB := fun K => initB K (He.ga K "LimitExceeded") (He.ma K (He.ga K "LimitExceeded") "__init__") (PySem.Challenge.rw_wrongshown_k43_errors_apart).prog.main.file "LimitExceeded.__init__"
def bz_7 : FB := fun K => initB K (He.ga K "InvalidWords") (He.ma K (He.ga K "InvalidWords") "__init__") (PySem.Challenge.rw_wrongshown_k43_errors_apart).prog.main.file "InvalidWords.__init__"
def bz_8 : FB := fun K => initB K (He.ga K "InvalidText") (He.ma K (He.ga K "InvalidText") "__init__") (PySem.Challenge.rw_wrongshown_k43_errors_apart).prog.main.file "InvalidText.__init__"
def bz_9 : FB := fun K => initB K (He.ga K "InvalidTable") (He.ma K (He.ga K "InvalidTable") "__init__") (PySem.Challenge.rw_wrongshown_k43_errors_apart).prog.main.file "InvalidTable.__init__"
def bz_10 : FB := fun K => initB K (He.ga K "NotComparable") (He.ma K (He.ga K "NotComparable") "__init__") (PySem.Challenge.rw_wrongshown_k43_errors_apart).prog.main.file "NotComparable.__init__"
def bz_11 : FB := fun K => initB K (He.ga K "NoFault") (He.ma K (He.ga K "NoFault") "__init__") (PySem.Challenge.rw_wrongshown_k43_errors_apart).prog.main.file "NoFault.__init__"
def bz_12 : FB := fun K => initB K (He.ga K "UnknownWord") (He.ma K (He.ga K "UnknownWord") "__init__") (PySem.Challenge.rw_wrongshown_k43_errors_apart).prog.main.file "UnknownWord.__init__"
def bz_13 : FB := fun K => initB K (He.ga K "UnknownField") (He.ma K (He.ga K "UnknownField") "__init__") (PySem.Challenge.rw_wrongshown_k43_errors_apart).prog.main.file "UnknownField.__init__"
def bz_14 : FB := fun K => initB K (He.ga K "TooManyAsked") (He.ma K (He.ga K "TooManyAsked") "__init__") (PySem.Challenge.rw_wrongshown_k43_errors_apart).prog.main.file "TooManyAsked.__init__"
def bz_44 : FB := fun K => decide (PySem.W.nsIn K cStatics "thirdparty.any" = some none)
def bz_45 : FB := fun K => decide (PySem.W.specialIn K (.builtin "object.__class__") "__get__" = some (some (.builtin "getset_descriptor.__get__")))
def bz_46 : FB := fun K => decide (PySem.W.takesIn K (.builtin "object.__class__") = some true)
def bz_47 : FB := fun K => decide (oexB K (He.ga K "InvalidForm") = true)
def bz_49 : FB := fun K => decide (PySem.W.subIn K (.ref (He.ga K "InvalidForm")) (.type "BaseException") = some true)
def bz_52 : FB := fun K => decide (PySem.W.findIn K (.ref (He.ga K "InvalidForm")) "__init__" = some (some (.ref (He.ma K (He.ga K "InvalidForm") "__init__"))))
def bz_53 : FB := fun K => decide (PySem.W.typeIn K (.ref (He.ma K (He.ga K "InvalidForm") "__init__")) = some (.type "function"))
def bz_54 : FB := fun K => decide (PySem.W.ks_superIn K (He.ga K "InvalidForm") (He.ga K "InvalidForm") "__init__" = some (some (.builtin "ValueError.__init__")))
def bz_55 : FB := fun K => decide (PySem.W.subIn K (.ref (He.ga K "InvalidForm")) (.type "ValueError") = some true)
def bz_56 : FB := fun K => decide (PySem.W.mroIn K (He.ga K "InvalidForm") (.ref (He.ga K "InvalidForm")) = some true)
def bz_60 : FB := fun K => decide (PySem.W.hasDictIn K (He.ga K "InvalidForm") = true)
def bz_61 : FB := fun K => decide (PySem.W.mroIn K (He.ga K "InvalidForm") (.type "object") = some true)
def bz_72 : FB := fun K => decide (oexB K (He.ga K "InvalidDeed") = true)
def bz_74 : FB := fun K => decide (PySem.W.subIn K (.ref (He.ga K "InvalidDeed")) (.type "BaseException") = some true)
def bz_77 : FB := fun K => decide (PySem.W.findIn K (.ref (He.ga K "InvalidDeed")) "__init__" = some (some (.ref (He.ma K (He.ga K "InvalidDeed") "__init__"))))
def bz_78 : FB := fun K => decide (PySem.W.typeIn K (.ref (He.ma K (He.ga K "InvalidDeed") "__init__")) = some (.type "function"))
def bz_79 : FB := fun K => decide (PySem.W.ks_superIn K (He.ga K "InvalidDeed") (He.ga K "InvalidDeed") "__init__" = some (some (.builtin "ValueError.__init__")))
def bz_80 : FB := fun K => decide (PySem.W.subIn K (.ref (He.ga K "InvalidDeed")) (.type "ValueError") = some true)
def bz_81 : FB := fun K => decide (PySem.W.mroIn K (He.ga K "InvalidDeed") (.ref (He.ga K "InvalidDeed")) = some true)
def bz_85 : FB := fun K => decide (PySem.W.hasDictIn K (He.ga K "InvalidDeed") = true)
def bz_86 : FB := fun K => decide (PySem.W.mroIn K (He.ga K "InvalidDeed") (.type "object") = some true)
def bz_97 : FB := fun K => decide (oexB K (He.ga K "InvalidChange") = true)
def bz_99 : FB := fun K => decide (PySem.W.subIn K (.ref (He.ga K "InvalidChange")) (.type "BaseException") = some true)
def bz_102 : FB := fun K => decide (PySem.W.findIn K (.ref (He.ga K "InvalidChange")) "__init__" = some (some (.ref (He.ma K (He.ga K "InvalidChange") "__init__"))))
def bz_103 : FB := fun K => decide (PySem.W.typeIn K (.ref (He.ma K (He.ga K "InvalidChange") "__init__")) = some (.type "function"))
def bz_104 : FB := fun K => decide (PySem.W.ks_superIn K (He.ga K "InvalidChange") (He.ga K "InvalidChange") "__init__" = some (some (.builtin "ValueError.__init__")))
def bz_105 : FB := fun K => decide (PySem.W.subIn K (.ref (He.ga K "InvalidChange")) (.type "ValueError") = some true)
def bz_106 : FB := fun K => decide (PySem.W.mroIn K (He.ga K "InvalidChange") (.ref (He.ga K "InvalidChange")) = some true)
def bz_110 : FB := fun K => decide (PySem.W.hasDictIn K (He.ga K "InvalidChange") = true)
def bz_111 : FB := fun K => decide (PySem.W.mroIn K (He.ga K "InvalidChange") (.type "object") = some true)
def bz_122 : FB := fun K => decide (oexB K (He.ga K "InvalidBound") = true)
def bz_124 : FB := fun K => decide (PySem.W.subIn K (.ref (He.ga K "InvalidBound")) (.type "BaseException") = some true)
def bz_127 : FB := fun K => decide (PySem.W.findIn K (.ref (He.ga K "InvalidBound")) "__init__" = some (some (.ref (He.ma K (He.ga K "InvalidBound") "__init__"))))
def bz_128 : FB := fun K => decide (PySem.W.typeIn K (.ref (He.ma K (He.ga K "InvalidBound") "__init__")) = some (.type "function"))
def bz_129 : FB := fun K => decide (PySem.W.ks_superIn K (He.ga K "InvalidBound") (He.ga K "InvalidBound") "__init__" = some (some (.builtin "ValueError.__init__")))
def bz_130 : FB := fun K => decide (PySem.W.subIn K (.ref (He.ga K "InvalidBound")) (.type "ValueError") = some true)
def bz_131 : FB := fun K => decide (PySem.W.mroIn K (He.ga K "InvalidBound") (.ref (He.ga K "InvalidBound")) = some true)
def bz_135 : FB := fun K => decide (PySem.W.hasDictIn K (He.ga K "InvalidBound") = true)
def bz_136 : FB := fun K => decide (PySem.W.mroIn K (He.ga K "InvalidBound") (.type "object") = some true)
def bz_147 : FB := fun K => decide (oexB K (He.ga K "InvalidRule") = true)
def bz_149 : FB := fun K => decide (PySem.W.subIn K (.ref (He.ga K "InvalidRule")) (.type "BaseException") = some true)
def bz_152 : FB := fun K => decide (PySem.W.findIn K (.ref (He.ga K "InvalidRule")) "__init__" = some (some (.ref (He.ma K (He.ga K "InvalidRule") "__init__"))))
def bz_153 : FB := fun K => decide (PySem.W.typeIn K (.ref (He.ma K (He.ga K "InvalidRule") "__init__")) = some (.type "function"))
def bz_154 : FB := fun K => decide (PySem.W.ks_superIn K (He.ga K "InvalidRule") (He.ga K "InvalidRule") "__init__" = some (some (.builtin "ValueError.__init__")))
def bz_155 : FB := fun K => decide (PySem.W.subIn K (.ref (He.ga K "InvalidRule")) (.type "ValueError") = some true)
def bz_156 : FB := fun K => decide (PySem.W.mroIn K (He.ga K "InvalidRule") (.ref (He.ga K "InvalidRule")) = some true)
def bz_160 : FB := fun K => decide (PySem.W.hasDictIn K (He.ga K "InvalidRule") = true)
def bz_161 : FB := fun K => decide (PySem.W.mroIn K (He.ga K "InvalidRule") (.type "object") = some true)
def bz_172 : FB := fun K => decide (oexB K (He.ga K "InvalidKind") = true)
def bz_174 : FB := fun K => decide (PySem.W.subIn K (.ref (He.ga K "InvalidKind")) (.type "BaseException") = some true)
def bz_177 : FB := fun K => decide (PySem.W.findIn K (.ref (He.ga K "InvalidKind")) "__init__" = some (some (.ref (He.ma K (He.ga K "InvalidKind") "__init__"))))
def bz_178 : FB := fun K => decide (PySem.W.typeIn K (.ref (He.ma K (He.ga K "InvalidKind") "__init__")) = some (.type "function"))
def bz_179 : FB := fun K => decide (PySem.W.ks_superIn K (He.ga K "InvalidKind") (He.ga K "InvalidKind") "__init__" = some (some (.builtin "ValueError.__init__")))
def bz_180 : FB := fun K => decide (PySem.W.subIn K (.ref (He.ga K "InvalidKind")) (.type "ValueError") = some true)
def bz_181 : FB := fun K => decide (PySem.W.mroIn K (He.ga K "InvalidKind") (.ref (He.ga K "InvalidKind")) = some true)
def bz_185 : FB := fun K => decide (PySem.W.hasDictIn K (He.ga K "InvalidKind") = true)
def bz_186 : FB := fun K => decide (PySem.W.mroIn K (He.ga K "InvalidKind") (.type "object") = some true)
def bz_197 : FB := fun K => decide (oexB K (He.ga K "LimitExceeded") = true)
def bz_199 : FB := fun K => decide (PySem.W.subIn K (.ref (He.ga K "LimitExceeded")) (.type "BaseException") = some true)
def bz_202 : FB := fun K => decide (PySem.W.findIn K (.ref (He.ga K "LimitExceeded")) "__init__" = some (some (.ref (He.ma K (He.ga K "LimitExceeded") "__init__"))))
def bz_203 : FB := fun K => decide (PySem.W.typeIn K (.ref (He.ma K (He.ga K "LimitExceeded") "__init__")) = some (.type "function"))
def bz_204 : FB := fun K => decide (PySem.W.ks_superIn K (He.ga K "LimitExceeded") (He.ga K "LimitExceeded") "__init__" = some (some (.builtin "ValueError.__init__")))
def bz_205 : FB := fun K => decide (PySem.W.subIn K (.ref (He.ga K "LimitExceeded")) (.type "ValueError") = some true)
def bz_206 : FB := fun K => decide (PySem.W.mroIn K (He.ga K "LimitExceeded") (.ref (He.ga K "LimitExceeded")) = some true)
def bz_210 : FB := fun K => decide (PySem.W.hasDictIn K (He.ga K "LimitExceeded") = true)
def bz_211 : FB := fun K => decide (PySem.W.mroIn K (He.ga K "LimitExceeded") (.type "object") = some true)
def bz_222 : FB := fun K => decide (oexB K (He.ga K "InvalidWords") = true)
def bz_224 : FB := fun K => decide (PySem.W.subIn K (.ref (He.ga K "InvalidWords")) (.type "BaseException") = some true)
def bz_227 : FB := fun K => decide (PySem.W.findIn K (.ref (He.ga K "InvalidWords")) "__init__" = some (some (.ref (He.ma K (He.ga K "InvalidWords") "__init__"))))
def bz_228 : FB := fun K => decide (PySem.W.typeIn K (.ref (He.ma K (He.ga K "InvalidWords") "__init__")) = some (.type "function"))
def bz_229 : FB := fun K => decide (PySem.W.ks_superIn K (He.ga K "InvalidWords") (He.ga K "InvalidWords") "__init__" = some (some (.builtin "ValueError.__init__")))
def bz_230 : FB := fun K => decide (PySem.W.subIn K (.ref (He.ga K "InvalidWords")) (.type "ValueError") = some true)
def bz_231 : FB := fun K => decide (PySem.W.mroIn K (He.ga K "InvalidWords") (.ref (He.ga K "InvalidWords")) = some true)
def bz_235 : FB := fun K => decide (PySem.W.hasDictIn K (He.ga K "InvalidWords") = true)
def bz_236 : FB := fun K => decide (PySem.W.mroIn K (He.ga K "InvalidWords") (.type "object") = some true)
def bz_247 : FB := fun K => decide (oexB K (He.ga K "InvalidText") = true)
def bz_249 : FB := fun K => decide (PySem.W.subIn K (.ref (He.ga K "InvalidText")) (.type "BaseException") = some true)
def bz_252 : FB := fun K => decide (PySem.W.findIn K (.ref (He.ga K "InvalidText")) "__init__" = some (some (.ref (He.ma K (He.ga K "InvalidText") "__init__"))))
def bz_253 : FB := fun K => decide (PySem.W.typeIn K (.ref (He.ma K (He.ga K "InvalidText") "__init__")) = some (.type "function"))
def bz_254 : FB := fun K => decide (PySem.W.ks_superIn K (He.ga K "InvalidText") (He.ga K "InvalidText") "__init__" = some (some (.builtin "ValueError.__init__")))
def bz_255 : FB := fun K => decide (PySem.W.subIn K (.ref (He.ga K "InvalidText")) (.type "ValueError") = some true)
def bz_256 : FB := fun K => decide (PySem.W.mroIn K (He.ga K "InvalidText") (.ref (He.ga K "InvalidText")) = some true)
def bz_260 : FB := fun K => decide (PySem.W.hasDictIn K (He.ga K "InvalidText") = true)
def bz_261 : FB := fun K => decide (PySem.W.mroIn K (He.ga K "InvalidText") (.type "object") = some true)
def bz_272 : FB := fun K => decide (oexB K (He.ga K "InvalidTable") = true)
def bz_274 : FB := fun K => decide (PySem.W.subIn K (.ref (He.ga K "InvalidTable")) (.type "BaseException") = some true)
def bz_277 : FB := fun K => decide (PySem.W.findIn K (.ref (He.ga K "InvalidTable")) "__init__" = some (some (.ref (He.ma K (He.ga K "InvalidTable") "__init__"))))
def bz_278 : FB := fun K => decide (PySem.W.typeIn K (.ref (He.ma K (He.ga K "InvalidTable") "__init__")) = some (.type "function"))
def bz_279 : FB := fun K => decide (PySem.W.ks_superIn K (He.ga K "InvalidTable") (He.ga K "InvalidTable") "__init__" = some (some (.builtin "ValueError.__init__")))
def bz_280 : FB := fun K => decide (PySem.W.subIn K (.ref (He.ga K "InvalidTable")) (.type "ValueError") = some true)
def bz_281 : FB := fun K => decide (PySem.W.mroIn K (He.ga K "InvalidTable") (.ref (He.ga K "InvalidTable")) = some true)
def bz_285 : FB := fun K => decide (PySem.W.hasDictIn K (He.ga K "InvalidTable") = true)
def bz_286 : FB := fun K => decide (PySem.W.mroIn K (He.ga K "InvalidTable") (.type "object") = some true)
def bz_297 : FB := fun K => decide (oexB K (He.ga K "NotComparable") = true)
def bz_299 : FB := fun K => decide (PySem.W.subIn K (.ref (He.ga K "NotComparable")) (.type "BaseException") = some true)
def bz_302 : FB := fun K => decide (PySem.W.findIn K (.ref (He.ga K "NotComparable")) "__init__" = some (some (.ref (He.ma K (He.ga K "NotComparable") "__init__"))))
def bz_303 : FB := fun K => decide (PySem.W.typeIn K (.ref (He.ma K (He.ga K "NotComparable") "__init__")) = some (.type "function"))
def bz_304 : FB := fun K => decide (PySem.W.ks_superIn K (He.ga K "NotComparable") (He.ga K "NotComparable") "__init__" = some (some (.builtin "ValueError.__init__")))
def bz_305 : FB := fun K => decide (PySem.W.subIn K (.ref (He.ga K "NotComparable")) (.type "ValueError") = some true)
def bz_306 : FB := fun K => decide (PySem.W.mroIn K (He.ga K "NotComparable") (.ref (He.ga K "NotComparable")) = some true)
def bz_310 : FB := fun K => decide (PySem.W.hasDictIn K (He.ga K "NotComparable") = true)
def bz_311 : FB := fun K => decide (PySem.W.mroIn K (He.ga K "NotComparable") (.type "object") = some true)
def bz_322 : FB := fun K => decide (oexB K (He.ga K "NoFault") = true)
def bz_324 : FB := fun K => decide (PySem.W.subIn K (.ref (He.ga K "NoFault")) (.type "BaseException") = some true)
def bz_327 : FB := fun K => decide (PySem.W.findIn K (.ref (He.ga K "NoFault")) "__init__" = some (some (.ref (He.ma K (He.ga K "NoFault") "__init__"))))
def bz_328 : FB := fun K => decide (PySem.W.typeIn K (.ref (He.ma K (He.ga K "NoFault") "__init__")) = some (.type "function"))
def bz_329 : FB := fun K => decide (PySem.W.ks_superIn K (He.ga K "NoFault") (He.ga K "NoFault") "__init__" = some (some (.builtin "ValueError.__init__")))
def bz_330 : FB := fun K => decide (PySem.W.subIn K (.ref (He.ga K "NoFault")) (.type "ValueError") = some true)
def bz_331 : FB := fun K => decide (PySem.W.mroIn K (He.ga K "NoFault") (.ref (He.ga K "NoFault")) = some true)
def bz_335 : FB := fun K => decide (PySem.W.hasDictIn K (He.ga K "NoFault") = true)
def bz_336 : FB := fun K => decide (PySem.W.mroIn K (He.ga K "NoFault") (.type "object") = some true)
def bz_347 : FB := fun K => decide (oexB K (He.ga K "UnknownWord") = true)
def bz_349 : FB := fun K => decide (PySem.W.subIn K (.ref (He.ga K "UnknownWord")) (.type "BaseException") = some true)
def bz_352 : FB := fun K => decide (PySem.W.findIn K (.ref (He.ga K "UnknownWord")) "__init__" = some (some (.ref (He.ma K (He.ga K "UnknownWord") "__init__"))))
def bz_353 : FB := fun K => decide (PySem.W.typeIn K (.ref (He.ma K (He.ga K "UnknownWord") "__init__")) = some (.type "function"))
def bz_354 : FB := fun K => decide (PySem.W.ks_superIn K (He.ga K "UnknownWord") (He.ga K "UnknownWord") "__init__" = some (some (.builtin "ValueError.__init__")))
def bz_355 : FB := fun K => decide (PySem.W.subIn K (.ref (He.ga K "UnknownWord")) (.type "ValueError") = some true)
def bz_356 : FB := fun K => decide (PySem.W.mroIn K (He.ga K "UnknownWord") (.ref (He.ga K "UnknownWord")) = some true)
def bz_360 : FB := fun K => decide (PySem.W.hasDictIn K (He.ga K "UnknownWord") = true)
def bz_361 : FB := fun K => decide (PySem.W.mroIn K (He.ga K "UnknownWord") (.type "object") = some true)
def bz_372 : FB := fun K => decide (oexB K (He.ga K "UnknownField") = true)
def bz_374 : FB := fun K => decide (PySem.W.subIn K (.ref (He.ga K "UnknownField")) (.type "BaseException") = some true)
def bz_377 : FB := fun K => decide (PySem.W.findIn K (.ref (He.ga K "UnknownField")) "__init__" = some (some (.ref (He.ma K (He.ga K "UnknownField") "__init__"))))
def bz_378 : FB := fun K => decide (PySem.W.typeIn K (.ref (He.ma K (He.ga K "UnknownField") "__init__")) = some (.type "function"))
def bz_379 : FB := fun K => decide (PySem.W.ks_superIn K (He.ga K "UnknownField") (He.ga K "UnknownField") "__init__" = some (some (.builtin "ValueError.__init__")))
def bz_380 : FB := fun K => decide (PySem.W.subIn K (.ref (He.ga K "UnknownField")) (.type "ValueError") = some true)
def bz_381 : FB := fun K => decide (PySem.W.mroIn K (He.ga K "UnknownField") (.ref (He.ga K "UnknownField")) = some true)
def bz_385 : FB := fun K => decide (PySem.W.hasDictIn K (He.ga K "UnknownField") = true)
def bz_386 : FB := fun K => decide (PySem.W.mroIn K (He.ga K "UnknownField") (.type "object") = some true)
def bz_397 : FB := fun K => decide (oexB K (He.ga K "TooManyAsked") = true)
def bz_399 : FB := fun K => decide (PySem.W.subIn K (.ref (He.ga K "TooManyAsked")) (.type "BaseException") = some true)
def bz_402 : FB := fun K => decide (PySem.W.findIn K (.ref (He.ga K "TooManyAsked")) "__init__" = some (some (.ref (He.ma K (He.ga K "TooManyAsked") "__init__"))))
def bz_403 : FB := fun K => decide (PySem.W.typeIn K (.ref (He.ma K (He.ga K "TooManyAsked") "__init__")) = some (.type "function"))
def bz_404 : FB := fun K => decide (PySem.W.ks_superIn K (He.ga K "TooManyAsked") (He.ga K "TooManyAsked") "__init__" = some (some (.builtin "ValueError.__init__")))
def bz_405 : FB := fun K => decide (PySem.W.subIn K (.ref (He.ga K "TooManyAsked")) (.type "ValueError") = some true)
def bz_406 : FB := fun K => decide (PySem.W.mroIn K (He.ga K "TooManyAsked") (.ref (He.ga K "TooManyAsked")) = some true)
def bz_410 : FB := fun K => decide (PySem.W.hasDictIn K (He.ga K "TooManyAsked") = true)
def bz_411 : FB := fun K => decide (PySem.W.mroIn K (He.ga K "TooManyAsked") (.type "object") = some true)
def bz_422 : FB := fun K => decide (PySem.W.excIn K (He.ga K "InvalidStanding") veL "ValueError.__new__" = true)
def bz_423 : FB := fun K => decide (PySem.W.subIn K (.ref (He.ga K "InvalidStanding")) (.type "BaseException") = some true)
def bz_429 : FB := fun K => decide (PySem.W.hasDictIn K (He.ga K "InvalidStanding") = true)
def bz_430 : FB := fun K => decide (PySem.W.mroIn K (He.ga K "InvalidStanding") (.type "object") = some true)
def bz_441 : FB := fun K => decide (PySem.W.excIn K (He.ga K "InvalidRules") veL "ValueError.__new__" = true)
def bz_442 : FB := fun K => decide (PySem.W.subIn K (.ref (He.ga K "InvalidRules")) (.type "BaseException") = some true)
def bz_448 : FB := fun K => decide (PySem.W.hasDictIn K (He.ga K "InvalidRules") = true)
def bz_449 : FB := fun K => decide (PySem.W.mroIn K (He.ga K "InvalidRules") (.type "object") = some true)
def bz_460 : FB := fun K => decide (PySem.W.excIn K (He.ga K "NothingToRedo") veL "ValueError.__new__" = true)
def bz_461 : FB := fun K => decide (PySem.W.subIn K (.ref (He.ga K "NothingToRedo")) (.type "BaseException") = some true)
def bz_467 : FB := fun K => decide (PySem.W.hasDictIn K (He.ga K "NothingToRedo") = true)
def bz_468 : FB := fun K => decide (PySem.W.mroIn K (He.ga K "NothingToRedo") (.type "object") = some true)
def bz_479 : FB := fun K => decide (PySem.W.excIn K (He.ga K "NoStanding") veL "ValueError.__new__" = true)
def bz_480 : FB := fun K => decide (PySem.W.subIn K (.ref (He.ga K "NoStanding")) (.type "BaseException") = some true)
def bz_486 : FB := fun K => decide (PySem.W.hasDictIn K (He.ga K "NoStanding") = true)
def bz_487 : FB := fun K => decide (PySem.W.mroIn K (He.ga K "NoStanding") (.type "object") = some true)
def bz_498 : FB := fun K => decide (PySem.W.excIn K (He.ga K "NothingToUndo") veL "ValueError.__new__" = true)
def bz_499 : FB := fun K => decide (PySem.W.subIn K (.ref (He.ga K "NothingToUndo")) (.type "BaseException") = some true)
def bz_505 : FB := fun K => decide (PySem.W.hasDictIn K (He.ga K "NothingToUndo") = true)
def bz_506 : FB := fun K => decide (PySem.W.mroIn K (He.ga K "NothingToUndo") (.type "object") = some true)
def bz_517 : FB := fun K => decide (kitAllB K [("InvalidForm", ["InvalidForm", "ShownError"], (He.ga K "InvalidForm")), ("InvalidDeed", ["InvalidDeed", "ShownError"], (He.ga K "InvalidDeed")), ("InvalidChange", ["InvalidChange", "ShownError"], (He.ga K "InvalidChange")), ("InvalidBound", ["InvalidBound", "ShownError"], (He.ga K "InvalidBound")), ("InvalidRule", ["InvalidRule", "ShownError"], (He.ga K "InvalidRule")), ("InvalidKind", ["InvalidKind", "ShownError"], (He.ga K "InvalidKind")), ("LimitExceeded", ["LimitExceeded", "ShownError"], (He.ga K "LimitExceeded")), ("InvalidWords", ["InvalidWords", "ShownError"], (He.ga K "InvalidWords")), ("InvalidText", ["InvalidText", "ShownError"], (He.ga K "InvalidText")), ("InvalidTable", ["InvalidTable", "ShownError"], (He.ga K "InvalidTable")), ("NotComparable", ["NotComparable", "ShownError"], (He.ga K "NotComparable")), ("NoFault", ["NoFault", "ShownError"], (He.ga K "NoFault")), ("UnknownWord", ["UnknownWord", "ShownError"], (He.ga K "UnknownWord")), ("UnknownField", ["UnknownField", "ShownError"], (He.ga K "UnknownField")), ("TooManyAsked", ["TooManyAsked", "ShownError"], (He.ga K "TooManyAsked")), ("InvalidStanding", ["InvalidStanding", "ShownError"], (He.ga K "InvalidStanding")), ("InvalidRules", ["InvalidRules", "ShownError"], (He.ga K "InvalidRules")), ("NothingToRedo", ["NothingToRedo", "ShownError"], (He.ga K "NothingToRedo")), ("NoStanding", ["NoStanding", "ShownError"], (He.ga K "NoStanding")), ("NothingToUndo", ["NothingToUndo", "ShownError"], (He.ga K "NothingToUndo"))] [("ShownError", (He.ga K "ShownError")), ("InvalidDeed", (He.ga K "InvalidDeed")), ("InvalidChange", (He.ga K "InvalidChange")), ("InvalidBound", (He.ga K "InvalidBound")), ("InvalidRule", (He.ga K "InvalidRule")), ("InvalidKind", (He.ga K "InvalidKind")), ("InvalidForm", (He.ga K "InvalidForm")), ("InvalidStanding", (He.ga K "InvalidStanding")), ("InvalidRules", (He.ga K "InvalidRules")), ("InvalidWords", (He.ga K "InvalidWords")), ("InvalidText", (He.ga K "InvalidText")), ("InvalidTable", (He.ga K "InvalidTable")), ("NoStanding", (He.ga K "NoStanding")), ("NoFault", (He.ga K "NoFault")), ("LimitExceeded", (He.ga K "LimitExceeded")), ("NothingToRedo", (He.ga K "NothingToRedo")), ("NotComparable", (He.ga K "NotComparable")), ("TooManyAsked", (He.ga K "TooManyAsked")), ("NothingToUndo", (He.ga K "NothingToUndo")), ("UnknownWord", (He.ga K "UnknownWord")), ("UnknownField", (He.ga K "UnknownField"))] = true)
def bz_518 : FB := fun K => decide (kitVB K [("InvalidForm", ["InvalidForm", "ShownError"], (He.ga K "InvalidForm")), ("InvalidDeed", ["InvalidDeed", "ShownError"], (He.ga K "InvalidDeed")), ("InvalidChange", ["InvalidChange", "ShownError"], (He.ga K "InvalidChange")), ("InvalidBound", ["InvalidBound", "ShownError"], (He.ga K "InvalidBound")), ("InvalidRule", ["InvalidRule", "ShownError"], (He.ga K "InvalidRule")), ("InvalidKind", ["InvalidKind", "ShownError"], (He.ga K "InvalidKind")), ("LimitExceeded", ["LimitExceeded", "ShownError"], (He.ga K "LimitExceeded")), ("InvalidWords", ["InvalidWords", "ShownError"], (He.ga K "InvalidWords")), ("InvalidText", ["InvalidText", "ShownError"], (He.ga K "InvalidText")), ("InvalidTable", ["InvalidTable", "ShownError"], (He.ga K "InvalidTable")), ("NotComparable", ["NotComparable", "ShownError"], (He.ga K "NotComparable")), ("NoFault", ["NoFault", "ShownError"], (He.ga K "NoFault")), ("UnknownWord", ["UnknownWord", "ShownError"], (He.ga K "UnknownWord")), ("UnknownField", ["UnknownField", "ShownError"], (He.ga K "UnknownField")), ("TooManyAsked", ["TooManyAsked", "ShownError"], (He.ga K "TooManyAsked")), ("InvalidStanding", ["InvalidStanding", "ShownError"], (He.ga K "InvalidStanding")), ("InvalidRules", ["InvalidRules", "ShownError"], (He.ga K "InvalidRules")), ("NothingToRedo", ["NothingToRedo", "ShownError"], (He.ga K "NothingToRedo")), ("NoStanding", ["NoStanding", "ShownError"], (He.ga K "NoStanding")), ("NothingToUndo", ["NothingToUndo", "ShownError"], (He.ga K "NothingToUndo"))] = true)
def bsZ : List FB := ([bz_0, bz_1, bz_2, bz_3, bz_4, bz_5, bz_6, bz_7, bz_8, bz_9, bz_10, bz_11, bz_12, bz_13, bz_14, bG "_law_mix", bG "_law_box", bG "_law_draw", bG "_law_same", bG "_law_classes", bG "_law_errors", bG "_law_held", bG "law", bC "ShownError", bC "InvalidForm", bC "InvalidRule", bC "InvalidWords", bC "InvalidStanding", bC "InvalidDeed", bC "InvalidTable"] : List (FB)) ++ ([bC "InvalidText", bC "UnknownField", bC "UnknownWord", bC "TooManyAsked", bC "NothingToUndo", bC "NothingToRedo", bC "InvalidBound", bC "LimitExceeded", bC "NoStanding", bC "NoFault", bC "InvalidKind", bC "NotComparable", bC "InvalidChange", bC "InvalidRules", bz_44, bz_45, bz_46, bz_47, bF "InvalidForm" "__setattr__" (some (.builtin "object.__setattr__")), bz_49, bT "InvalidForm", bK "InvalidForm", bz_52, bz_53, bz_54, bz_55, bz_56, bF "InvalidForm" "__getattribute__" (some (.builtin "BaseException.__getattribute__")), bF "InvalidForm" "__getattr__" none, bF "InvalidForm" "__class__" (some (.builtin "object.__class__"))] : List (FB)) ++ ([bz_60, bz_61, bF "InvalidForm" "deed" none, bF "InvalidForm" "field" none, bF "InvalidForm" "index" none, bF "InvalidForm" "kind" none, bF "InvalidForm" "limit" none, bF "InvalidForm" "line" none, bF "InvalidForm" "part" none, bF "InvalidForm" "value" none, bF "InvalidForm" "word" none, bF "InvalidForm" "words" none, bz_72, bF "InvalidDeed" "__setattr__" (some (.builtin "object.__setattr__")), bz_74, bT "InvalidDeed", bK "InvalidDeed", bz_77, bz_78, bz_79, bz_80, bz_81, bF "InvalidDeed" "__getattribute__" (some (.builtin "BaseException.__getattribute__")), bF "InvalidDeed" "__getattr__" none, bF "InvalidDeed" "__class__" (some (.builtin "object.__class__")), bz_85, bz_86, bF "InvalidDeed" "deed" none, bF "InvalidDeed" "field" none, bF "InvalidDeed" "index" none] : List (FB)) ++ ([bF "InvalidDeed" "kind" none, bF "InvalidDeed" "limit" none, bF "InvalidDeed" "line" none, bF "InvalidDeed" "part" none, bF "InvalidDeed" "value" none, bF "InvalidDeed" "word" none, bF "InvalidDeed" "words" none, bz_97, bF "InvalidChange" "__setattr__" (some (.builtin "object.__setattr__")), bz_99, bT "InvalidChange", bK "InvalidChange", bz_102, bz_103, bz_104, bz_105, bz_106, bF "InvalidChange" "__getattribute__" (some (.builtin "BaseException.__getattribute__")), bF "InvalidChange" "__getattr__" none, bF "InvalidChange" "__class__" (some (.builtin "object.__class__")), bz_110, bz_111, bF "InvalidChange" "deed" none, bF "InvalidChange" "field" none, bF "InvalidChange" "index" none, bF "InvalidChange" "kind" none, bF "InvalidChange" "limit" none, bF "InvalidChange" "line" none, bF "InvalidChange" "part" none, bF "InvalidChange" "value" none] : List (FB)) ++ ([bF "InvalidChange" "word" none, bF "InvalidChange" "words" none, bz_122, bF "InvalidBound" "__setattr__" (some (.builtin "object.__setattr__")), bz_124, bT "InvalidBound", bK "InvalidBound", bz_127, bz_128, bz_129, bz_130, bz_131, bF "InvalidBound" "__getattribute__" (some (.builtin "BaseException.__getattribute__")), bF "InvalidBound" "__getattr__" none, bF "InvalidBound" "__class__" (some (.builtin "object.__class__")), bz_135, bz_136, bF "InvalidBound" "deed" none, bF "InvalidBound" "field" none, bF "InvalidBound" "index" none, bF "InvalidBound" "kind" none, bF "InvalidBound" "limit" none, bF "InvalidBound" "line" none, bF "InvalidBound" "part" none, bF "InvalidBound" "value" none, bF "InvalidBound" "word" none, bF "InvalidBound" "words" none, bz_147, bF "InvalidRule" "__setattr__" (some (.builtin "object.__setattr__")), bz_149] : List (FB)) ++ ([bT "InvalidRule", bK "InvalidRule", bz_152, bz_153, bz_154, bz_155, bz_156, bF "InvalidRule" "__getattribute__" (some (.builtin "BaseException.__getattribute__")), bF "InvalidRule" "__getattr__" none, bF "InvalidRule" "__class__" (some (.builtin "object.__class__")), bz_160, bz_161, bF "InvalidRule" "deed" none, bF "InvalidRule" "field" none, bF "InvalidRule" "index" none, bF "InvalidRule" "kind" none, bF "InvalidRule" "limit" none, bF "InvalidRule" "line" none, bF "InvalidRule" "part" none, bF "InvalidRule" "value" none, bF "InvalidRule" "word" none, bF "InvalidRule" "words" none, bz_172, bF "InvalidKind" "__setattr__" (some (.builtin "object.__setattr__")), bz_174, bT "InvalidKind", bK "InvalidKind", bz_177, bz_178, bz_179] : List (FB)) ++ ([bz_180, bz_181, bF "InvalidKind" "__getattribute__" (some (.builtin "BaseException.__getattribute__")), bF "InvalidKind" "__getattr__" none, bF "InvalidKind" "__class__" (some (.builtin "object.__class__")), bz_185, bz_186, bF "InvalidKind" "deed" none, bF "InvalidKind" "field" none, bF "InvalidKind" "index" none, bF "InvalidKind" "kind" none, bF "InvalidKind" "limit" none, bF "InvalidKind" "line" none, bF "InvalidKind" "part" none, bF "InvalidKind" "value" none, bF "InvalidKind" "word" none, bF "InvalidKind" "words" none, bz_197, bF "LimitExceeded" "__setattr__" (some (.builtin "object.__setattr__")), bz_199, bT "LimitExceeded", bK "LimitExceeded", bz_202, bz_203, bz_204, bz_205, bz_206, bF "LimitExceeded" "__getattribute__" (some (.builtin "BaseException.__getattribute__")), bF "LimitExceeded" "__getattr__" none, bF "LimitExceeded" "__class__" (some (.builtin "object.__class__"))] : List (FB)) ++ ([bz_210, bz_211, bF "LimitExceeded" "deed" none, bF "LimitExceeded" "field" none, bF "LimitExceeded" "index" none, bF "LimitExceeded" "kind" none, bF "LimitExceeded" "limit" none, bF "LimitExceeded" "line" none, bF "LimitExceeded" "part" none, bF "LimitExceeded" "value" none, bF "LimitExceeded" "word" none, bF "LimitExceeded" "words" none, bz_222, bF "InvalidWords" "__setattr__" (some (.builtin "object.__setattr__")), bz_224, bT "InvalidWords", bK "InvalidWords", bz_227, bz_228, bz_229, bz_230, bz_231, bF "InvalidWords" "__getattribute__" (some (.builtin "BaseException.__getattribute__")), bF "InvalidWords" "__getattr__" none, bF "InvalidWords" "__class__" (some (.builtin "object.__class__")), bz_235, bz_236, bF "InvalidWords" "deed" none, bF "InvalidWords" "field" none, bF "InvalidWords" "index" none] : List (FB)) ++ ([bF "InvalidWords" "kind" none, bF "InvalidWords" "limit" none, bF "InvalidWords" "line" none, bF "InvalidWords" "part" none, bF "InvalidWords" "value" none, bF "InvalidWords" "word" none, bF "InvalidWords" "words" none, bz_247, bF "InvalidText" "__setattr__" (some (.builtin "object.__setattr__")), bz_249, bT "InvalidText", bK "InvalidText", bz_252, bz_253, bz_254, bz_255, bz_256, bF "InvalidText" "__getattribute__" (some (.builtin "BaseException.__getattribute__")), bF "InvalidText" "__getattr__" none, bF "InvalidText" "__class__" (some (.builtin "object.__class__")), bz_260, bz_261, bF "InvalidText" "deed" none, bF "InvalidText" "field" none, bF "InvalidText" "index" none, bF "InvalidText" "kind" none, bF "InvalidText" "limit" none, bF "InvalidText" "line" none, bF "InvalidText" "part" none, bF "InvalidText" "value" none] : List (FB)) ++ ([bF "InvalidText" "word" none, bF "InvalidText" "words" none, bz_272, bF "InvalidTable" "__setattr__" (some (.builtin "object.__setattr__")), bz_274, bT "InvalidTable", bK "InvalidTable", bz_277, bz_278, bz_279, bz_280, bz_281, bF "InvalidTable" "__getattribute__" (some (.builtin "BaseException.__getattribute__")), bF "InvalidTable" "__getattr__" none, bF "InvalidTable" "__class__" (some (.builtin "object.__class__")), bz_285, bz_286, bF "InvalidTable" "deed" none, bF "InvalidTable" "field" none, bF "InvalidTable" "index" none, bF "InvalidTable" "kind" none, bF "InvalidTable" "limit" none, bF "InvalidTable" "line" none, bF "InvalidTable" "part" none, bF "InvalidTable" "value" none, bF "InvalidTable" "word" none, bF "InvalidTable" "words" none, bz_297, bF "NotComparable" "__setattr__" (some (.builtin "object.__setattr__")), bz_299] : List (FB)) ++ ([bT "NotComparable", bK "NotComparable", bz_302, bz_303, bz_304, bz_305, bz_306, bF "NotComparable" "__getattribute__" (some (.builtin "BaseException.__getattribute__")), bF "NotComparable" "__getattr__" none, bF "NotComparable" "__class__" (some (.builtin "object.__class__")), bz_310, bz_311, bF "NotComparable" "deed" none, bF "NotComparable" "field" none, bF "NotComparable" "index" none, bF "NotComparable" "kind" none, bF "NotComparable" "limit" none, bF "NotComparable" "line" none, bF "NotComparable" "part" none, bF "NotComparable" "value" none, bF "NotComparable" "word" none, bF "NotComparable" "words" none, bz_322, bF "NoFault" "__setattr__" (some (.builtin "object.__setattr__")), bz_324, bT "NoFault", bK "NoFault", bz_327, bz_328, bz_329] : List (FB)) ++ ([bz_330, bz_331, bF "NoFault" "__getattribute__" (some (.builtin "BaseException.__getattribute__")), bF "NoFault" "__getattr__" none, bF "NoFault" "__class__" (some (.builtin "object.__class__")), bz_335, bz_336, bF "NoFault" "deed" none, bF "NoFault" "field" none, bF "NoFault" "index" none, bF "NoFault" "kind" none, bF "NoFault" "limit" none, bF "NoFault" "line" none, bF "NoFault" "part" none, bF "NoFault" "value" none, bF "NoFault" "word" none, bF "NoFault" "words" none, bz_347, bF "UnknownWord" "__setattr__" (some (.builtin "object.__setattr__")), bz_349, bT "UnknownWord", bK "UnknownWord", bz_352, bz_353, bz_354, bz_355, bz_356, bF "UnknownWord" "__getattribute__" (some (.builtin "BaseException.__getattribute__")), bF "UnknownWord" "__getattr__" none, bF "UnknownWord" "__class__" (some (.builtin "object.__class__"))] : List (FB)) ++ ([bz_360, bz_361, bF "UnknownWord" "deed" none, bF "UnknownWord" "field" none, bF "UnknownWord" "index" none, bF "UnknownWord" "kind" none, bF "UnknownWord" "limit" none, bF "UnknownWord" "line" none, bF "UnknownWord" "part" none, bF "UnknownWord" "value" none, bF "UnknownWord" "word" none, bF "UnknownWord" "words" none, bz_372, bF "UnknownField" "__setattr__" (some (.builtin "object.__setattr__")), bz_374, bT "UnknownField", bK "UnknownField", bz_377, bz_378, bz_379, bz_380, bz_381, bF "UnknownField" "__getattribute__" (some (.builtin "BaseException.__getattribute__")), bF "UnknownField" "__getattr__" none, bF "UnknownField" "__class__" (some (.builtin "object.__class__")), bz_385, bz_386, bF "UnknownField" "deed" none, bF "UnknownField" "field" none, bF "UnknownField" "index" none] : List (FB)) ++ ([bF "UnknownField" "kind" none, bF "UnknownField" "limit" none, bF "UnknownField" "line" none, bF "UnknownField" "part" none, bF "UnknownField" "value" none, bF "UnknownField" "word" none, bF "UnknownField" "words" none, bz_397, bF "TooManyAsked" "__setattr__" (some (.builtin "object.__setattr__")), bz_399, bT "TooManyAsked", bK "TooManyAsked", bz_402, bz_403, bz_404, bz_405, bz_406, bF "TooManyAsked" "__getattribute__" (some (.builtin "BaseException.__getattribute__")), bF "TooManyAsked" "__getattr__" none, bF "TooManyAsked" "__class__" (some (.builtin "object.__class__")), bz_410, bz_411, bF "TooManyAsked" "deed" none, bF "TooManyAsked" "field" none, bF "TooManyAsked" "index" none, bF "TooManyAsked" "kind" none, bF "TooManyAsked" "limit" none, bF "TooManyAsked" "line" none, bF "TooManyAsked" "part" none, bF "TooManyAsked" "value" none] : List (FB)) ++ ([bF "TooManyAsked" "word" none, bF "TooManyAsked" "words" none, bz_422, bz_423, bT "InvalidStanding", bK "InvalidStanding", bF "InvalidStanding" "__getattribute__" (some (.builtin "BaseException.__getattribute__")), bF "InvalidStanding" "__getattr__" none, bF "InvalidStanding" "__class__" (some (.builtin "object.__class__")), bz_429, bz_430, bF "InvalidStanding" "deed" none, bF "InvalidStanding" "field" none, bF "InvalidStanding" "index" none, bF "InvalidStanding" "kind" none, bF "InvalidStanding" "limit" none, bF "InvalidStanding" "line" none, bF "InvalidStanding" "part" none, bF "InvalidStanding" "value" none, bF "InvalidStanding" "word" none, bF "InvalidStanding" "words" none, bz_441, bz_442, bT "InvalidRules", bK "InvalidRules", bF "InvalidRules" "__getattribute__" (some (.builtin "BaseException.__getattribute__")), bF "InvalidRules" "__getattr__" none, bF "InvalidRules" "__class__" (some (.builtin "object.__class__")), bz_448, bz_449] : List (FB)) ++ ([bF "InvalidRules" "deed" none, bF "InvalidRules" "field" none, bF "InvalidRules" "index" none, bF "InvalidRules" "kind" none, bF "InvalidRules" "limit" none, bF "InvalidRules" "line" none, bF "InvalidRules" "part" none, bF "InvalidRules" "value" none, bF "InvalidRules" "word" none, bF "InvalidRules" "words" none, bz_460, bz_461, bT "NothingToRedo", bK "NothingToRedo", bF "NothingToRedo" "__getattribute__" (some (.builtin "BaseException.__getattribute__")), bF "NothingToRedo" "__getattr__" none, bF "NothingToRedo" "__class__" (some (.builtin "object.__class__")), bz_467, bz_468, bF "NothingToRedo" "deed" none, bF "NothingToRedo" "field" none, bF "NothingToRedo" "index" none, bF "NothingToRedo" "kind" none, bF "NothingToRedo" "limit" none, bF "NothingToRedo" "line" none, bF "NothingToRedo" "part" none, bF "NothingToRedo" "value" none, bF "NothingToRedo" "word" none, bF "NothingToRedo" "words" none, bz_479] : List (FB)) ++ ([bz_480, bT "NoStanding", bK "NoStanding", bF "NoStanding" "__getattribute__" (some (.builtin "BaseException.__getattribute__")), bF "NoStanding" "__getattr__" none, bF "NoStanding" "__class__" (some (.builtin "object.__class__")), bz_486, bz_487, bF "NoStanding" "deed" none, bF "NoStanding" "field" none, bF "NoStanding" "index" none, bF "NoStanding" "kind" none, bF "NoStanding" "limit" none, bF "NoStanding" "line" none, bF "NoStanding" "part" none, bF "NoStanding" "value" none, bF "NoStanding" "word" none, bF "NoStanding" "words" none, bz_498, bz_499, bT "NothingToUndo", bK "NothingToUndo", bF "NothingToUndo" "__getattribute__" (some (.builtin "BaseException.__getattribute__")), bF "NothingToUndo" "__getattr__" none, bF "NothingToUndo" "__class__" (some (.builtin "object.__class__")), bz_505, bz_506, bF "NothingToUndo" "deed" none, bF "NothingToUndo" "field" none, bF "NothingToUndo" "index" none] : List (FB)) ++ ([bF "NothingToUndo" "kind" none, bF "NothingToUndo" "limit" none, bF "NothingToUndo" "line" none, bF "NothingToUndo" "part" none, bF "NothingToUndo" "value" none, bF "NothingToUndo" "word" none, bF "NothingToUndo" "words" none, bz_517, bz_518, bN "ValueError", bN "all", bN "bool", bN "int", bN "isinstance", bN "len", bN "list", bN "range", bN "str", bN "super", bN "tuple"] : List (FB))
abbrev RZ : PySem.W.OpenRow := PySem.W.OpenLaw.row PySem.Challenge.rw_wrongshown_k43_errors_apart
abbrev qZ : Program := PySem.W.view RZ.prog [30]
def namesZ : List Str := (["__name__", "ShownError", "InvalidForm", "InvalidRule", "InvalidWords", "InvalidStanding", "InvalidDeed", "InvalidTable", "InvalidText", "UnknownField", "UnknownWord", "TooManyAsked", "NothingToUndo", "NothingToRedo", "InvalidBound", "LimitExceeded", "NoStanding", "NoFault", "InvalidKind", "NotComparable", "InvalidChange", "InvalidRules", "__name__", "_law_mix", "_law_box", "_law_draw", "_law_same", "_law_classes", "_law_errors", "_law_held"] : List (Str))
abbrev hkZ : PySem.W.Hook := hookZ glZ msZ fnZ tsZ xsZ esZ bsZ
def obZ (s : PySem.W.SharedT) : AlZ := obsZ fnZ tsZ xsZ bsZ (frZ (HandSHeadRun.getT s) glZ msZ)
theorem obZ_eq (s : PySem.W.SharedT) : obZ s = hkZ.obs s.abs := obsZ_eq (HandSHeadRun.getT_eq s)
open PyProof.Rows PySem.W in
set_option maxHeartbeats 0 in
theorem runZ1 (w : World) : HandSHeadRun.RunEq RZ qZ hkZ obZ 20000 namesZ (w.withFollow "special-get-raises" false) := by
  intro os
  kernel_rfl
open PyProof.Rows PySem.W in
set_option maxHeartbeats 0 in
theorem runZ2 (w : World) : HandSHeadRun.RunEq RZ qZ hkZ obZ 20000 namesZ (w.withFollow "special-get-raises" true) := by
  intro os
  kernel_rfl
open PyProof.Rows PySem.W in
theorem runZ (w : World) : HandSHeadRun.RunEq RZ qZ hkZ obZ 20000 namesZ w := byRow2 "special-get-raises" (P := fun w => HandSHeadRun.RunEq RZ qZ hkZ obZ 20000 namesZ w) runZ1 runZ2 w
end LW
end

section
namespace W3
open PySem
inductive T where
  | non | bl (b : Bool) | int (i : Int) | str (s : Str) | tup (ts : List T) | ref (l : Nat) | fl (ts : List T) | cls (c : Str)
inductive Ob where
  | lst (ts : List T) | dic (kvs : List (T × T)) | dtk (kvs : List (T × T)) | ins (c : Str) (fs : List (Str × T)) | err (c : Str) (fs : List (Str × T))
abbrev Hh := List Ob
inductive Res (α : Type) where
  | ok (a : α) (h : Hh) | exc (c : Str) (fs : List (Str × T)) (h : Hh) | stk
def Res.bind {α β : Type} (r : Res α) (f : α → Hh → Res β) : Res β :=
  match r with
  | .ok a h => f a h
  | .exc c fs h => .exc c fs h
  | .stk => .stk
@[simp] theorem Res.bind_ok {α β : Type} (a : α) (h : Hh) (f : α → Hh → Res β) : (Res.ok a h).bind f = f a h := Eq.trans rfl rfl
@[simp] theorem Res.bind_exc {α β : Type} (c : Str) (fs : List (Str × T)) (h : Hh) (f : α → Hh → Res β) : (Res.exc c fs h : Res α).bind f = .exc c fs h := Eq.trans rfl rfl
@[simp] theorem Res.bind_stk {α β : Type} (f : α → Hh → Res β) : (Res.stk : Res α).bind f = .stk := Eq.trans rfl rfl
abbrev St3 := List (Option T)
abbrev SE := St3 → Hh → Res T
abbrev ST := St3 → Hh → Res Bool
abbrev SA := St3 → Hh → Res (List T)
def sVar (i : Nat) : SE := fun σ h => match σ[i]? with | some (some t) => .ok t h | _ => .stk
def sC (t : T) : SE := fun _ h => .ok t h
def s1 (f : T → Hh → Res T) (a : SE) : SE := fun σ h => (a σ h).bind fun x h1 => f x h1
def s2 (f : T → T → Hh → Res T) (a b : SE) : SE := fun σ h => (a σ h).bind fun x h1 => (b σ h1).bind fun y h2 => f x y h2
def sT (a : SE) : ST := fun σ h => (a σ h).bind fun x h1 => match x with | .bl b => .ok b h1 | _ => .stk
def stAnd (a b : ST) : ST := fun σ h => (a σ h).bind fun x h1 => if x = true then b σ h1 else .ok false h1
def stOr (a b : ST) : ST := fun σ h => (a σ h).bind fun x h1 => if x = true then .ok true h1 else b σ h1
def stNot (a : ST) : ST := fun σ h => (a σ h).bind fun x h1 => .ok (!x) h1
def sB (a : ST) : SE := fun σ h => (a σ h).bind fun x h1 => .ok (.bl x) h1
def sIf (c : ST) (a b : SE) : SE := fun σ h => (c σ h).bind fun x h1 => if x = true then a σ h1 else b σ h1
def sChain (f g : T → T → Hh → Res T) (a b c : SE) : SE := fun σ h => (a σ h).bind fun x h1 => (b σ h1).bind fun y h2 => (f x y h2).bind fun z h3 => match z with
  | .bl k => if k = true then (c σ h3).bind fun w h4 => g y w h4 else .ok (.bl false) h3
  | _ => .stk
def saNil : SA := fun _ h => .ok [] h
def saCons (a : SE) (r : SA) : SA := fun σ h => (a σ h).bind fun x h1 => (r σ h1).bind fun xs h2 => .ok (x :: xs) h2
def sTup (a : SA) : SE := fun σ h => (a σ h).bind fun xs h1 => if xs.length ≤ sizeLine then .ok (.tup xs) h1 else .stk
def alloc (o : Ob) (h : Hh) : Res T := .ok (.ref h.length) (h ++ [o])
def sLst (a : SA) : SE := fun σ h => (a σ h).bind fun xs h1 => if xs.length ≤ sizeLine then alloc (.lst xs) h1 else .stk
def sCl (f : List T → Hh → Res T) (a : SA) : SE := fun σ h => (a σ h).bind fun xs h1 => f xs h1
def sMt (f : T → List T → Hh → Res T) (o : SE) (a : SA) : SE := fun σ h => (o σ h).bind fun x h1 => (a σ h1).bind fun xs h2 => f x xs h2
def lstAt (h : Hh) (l : Nat) : Option (List T) := match h[l]? with | some (.lst ts) => some ts | _ => none
def insAt (h : Hh) (l : Nat) : Option (Str × List (Str × T)) := match h[l]? with | some (.ins c fs) => some (c, fs) | _ => none
def oAdd (x y : T) (h : Hh) : Res T :=
  match x, y with
  | .int i, .int j => .ok (.int (i + j)) h
  | .str i, .str j => if i.length + j.length ≤ sizeLine then .ok (.str (i ++ j)) h else .stk
  | .tup xs, .tup ys => if xs.length + ys.length ≤ sizeLine then .ok (.tup (xs ++ ys)) h else .stk
  | .ref l, .ref b => match lstAt h l, lstAt h b with
    | some xs, some zs => if xs.length + zs.length ≤ sizeLine then alloc (.lst (xs ++ zs)) h else .stk
    | _, _ => .stk
  | _, _ => .stk
def oSub (x y : T) (h : Hh) : Res T :=
  match x, y with
  | .int i, .int j => .ok (.int (i - j)) h
  | _, _ => .stk
def MulOk (i j : Int) : Prop := (-(2 ^ 64) < i ∧ i < 2 ^ 64) ∨ (-(2 ^ 64) < j ∧ j < 2 ^ 64)
def PowOk (i j : Int) : Prop := 0 ≤ j ∧ j ≤ 1000000 ∧ i.natAbs < 2 ^ 64
open Classical in
noncomputable def oMul (x y : T) (h : Hh) : Res T :=
  match x, y with
  | .int i, .int j => if MulOk i j then .ok (.int (i * j)) h else .stk
  | _, _ => .stk
def oMod (x y : T) (h : Hh) : Res T :=
  match x, y with
  | .int i, .int j => if 0 < j then .ok (.int (i % j)) h else .stk
  | _, _ => .stk
def oDiv (x y : T) (h : Hh) : Res T :=
  match x, y with
  | .int i, .int j => if 0 < j ∧ j < 1073741824 then .ok (.int (i / j)) h else .stk
  | _, _ => .stk
open Classical in
noncomputable def oPow (x y : T) (h : Hh) : Res T :=
  match x, y with
  | .int i, .int j => if PowOk i j then .ok (.int (i ^ j.toNat)) h else .stk
  | _, _ => .stk
def oNeg (x : T) (h : Hh) : Res T := match x with | .int i => .ok (.int (-i)) h | _ => .stk
def oLt (x y : T) (h : Hh) : Res T := match x, y with | .int i, .int j => .ok (.bl (decide (i < j))) h | _, _ => .stk
def oLe (x y : T) (h : Hh) : Res T := match x, y with | .int i, .int j => .ok (.bl (decide (i ≤ j))) h | _, _ => .stk
def oGt (x y : T) (h : Hh) : Res T := match x, y with | .int i, .int j => .ok (.bl (decide (j < i))) h | _, _ => .stk
def oGe (x y : T) (h : Hh) : Res T := match x, y with | .int i, .int j => .ok (.bl (decide (j ≤ i))) h | _, _ => .stk
def isNonT : T → Bool | .non => true | _ => false
def oIs (x y : T) (h : Hh) : Res T :=
  match y with
  | .non => .ok (.bl (isNonT x)) h
  | .bl b => match x with | .bl a => .ok (.bl (decide (a = b))) h | _ => .stk
  | _ => .stk
def oIsNot (x y : T) (h : Hh) : Res T :=
  match y with
  | .non => .ok (.bl (!isNonT x)) h
  | .bl b => match x with | .bl a => .ok (.bl (!decide (a = b))) h | _ => .stk
  | _ => .stk
def optL {α : Type} (f : T → Option α) : List T → Option (List α)
  | [] => some []
  | t :: ts => match f t, optL f ts with | some d, some ds => some (d :: ds) | _, _ => none
def toD (h : Hh) : Nat → T → Option PyData
  | 0 => fun _ => none
  | n + 1 => fun t => match t with
    | .non => some .none
    | .bl b => some (.bool b)
    | .int i => some (.int i)
    | .str s => some (.str s)
    | .tup ts => (optL (toD h n) ts).map .tuple
    | .fl ts => (optL (toD h n) ts).map .list
    | .ref l => match h[l]? with | some (.lst ts) => (optL (toD h n) ts).map .list | _ => none
    | .cls _ => none
def oEq (x y : T) (h : Hh) : Res T := match toD h 24 x, toD h 24 y with | some d, some e => .ok (.bl (PyData.eqv d e)) h | _, _ => .stk
def oNe (x y : T) (h : Hh) : Res T := match toD h 24 x, toD h 24 y with | some d, some e => .ok (.bl (!PyData.eqv d e)) h | _, _ => .stk
def inT (x y : T) (h : Hh) : Option Bool :=
  match x, y with
  | .str i, .str j => some (!(Builtin.Str.occurrences j i 0 j.length 1).isEmpty)
  | x, y => match toD h 24 x, toD h 24 y with
    | some d, some (.list ds) => some (ds.any fun z => PyData.eqv z d)
    | some d, some (.tuple ds) => some (ds.any fun z => PyData.eqv z d)
    | _, _ => none
def oIn (x y : T) (h : Hh) : Res T := match inT x y h with | some b => .ok (.bl b) h | none => .stk
def oNotIn (x y : T) (h : Hh) : Res T := match inT x y h with | some b => .ok (.bl (!b)) h | none => .stk
def oIx (x y : T) (h : Hh) : Res T :=
  match y with
  | .int i => match x with
    | .tup ts => match L2.atI ts i with | some t => .ok t h | none => .stk
    | .fl ts => match L2.atI ts i with | some t => .ok t h | none => .stk
    | .ref l => match lstAt h l with
      | some ts => match L2.atI ts i with | some t => .ok t h | none => .stk
      | none => .stk
    | .str z => if z.length ≤ sizeLine then (match L2.atI z.cps.toList i with | some c => .ok (.str ⟨#[c]⟩) h | none => .stk) else .stk
    | _ => .stk
  | _ => .stk
def cutT {α : Type} (xs : List α) (lo hi : Option Int) : List α := (xs.drop (HT.sIx xs.length 0 lo)).take (HT.sIx xs.length xs.length hi - HT.sIx xs.length 0 lo)
abbrev SO := St3 → Hh → Res (Option Int)
def soNone : SO := fun _ h => .ok none h
def soSome (a : SE) : SO := fun σ h => (a σ h).bind fun x h1 => match x with | .int i => .ok (some i) h1 | _ => .stk
def oSl (x : T) (lo hi : Option Int) (h : Hh) : Res T :=
  match x with
  | .tup ts => .ok (.tup (cutT ts lo hi)) h
  | .fl ts => alloc (.lst (cutT ts lo hi)) h
  | .ref l => match lstAt h l with | some ts => alloc (.lst (cutT ts lo hi)) h | none => .stk
  | .str z => if z.length ≤ sizeLine then .ok (.str (L2.cutS z lo hi)) h else .stk
  | _ => .stk
def sSl (a : SE) (lo hi : SO) : SE := fun σ h => (a σ h).bind fun x h1 => (lo σ h1).bind fun l h2 => (hi σ h2).bind fun u h3 => oSl x l u h3
def putT (f : Str) (v : T) : List (Str × T) → List (Str × T)
  | [] => [(f, v)]
  | (g, w) :: r => if g = f then (g, v) :: r else (g, w) :: putT f v r
def bLen (xs : List T) (h : Hh) : Res T :=
  match xs with
  | [.tup ts] => .ok (.int ts.length) h
  | [.fl ts] => .ok (.int ts.length) h
  | [.str z] => if z.length ≤ sizeLine then .ok (.int z.length) h else .stk
  | [.ref l] => match lstAt h l with | some ts => .ok (.int ts.length) h | none => .stk
  | _ => .stk
def bInt (xs : List T) (h : Hh) : Res T :=
  match xs with
  | [.int i] => .ok (.int i) h
  | _ => .stk
def blsOf : List T → Option (List Bool)
  | [] => some []
  | .bl b :: r => (blsOf r).map (b :: ·)
  | _ => none
def bAll (ts : List T) (h : Hh) : Res T := match blsOf ts with | some bs => .ok (.bl (bs.all id)) h | none => .stk
def bAny (ts : List T) (h : Hh) : Res T := match blsOf ts with | some bs => .ok (.bl (bs.any id)) h | none => .stk
def bTup (ts : List T) (h : Hh) : Res T := .ok (.tup ts) h
def bTuple (xs : List T) (h : Hh) : Res T :=
  match xs with
  | [.tup ts] => .ok (.tup ts) h
  | [.fl ts] => .ok (.tup ts) h
  | [.ref l] => match lstAt h l with | some ts => .ok (.tup ts) h | none => .stk
  | _ => .stk
def bList (xs : List T) (h : Hh) : Res T :=
  match xs with
  | [.tup ts] => alloc (.lst ts) h
  | [.fl ts] => alloc (.lst ts) h
  | [.ref l] => match lstAt h l with | some ts => alloc (.lst ts) h | none => .stk
  | _ => .stk
inductive Kd where | int | bool | str | tuple | list | dict
  deriving DecidableEq
def isK (k : Kd) (x : T) (h : Hh) : Option Bool :=
  match x with
  | .non => some false
  | .bl _ => some (k == .bool || k == .int)
  | .int _ => some (k == .int)
  | .str _ => some (k == .str)
  | .tup _ => some (k == .tuple)
  | .fl _ => some (k == .list)
  | .ref l => match h[l]? with
    | some (.lst _) => some (k == .list)
    | some (.dic _) => some (k == .dict)
    | some (.ins _ _) => none
    | some (.dtk _) => none
    | some (.err _ _) => none
    | none => none
  | .cls _ => none
def oIsK (k : Kd) (x : T) (h : Hh) : Res T := match isK k x h with | some b => .ok (.bl b) h | none => .stk
def mAppend (x : T) (vs : List T) (h : Hh) : Res T :=
  match x, vs with
  | .ref l, [y] => match lstAt h l with
    | some ts => if ts.length < sizeLine then .ok .non (h.set l (.lst (ts ++ [y]))) else .stk
    | none => .stk
  | _, _ => .stk
def mClear (x : T) (vs : List T) (h : Hh) : Res T :=
  match x, vs with
  | .ref l, [] => match lstAt h l with
    | some _ => .ok .non (h.set l (.lst []))
    | none => .stk
  | _, _ => .stk
def mExtend (x : T) (vs : List T) (h : Hh) : Res T :=
  match x, vs with
  | .ref l, [.ref b] => match lstAt h l, lstAt h b with
    | some ts, some zs => if ts.length + zs.length ≤ sizeLine then .ok .non (h.set l (.lst (ts ++ zs))) else .stk
    | _, _ => .stk
  | _, _ => .stk
def isL (x : T) (h : Hh) : Bool := match x with | .ref l => (lstAt h l).isSome | .fl _ => true | _ => false
def sMtL (f : T → List T → Hh → Res T) (o : SE) (a : SA) : SE := fun σ h => (o σ h).bind fun x h1 => if isL x h1 = true then (a σ h1).bind fun xs h2 => f x xs h2 else .stk
def arN (n : Nat) (f : List T → Hh → Res T) (xs : List T) (h : Hh) : Res T := if xs.length = n then f xs h else .stk
def sMeth (c m : Str) (n : Nat) (f : List T → Hh → Res T) (o : SE) (a : SA) : SE := fun σ h => (o σ h).bind fun x h1 => match x with
  | .ref l => match insAt h1 l with
    | some (d, fs) => if d = c ∧ fs.lookup m = none then (a σ h1).bind fun xs h2 => arN n f (x :: xs) h2 else .stk
    | none => .stk
  | _ => .stk
def weave {α : Type} : List Bool → List α → List α → List α
  | [], _, _ => []
  | true :: r, ds, z :: zs => z :: weave r ds zs
  | true :: _, _, [] => []
  | false :: r, d :: ds, zs => d :: weave r ds zs
  | false :: _, [], _ => []
def sClK (n q : Nat) (pat : List Bool) (ds : List T) (f : List T → Hh → Res T) (a kw : SA) : SE := fun σ h => (a σ h).bind fun xs h1 => (kw σ h1).bind fun zs h2 => if xs.length = n ∧ zs.length = q then f (xs ++ weave pat ds zs) h2 else .stk
inductive Src where
  | its (ts : List T) | live (l : Nat) | z2 (l1 l2 : Nat) | z3 (l1 l2 l3 : Nat)
abbrev SI := St3 → Hh → Res Src
def Src.len (s : Src) (h : Hh) : Nat :=
  match s with
  | .its ts => ts.length
  | .live l => match lstAt h l with | some ts => ts.length | none => 0
  | .z2 l _ => match lstAt h l with | some ts => ts.length | none => 0
  | .z3 l _ _ => match lstAt h l with | some ts => ts.length | none => 0
def Src.at (s : Src) (h : Hh) (i : Nat) : Option (Option T) :=
  match s with
  | .its ts => some ts[i]?
  | .live l => match lstAt h l with | some ts => some ts[i]? | none => none
  | .z2 l1 l2 => (match lstAt h l1, lstAt h l2 with
    | some t1, some t2 => (match t1[i]?, t2[i]? with
      | some x1, some x2 => some (some (.tup [x1, x2]))
      | none, _ => some none
      | _, _ => none)
    | _, _ => none)
  | .z3 l1 l2 l3 => (match lstAt h l1, lstAt h l2, lstAt h l3 with
    | some t1, some t2, some t3 => (match t1[i]?, t2[i]?, t3[i]? with
      | some x1, some x2, some x3 => some (some (.tup [x1, x2, x3]))
      | none, _, _ => some none
      | _, _, _ => none)
    | _, _, _ => none)
def srcOf (x : T) (h : Hh) : Res Src :=
  match x with
  | .tup ts => .ok (.its ts) h
  | .fl ts => .ok (.its ts) h
  | .str z => .ok (.its (z.cps.toList.map fun c => .str ⟨#[c]⟩)) h
  | .ref l => match lstAt h l with | some _ => .ok (.live l) h | none => .stk
  | _ => .stk
def siE (a : SE) : SI := fun σ h => (a σ h).bind fun x h1 => srcOf x h1
def rangeT (lo : Int) : Nat → List T
  | 0 => []
  | n + 1 => .int lo :: rangeT (lo + 1) n
def RngOk (j : Int) : Prop := -(2 ^ 62) ≤ j ∧ j < 2 ^ 62
open Classical in
noncomputable def rngOf (xs : List T) (h1 : Hh) : Res Src := match xs with
  | [.int j] => if RngOk j then .ok (.its (rangeT 0 j.toNat)) h1 else .stk
  | _ => .stk
noncomputable def siRange1 (a : SA) : SI := fun σ h => (a σ h).bind rngOf
abbrev SG := T → St3 → Option St3
def sgName (i : Nat) : SG := fun t σ => some (σ.set i (some t))
abbrev SGs := List T → St3 → Option St3
def sgsNil : SGs := fun ts σ => match ts with | [] => some σ | _ => none
def sgsCons (g : SG) (r : SGs) : SGs := fun ts σ => match ts with
  | t :: more => match g t σ with | some σ1 => r more σ1 | none => none
  | [] => none
def sgTup (n : Nat) (g : SGs) : SG := fun t σ => match t with
  | .tup ts => if ts.length = n then g ts σ else none
  | _ => none
def wipeT (σ : St3) : List Nat → St3
  | [] => σ
  | v :: vs => (wipeT σ vs).set v none
def lcRun (s : Src) (g : SG) (tt : ST) (te : SE) (σ : St3) : Nat → Nat → List T → Hh → Res (List T)
  | k, i, acc, h => match s.at h i with
    | none => .stk
    | some none => .ok acc h
    | some (some x) => match k with
      | 0 => .stk
      | k + 1 => match g x σ with
        | none => .stk
        | some σ1 => match tt σ1 h with
          | .ok b h1 => if b = true then (match te σ1 h1 with
              | .ok t h2 => if acc.length < sizeLine then lcRun s g tt te σ k (i + 1) (acc ++ [t]) h2 else .stk
              | _ => .stk) else lcRun s g tt te σ k (i + 1) acc h1
          | _ => .stk
def stYes : ST := fun _ h => .ok true h
def saLc (si : SI) (g : SG) (tt : ST) (te : SE) (vs : List Nat) : SA := fun σ h => (si σ h).bind fun s h1 => lcRun s g tt te (wipeT σ vs) (s.len h1) 0 [] h1
def sLc (a : SA) : SE := fun σ h => (a σ h).bind fun xs h1 => alloc (.lst xs) h1
def sOver (f : List T → Hh → Res T) (a : SA) : SE := fun σ h => (a σ h).bind fun xs h1 => f xs h1
inductive Flo where
  | nx (σ : St3) (h : Hh) | rt (t : T) (h : Hh) | bk (σ : St3) (h : Hh) | ct (σ : St3) (h : Hh) | exc (c : Str) (fs : List (Str × T)) (σ : St3) (h : Hh) | stk
abbrev SS := St3 → Hh → Flo
def Flo.seq (r : Flo) (k : SS) : Flo := match r with | .nx σ h => k σ h | r => r
@[simp] theorem Flo.seq_nx (σ : St3) (h : Hh) (k : SS) : (Flo.nx σ h).seq k = k σ h := Eq.trans rfl rfl
@[simp] theorem Flo.seq_rt (t : T) (h : Hh) (k : SS) : (Flo.rt t h).seq k = .rt t h := Eq.trans rfl rfl
def Res.flo {α : Type} (r : Res α) (σ : St3) (k : α → Hh → Flo) : Flo := match r with | .ok a h => k a h | .exc c fs h => .exc c fs σ h | .stk => .stk
@[simp] theorem Res.flo_ok {α : Type} (a : α) (h : Hh) (σ : St3) (k : α → Hh → Flo) : (Res.ok a h).flo σ k = k a h := Eq.trans rfl rfl
def ssNil : SS := fun σ h => .nx σ h
def ssCons (a b : SS) : SS := fun σ h => (a σ h).seq b
def ssIf (c : ST) (a b : SS) : SS := fun σ h => (c σ h).flo σ fun x h1 => if x = true then a σ h1 else b σ h1
def ssRet (a : SE) : SS := fun σ h => (a σ h).flo σ fun x h1 => .rt x h1
def ssRetN : SS := fun _ h => .rt .non h
def ssExpr (a : SE) : SS := fun σ h => (a σ h).flo σ fun _ h1 => .nx σ h1
def ssAsg (a : SE) (g : SG) : SS := fun σ h => (a σ h).flo σ fun x h1 => match g x σ with | some σ1 => .nx σ1 h1 | none => .stk
def ssFldC (cs : List (Str × List Str)) (o v : SE) (f : Str) : SS := fun σ h => (v σ h).flo σ fun y h1 => (o σ h1).flo σ fun x h2 => match x with
  | .ref l => match insAt h2 l with
    | some (c, fs) => match cs.lookup c with
      | some as => if as.contains f && decide (fs.length < 1000) then .nx σ (h2.set l (.ins c (putT f y fs))) else .stk
      | none => .stk
    | none => .stk
  | _ => .stk
def ssSub (o i v : SE) : SS := fun σ h => (v σ h).flo σ fun y h1 => (o σ h1).flo σ fun x h2 => (i σ h2).flo σ fun k h3 => match x, k with
  | .ref l, .int n => match lstAt h3 l with
    | some ts => match L2.ixN ts.length n with | some j => .nx σ (h3.set l (.lst (ts.set j y))) | none => .stk
    | none => .stk
  | _, _ => .stk
def ssBreak : SS := fun σ h => .bk σ h
def ssCont : SS := fun σ h => .ct σ h
def forRun (s : Src) (g : SG) (b : SS) : Nat → Nat → St3 → Hh → Flo
  | k, i, σ, h => match s.at h i with
    | none => .stk
    | some none => .nx σ h
    | some (some x) => match k with
      | 0 => .stk
      | k + 1 => match g x σ with
        | none => .stk
        | some σ1 => match b σ1 h with
          | .nx σ2 h2 => forRun s g b k (i + 1) σ2 h2
          | .ct σ2 h2 => forRun s g b k (i + 1) σ2 h2
          | .bk σ2 h2 => .nx σ2 h2
          | r => r
def ssFor (si : SI) (g : SG) (b : SS) : SS := fun σ h => (si σ h).flo σ fun s h1 => forRun s g b (s.len h1) 0 σ h1
def startT (n : Nat) (ts : List T) : St3 := ts.map some ++ List.replicate (n - ts.length) none
def defRun (n : Nat) (b : SS) (ts : List T) (h : Hh) : Res T := match b (startT n ts) h with
  | .nx _ h1 => .ok .non h1
  | .rt t h1 => .ok t h1
  | .exc c fs _ h1 => .exc c fs h1
  | _ => .stk
def bMake (c : Str) (n : Nat) (f : List T → Hh → Res T) (xs : List T) (h : Hh) : Res T :=
  (arN n f (.ref h.length :: xs) (h ++ [.ins c []])).bind fun t h1 => match t with | .non => .ok (.ref h.length) h1 | _ => .stk
end W3
end

section
namespace W3
open PySem L2
def SqF (K : PySem.W.Frag) (H : Hp) (a : Addr) (xs : List V) : Prop :=
  (∃ o, H a = some (.frz o (.lst xs))) ∨
    ∃ (o : Obj) (its : Array Value) (n : Nat), K.lookup a = some o ∧ o.cls = .type "list" ∧ o.dict = none ∧ o.data = .seq its n ∧ its.size ≤ sizeLine ∧ Vals xs its.toList
theorem SqF.sq {K : PySem.W.Frag} {H : Hp} {a : Addr} {xs : List V} (h : SqF K H a xs) : SqL K H a xs := by
  rcases h with ⟨o, h⟩ | h
  · exact .inl (.inr ⟨o, h⟩)
  · exact .inr h
def SqN (K : PySem.W.Frag) (H : Hp) (a : Addr) (xs : List V) : Prop :=
  (∃ o, H a = some (.frz o (.tup xs)) ∧ o.dict = none) ∨
    ∃ (o : Obj) (its : Array Value) (n : Nat), K.lookup a = some o ∧ o.cls = .type "tuple" ∧ o.dict = none ∧ o.data = .seq its n ∧ its.size ≤ sizeLine ∧ Vals xs its.toList
theorem SqN.t {K : PySem.W.Frag} {H : Hp} {a : Addr} {xs : List V} (h : SqN K H a xs) : SqT K H a xs := by
  rcases h with ⟨o, h, _⟩ | ⟨o, its, n, h1, h2, _, h3⟩
  · exact .inl (.inr ⟨o, h⟩)
  · exact .inr ⟨o, its, n, h1, h2, h3⟩
instance {K : PySem.W.Frag} {H : Hp} {a : Addr} {xs : List V} : Coe (SqN K H a xs) (SqT K H a xs) := ⟨SqN.t⟩
abbrev Mp := Nat → Option Addr
mutual
inductive RT (K : PySem.W.Frag) (mg : Str → Option Value) (m : Mp) (H : Hp) : T → V → Prop
  | non : RT K mg m H .non .non
  | bl (b : Bool) : RT K mg m H (.bl b) (.bl b)
  | int (i : Int) : RT K mg m H (.int i) (.int i)
  | str {x : Str} : PyData.strOk x = true → RT K mg m H (.str x) (.str x)
  | tup {a : Addr} {vs : List V} {ts : List T} : SqN K H a vs → RTs K mg m H ts vs → RT K mg m H (.tup ts) (.ref a)
  | fl {a : Addr} {vs : List V} {ts : List T} : SqF K H a vs → RTs K mg m H ts vs → RT K mg m H (.fl ts) (.ref a)
  | ref {l : Nat} {a : Addr} : m l = some a → RT K mg m H (.ref l) (.ref a)
  | cls {c : Str} {C : Addr} : mg c = some (.ref C) → RT K mg m H (.cls c) (.ref C)
inductive RTs (K : PySem.W.Frag) (mg : Str → Option Value) (m : Mp) (H : Hp) : List T → List V → Prop
  | nil : RTs K mg m H [] []
  | cons {t : T} {ts : List T} {v : V} {vs : List V} : RT K mg m H t v → RTs K mg m H ts vs → RTs K mg m H (t :: ts) (v :: vs)
end
inductive RF (K : PySem.W.Frag) (mg : Str → Option Value) (m : Mp) (H : Hp) : List (Str × T) → List (Str × V) → Prop
  | nil : RF K mg m H [] []
  | cons {f : Str} {t : T} {v : V} {fs : List (Str × T)} {fv : List (Str × V)} : RT K mg m H t v → RF K mg m H fs fv → RF K mg m H ((f, t) :: fs) ((f, v) :: fv)
inductive RK (K : PySem.W.Frag) (mg : Str → Option Value) (m : Mp) (H : Hp) : List (T × T) → List (Key × V) → Prop
  | nil : RK K mg m H [] []
  | cons {f : Str} {t : T} {v : V} {fs : List (T × T)} {fv : List (Key × V)} : RT K mg m H t v → RK K mg m H fs fv → RK K mg m H ((.str f, t) :: fs) ((.inr f, v) :: fv)
  | consI {i : Int} {t : T} {v : V} {fs : List (T × T)} {fv : List (Key × V)} : RT K mg m H t v → RK K mg m H fs fv → RK K mg m H ((.int i, t) :: fs) ((.inl i, v) :: fv)
mutual
def nkT : T → Option NestedKey
  | .non => some .none
  | .bl b => some (.num (if b = true then 1 else 0))
  | .int i => some (.num i)
  | .str x => some (.text x)
  | .tup ts => (nkTs ts).map .tup
  | _ => none
def nkTs : List T → Option (List NestedKey)
  | [] => some []
  | t :: ts => match nkT t, nkTs ts with
    | some k, some ks => some (k :: ks)
    | _, _ => none
end
inductive RN (K : PySem.W.Frag) (mg : Str → Option Value) (m : Mp) (H : Hp) : List (T × T) → List (NestedKey × Addr × V) → Prop
  | nil : RN K mg m H [] []
  | cons {t u : T} {k : NestedKey} {a : Addr} {v : V} {fs : List (T × T)} {es : List (NestedKey × Addr × V)} : nkT t = some k → k.depth ≤ 8 → RT K mg m H t (.ref a) → RT K mg m H u v → RN K mg m H fs es → RN K mg m H ((t, u) :: fs) ((k, a, v) :: es)
def DtkO (wd : World) (a : Addr) (es : List (NestedKey × Addr × V)) : HO := .ext fun h => ∃ vs : List (NestedKey × Addr × Value), Paired (fun (p : NestedKey × Addr × V) (q : NestedKey × Addr × Value) => p.1 = q.1 ∧ p.2.1 = q.2.1 ∧ RelV p.2.2 q.2.2) es vs ∧
  ∃ o xs ep, h.get? a = some o ∧ o.ExactDict ∧ o.data = .dict xs ep ∧ xs.toList = vs.map (fun x => (⟨x.1.hash wd, .ref x.2.1, x.2.2⟩ : DictEntry)) ∧ (vs.map (·.1)).Nodup
structure Ext (m : Mp) (H : Hp) (m' : Mp) (H' : Hp) : Prop where
  mono : ∀ l a, m l = some a → m' l = some a
  fresh : ∀ l a, m' l = some a → m l = some a ∨ H a = none
  live : ∀ a o, H a = some o → ∃ o', H' a = some o'
  keep : ∀ a o, H a = some o → (∀ l, m l ≠ some a) → H' a = some o
  tups : ∀ a vs, H a = some (.tup vs) → H' a = some (.tup vs)
  frzs : ∀ a o u, H a = some (.frz o u) → H' a = some (.frz o u)
  xds : ∀ a fs, H a = some (.xd fs) → H' a = some (.xd fs)
theorem Ext.refl (m : Mp) (H : Hp) : Ext m H m H := ⟨fun _ _ e => e, fun _ _ e => .inl e, fun _ o e => ⟨o, e⟩, fun _ _ e _ => e, fun _ _ e => e, fun _ _ _ e => e, fun _ _ e => e⟩
theorem Ext.trans {m1 m2 m3 : Mp} {H1 H2 H3 : Hp} (a : Ext m1 H1 m2 H2) (b : Ext m2 H2 m3 H3) : Ext m1 H1 m3 H3 where
  mono := fun l x e => b.mono l x (a.mono l x e)
  fresh := fun l x e => by
    rcases b.fresh l x e with q | q
    · exact a.fresh l x q
    · cases hx : H1 x with
      | none => exact .inr rfl
      | some o =>
        obtain ⟨o', e'⟩ := a.live x o hx
        rw [q] at e'
        cases e'
  live := fun x o e => by
    obtain ⟨o', e'⟩ := a.live x o e
    exact b.live x o' e'
  keep := fun x o e n => b.keep x o (a.keep x o e n) fun l q => by
    rcases a.fresh l x q with z | z
    · exact n l z
    · rw [e] at z
      cases z
  tups := fun x vs e => b.tups x vs (a.tups x vs e)
  frzs := fun x o u e => b.frzs x o u (a.frzs x o u e)
  xds := fun x fs e => b.xds x fs (a.xds x fs e)
section
variable {K : PySem.W.Frag} {mg : Str → Option Value} {wd : World} {m m' : Mp} {H H' : Hp}
structure Tr (m : Mp) (H : Hp) (m' : Mp) (H' : Hp) : Prop where
  mono : ∀ l a, m l = some a → m' l = some a
  tups : ∀ a vs, H a = some (.tup vs) → H' a = some (.tup vs)
  frzs : ∀ a o u, H a = some (.frz o u) → H' a = some (.frz o u)
  xds : ∀ a fs, H a = some (.xd fs) → H' a = some (.xd fs)
theorem Ext.tr (E : Ext m H m' H') : Tr m H m' H' := ⟨E.mono, E.tups, E.frzs, E.xds⟩
theorem Tr.trans {m2 : Mp} {H2 : Hp} (a : Tr m H m' H') (b : Tr m' H' m2 H2) : Tr m H m2 H2 := ⟨fun l x e => b.mono l x (a.mono l x e), fun x vs e => b.tups x vs (a.tups x vs e), fun x o u e => b.frzs x o u (a.frzs x o u e), fun x fs e => b.xds x fs (a.xds x fs e)⟩
theorem Tr.refl : Tr m H m H := ⟨fun _ _ e => e, fun _ _ e => e, fun _ _ _ e => e, fun _ _ e => e⟩
theorem SqT.tr (E : Tr m H m' H') {a : Addr} {vs : List V} (h : SqT K H a vs) : SqT K H' a vs := by
  rcases h with h | h
  · rcases h with h | ⟨o, h⟩
    · exact .inl (.inl (E.tups a vs h))
    · exact .inl (.inr ⟨o, E.frzs a o _ h⟩)
  · exact .inr h
theorem SqN.tr (E : Tr m H m' H') {a : Addr} {vs : List V} (h : SqN K H a vs) : SqN K H' a vs := by
  rcases h with ⟨o, h, d⟩ | h
  · exact .inl ⟨o, E.frzs a o _ h, d⟩
  · exact .inr h
theorem SqF.tr (E : Tr m H m' H') {a : Addr} {vs : List V} (h : SqF K H a vs) : SqF K H' a vs := by
  rcases h with ⟨o, h⟩ | h
  · exact .inl ⟨o, E.frzs a o _ h⟩
  · exact .inr h
mutual
theorem RT.tr (E : Tr m H m' H') : ∀ {t : T} {v : V}, RT K mg m H t v → RT K mg m' H' t v
  | _, _, .non => .non
  | _, _, .bl b => .bl b
  | _, _, .int i => .int i
  | _, _, .str h => .str h
  | _, _, .tup h r => .tup (SqN.tr E h) (RTs.tr E r)
  | _, _, .fl h r => .fl (SqF.tr E h) (RTs.tr E r)
  | _, _, .ref h => .ref (E.mono _ _ h)
  | _, _, .cls h => .cls h
theorem RTs.tr (E : Tr m H m' H') : ∀ {ts : List T} {vs : List V}, RTs K mg m H ts vs → RTs K mg m' H' ts vs
  | _, _, .nil => .nil
  | _, _, .cons r q => .cons (RT.tr E r) (RTs.tr E q)
end
theorem RF.tr (E : Tr m H m' H') {fs : List (Str × T)} {fv : List (Str × V)} (r : RF K mg m H fs fv) : RF K mg m' H' fs fv := by
  induction r with
  | nil => exact .nil
  | cons r _ ih => exact .cons (r.tr E) ih
theorem RK.tr (E : Tr m H m' H') {fs : List (T × T)} {fv : List (Key × V)} (r : RK K mg m H fs fv) : RK K mg m' H' fs fv := by
  induction r with
  | nil => exact .nil
  | cons r _ ih => exact .cons (r.tr E) ih
  | consI r _ ih => exact .consI (r.tr E) ih
theorem RN.tr (E : Tr m H m' H') {fs : List (T × T)} {es : List (NestedKey × Addr × V)} (r : RN K mg m H fs es) : RN K mg m' H' fs es := by
  induction r with
  | nil => exact .nil
  | cons h1 h2 r1 r2 _ ih => exact .cons h1 h2 (r1.tr E) (r2.tr E) ih
theorem SqT.ext (E : Ext m H m' H') {a : Addr} {vs : List V} (h : SqT K H a vs) : SqT K H' a vs := SqT.tr E.tr h
theorem SqF.ext (E : Ext m H m' H') {a : Addr} {vs : List V} (h : SqF K H a vs) : SqF K H' a vs := SqF.tr E.tr h
theorem RT.ext (E : Ext m H m' H') {t : T} {v : V} (r : RT K mg m H t v) : RT K mg m' H' t v := r.tr E.tr
theorem RTs.ext (E : Ext m H m' H') {ts : List T} {vs : List V} (r : RTs K mg m H ts vs) : RTs K mg m' H' ts vs := r.tr E.tr
theorem RF.ext (E : Ext m H m' H') {fs : List (Str × T)} {fv : List (Str × V)} (r : RF K mg m H fs fv) : RF K mg m' H' fs fv := r.tr E.tr
theorem RTs.length : ∀ {ts : List T} {vs : List V}, RTs K mg m H ts vs → ts.length = vs.length
  | _, _, .nil => rfl
  | _, _, .cons _ q => by rw [List.length_cons, List.length_cons, q.length]
theorem RTs.get : ∀ {ts : List T} {vs : List V} {i : Nat} {t : T}, RTs K mg m H ts vs → ts[i]? = some t → ∃ v, vs[i]? = some v ∧ RT K mg m H t v
  | _, _, _, _, .nil, e => by simp at e
  | _, _, 0, _, .cons r _, e => by simp at e; subst e; exact ⟨_, rfl, r⟩
  | _, _, i + 1, t, .cons _ q, e => by
    obtain ⟨v, h1, h2⟩ := RTs.get (i := i) (t := t) q (by simpa using e)
    exact ⟨v, by simpa using h1, h2⟩
theorem RTs.append : ∀ {ts us : List T} {vs ws : List V}, RTs K mg m H ts vs → RTs K mg m H us ws → RTs K mg m H (ts ++ us) (vs ++ ws)
  | _, _, _, _, .nil, s => s
  | _, _, _, _, .cons r q, s => .cons r (RTs.append q s)
theorem RTs.take : ∀ {ts : List T} {vs : List V} (n : Nat), RTs K mg m H ts vs → RTs K mg m H (ts.take n) (vs.take n)
  | _, _, 0, _ => .nil
  | _, _, _ + 1, .nil => .nil
  | _, _, n + 1, .cons r q => .cons r (RTs.take n q)
theorem RTs.drop : ∀ {ts : List T} {vs : List V} (n : Nat), RTs K mg m H ts vs → RTs K mg m H (ts.drop n) (vs.drop n)
  | _, _, 0, r => r
  | _, _, _ + 1, .nil => .nil
  | _, _, n + 1, .cons _ q => RTs.drop n q
theorem RTs.set : ∀ {ts : List T} {vs : List V} (i : Nat) {t : T} {v : V}, RTs K mg m H ts vs → RT K mg m H t v → RTs K mg m H (ts.set i t) (vs.set i v)
  | _, _, _, _, _, .nil, _ => .nil
  | _, _, 0, _, _, .cons _ q, r => .cons r q
  | _, _, i + 1, _, _, .cons p q, r => .cons p (RTs.set i q r)
theorem RF.lookup {fs : List (Str × T)} {fv : List (Str × V)} (r : RF K mg m H fs fv) {f : Str} {t : T} (e : fs.lookup f = some t) : ∃ v, fv.lookup f = some v ∧ RT K mg m H t v := by
  induction r with
  | nil => simp [List.lookup] at e
  | @cons g u v fs fv r _ ih =>
    simp only [List.lookup] at e ⊢
    split at e
    · cases e; exact ⟨v, rfl, r⟩
    · exact ih e
theorem RF.length {fs : List (Str × T)} {fv : List (Str × V)} (r : RF K mg m H fs fv) : fs.length = fv.length := by
  induction r with
  | nil => rfl
  | cons _ _ ih => simp [ih]
theorem RF.put {fs : List (Str × T)} {fv : List (Str × V)} (r : RF K mg m H fs fv) {f : Str} {t : T} {v : V} (q : RT K mg m H t v) : RF K mg m H (putT f t fs) (putF f v fv) := by
  induction r with
  | nil => exact .cons q .nil
  | @cons g u w fs fv r rr ih =>
    unfold putT putF
    by_cases e : g = f
    · rw [if_pos e, if_pos e]; exact .cons q rr
    · rw [if_neg e, if_neg e]; exact .cons r ih
end
section
variable (K : PySem.W.Frag) (mg : Str → Option Value) (wd : World)
def OR (m : Mp) (H : Hp) (a : Addr) : Ob → Prop
  | .lst ts => ∃ vs, H a = some (.lst vs) ∧ RTs K mg m H ts vs
  | .dic kvs => ∃ ks, H a = some (.dK ks) ∧ RK K mg m H kvs ks
  | .dtk kvs => ∃ es, H a = some (DtkO wd a es) ∧ RN K mg m H kvs es ∧ (a == sysModules) = false
  | .ins c fs => ∃ C dx fv, mg c = some (.ref C) ∧ H a = some (.ins C dx fv) ∧ RF K mg m H fs fv
  | .err c fs => ∃ C d, mg c = some (.ref C) ∧ H a = some (exo a C d) ∧ ((d = none ∧ fs = []) ∨ ∃ dd fv, d = some dd ∧ H dd = some (.xd fv) ∧ RF K mg m H fs fv)
structure HR (m : Mp) (h : Hh) (H : Hp) : Prop where
  dom : ∀ l a, m l = some a → l < h.length
  inj : ∀ l l' a, m l = some a → m l' = some a → l = l'
  ob : ∀ l o, h[l]? = some o → ∃ a, m l = some a ∧ OR K mg wd m H a o
end
section
variable {K : PySem.W.Frag} {mg : Str → Option Value} {wd : World} {m : Mp} {H : Hp} {h : Hh}
theorem OR.some {a : Addr} {o : Ob} (r : OR K mg wd m H a o) : ∃ u, H a = some u ∧ (∀ vs, u ≠ .tup vs) ∧ (∀ ob w, u ≠ .frz ob w) ∧ (∀ fs, u ≠ .xd fs) ∧ ∀ b, u ≠ .own b := by
  cases o with
  | lst ts =>
    obtain ⟨vs, e, _⟩ := r
    exact ⟨_, e, fun _ z => (by cases z), fun _ _ z => (by cases z), fun _ z => (by cases z), fun _ z => by cases z⟩
  | dic _ =>
    obtain ⟨_, e, _⟩ := r
    exact ⟨_, e, fun _ z => (by cases z), fun _ _ z => (by cases z), fun _ z => (by cases z), fun _ z => by cases z⟩
  | dtk _ =>
    obtain ⟨_, e, _⟩ := r
    exact ⟨_, e, fun _ z => (by cases z), fun _ _ z => (by cases z), fun _ z => (by cases z), fun _ z => by cases z⟩
  | ins c fs =>
    obtain ⟨C, dx, fv, _, e, _⟩ := r
    exact ⟨_, e, fun _ z => (by cases z), fun _ _ z => (by cases z), fun _ z => (by cases z), fun _ z => by cases z⟩
  | err c fs =>
    obtain ⟨C, d, _, e, _⟩ := r
    exact ⟨_, e, fun _ => exo_tup, fun _ _ => exo_frz, fun fs z => (by have z' : HO.ext _ = HO.xd fs := z; cases z'), fun _ => exo_own⟩
theorem HR.tracked (R : HR K mg wd m h H) {l : Nat} {a : Addr} (e : m l = some a) : ∃ u, H a = some u ∧ (∀ vs, u ≠ .tup vs) ∧ (∀ ob w, u ≠ .frz ob w) ∧ (∀ fs, u ≠ .xd fs) ∧ ∀ b, u ≠ .own b := by
  have hl := R.dom l a e
  obtain ⟨a', e', r⟩ := R.ob l h[l] (by simp [hl])
  rw [e] at e'; cases e'
  exact r.some
theorem Ext.garbage (R : HR K mg wd m h H) {p : Addr} {o : HO} (hp : H p = none) : Ext m H m (upd H p o) where
  mono := fun _ _ e => e
  fresh := fun _ _ e => .inl e
  live := fun a u e => ⟨u, by rw [upd_ne (ne_of_none e hp)]; exact e⟩
  keep := fun a u e _ => by rw [upd_ne (ne_of_none e hp)]; exact e
  tups := fun a u e => by rw [upd_ne (ne_of_none e hp)]; exact e
  frzs := fun a u w e => by rw [upd_ne (ne_of_none e hp)]; exact e
  xds := fun a u e => by rw [upd_ne (ne_of_none e hp)]; exact e
theorem OR.moveT {m' : Mp} {H' : Hp} (E : Tr m H m' H') {a : Addr} {o : Ob} (r : OR K mg wd m H a o) (ha : H' a = H a) : OR K mg wd m' H' a o := by
  cases o with
  | lst ts =>
    obtain ⟨vs, e, r⟩ := r
    exact ⟨vs, ha.trans e, r.tr E⟩
  | dic _ =>
    obtain ⟨z, e, r⟩ := r
    exact ⟨z, ha.trans e, r.tr E⟩
  | dtk _ =>
    obtain ⟨z, e, r, q⟩ := r
    exact ⟨z, ha.trans e, r.tr E, q⟩
  | ins c fs =>
    obtain ⟨C, dx, fv, g, e, r⟩ := r
    exact ⟨C, dx, fv, g, ha.trans e, r.tr E⟩
  | err c fs =>
    obtain ⟨C, d, g, e, r⟩ := r
    refine ⟨C, d, g, ha.trans e, ?_⟩
    rcases r with r | ⟨dd, fv, h1, h2, h3⟩
    · exact .inl r
    · exact .inr ⟨dd, fv, h1, E.xds _ _ h2, h3.tr E⟩
theorem OR.move {m' : Mp} {H' : Hp} (E : Ext m H m' H') {a : Addr} {o : Ob} (r : OR K mg wd m H a o) (ha : H' a = H a) : OR K mg wd m' H' a o := by
  cases o with
  | lst ts =>
    obtain ⟨vs, e, r⟩ := r
    exact ⟨vs, ha.trans e, r.ext E⟩
  | dic _ =>
    obtain ⟨z, e, r⟩ := r
    exact ⟨z, ha.trans e, r.tr E.tr⟩
  | dtk _ =>
    obtain ⟨z, e, r, q⟩ := r
    exact ⟨z, ha.trans e, r.tr E.tr, q⟩
  | ins c fs =>
    obtain ⟨C, dx, fv, g, e, r⟩ := r
    exact ⟨C, dx, fv, g, ha.trans e, r.ext E⟩
  | err c fs =>
    obtain ⟨C, d, g, e, r⟩ := r
    refine ⟨C, d, g, ha.trans e, ?_⟩
    rcases r with r | ⟨dd, fv, h1, h2, h3⟩
    · exact .inl r
    · exact .inr ⟨dd, fv, h1, E.xds _ _ h2, h3.ext E⟩
theorem HR.garbage (R : HR K mg wd m h H) {p : Addr} {o : HO} (hp : H p = none) : HR K mg wd m h (upd H p o) where
  dom := R.dom
  inj := R.inj
  ob := fun l u e => by
    obtain ⟨a, e1, r⟩ := R.ob l u e
    obtain ⟨w, hw, _⟩ := r.some
    exact ⟨a, e1, r.move (Ext.garbage R hp) (upd_ne (ne_of_none hw hp))⟩
def Mp.put (m : Mp) (l : Nat) (p : Addr) : Mp := fun k => if k = l then some p else m k
theorem Mp.put_same {l : Nat} {p : Addr} : m.put l p l = some p := by unfold Mp.put; rw [if_pos rfl]
theorem Mp.put_ne {l k : Nat} {p : Addr} (e : k ≠ l) : m.put l p k = m k := by unfold Mp.put; rw [if_neg e]
theorem Ext.alloc (R : HR K mg wd m h H) {p : Addr} {o : HO} (hp : H p = none) : Ext m H (m.put h.length p) (upd H p o) where
  mono := fun l a e => by rw [Mp.put_ne (Nat.ne_of_lt (R.dom l a e))]; exact e
  fresh := fun l a e => by
    by_cases hl : l = h.length
    · subst hl; rw [Mp.put_same] at e; cases e; exact .inr hp
    · rw [Mp.put_ne hl] at e; exact .inl e
  live := (Ext.garbage R hp).live
  keep := (Ext.garbage R hp).keep
  tups := (Ext.garbage R hp).tups
  frzs := (Ext.garbage R hp).frzs
  xds := (Ext.garbage R hp).xds
theorem HR.alloc (R : HR K mg wd m h H) {p : Addr} {o : HO} {u : Ob} (hp : H p = none) (new : OR K mg wd (m.put h.length p) (upd H p o) p u) : HR K mg wd (m.put h.length p) (h ++ [u]) (upd H p o) where
  dom := fun l a e => by
    rw [List.length_append, List.length_singleton]
    by_cases hl : l = h.length
    · omega
    · rw [Mp.put_ne hl] at e; have := R.dom l a e; omega
  inj := fun l l' a e e' => by
    by_cases hl : l = h.length
    · by_cases hl' : l' = h.length
      · rw [hl, hl']
      · rw [hl, Mp.put_same] at e; cases e
        rw [Mp.put_ne hl'] at e'
        obtain ⟨w, hw, _⟩ := R.tracked e'
        rw [hp] at hw; cases hw
    · by_cases hl' : l' = h.length
      · rw [hl', Mp.put_same] at e'; cases e'
        rw [Mp.put_ne hl] at e
        obtain ⟨w, hw, _⟩ := R.tracked e
        rw [hp] at hw; cases hw
      · rw [Mp.put_ne hl] at e; rw [Mp.put_ne hl'] at e'
        exact R.inj l l' a e e'
  ob := fun l w e => by
    by_cases hl : l < h.length
    · rw [List.getElem?_append_left hl] at e
      obtain ⟨a, e1, r⟩ := R.ob l w e
      obtain ⟨z, hz, _⟩ := r.some
      exact ⟨a, (Ext.alloc (o := o) R hp).mono l a e1, r.move (Ext.alloc R hp) (upd_ne (ne_of_none hz hp))⟩
    · have : l = h.length := by
        have := (List.getElem?_eq_some_iff.mp e).1
        rw [List.length_append, List.length_singleton] at this
        omega
      subst this
      simp at e
      subst e
      exact ⟨p, Mp.put_same, new⟩
theorem Ext.write (R : HR K mg wd m h H) {l : Nat} {a : Addr} {o : HO} (e : m l = some a) : Ext m H m (upd H a o) := by
  obtain ⟨u, hu, n1, n2, n3, n4⟩ := R.tracked e
  have ne : ∀ b w, H b = some w → b = a → w = u := fun b w q z => by subst z; rw [hu] at q; exact (Option.some.inj q).symm
  refine ⟨fun _ _ e => e, fun _ _ e => .inl e, fun b w q => ?_, fun b w q n => ?_, fun b vs q => ?_, fun b w v q => ?_, fun b fs q => ?_⟩
  · by_cases hb : b = a
    · exact ⟨o, by rw [hb]; exact upd_same⟩
    · exact ⟨w, by rw [upd_ne hb]; exact q⟩
  · rw [upd_ne (fun z => n l (by rw [z]; exact e))]; exact q
  · rw [upd_ne (fun z => n1 vs (ne b _ q z).symm)]; exact q
  · rw [upd_ne (fun z => n2 w v (ne b _ q z).symm)]; exact q
  · rw [upd_ne (fun z => n3 fs (ne b _ q z).symm)]; exact q
theorem HR.write (R : HR K mg wd m h H) {l : Nat} {a : Addr} {o : HO} {u : Ob} (e : m l = some a) (new : OR K mg wd m (upd H a o) a u) : HR K mg wd m (h.set l u) (upd H a o) where
  dom := fun k b q => by rw [List.length_set]; exact R.dom k b q
  inj := R.inj
  ob := fun k w q => by
    by_cases hk : l = k
    · subst hk
      rw [List.getElem?_set_self (R.dom l a e)] at q
      cases q
      exact ⟨a, e, new⟩
    · rw [List.getElem?_set_ne hk] at q
      obtain ⟨b, e1, r⟩ := R.ob k w q
      have hb : b ≠ a := fun z => hk (R.inj l k a e (z ▸ e1))
      exact ⟨b, e1, r.move (Ext.write R e) (upd_ne hb)⟩
theorem Tr.out {D : Addr} {vs ws : List V} (e : H D = some (.lst vs)) : Tr m H m (upd H D (.lst ws)) :=
  ⟨fun _ _ q => q, fun a us q => by rw [upd_ne (ne_of q e (by intro z; cases z))]; exact q, fun a o u q => by rw [upd_ne (ne_of q e (by intro z; cases z))]; exact q, fun a fs q => by rw [upd_ne (ne_of q e (by intro z; cases z))]; exact q⟩
theorem HR.out (R : HR K mg wd m h H) {D : Addr} {vs ws : List V} (e : H D = some (.lst vs)) (n : ∀ l, m l ≠ some D) : HR K mg wd m h (upd H D (.lst ws)) where
  dom := R.dom
  inj := R.inj
  ob := fun l u q => by
    obtain ⟨a, e1, r⟩ := R.ob l u q
    exact ⟨a, e1, r.moveT (Tr.out e) (upd_ne (fun z => n l (by rw [← z]; exact e1)))⟩
theorem Ext.out {m0 : Mp} {H0 : Hp} (E : Ext m0 H0 m H) {D : Addr} {o : HO} (hD : H0 D = none) : Ext m0 H0 m (upd H D o) where
  mono := E.mono
  fresh := E.fresh
  live := fun a u e => by
    obtain ⟨w, q⟩ := E.live a u e
    exact ⟨w, by rw [upd_ne (ne_of_none e hD)]; exact q⟩
  keep := fun a u e n => by rw [upd_ne (ne_of_none e hD)]; exact E.keep a u e n
  tups := fun a u e => by rw [upd_ne (ne_of_none e hD)]; exact E.tups a u e
  frzs := fun a u w e => by rw [upd_ne (ne_of_none e hD)]; exact E.frzs a u w e
  xds := fun a u e => by rw [upd_ne (ne_of_none e hD)]; exact E.xds a u e
theorem HR.lst (R : HR K mg wd m h H) {l : Nat} {a : Addr} {ts : List T} (e : m l = some a) (hl : lstAt h l = some ts) : ∃ vs, H a = some (.lst vs) ∧ RTs K mg m H ts vs := by
  unfold lstAt at hl
  split at hl
  · cases hl
    rename_i q
    obtain ⟨b, e1, r⟩ := R.ob l _ q
    rw [e] at e1; cases e1
    exact r
  · cases hl
theorem HR.ins (R : HR K mg wd m h H) {l : Nat} {a : Addr} {c : Str} {fs : List (Str × T)} (e : m l = some a) (hl : insAt h l = some (c, fs)) : ∃ C dx fv, mg c = some (.ref C) ∧ H a = some (.ins C dx fv) ∧ RF K mg m H fs fv := by
  unfold insAt at hl
  split at hl
  · cases hl
    rename_i q
    obtain ⟨b, e1, r⟩ := R.ob l _ q
    rw [e] at e1; cases e1
    exact r
  · cases hl
end
structure Pq where
  p : Mp → Hp → Prop
  st : ∀ {m H m' H'}, Ext m H m' H' → p m H → p m' H'
def PqT : Pq := ⟨fun _ _ => True, fun _ _ => trivial⟩
section
variable (K : PySem.W.Frag) (mg : Str → Option Value) (wd : World)
def XR (m : Mp) (H : Hp) (c : Str) (fs : List (Str × T)) (cls : Value) (d : Option Addr) : Prop :=
  mg c = some cls ∧ ((fs = [] ∧ d = none) ∨ ∃ dd fv, d = some dd ∧ H dd = some (.xd fv) ∧ RF K mg m H fs fv)
def SR (m : Mp) (H : Hp) (σ : St3) (σV : St) : Prop := σ.length = σV.length ∧ ∀ (i : Nat) (t : T), σ[i]? = some (some t) → ∃ v : V, σV[i]? = some (some v) ∧ RT K mg m H t v
structure At (P : Pq) (m : Mp) (H : Hp) (σV : St) (σ : St3) (h : Hh) : Prop where
  sr : SR K mg m H σ σV
  hr : HR K mg wd m h H
  pr : P.p m H
def Out {α β : Type} (rel : Mp → Hp → α → β → Prop) (W : WX) (σV : St) (Q : β → Hp → Prop) (m : Mp) (H : Hp) : Res α → Prop
  | .ok a h' => ∀ b m' H', Ext m H m' H' → rel m' H' a b → HR K mg wd m' h' H' → Q b H'
  | .exc c fs h' => ∀ cls d m' H', Ext m H m' H' → XR K mg m' H' c fs cls d → HR K mg wd m' h' H' → W cls d σV H'
  | .stk => False
def tG {α β : Type} (rel : Mp → Hp → α → β → Prop) (P : Pq) (W : WX) (se : St3 → Hh → Res α) : St → Hp → (β → Hp → Prop) → Prop := fun σV H Q =>
  ∃ m h σ, At K mg wd P m H σV σ h ∧ Out K mg wd rel W σV Q m H (se σ h)
abbrev tI (P : Pq) (W : WX) (se : SE) : TE := tG K mg wd (RT K mg) P W se
abbrev tTst (P : Pq) (W : WX) (se : ST) : TT := tG K mg wd (fun _ _ a b => a = b) P W se
abbrev tAr (P : Pq) (W : WX) (se : SA) : TA := tG K mg wd (RTs K mg) P W se
end
section
variable {K : PySem.W.Frag} {mg : Str → Option Value} {wd : World} {m m' : Mp} {H H' : Hp} {h : Hh} {P : Pq} {W : WX} {σV : St} {σ : St3}
theorem SR.ext (E : Ext m H m' H') (r : SR K mg m H σ σV) : SR K mg m' H' σ σV := ⟨r.1, fun i t e => by
  obtain ⟨v, q, z⟩ := r.2 i t e
  exact ⟨v, q, z.ext E⟩⟩
theorem At.ext (E : Ext m H m' H') (a : At K mg wd P m H σV σ h) {h' : Hh} (R : HR K mg wd m' h' H') : At K mg wd P m' H' σV σ h' := ⟨a.sr.ext E, R, P.st E a.pr⟩
theorem Out.ext {α β : Type} {rel : Mp → Hp → α → β → Prop} {Q : β → Hp → Prop} {r : Res α} (E : Ext m H m' H') (o : Out K mg wd rel W σV Q m H r) : Out K mg wd rel W σV Q m' H' r := by
  cases r with
  | ok a h' => exact fun b m2 H2 E2 => o b m2 H2 (E.trans E2)
  | exc c fs h' => exact fun cls d m2 H2 E2 => o cls d m2 H2 (E.trans E2)
  | stk => exact o
theorem Out.mono {α β : Type} {rel : Mp → Hp → α → β → Prop} {Q Q' : β → Hp → Prop} {r : Res α} (hq : ∀ b H, Q b H → Q' b H) (o : Out K mg wd rel W σV Q m H r) : Out K mg wd rel W σV Q' m H r := by
  cases r with
  | ok a h' => exact fun b m2 H2 E r R => hq _ _ (o b m2 H2 E r R)
  | exc c fs h' => exact o
  | stk => exact o
theorem Out.bind {α β γ δ : Type} {rel : Mp → Hp → γ → δ → Prop} {rel1 : Mp → Hp → α → β → Prop} {Q : δ → Hp → Prop} {r : Res α} {f : α → Hh → Res γ} (o : Out K mg wd rel W σV Q m H (r.bind f)) :
    Out K mg wd rel1 W σV (fun b H1 => ∃ m1 h1 a, Ext m H m1 H1 ∧ rel1 m1 H1 a b ∧ HR K mg wd m1 h1 H1 ∧ Out K mg wd rel W σV Q m1 H1 (f a h1)) m H r := by
  cases r with
  | ok a h' => exact fun b m1 H1 E q R => ⟨m1, h', a, E, q, R, o.ext E⟩
  | exc c fs h' => exact o
  | stk => exact o
theorem tG.mono {α β : Type} {rel : Mp → Hp → α → β → Prop} {se : St3 → Hh → Res α} {Q Q' : β → Hp → Prop} (hq : ∀ b H, Q b H → Q' b H) (t : tG K mg wd rel P W se σV H Q) : tG K mg wd rel P W se σV H Q' := by
  obtain ⟨m, h, σ, a, o⟩ := t
  exact ⟨m, h, σ, a, o.mono hq⟩
theorem At.first {α β γ δ : Type} {rel : Mp → Hp → γ → δ → Prop} {rel1 : Mp → Hp → α → β → Prop} {Q : δ → Hp → Prop} {se : St3 → Hh → Res α} {f : α → Hh → Res γ} {Q1 : β → Hp → Prop} (A : At K mg wd P m H σV σ h) (o : Out K mg wd rel W σV Q m H ((se σ h).bind f))
    (k : ∀ m1 h1 a b H1, Ext m H m1 H1 → rel1 m1 H1 a b → At K mg wd P m1 H1 σV σ h1 → Out K mg wd rel W σV Q m1 H1 (f a h1) → Q1 b H1) : tG K mg wd rel1 P W se σV H Q1 := by
  refine ⟨m, h, σ, A, (Out.bind (rel1 := rel1) o).mono fun b H1 ⟨m1, h1, a, E, r, R, o1⟩ => k m1 h1 a b H1 E r (A.ext E R) o1⟩
theorem PE.imp {X : Cx} {e : Expr} {t t' : TE} (h : PE X e t) (k : ∀ σ H Q, t' σ H Q → t σ H Q) : PE X e t' := ⟨fun pins s σ H Q I hw => h.run pins s σ H Q I (k _ _ _ hw)⟩
theorem PT.imp {X : Cx} {e : Expr} {t t' : TT} (h : PT X e t) (k : ∀ σ H Q, t' σ H Q → t σ H Q) : PT X e t' := ⟨fun pins s σ H Q I hw => h.run pins s σ H Q I (k _ _ _ hw)⟩
theorem PW.imp {X : Cx} {e : Expr} {t t' : TT} (h : PW X e t) (k : ∀ σ H Q, t' σ H Q → t σ H Q) : PW X e t' := ⟨fun wh pins s σ H Q I hw => h.run wh pins s σ H Q I (k _ _ _ hw)⟩
theorem PA.imp {X : Cx} {e : List Expr} {t t' : TA} (h : PA X e t) (k : ∀ σ H Q, t' σ H Q → t σ H Q) : PA X e t' := ⟨fun pos pins s σ H Q I hw => h.run pos pins s σ H Q I (k _ _ _ hw)⟩
theorem PS.imp {X : Cx} {e : Stmt} {t t' : TS} (h : PS X e t) (k : ∀ D σ H, t' D σ H → t D σ H) : PS X e t' := ⟨fun pins s σ H D I hw => h.run pins s σ H D I (k _ _ _ hw)⟩
theorem PSs.imp {X : Cx} {e : List Stmt} {t t' : TS} (h : PSs X e t) (k : ∀ D σ H, t' D σ H → t D σ H) : PSs X e t' := ⟨fun pins s σ H D I hw => h.run pins s σ H D I (k _ _ _ hw)⟩
end
end W3
end

section
namespace W3
open PySem PySem.Spec PyProof.Rows
open L2
abbrev QN (Q : VK) (H : Hp) (xs : List V) : Prop := ∀ p ob, H p = none → ob.dict = none → Q (.ref p) (upd H p (.frz ob (.tup xs)))
section
variable {X : Cx} {pins : List (Addr × Obj)} {σ : L2.St} {H : Hp} {s : Shared} {Q : VK}
theorem ep_tup (I : L2.Inv X pins σ H s) {its : List Value} {xs : List V} (r : Vals xs its) (hz : xs.length ≤ sizeLine) (q : QN Q H xs) :
    EP X pins σ Q (.ref s.heap.objs.size) { s with heap := s.heap.push { cls := .type "tuple", data := .seq its.toArray } } :=
  ⟨.ref s.heap.objs.size, _, I.laid (t' := s.toks) (o := .frz { cls := .type "tuple", data := .seq its.toArray } (.tup xs)) (fun _ _ w => Heap.get?_push_of_some _ w) (Nat.le_refl _) ⟨Heap.get?_push_size _ rfl, hz, its, r, IsTup.new _ _⟩, rfl, q _ _ (I.hok.fresh (Nat.le_refl _)) rfl⟩
end
section
variable {X : Cx} {es : List Expr} {t : TA} {pos : Pos}
def tTupN (t : TA) : TE := fun σ H Q => t σ H fun xs H1 => xs.length ≤ sizeLine ∧ QN Q H1 xs
theorem pe_tupN {k} (h : PA X es t) : PE X (.Tuple es k pos) (tTupN t) := ⟨fun pins s σ H Q I hq =>
  wpAny_Tuple_spliced (thn (h.run pos pins s σ H _ I hq) fun us s1 ⟨xs, H1, I1, r, z, q⟩ => ⟨r.length ▸ z, ep_tup I1 r z q⟩)⟩
theorem sl_tupN : SlR X (fun x lo hi H Q => ∃ a xs, x = .ref a ∧ SqT X.K H a xs ∧ (HT.sIx xs.length 0 lo = 0 ∧ HT.sIx xs.length xs.length hi = xs.length → Q (.ref a) H) ∧
    (¬ (HT.sIx xs.length 0 lo = 0 ∧ HT.sIx xs.length xs.length hi = xs.length) → QN Q H (cutV xs lo hi))) := by
  intro pins s σ H x v vl vu lo hi sl Q I rx hs pl pu h
  obtain ⟨a, xs, rfl, hx, q1, q2⟩ := h
  cases rx
  obtain ⟨its, r, ht, hz⟩ := I.tuple hx
  have ln : its.toArray.size = xs.length := by rw [List.size_toArray]; exact r.length.symm
  refine ⟨"tuple", _, PyProof.Rows.slot_tuple_getitem.lookup, ht.typeIs, ?_⟩
  by_cases hw : HT.sIx xs.length 0 lo = 0 ∧ HT.sIx xs.length xs.length hi = xs.length
  · exact getItem_tuple_whole ht hs pl pu (by rw [ln]; exact hw) ⟨.ref a, _, I, rfl, q1 hw⟩
  · refine HT.getItem_tuple_cut ht hs pl pu (by rw [ln]; exact hw) ?_ (by rw [ln]; exact hz)
    rw [ln]
    exact ep_tup I ((r.drop (HT.sIx xs.length 0 lo)).take (HT.sIx xs.length xs.length hi - HT.sIx xs.length 0 lo)) (Nat.le_trans (cutV_length xs lo hi) hz) (q2 hw)
theorem op_catN : OpR X (binaryOp .Add) (fun x y H Q => ∃ a b xs ys, x = .ref a ∧ y = .ref b ∧ SqT X.K H a xs ∧ SqT X.K H b ys ∧ xs.length + ys.length ≤ sizeLine ∧
    (xs = [] → Q (.ref b) H) ∧ (xs ≠ [] → ys = [] → Q (.ref a) H) ∧ (xs ≠ [] → ys ≠ [] → QN Q H (xs ++ ys))) := by
  intro pins s σ H x y v u Q I rx ry h
  obtain ⟨a, b, xs, ys, rfl, rfl, ha, hb, hz, q0, q1, q2⟩ := h
  cases rx
  cases ry
  obtain ⟨its, r1, p1, _⟩ := I.tuple ha
  obtain ⟨its2, r2, p2, _⟩ := I.tuple hb
  by_cases hx : xs = []
  · subst hx
    cases r1
    exact cat_tup0 p1 p2 ⟨.ref b, _, I, rfl, q0 rfl⟩
  · exact HT.cat_tup p1 p2 (fun z => hx (r1.nil_iff.mp z)) (fun z => ⟨.ref a, _, I, rfl, q1 hx (r2.nil_iff.mp z)⟩) (fun z => ep_tup I (r1.append r2) (by rw [List.length_append]; exact hz) (q2 hx fun w => z (r2.nil_iff.mpr w))) (by rw [← r1.length, ← r2.length]; exact hz)
theorem op_repN : OpR X (binaryOp .Mult) (fun x y H Q => ∃ l k xs, x = .ref l ∧ y = .int k ∧ SqT X.K H l xs ∧ xs ≠ [] ∧ 2 ≤ k ∧ k ≤ 1000 ∧ xs.length ≤ 1000 ∧ QN Q H (List.replicate k.toNat xs).flatten) := by
  intro pins s σ H x y v u Q I rx ry h
  obtain ⟨l, k, xs, rfl, rfl, hT, hne, h1, h2, hz, q⟩ := h
  cases rx
  obtain ⟨t, rfl⟩ := ry
  obtain ⟨its, r, ⟨⟨cls, dd, data, sl⟩, ho, hc, n, hd⟩, hs⟩ := I.tuple hT
  simp only at hc hd
  subst hc hd
  have ln : its.length = xs.length := r.length.symm
  have hi : its.toArray.isEmpty = false := by
    cases its with
    | nil => exact absurd (List.eq_nil_of_length_eq_zero ln.symm) hne
    | cons a b => rfl
  have ln2 : its.toArray.size = xs.length := by rw [List.size_toArray, ln]
  have bd : k.toNat * xs.length ≤ 1000 * 1000 := Nat.mul_le_mul (by omega) hz
  have hm : ((its.toArray.size : Nat) : Int) * k ≤ 1000000 := by
    rw [ln2]
    have a1 : ((xs.length : Nat) : Int) * k ≤ 1000 * k := Int.mul_le_mul_of_nonneg_right (by omega) (by omega)
    omega
  have fl : (List.replicate k.toNat its).flatten.length ≤ sizeLine := by
    rw [PyProof.Rows.lm_len_rep_flat, ln, sizeLine_eq]
    omega
  have d0 : (decide (k < -(2 ^ 63)) || decide (k ≥ 2 ^ 63)) = false := by
    rw [decide_eq_false (by omega), decide_eq_false (by omega)] <;> rfl
  have d1 : (its.toArray.isEmpty || k == 1) = false := by
    rw [hi, Bool.false_or]
    exact beq_eq_false_iff_ne.mpr (by omega)
  have d2 : (decide (k ≤ 0) || its.toArray.isEmpty) = false := by
    rw [hi, Bool.or_false]
    exact decide_eq_false (by omega)
  have d4 : Builtin.Tuple.tupleTooMany (((its.toArray.size : Nat) : Int) * k) = false := by
    unfold Builtin.Tuple.tupleTooMany
    rw [sizeLine_eq]
    exact decide_eq_false (by omega)
  have mw := tuple_mulW l its.toArray n dd sl k t d0 d1 d2 (by omega) d4 (by rw [size_rep, List.size_toArray]; exact fl)
  have ty : s.TypeIs (.ref l) "tuple" := ⟨_, ho, rfl⟩
  refine wpAny_binaryOp_repeat_ref (T := "tuple") (U := "int") (by decide) ty (fun s2 => typeIs_int s2 k t) noFill_tuple_mul F.fills_int_mul F.slot_int_rmul repeat_tuple F.slot_int_index.lookup ?_
  refine call_meets F.slot_int_rmul (typeIs_int s k t) F.entry_int_rmul (F.args_int_rmul_2 _ _) (int_rmul_tuple k t l its.toArray n dd sl) ⟨ho, rfl, ty, ?_⟩
  refine call_meets F.slot_tuple_mul ty F.entry_tuple_mul (F.args_tuple_mul_2 _ _) mw ⟨ho, ?_⟩
  rw [size_rep]
  exact ep_tup I (r.rep k.toNat) (by rw [PyProof.Rows.lm_len_rep_flat, sizeLine_eq]; omega) q
end
end W3
end

section
namespace W3
open PySem PySem.Spec PyProof.Rows
open L2
abbrev DE (X : Cx) (P : Pq) (W : WX) (e : Expr) (se : SE) : Prop := PE X e (tI X.K X.mg X.w P W se)
abbrev DT (X : Cx) (P : Pq) (W : WX) (e : Expr) (se : ST) : Prop := PT X e (tTst X.K X.mg X.w P W se)
abbrev DW (X : Cx) (P : Pq) (W : WX) (e : Expr) (se : ST) : Prop := PW X e (tTst X.K X.mg X.w P W se)
abbrev DA (X : Cx) (P : Pq) (W : WX) (es : List Expr) (se : SA) : Prop := PA X es (tAr X.K X.mg X.w P W se)
def OutP (K : PySem.W.Frag) (mg : Str → Option Value) (wd : World) (Q : VK) (m : Mp) (H : Hp) : Res T → Prop
  | .ok t h' => ∀ v m' H', Ext m H m' H' → RT K mg m' H' t v → HR K mg wd m' h' H' → Q v H'
  | _ => False
def NoX2 (f : T → T → Hh → Res T) : Prop := ∀ x y h c fs h', f x y h ≠ .exc c fs h'
def NoX1 (f : T → Hh → Res T) : Prop := ∀ x h c fs h', f x h ≠ .exc c fs h'
def NoXL (f : List T → Hh → Res T) : Prop := ∀ x h c fs h', f x h ≠ .exc c fs h'
def NoXM (f : T → List T → Hh → Res T) : Prop := ∀ x y h c fs h', f x y h ≠ .exc c fs h'
theorem Out.outP {K : PySem.W.Frag} {mg : Str → Option Value} {wd : World} {W : WX} {σV : L2.St} {Q : VK} {m : Mp} {H : Hp} {r : Res T} (o : Out K mg wd (RT K mg) W σV Q m H r) (n : ∀ c fs h', r ≠ .exc c fs h') : OutP K mg wd Q m H r := by
  cases r with
  | ok t h' => exact o
  | exc c fs h' => exact absurd rfl (n c fs h')
  | stk => exact o
def rP2 (K : PySem.W.Frag) (mg : Str → Option Value) (wd : World) (f : T → T → Hh → Res T) : R2 := fun x y H Q => ∃ m h tx ty, RT K mg m H tx x ∧ RT K mg m H ty y ∧ HR K mg wd m h H ∧ OutP K mg wd Q m H (f tx ty h)
def rP1 (K : PySem.W.Frag) (mg : Str → Option Value) (wd : World) (f : T → Hh → Res T) : V → Hp → VK → Prop := fun x H Q => ∃ m h tx, RT K mg m H tx x ∧ HR K mg wd m h H ∧ OutP K mg wd Q m H (f tx h)
def rPL (K : PySem.W.Frag) (mg : Str → Option Value) (wd : World) (f : List T → Hh → Res T) : List V → Hp → VK → Prop := fun xs H Q => ∃ m h ts, RTs K mg m H ts xs ∧ HR K mg wd m h H ∧ OutP K mg wd Q m H (f ts h)
def rPM (K : PySem.W.Frag) (mg : Str → Option Value) (wd : World) (f : T → List T → Hh → Res T) : V → List V → Hp → VK → Prop := fun x xs H Q => ∃ m h t ts, RT K mg m H t x ∧ RTs K mg m H ts xs ∧ HR K mg wd m h H ∧ OutP K mg wd Q m H (f t ts h)
section
variable {X : Cx} {P : Pq} {W : WX} {a b c : Expr} {sa sb sc : SE} {pos : Pos}
theorem de_var {i : Nat} {x : Str} (hN : X.N[i]? = some x) (hv : Vis X.env.scope x) (hd : (x == ("__debug__" : Str)) = false := by decide) (hcd : (x == ("__classdict__" : Str)) = false := by decide) : DE X P W (.Name x pos) (sVar i) :=
  PE.imp (pe_var hN hv hd hcd) fun σV H Q ⟨m, h, σ, A, o⟩ => by
    unfold sVar at o
    split at o
    · rename_i t e
      obtain ⟨v, ev, r⟩ := A.sr.2 i t e
      exact ⟨v, ev, o v m H (Ext.refl _ _) r A.hr⟩
    · exact False.elim o
theorem de_c {t : T} {v : V} (h : PE X a (tC v)) (r : ∀ m H, RT X.K X.mg m H t v) : DE X P W a (sC t) :=
  PE.imp h fun σV H Q ⟨m, h, σ, A, o⟩ => o v m H (Ext.refl _ _) (r _ _) A.hr
theorem de_int {i j} : DE X P W (.Constant (.int i) j pos) (sC (.int i)) := de_c pe_int fun _ _ => .int i
theorem de_bl {i j} : DE X P W (.Constant (.bool i) j pos) (sC (.bl i)) := de_c pe_bl fun _ _ => .bl i
theorem de_non {j} : DE X P W (.Constant .none j pos) (sC .non) := de_c pe_non fun _ _ => .non
theorem de_str {x : Str} {j} (h : PyData.strOk x = true := by decide +kernel) : DE X P W (.Constant (.str x) j pos) (sC (.str x)) := de_c pe_str fun _ _ => .str h
theorem two {f : T → T → Hh → Res T} (hf : NoX2 f) {σV : L2.St} {H : Hp} {Q : VK} (h : tI X.K X.mg X.w P W (s2 f sa sb) σV H Q) :
    tI X.K X.mg X.w P W sa σV H fun x H1 => tI X.K X.mg X.w P W sb σV H1 fun y H2 => rP2 X.K X.mg X.w f x y H2 Q := by
  obtain ⟨m, h, σ, A, o⟩ := h
  refine A.first (rel1 := RT X.K X.mg) o fun m1 h1 t1 x H1 E1 r1 A1 o1 => ?_
  refine A1.first (rel1 := RT X.K X.mg) o1 fun m2 h2 t2 y H2 E2 r2 A2 o2 => ?_
  exact ⟨m2, h2, t1, t2, r1.ext E2, r2, A2.hr, o2.outP (hf t1 t2 h2)⟩
theorem one {f : T → Hh → Res T} (hf : NoX1 f) {σV : L2.St} {H : Hp} {Q : VK} (h : tI X.K X.mg X.w P W (s1 f sa) σV H Q) :
    tI X.K X.mg X.w P W sa σV H fun x H1 => rP1 X.K X.mg X.w f x H1 Q := by
  obtain ⟨m, h, σ, A, o⟩ := h
  refine A.first (rel1 := RT X.K X.mg) o fun m1 h1 t1 x H1 E1 r1 A1 o1 => ?_
  exact ⟨m1, h1, t1, r1, A1.hr, o1.outP (hf t1 h1)⟩
theorem de_op {op : Operator} {f : T → T → Hh → Res T} (ho : OpR X (binaryOp op) (rP2 X.K X.mg X.w f)) (hf : NoX2 f) (ha : DE X P W a sa) (hb : DE X P W b sb) : DE X P W (.BinOp a op b pos) (s2 f sa sb) :=
  PE.imp (pe_op ho ha hb) fun σV H Q h => two hf h
theorem de_un {op : UnaryOp} {f : T → Hh → Res T} (ho : UnR X (unaryOp op) (rP1 X.K X.mg X.w f)) (hf : NoX1 f) (ha : DE X P W a sa) : DE X P W (.UnaryOp op a pos) (s1 f sa) :=
  PE.imp (pe_un ho ha) fun σV H Q h => one hf h
theorem de_cmp {op : CmpOp} {f : T → T → Hh → Res T} (ho : OpR X (compareOp op) (rP2 X.K X.mg X.w f)) (hf : NoX2 f) (ha : DE X P W a sa) (hb : DE X P W b sb) (hm : behindInMarks op b = false) : DE X P W (.Compare a [op] [b] pos) (s2 f sa sb) :=
  PE.imp (pe_cmpR ho ha hb hm) fun σV H Q h => two hf h
theorem dt_cmp {op : CmpOp} {f : T → T → Hh → Res T} (ho : OpR X (compareOp op) (rP2 X.K X.mg X.w f)) (hf : NoX2 f) (ha : DE X P W a sa) (hb : DE X P W b sb) (hm : behindInMarks op b = false) : DT X P W (.Compare a [op] [b] pos) (sT (s2 f sa sb)) :=
  PT.imp (pt_cmpR ho ha hb hm) fun σV H Q ⟨m, h, σ, A, o⟩ => by
    refine two hf (A.first (rel1 := RT X.K X.mg) o fun m1 h1 t x H1 E1 r A1 o1 => ?_)
    cases r with
    | bl k => exact ⟨k, rfl, o1 k m1 H1 (Ext.refl _ _) rfl A1.hr⟩
    | _ => exact False.elim o1
theorem nx_add : NoX2 oAdd := fun x y h c fs h' e => by
  unfold oAdd alloc at e
  (repeat' split at e) <;> cases e
theorem nx_mul : NoX2 oMul := fun x y h c fs h' e => by unfold oMul at e; (repeat' split at e) <;> cases e
theorem nx_mod : NoX2 oMod := fun x y h c fs h' e => by unfold oMod at e; (repeat' split at e) <;> cases e
theorem nx_div : NoX2 oDiv := fun x y h c fs h' e => by unfold oDiv at e; (repeat' split at e) <;> cases e
theorem nx_pow : NoX2 oPow := fun x y h c fs h' e => by unfold oPow at e; (repeat' split at e) <;> cases e
theorem nx_lt : NoX2 oLt := fun x y h c fs h' e => by unfold oLt at e; (repeat' split at e) <;> cases e
theorem nx_neg : NoX1 oNeg := fun x h c fs h' e => by unfold oNeg at e; (repeat' split at e) <;> cases e
theorem nx_eq : NoX2 oEq := fun x y h c fs h' e => by unfold oEq at e; (repeat' split at e) <;> cases e
theorem nx_ne : NoX2 oNe := fun x y h c fs h' e => by unfold oNe at e; (repeat' split at e) <;> cases e
theorem nx_ix : NoX2 oIx := fun x y h c fs h' e => by unfold oIx at e; (repeat' split at e) <;> cases e
theorem os_int {sem : Value → Value → Sem Value} {C : Int → Int → Prop} {g : Int → Int → V} {gt : Int → Int → T} {f : T → T → Hh → Res T} (ho : OpR X sem (rI C g)) (hg : ∀ i j m H, RT X.K X.mg m H (gt i j) (g i j))
    (hf : ∀ x y h t h', f x y h = .ok t h' → ∃ i j, x = .int i ∧ y = .int j ∧ C i j ∧ t = gt i j ∧ h' = h) : OpR X sem (rP2 X.K X.mg X.w f) := by
  intro pins s σ H x y v u Q I rx ry ⟨m, h, tx, ty, r1, r2, R, o⟩
  cases e : f tx ty h with
  | ok t h' =>
    rw [e] at o
    obtain ⟨i, j, rfl, rfl, hc, rfl, rfl⟩ := hf _ _ _ _ _ e
    cases r1
    cases r2
    exact ho pins s σ H _ _ v u Q I rx ry ⟨i, j, rfl, rfl, hc, o _ m H (Ext.refl _ _) (hg i j m H) R⟩
  | exc c fs h' => rw [e] at o; exact False.elim o
  | stk => rw [e] at o; exact False.elim o
theorem rI_of0 {sem : Value → Value → Sem Value} {g : Int → Int → V} (ho : OpR X sem (rI0 g)) : OpR X sem (rI (fun _ _ => True) g) := by
  intro pins s σ H x y v u Q I rx ry ⟨i, j, e1, e2, _, q⟩
  exact ho pins s σ H x y v u Q I rx ry ⟨i, j, e1, e2, q⟩
theorem os_mul : OpR X (binaryOp .Mult) (rP2 X.K X.mg X.w oMul) := os_int (gt := fun i j => .int (i * j)) op_mul (fun _ _ _ _ => .int _) fun x y h t h' e => by
  unfold oMul at e; split at e
  · split at e
    · rename_i hc; cases e; exact ⟨_, _, rfl, rfl, hc, rfl, rfl⟩
    · cases e
  · cases e
theorem os_mod : OpR X (binaryOp .Mod) (rP2 X.K X.mg X.w oMod) := os_int (gt := fun i j => .int (i % j)) op_mod (fun _ _ _ _ => .int _) fun x y h t h' e => by
  unfold oMod at e; split at e
  · split at e
    · rename_i hc; cases e; exact ⟨_, _, rfl, rfl, hc, rfl, rfl⟩
    · cases e
  · cases e
theorem os_div : OpR X (binaryOp .FloorDiv) (rP2 X.K X.mg X.w oDiv) := os_int (gt := fun i j => .int (i / j)) op_fdiv (fun _ _ _ _ => .int _) fun x y h t h' e => by
  unfold oDiv at e; split at e
  · split at e
    · rename_i hc; cases e; exact ⟨_, _, rfl, rfl, hc, rfl, rfl⟩
    · cases e
  · cases e
theorem os_pow : OpR X (binaryOp .Pow) (rP2 X.K X.mg X.w oPow) := os_int (gt := fun i j => .int (i ^ j.toNat)) op_pow (fun _ _ _ _ => .int _) fun x y h t h' e => by
  unfold oPow at e; split at e
  · split at e
    · rename_i hc; cases e; exact ⟨_, _, rfl, rfl, hc, rfl, rfl⟩
    · cases e
  · cases e
theorem os_lt : OpR X (compareOp .Lt) (rP2 X.K X.mg X.w oLt) := os_int (gt := fun i j => .bl (decide (i < j))) (rI_of0 op_lt) (fun _ _ _ _ => .bl _) fun x y h t h' e => by
  unfold oLt at e; split at e
  · cases e; exact ⟨_, _, rfl, rfl, trivial, rfl, rfl⟩
  · cases e
theorem us_neg : UnR X (unaryOp .USub) (rP1 X.K X.mg X.w oNeg) := by
  intro pins s σ H x v Q I rx ⟨m, h, tx, r1, R, o⟩
  cases r1 with
  | int i => exact un_neg pins s σ H _ v Q I rx ⟨i, rfl, o _ m H (Ext.refl _ _) (.int _) R⟩
  | _ => exact False.elim o
theorem OutP.newTup {K : PySem.W.Frag} {mg : Str → Option Value} {wd : World} {Q : VK} {m : Mp} {H : Hp} {h : Hh} {ts : List T} {vs : List V} (R : HR K mg wd m h H) (r : RTs K mg m H ts vs) (o : OutP K mg wd Q m H (.ok (.tup ts) h)) {p : Addr} {ob : Obj} (hp : H p = none) (hd : ob.dict = none) : Q (.ref p) (upd H p (.frz ob (.tup vs))) :=
  o _ m _ (Ext.garbage R hp) (.tup (.inl ⟨ob, upd_same, hd⟩) (r.ext (Ext.garbage R hp))) (R.garbage hp)
theorem OutP.newLst {K : PySem.W.Frag} {mg : Str → Option Value} {wd : World} {Q : VK} {m : Mp} {H : Hp} {h : Hh} {ts : List T} {vs : List V} (R : HR K mg wd m h H) (r : RTs K mg m H ts vs) (o : OutP K mg wd Q m H (alloc (.lst ts) h)) {p : Addr} (hp : H p = none) : Q (.ref p) (upd H p (.lst vs)) :=
  o _ _ _ (Ext.alloc R hp) (.ref Mp.put_same) (R.alloc hp ⟨vs, upd_same, r.ext (Ext.alloc R hp)⟩)
theorem strOk_append {x y : Str} (hx : PyData.strOk x = true) (hy : PyData.strOk y = true) : PyData.strOk (x ++ y) = true := by
  unfold PyData.strOk at *
  show (x.cps ++ y.cps).all _ = true
  rw [Array.all_append, hx, hy]; rfl
theorem os_add : OpR X (binaryOp .Add) (rP2 X.K X.mg X.w oAdd) := by
  intro pins s σ H x y v u Q I rx ry ⟨m, h, tx, ty, r1, r2, R, o⟩
  cases r1 with
  | int i =>
    cases r2 with
    | int j => exact op_add pins s σ H _ _ v u Q I rx ry ⟨i, j, rfl, rfl, o _ m H (Ext.refl _ _) (.int _) R⟩
    | _ => exact False.elim o
  | str hi =>
    cases r2 with
    | str hj =>
      rename_i i j
      have o' : OutP X.K X.mg X.w Q m H (if i.length + j.length ≤ sizeLine then .ok (.str (i ++ j)) h else .stk) := o
      split at o'
      · rename_i hz; exact op_add_str pins s σ H _ _ v u Q I rx ry ⟨_, _, rfl, rfl, hz, o' _ m H (Ext.refl _ _) (.str (strOk_append hi hj)) R⟩
      · exact False.elim o'
    | _ => exact False.elim o
  | tup ha r =>
    cases r2 with
    | tup hb q =>
      rename_i a vs xs b ws ys
      have o' : OutP X.K X.mg X.w Q m H (if xs.length + ys.length ≤ sizeLine then .ok (.tup (xs ++ ys)) h else .stk) := o
      split at o'
      · rename_i hz
        rw [r.length, q.length] at hz
        refine op_catN pins s σ H _ _ v u Q I rx ry ⟨_, _, _, _, rfl, rfl, ha, hb, hz, fun e => ?_, fun e1 e2 => ?_, fun e1 e2 p ob hp hd => ?_⟩
        · subst e; cases r; exact o' _ m H (Ext.refl _ _) (.tup hb q) R
        · subst e2; cases q; rw [List.append_nil] at o'; exact o' _ m H (Ext.refl _ _) (.tup ha r) R
        · exact OutP.newTup R (r.append q) o' hp hd
      · exact False.elim o'
    | _ => exact False.elim o
  | ref e1 =>
    cases r2 with
    | ref e2 =>
      rename_i l a k b
      have o' : OutP X.K X.mg X.w Q m H (match lstAt h l, lstAt h k with
        | some xs, some zs => if xs.length + zs.length ≤ sizeLine then alloc (.lst (xs ++ zs)) h else .stk
        | _, _ => .stk) := o
      split at o'
      · rename_i xs zs q1 q2
        split at o'
        · rename_i hz
          obtain ⟨vs, g1, r1⟩ := R.lst e1 q1
          obtain ⟨ws, g2, r2⟩ := R.lst e2 q2
          rw [r1.length, r2.length] at hz
          exact op_cat pins s σ H _ _ v u Q I rx ry ⟨_, _, _, _, rfl, rfl, g1, g2, hz, fun p hp => OutP.newLst R (r1.append r2) o' hp⟩
        · exact False.elim o'
      · exact False.elim o'
    | _ => exact False.elim o
  | _ => exact False.elim o
end
end W3
end

section
namespace W3
open PySem PySem.Spec PyProof.Rows
open L2
section
variable {K : PySem.W.Frag} {mg : Str → Option Value} {wd : World} {m : Mp} {H : Hp} {h : Hh}
theorem optL_dp {n : Nat} {f : T → Option PyData} (hf : ∀ t v d, RT K mg m H t v → f t = some d → Dp K H v d ∧ d.canLay0 = true ∧ d.depth ≤ n) :
    ∀ {ts : List T} {vs : List V} {ds : List PyData}, RTs K mg m H ts vs → optL f ts = some ds → DpAll K H vs ds ∧ PyData.canLayAll0 ds = true ∧ PyData.depthAll ds ≤ n
  | _, _, _, .nil, e => by cases e; exact ⟨.nil, by simp [PyData.canLayAll0], by simp [PyData.depthAll]⟩
  | _, _, _, .cons (t := t) (ts := ts) r q, e => by
    unfold optL at e
    cases h1 : f t with
    | none => rw [h1] at e; simp at e
    | some d =>
      cases h2 : optL f ts with
      | none => rw [h1, h2] at e; simp at e
      | some ds =>
        rw [h1, h2] at e
        cases e
        obtain ⟨a1, a2, a3⟩ := hf _ _ _ r h1
        obtain ⟨b1, b2, b3⟩ := optL_dp hf q h2
        refine ⟨.cons a1 b1, by simp [PyData.canLayAll0, a2, b2], ?_⟩
        simp only [PyData.depthAll]
        omega
theorem toD_dp (R : HR K mg wd m h H) : ∀ (n : Nat) (t : T) (v : V) (d : PyData), RT K mg m H t v → toD h n t = some d → Dp K H v d ∧ d.canLay0 = true ∧ d.depth ≤ n
  | 0, _, _, _, _, e => by simp [toD] at e
  | n + 1, _, _, d, r, e => by
    have ih := toD_dp R n
    cases r with
    | non => cases e; exact ⟨.non, by simp [PyData.canLay0], by simp [PyData.depth]⟩
    | bl b => cases e; exact ⟨.bl b, by simp [PyData.canLay0], by simp [PyData.depth]⟩
    | int b => cases e; exact ⟨.int b, by simp [PyData.canLay0], by simp [PyData.depth]⟩
    | str b => cases e; exact ⟨.str _, by simpa [PyData.canLay0] using b, by simp [PyData.depth]⟩
    | @tup a vs ts hq rr =>
      have e' : (optL (toD h n) ts).map PyData.tuple = some d := e
      cases q : optL (toD h n) ts with
      | none => rw [q] at e'; cases e'
      | some ds =>
        rw [q] at e'; cases e'
        obtain ⟨b1, b2, b3⟩ := optL_dp ih rr q
        exact ⟨.tup hq b1, by simpa [PyData.canLay0] using b2, by simp only [PyData.depth]; omega⟩
    | @fl a vs ts hq rr =>
      have e' : (optL (toD h n) ts).map PyData.list = some d := e
      cases q : optL (toD h n) ts with
      | none => rw [q] at e'; cases e'
      | some ds =>
        rw [q] at e'; cases e'
        obtain ⟨b1, b2, b3⟩ := optL_dp ih rr q
        exact ⟨.lst hq.sq b1, by simpa [PyData.canLay0] using b2, by simp only [PyData.depth]; omega⟩
    | @ref l a hq =>
      have e' : (match h[l]? with | some (.lst ts) => (optL (toD h n) ts).map PyData.list | _ => none) = some d := e
      split at e'
      · rename_i ts hl
        obtain ⟨vs, g, rr⟩ := R.lst hq (show lstAt h l = some ts by unfold lstAt; rw [hl])
        cases q : optL (toD h n) ts with
        | none => rw [q] at e'; cases e'
        | some ds =>
          rw [q] at e'; cases e'
          obtain ⟨b1, b2, b3⟩ := optL_dp ih rr q
          exact ⟨.lst (SqL.of g) b1, by simpa [PyData.canLay0] using b2, by simp only [PyData.depth]; omega⟩
      · cases e'
    | cls hq => cases e
theorem toD_shaped (R : HR K mg wd m h H) {t : T} {v : V} {d : PyData} (r : RT K mg m H t v) (e : toD h 24 t = some d) : Dp K H v d ∧ SeqAt.shaped d = true := by
  obtain ⟨a, b, c⟩ := toD_dp R 24 t v d r e
  refine ⟨a, ?_⟩
  unfold SeqAt.shaped
  rw [b, decide_eq_true (by omega : d.depth ≤ 64)]
  rfl
end
section
variable {X : Cx} {P : Pq} {W : WX} {a b c : Expr} {sa sb sc : SE} {pos : Pos} {es : List Expr} {ar : SA} {ta tb : ST} {rest : List Expr}
theorem os_eq (hu : X.A.units + 65 < cLine) : OpR X (compareOp .Eq) (rP2 X.K X.mg X.w oEq) := by
  intro pins s σ H x y v u Q I rx ry ⟨m, h, tx, ty, r1, r2, R, o⟩
  unfold oEq at o
  split at o
  · rename_i d e q1 q2
    obtain ⟨d1, s1⟩ := toD_shaped R r1 q1
    obtain ⟨d2, s2⟩ := toD_shaped R r2 q2
    exact op_eqD (by omega) pins s σ H x y v u Q I rx ry ⟨d, e, d1, d2, s1, s2, o _ m H (Ext.refl _ _) (.bl _) R⟩
  · exact False.elim o
theorem os_ne (hu : X.A.units + 65 < cLine) : OpR X (compareOp .NotEq) (rP2 X.K X.mg X.w oNe) := by
  intro pins s σ H x y v u Q I rx ry ⟨m, h, tx, ty, r1, r2, R, o⟩
  unfold oNe at o
  split at o
  · rename_i d e q1 q2
    obtain ⟨d1, s1⟩ := toD_shaped R r1 q1
    obtain ⟨d2, s2⟩ := toD_shaped R r2 q2
    exact op_neD (by omega) pins s σ H x y v u Q I rx ry ⟨d, e, d1, d2, s1, s2, o _ m H (Ext.refl _ _) (.bl _) R⟩
  · exact False.elim o
theorem nx_is : NoX2 oIs := fun x y h c fs h' e => by unfold oIs at e; (repeat' split at e) <;> cases e
theorem isNon_iff {m : Mp} {H : Hp} {t : T} {v : V} (r : RT X.K X.mg m H t v) : decide (v = .non) = isNonT t := by
  cases r <;> first | rfl | simp [isNonT]
theorem os_is : OpR X (compareOp .Is) (rP2 X.K X.mg X.w oIs) := by
  intro pins s σ H x y v u Q I rx ry ⟨m, h, tx, ty, r1, r2, R, o⟩
  cases r2 with
  | non =>
    have o' : OutP X.K X.mg X.w Q m H (.ok (.bl (isNonT tx)) h) := o
    refine op_isN pins s σ H x _ v u Q I rx ry ⟨rfl, ?_⟩
    rw [isNon_iff r1]
    exact o' _ m H (Ext.refl _ _) (.bl _) R
  | bl k =>
    cases r1 with
    | bl j => exact op_isBl pins s σ H _ _ v u Q I rx ry ⟨j, k, rfl, rfl, o _ m H (Ext.refl _ _) (.bl _) R⟩
    | _ => exact False.elim o
  | _ => exact False.elim o
theorem dt_val (ha : DE X P W a sa) (he : ∀ whole, isTrue a X.env whole = (do let v ← whole; standAt a.pos; holding [v] (truthy v)) := by intro _; rfl) : DT X P W a (sT sa) :=
  PT.imp (pt_val ha he) fun σV H Q ⟨m, h, σ, A, o⟩ => by
    refine A.first (rel1 := RT X.K X.mg) o fun m1 h1 t x H1 E1 r A1 o1 => ?_
    cases r with
    | bl k => exact ⟨k, rfl, o1 k m1 H1 (Ext.refl _ _) rfl A1.hr⟩
    | _ => exact False.elim o1
theorem tt_and {σV : L2.St} {H : Hp} {Q : Bool → Hp → Prop} (h : tTst X.K X.mg X.w P W (stAnd ta tb) σV H Q) : tAnd (tTst X.K X.mg X.w P W ta) (tTst X.K X.mg X.w P W tb) σV H Q := by
  obtain ⟨m, h, σ, A, o⟩ := h
  refine A.first (rel1 := fun _ _ a b => a = b) o fun m1 h1 t x H1 E1 r A1 o1 => ?_
  subst r
  cases t with
  | true => rw [if_pos rfl]; rw [if_pos rfl] at o1; exact ⟨m1, h1, σ, A1, o1⟩
  | false => rw [if_neg Bool.false_ne_true]; rw [if_neg Bool.false_ne_true] at o1; exact o1 _ m1 H1 (Ext.refl _ _) rfl A1.hr
theorem tt_or {σV : L2.St} {H : Hp} {Q : Bool → Hp → Prop} (h : tTst X.K X.mg X.w P W (stOr ta tb) σV H Q) : tOr (tTst X.K X.mg X.w P W ta) (tTst X.K X.mg X.w P W tb) σV H Q := by
  obtain ⟨m, h, σ, A, o⟩ := h
  refine A.first (rel1 := fun _ _ a b => a = b) o fun m1 h1 t x H1 E1 r A1 o1 => ?_
  subst r
  cases t with
  | true => rw [if_pos rfl]; rw [if_pos rfl] at o1; exact o1 _ m1 H1 (Ext.refl _ _) rfl A1.hr
  | false => rw [if_neg Bool.false_ne_true]; rw [if_neg Bool.false_ne_true] at o1; exact ⟨m1, h1, σ, A1, o1⟩
theorem dw_and1 (ha : DT X P W a ta) : DW X P W (.BoolOp .And [a] pos) ta := pw_and1 ha
theorem dw_or1 (ha : DT X P W a ta) : DW X P W (.BoolOp .Or [a] pos) ta := pw_or1 ha
theorem dw_and (ha : DT X P W a ta) (hb : DW X P W (.BoolOp .And (b :: rest) pos) tb) : DW X P W (.BoolOp .And (a :: b :: rest) pos) (stAnd ta tb) := PW.imp (pw_and ha hb) fun _ _ _ h => tt_and h
theorem dw_or (ha : DT X P W a ta) (hb : DW X P W (.BoolOp .Or (b :: rest) pos) tb) : DW X P W (.BoolOp .Or (a :: b :: rest) pos) (stOr ta tb) := PW.imp (pw_or ha hb) fun _ _ _ h => tt_or h
theorem dt_w {e : Expr} (h : DW X P W e ta) : DT X P W e ta := h.pt
theorem dt_not (ha : DT X P W a ta) : DT X P W (.UnaryOp .Not a pos) (stNot ta) := PT.imp (pt_not ha) fun σV H Q ⟨m, h, σ, A, o⟩ => by
  refine A.first (rel1 := fun _ _ a b => a = b) o fun m1 h1 t x H1 E1 r A1 o1 => ?_
  subst r
  exact o1 _ m1 H1 (Ext.refl _ _) rfl A1.hr
theorem de_and1 (ha : DE X P W a sa) : DE X P W (.BoolOp .And [a] pos) sa := pe_one ha
theorem de_and (ha : DE X P W a sa) (hb : DE X P W (.BoolOp .And (b :: rest) pos) sb) : DE X P W (.BoolOp .And (a :: b :: rest) pos) (sIf (sT sa) sb (sC (.bl false))) :=
  PE.imp (pe_and ha hb) fun σV H Q ⟨m, h, σ, A, o⟩ => by
    have o' : Out X.K X.mg X.w (RT X.K X.mg) W σV Q m H ((sa σ h).bind fun t h1 => match t with | .bl k => (if k = true then sb σ h1 else .ok (.bl false) h1) | _ => .stk) := by
      have e : sIf (sT sa) sb (sC (.bl false)) σ h = ((sa σ h).bind fun t h1 => match t with | .bl k => (if k = true then sb σ h1 else .ok (.bl false) h1) | _ => .stk) := by
        unfold sIf sT sC
        cases sa σ h with
        | ok t h1 => cases t <;> rfl
        | exc c fs h1 => rfl
        | stk => rfl
      rw [e] at o; exact o
    refine A.first (rel1 := RT X.K X.mg) o' fun m1 h1 t x H1 E1 r A1 o1 => ?_
    cases r with
    | bl k =>
      refine ⟨k, rfl, ?_⟩
      cases k with
      | true => exact ⟨m1, h1, σ, A1, o1⟩
      | false => exact o1 _ m1 H1 (Ext.refl _ _) (.bl _) A1.hr
    | _ => exact False.elim o1
theorem da_nil : DA X P W [] saNil := PA.imp pa_nil fun σV H Q ⟨m, h, σ, A, o⟩ => o [] m H (Ext.refl _ _) .nil A.hr
theorem da_cons (ha : DE X P W a sa) (hr : DA X P W es ar) (hs : starEach (a :: es) X.env = (false, eval a X.env) :: starEach es X.env := by rfl) : DA X P W (a :: es) (saCons sa ar) :=
  PA.imp (pa_cons ha hr hs) fun σV H Q ⟨m, h, σ, A, o⟩ => by
    refine A.first (rel1 := RT X.K X.mg) o fun m1 h1 t1 x H1 E1 r1 A1 o1 => ?_
    refine A1.first (rel1 := RTs X.K X.mg) o1 fun m2 h2 t2 y H2 E2 r2 A2 o2 => ?_
    exact o2 _ m2 H2 (Ext.refl _ _) (.cons (r1.ext E2) r2) A2.hr
theorem de_tup {x1} (h : DA X P W es ar) : DE X P W (.Tuple es x1 pos) (sTup ar) := PE.imp (pe_tupN h) fun σV H Q ⟨m, h, σ, A, o⟩ => by
  refine A.first (rel1 := RTs X.K X.mg) o fun m1 h1 t1 x H1 E1 r1 A1 o1 => ?_
  split at o1
  · rename_i hz
    refine ⟨by rw [← r1.length]; exact hz, fun p ob hp hd => ?_⟩
    exact OutP.newTup A1.hr r1 (o1.outP (fun _ _ _ z => by cases z)) hp hd
  · exact False.elim o1
theorem de_lst (h : DA X P W es ar) : DE X P W (.List es pos) (sLst ar) := PE.imp (pe_lst h) fun σV H Q ⟨m, h, σ, A, o⟩ => by
  refine A.first (rel1 := RTs X.K X.mg) o fun m1 h1 t1 x H1 E1 r1 A1 o1 => ?_
  split at o1
  · rename_i hz
    refine ⟨by rw [← r1.length]; exact hz, fun p hp => ?_⟩
    exact OutP.newLst A1.hr r1 (o1.outP (fun _ _ _ z => by cases z)) hp
  · exact False.elim o1
end
end W3
end

section
namespace W3
open PySem PySem.Spec PyProof.Rows
open L2
section
variable {X : Cx} {P : Pq} {W : WX} {a b c : Expr} {sa sb sc : SE} {pos p2 : Pos} {es : List Expr} {ar : SA} {ta tb : ST} {rest : List Expr}
theorem RTs.atI {m : Mp} {H : Hp} {ts : List T} {vs : List V} (r : RTs X.K X.mg m H ts vs) {i : Int} {t : T} (e : L2.atI ts i = some t) : ∃ v, L2.atI vs i = some v ∧ RT X.K X.mg m H t v := by
  unfold L2.atI at e ⊢
  rw [← r.length]
  cases q : ixN ts.length i with
  | none => rw [q] at e; cases e
  | some j =>
    rw [q] at e
    exact r.get (show ts[j]? = some t from e)
theorem strOk_one {c : Nat} {z : Str} (hz : PyData.strOk z = true) {i : Int} (e : L2.atI z.cps.toList i = some c) : PyData.strOk ⟨#[c]⟩ = true := by
  obtain ⟨j, _, h, _⟩ := atI_get e
  have hm : c ∈ z.cps.toList := List.mem_of_getElem? h
  unfold PyData.strOk at *
  rw [← Array.all_toList, List.all_eq_true] at hz
  have := hz c hm
  simpa using this
theorem ixs : IxR X (rP2 X.K X.mg X.w oIx) := by
  intro value slice pins s σ H x y v u Q I rx ry ⟨m, h, tx, ty, r1, r2, R, o⟩ hs
  cases r2 with
  | int i =>
    cases r1 with
    | @tup a vs ts hq r =>
      have o' : OutP X.K X.mg X.w Q m H (match L2.atI ts i with | some t => .ok t h | none => .stk) := o
      split at o'
      · rename_i t e
        obtain ⟨w, e2, rw⟩ := r.atI e
        exact ix_tup value slice pins s σ H _ _ v u Q I rx ry ⟨_, _, i, w, rfl, rfl, hq, e2, o' _ m H (Ext.refl _ _) rw R⟩ hs
      · exact False.elim o'
    | @fl a vs ts hq r =>
      have o' : OutP X.K X.mg X.w Q m H (match L2.atI ts i with | some t => .ok t h | none => .stk) := o
      split at o'
      · rename_i t e
        obtain ⟨w, e2, rw⟩ := r.atI e
        exact ix_list value slice pins s σ H _ _ v u Q I rx ry ⟨_, _, i, w, rfl, rfl, hq.sq, e2, o' _ m H (Ext.refl _ _) rw R⟩ hs
      · exact False.elim o'
    | @ref l a e1 =>
      have o' : OutP X.K X.mg X.w Q m H (match lstAt h l with
        | some ts => (match L2.atI ts i with | some t => .ok t h | none => .stk)
        | none => .stk) := o
      split at o'
      · rename_i ts q1
        obtain ⟨vs, g1, r1⟩ := R.lst e1 q1
        split at o'
        · rename_i t e
          obtain ⟨w, e2, rw⟩ := r1.atI e
          exact ix_list value slice pins s σ H _ _ v u Q I rx ry ⟨_, _, i, w, rfl, rfl, SqL.of g1, e2, o' _ m H (Ext.refl _ _) rw R⟩ hs
        · exact False.elim o'
      · exact False.elim o'
    | @str z hz =>
      have o' : OutP X.K X.mg X.w Q m H (if z.length ≤ sizeLine then (match L2.atI z.cps.toList i with | some c => .ok (.str ⟨#[c]⟩) h | none => .stk) else .stk) := o
      split at o'
      · rename_i hl
        split at o'
        · rename_i c e
          exact ix_str value slice pins s σ H _ _ v u Q I rx ry ⟨z, i, c, rfl, rfl, hl, e, o' _ m H (Ext.refl _ _) (.str (strOk_one hz e)) R⟩ hs
        · exact False.elim o'
      · exact False.elim o'
    | _ => exact False.elim o
  | _ => cases r1 <;> exact False.elim o
theorem de_ix (ha : DE X P W a sa) (hb : DE X P W b sb) (hs : PlainIx b := by intro _ _; rfl) : DE X P W (.Subscript a b pos) (s2 oIx sa sb) :=
  PE.imp (pe_ix ixs ha hb hs) fun σV H Q h => two nx_ix h
theorem RTs.cut {m : Mp} {H : Hp} {ts : List T} {vs : List V} (r : RTs X.K X.mg m H ts vs) (lo hi : Option Int) : RTs X.K X.mg m H (cutT ts lo hi) (cutV vs lo hi) := by
  unfold cutT cutV
  rw [← r.length]
  exact (r.drop _).take _
abbrev DO (X : Cx) (P : Pq) (W : WX) (e : Option Expr) (se : SO) : Prop := PO X e (tG X.K X.mg X.w (fun _ _ a b => a = b) P W se)
theorem PO.imp {e : Option Expr} {t t' : TO} (h : PO X e t) (k : ∀ σ H Q, t' σ H Q → t σ H Q) : PO X e t' := ⟨fun pins s σ H Q I hw => h.run pins s σ H Q I (k _ _ _ hw)⟩
theorem do_none : DO X P W none soNone := PO.imp po_none fun σV H Q ⟨m, h, σ, A, o⟩ => o none m H (Ext.refl _ _) rfl A.hr
theorem do_some (h : DE X P W a sa) : DO X P W (some a) (soSome sa) := PO.imp (po_some h) fun σV H Q ⟨m, h, σ, A, o⟩ => by
  refine A.first (rel1 := RT X.K X.mg) o fun m1 h1 t x H1 E1 r A1 o1 => ?_
  cases r with
  | int i => exact ⟨i, rfl, o1 (some i) m1 H1 (Ext.refl _ _) rfl A1.hr⟩
  | _ => exact False.elim o1
def rPS (K : PySem.W.Frag) (mg : Str → Option Value) (wd : World) : V → Option Int → Option Int → Hp → VK → Prop := fun x lo hi H Q => ∃ m h t, RT K mg m H t x ∧ HR K mg wd m h H ∧ OutP K mg wd Q m H (oSl t lo hi h)
theorem strOk_cut {z : Str} (hz : PyData.strOk z = true) (lo hi : Option Int) : PyData.strOk (L2.cutS z lo hi) = true := by
  unfold PyData.strOk at hz ⊢
  rw [Array.all_eq_true_iff_forall_mem] at hz ⊢
  intro c hc
  refine hz c ?_
  unfold L2.cutS at hc
  have := List.mem_of_mem_drop (List.mem_of_mem_take (List.mem_toArray.mp hc))
  exact Array.mem_toList_iff.mp this
theorem sls : SlR X (rPS X.K X.mg X.w) := by
  intro pins s σ H x v vl vu lo hi sl Q I rx hs pl pu ⟨m, h, t, r, R, o⟩
  cases r with
  | @tup a vs ts hq r =>
    refine sl_tupN pins s σ H _ v vl vu lo hi sl Q I rx hs pl pu ⟨a, vs, rfl, hq, fun ⟨e1, e2⟩ => ?_, fun _ p ob hp hd => ?_⟩
    · have hc : cutV vs lo hi = vs := by
        unfold cutV; rw [e1, e2]; simp
      have hr := r.cut lo hi
      rw [hc] at hr
      exact o _ m H (Ext.refl _ _) (.tup hq hr) R
    · exact OutP.newTup R (r.cut lo hi) o hp hd
  | @fl a vs ts hq r => exact sl_list pins s σ H _ v vl vu lo hi sl Q I rx hs pl pu ⟨a, vs, rfl, hq.sq, fun p hp => OutP.newLst R (r.cut lo hi) o hp⟩
  | @ref l a e1 =>
    have o' : OutP X.K X.mg X.w Q m H (match lstAt h l with | some ts => alloc (.lst (cutT ts lo hi)) h | none => .stk) := o
    split at o'
    · rename_i ts q1
      obtain ⟨vs, g1, r1⟩ := R.lst e1 q1
      exact sl_list pins s σ H _ v vl vu lo hi sl Q I rx hs pl pu ⟨a, vs, rfl, SqL.of g1, fun p hp => OutP.newLst R (r1.cut lo hi) o' hp⟩
    · exact False.elim o'
  | @str z hz =>
    have o' : OutP X.K X.mg X.w Q m H (if z.length ≤ sizeLine then .ok (.str (L2.cutS z lo hi)) h else .stk) := o
    split at o'
    · rename_i hl
      exact sl_str pins s σ H _ v vl vu lo hi sl Q I rx hs pl pu ⟨z, rfl, hl, o' _ m H (Ext.refl _ _) (.str (strOk_cut hz lo hi)) R⟩
    · exact False.elim o'
  | _ => exact False.elim o
theorem nx_sl (t : T) (lo hi : Option Int) (h : Hh) : ∀ c fs h', oSl t lo hi h ≠ .exc c fs h' := fun c fs h' e => by unfold oSl alloc at e; (repeat' split at e) <;> cases e
theorem de_sl {lo hi : Option Expr} {sl sh : SO} (ha : DE X P W a sa) (hl : DO X P W lo sl) (hh : DO X P W hi sh) : DE X P W (.Subscript a (.Slice lo hi none p2) pos) (sSl sa sl sh) :=
  PE.imp (pe_slice sls ha hl hh) fun σV H Q ⟨m, h, σ, A, o⟩ => by
    refine A.first (rel1 := RT X.K X.mg) o fun m1 h1 t x H1 E1 r A1 o1 => ?_
    refine A1.first (rel1 := fun _ _ a b => a = b) o1 fun m2 h2 l l' H2 E2 r2 A2 o2 => ?_
    refine A2.first (rel1 := fun _ _ a b => a = b) o2 fun m3 h3 u u' H3 E3 r3 A3 o3 => ?_
    subst r2; subst r3
    exact ⟨m3, h3, t, (r.ext E2).ext E3, A3.hr, o3.outP (nx_sl _ _ _ _)⟩
def ClsF (K : PySem.W.Frag) (mg : Str → Option Value) (cs : List (Str × List Str)) : Prop := ∀ c fs C, (c, fs) ∈ cs → mg c = some (.ref C) → Cls K C ∧ ∀ f ∈ fs, NoAttr K C f
theorem args_of {f : List T → Hh → Res T} (hf : NoXL f) {σV : L2.St} {H : Hp} {Q : VK} (h : tI X.K X.mg X.w P W (sCl f ar) σV H Q) : tAr X.K X.mg X.w P W ar σV H fun xs H1 => rPL X.K X.mg X.w f xs H1 Q := by
  obtain ⟨m, h, σ, A, o⟩ := h
  refine A.first (rel1 := RTs X.K X.mg) o fun m1 h1 t1 x H1 E1 r1 A1 o1 => ?_
  exact ⟨m1, h1, t1, r1, A1.hr, o1.outP (hf _ _)⟩
theorem de_callB {id : String} {x : Str} {p : Pos} {f : List T → Hh → Res T} (hc : CallR X (.builtin id) (rPL X.K X.mg X.w f)) (hf : NoXL f) (hg : Gl X x) (hm : X.mg x = none) (hv : bootBuiltins x = some (.builtin id)) (ha : DA X P W (a :: es) ar) (hn : x ≠ "__name__" := by decide) (hdb : (x == ("__debug__" : Str)) = false := by decide)
    (he : starEach (a :: es) X.env = (false, eval a X.env) :: starEach es X.env := by rfl) (hpl : (backTo pos (starEach es X.env)).any (·.1) = false := by rfl) : DE X P W (.Call (.Name x p) (a :: es) [] pos) (sCl f ar) :=
  PE.imp (pe_callB hc hg hm hv ha hn hdb he hpl) fun σV H Q h => args_of hf h
theorem de_callTy {T' : String} {x : Str} {p : Pos} {f : List T → Hh → Res T} (hc : CallR X (.type T') (rPL X.K X.mg X.w f)) (hf : NoXL f) (hg : Gl X x) (hm : X.mg x = none) (hv : bootBuiltins x = some (.type T')) (ha : DA X P W (a :: es) ar) (hn : x ≠ "__name__" := by decide) (hdb : (x == ("__debug__" : Str)) = false := by decide)
    (he : starEach (a :: es) X.env = (false, eval a X.env) :: starEach es X.env := by rfl) (hpl : (backTo pos (starEach es X.env)).any (·.1) = false := by rfl) : DE X P W (.Call (.Name x p) (a :: es) [] pos) (sCl f ar) :=
  PE.imp (pe_callTy hc hg hm hv ha hn hdb he hpl) fun σV H Q h => args_of hf h
theorem nx_len : NoXL bLen := fun x h c fs h' e => by unfold bLen at e; (repeat' split at e) <;> cases e
theorem nx_bint : NoXL bInt := fun x h c fs h' e => by unfold bInt at e; (repeat' split at e) <;> cases e
theorem RTs.one {m : Mp} {H : Hp} {t : T} {vs : List V} (r : RTs X.K X.mg m H [t] vs) : ∃ v, vs = [v] ∧ RT X.K X.mg m H t v := by
  cases r with
  | cons r q => cases q; exact ⟨_, rfl, r⟩
theorem cs_len : CallR X (.builtin "len") (rPL X.K X.mg X.w bLen) := by
  intro pins s σ H xs us Q I ru ⟨m, h, ts, r, R, o⟩
  unfold bLen at o
  split at o
  · obtain ⟨v, rfl, r1⟩ := r.one
    cases r1 with
    | tup hq r2 => exact call_len_seq pins s σ H _ us Q I ru ⟨_, _, rfl, .inr hq, by rw [← r2.length]; exact o _ m H (Ext.refl _ _) (.int _) R⟩
  · obtain ⟨v, rfl, r1⟩ := r.one
    cases r1 with
    | fl hq r2 => exact call_len_seq pins s σ H _ us Q I ru ⟨_, _, rfl, .inl hq.sq, by rw [← r2.length]; exact o _ m H (Ext.refl _ _) (.int _) R⟩
  · obtain ⟨v, rfl, r1⟩ := r.one
    split at o
    · rename_i hz
      cases r1 with
      | str hq => exact call_len_str pins s σ H _ us Q I ru ⟨_, rfl, hz, o _ m H (Ext.refl _ _) (.int _) R⟩
    · exact False.elim o
  · obtain ⟨v, rfl, r1⟩ := r.one
    split at o
    · rename_i ts q1
      cases r1 with
      | ref e1 =>
        obtain ⟨vs, g1, r2⟩ := R.lst e1 q1
        exact call_len_seq pins s σ H _ us Q I ru ⟨_, _, rfl, .inl (SqL.of g1), by rw [← r2.length]; exact o _ m H (Ext.refl _ _) (.int _) R⟩
    · exact False.elim o
  · exact False.elim o
theorem cs_int : CallR X (.type "int") (rPL X.K X.mg X.w bInt) := by
  intro pins s σ H xs us Q I ru ⟨m, h, ts, r, R, o⟩
  unfold bInt at o
  split at o
  · obtain ⟨v, rfl, r1⟩ := r.one
    cases r1 with
    | int i => exact call_int1 pins s σ H _ us Q I ru (.inl ⟨_, rfl, o _ m H (Ext.refl _ _) (.int _) R⟩)
  · exact False.elim o
end
end W3
end

section
namespace W3
open PySem PySem.Spec PyProof.Rows
open L2
structure SrcJ (K : PySem.W.Frag) (mg : Str → Option Value) (wd : World) (m : Mp) (H : Hp) (s : Src) (J : It) : Prop where
  go : ∀ m' h' H' i x, Tr m H m' H' → HR K mg wd m' h' H' → s.at h' i = some (some x) → J.go i H' ∧ ∀ y H2, J.yld i H' y H2 → Ext m' H' m' H2 ∧ HR K mg wd m' h' H2 ∧ RT K mg m' H2 x y
  stop : ∀ m' h' H' i, Tr m H m' H' → HR K mg wd m' h' H' → s.at h' i = some none → J.stop i H'
theorem SrcJ.ext {K : PySem.W.Frag} {mg : Str → Option Value} {wd : World} {m m1 : Mp} {H H1 : Hp} {s : Src} {J : It} (S : SrcJ K mg wd m H s J) (E : Ext m H m1 H1) : SrcJ K mg wd m1 H1 s J :=
  ⟨fun m' h' H' i x E' => S.go m' h' H' i x (E.tr.trans E'), fun m' h' H' i E' => S.stop m' h' H' i (E.tr.trans E')⟩
section
variable {K : PySem.W.Frag} {mg : Str → Option Value} {wd : World} {m : Mp} {H : Hp}
theorem srcj_tup {a : Addr} {vs : List V} {ts : List T} (hq : SqT K H a vs) (r : RTs K mg m H ts vs) : SrcJ K mg wd m H (.its ts) (Itt K a) where
  go := fun m' h' H' i x E R e => by
    have e' : ts[i]? = some x := Option.some.inj e
    obtain ⟨v, ev, rv⟩ := r.get e'
    refine ⟨⟨vs, v, SqT.tr E hq, ev⟩, fun y H2 ⟨e1, e2⟩ => ?_⟩
    subst e1
    have := e2 vs (SqT.tr E hq)
    rw [ev] at this; cases this
    exact ⟨Ext.refl _ _, R, rv.tr E⟩
  stop := fun m' h' H' i E R e => by
    have e' : ts[i]? = none := Option.some.inj e
    refine ⟨vs, SqT.tr E hq, ?_⟩
    rw [← r.length]
    exact List.getElem?_eq_none_iff.mp e'
theorem srcj_fl {a : Addr} {vs : List V} {ts : List T} (hq : SqF K H a vs) (r : RTs K mg m H ts vs) : SrcJ K mg wd m H (.its ts) (Itl K a) where
  go := fun m' h' H' i x E R e => by
    have e' : ts[i]? = some x := Option.some.inj e
    obtain ⟨v, ev, rv⟩ := r.get e'
    refine ⟨⟨vs, v, (SqF.tr E hq).sq, ev⟩, fun y H2 ⟨e1, e2⟩ => ?_⟩
    subst e1
    have := e2 vs (SqF.tr E hq).sq
    rw [ev] at this; cases this
    exact ⟨Ext.refl _ _, R, rv.tr E⟩
  stop := fun m' h' H' i E R e => by
    have e' : ts[i]? = none := Option.some.inj e
    refine ⟨vs, (SqF.tr E hq).sq, ?_⟩
    rw [← r.length]
    exact List.getElem?_eq_none_iff.mp e'
theorem srcj_live {l : Nat} {a : Addr} (hl : m l = some a) : SrcJ K mg wd m H (.live l) (Itl K a) where
  go := fun m' h' H' i x E R e => by
    have e' : (match lstAt h' l with | some ts => some ts[i]? | none => none) = some (some x) := e
    split at e'
    · rename_i ts q
      have e2 : ts[i]? = some x := Option.some.inj e'
      obtain ⟨vs, g, r⟩ := R.lst (E.mono _ _ hl) q
      obtain ⟨v, ev, rv⟩ := r.get e2
      refine ⟨⟨vs, v, SqL.of g, ev⟩, fun y H2 ⟨e1, e2⟩ => ?_⟩
      subst e1
      have := e2 vs (SqL.of g)
      rw [ev] at this; cases this
      exact ⟨Ext.refl _ _, R, rv⟩
    · cases e'
  stop := fun m' h' H' i E R e => by
    have e' : (match lstAt h' l with | some ts => some ts[i]? | none => none) = some none := e
    split at e'
    · rename_i ts q
      have e2 : ts[i]? = none := Option.some.inj e'
      obtain ⟨vs, g, r⟩ := R.lst (E.mono _ _ hl) q
      refine ⟨vs, SqL.of g, ?_⟩
      rw [← r.length]
      exact List.getElem?_eq_none_iff.mp e2
    · cases e'
theorem rangeT_get : ∀ (n : Nat) (lo : Int) (i : Nat), (rangeT lo n)[i]? = if i < n then some (.int (lo + i)) else none
  | 0, lo, i => by simp [rangeT]
  | n + 1, lo, 0 => by simp [rangeT]
  | n + 1, lo, i + 1 => by
    show (rangeT (lo + 1) n)[i]? = _
    rw [rangeT_get n (lo + 1) i]
    by_cases h : i < n
    · rw [if_pos h, if_pos (by omega)]
      congr 2
      push_cast
      omega
    · rw [if_neg h, if_neg (by omega)]
theorem srcj_range (lo : Int) (n : Nat) : SrcJ K mg wd m H (.its (rangeT lo n)) (Itr lo n) where
  go := fun m' h' H' i x E R e => by
    have e' : (rangeT lo n)[i]? = some x := Option.some.inj e
    rw [rangeT_get] at e'
    split at e'
    · rename_i hi
      cases e'
      refine ⟨hi, fun y H2 ⟨e1, e2⟩ => ?_⟩
      subst e1; subst e2
      exact ⟨Ext.refl _ _, R, .int _⟩
    · cases e'
  stop := fun m' h' H' i E R e => by
    have e' : (rangeT lo n)[i]? = none := Option.some.inj e
    rw [rangeT_get] at e'
    split at e'
    · cases e'
    · rename_i hi
      exact Nat.le_of_not_lt hi
theorem srcj_str {z : Str} (hz : PyData.strOk z = true) : SrcJ K mg wd m H (.its (z.cps.toList.map fun c => .str ⟨#[c]⟩)) (Its z) where
  go := fun m' h' H' i x E R e => by
    have e' : (z.cps.toList.map fun c => T.str ⟨#[c]⟩)[i]? = some x := Option.some.inj e
    rw [List.getElem?_map] at e'
    cases q : z.cps.toList[i]? with
    | none => rw [q] at e'; cases e'
    | some c =>
      rw [q] at e'
      have e2 : T.str ⟨#[c]⟩ = x := Option.some.inj e'
      subst e2
      have hi : i < z.cps.size := by
        have := (List.getElem?_eq_some_iff.mp q).1
        simpa using this
      refine ⟨hi, fun y H2 ⟨e1, c', e3, e4⟩ => ?_⟩
      subst e1; subst e4
      have e5 : z.cps[i]? = some c := by rw [← Array.getElem?_toList]; exact q
      rw [e5] at e3; cases e3
      refine ⟨Ext.refl _ _, R, .str ?_⟩
      unfold PyData.strOk at *
      rw [← Array.all_toList, List.all_eq_true] at hz
      have := hz c (List.mem_of_getElem? q)
      simpa using this
  stop := fun m' h' H' i E R e => by
    have e' : (z.cps.toList.map fun c => T.str ⟨#[c]⟩)[i]? = none := Option.some.inj e
    have := List.getElem?_eq_none_iff.mp e'
    show z.cps.size ≤ i
    simpa using this
end
abbrev DI (X : Cx) (P : Pq) (W : WX) (tg iter : Expr) (si : SI) : Prop := PI X tg iter (tG X.K X.mg X.w (SrcJ X.K X.mg X.w) P W si)
section
variable {X : Cx} {P : Pq} {W : WX} {a b c tg iter : Expr} {sa sb sc : SE} {pos : Pos} {es : List Expr} {ar : SA} {si : SI} {ta tb : ST} {rest : List Expr}
theorem PI.imp {tg iter : Expr} {t t' : TI} (h : PI X tg iter t) (k : ∀ σ H R, t' σ H R → t σ H R) : PI X tg iter t' := ⟨fun pins s σ H R I hw => h.run pins s σ H R I (k _ _ _ hw)⟩
theorem iList_and {tl : TE} (hl : PE X iter tl) : PI X tg iter (fun σ H R => tl σ H fun x H1 => (∃ a, x = .ref a ∧ (∃ xs, SqL X.K H1 a xs) ∧ R (Itl X.K a) H1) ∨ (∃ a, x = .ref a ∧ (∃ xs, SqT X.K H1 a xs) ∧ R (Itt X.K a) H1) ∨ ∃ z, x = .str z ∧ R (Its z) H1) := by
  refine ⟨fun pins s σ H R I h => ?_⟩
  refine thn (hl.run pins s σ H _ I h) fun v s1 ⟨x, H1, I1, r1, q1⟩ => ?_
  rcases q1 with ⟨a, e, ⟨xs, hq⟩, q⟩ | ⟨a, e, ⟨xs, hq⟩, q⟩ | ⟨z, e, q⟩
  · subst e
    cases r1
    obtain ⟨its, rv, p, hz⟩ := I1.list hq
    refine wpAny_pyIter_list p.isList ?_
    refine ⟨s1.heap.objs.size, [s1.heap.objs.size], _, _, H1, rfl, I1.kept (t' := s1.toks) fun b o e => Heap.get?_push_of_some _ e, turn_list a _, ⟨_, Heap.get?_push_size _ rfl, rfl, rfl⟩, fun b hb => ?_, q⟩
    have e : b = s1.heap.objs.size := by simpa using hb
    subst e
    exact I1.fpOk (Nat.le_refl _) (I1.hok.fresh (Nat.le_refl _))
  · subst e
    cases r1
    obtain ⟨its, rv, p, hz⟩ := I1.tuple hq
    refine wpAny_pyIter_tuple (show s1.heap.IsTuple a its.toArray from p) ?_
    refine ⟨s1.heap.objs.size, [s1.heap.objs.size], _, _, H1, rfl, I1.kept (t' := s1.toks) fun b o e => Heap.get?_push_of_some _ e, turn_tuple a _, ⟨_, Heap.get?_push_size _ rfl, rfl, rfl⟩, fun b hb => ?_, q⟩
    have e : b = s1.heap.objs.size := by simpa using hb
    subst e
    exact I1.fpOk (Nat.le_refl _) (I1.hok.fresh (Nat.le_refl _))
  · subst e
    obtain ⟨t, rfl⟩ := r1
    cases ha : z.cps.all (· < 128)
    · exact wpAny_pyIter_wide ha (pi_one (tk := s1.toks) I1 _ (turn_str _ z t "str_iterator" (.inr rfl)) ⟨_, Heap.get?_push_size _ rfl, rfl, rfl⟩ q)
    · exact wpAny_pyIter_ascii ha (pi_one (tk := s1.toks) I1 _ (turn_str _ z t "str_ascii_iterator" (.inl rfl)) ⟨_, Heap.get?_push_size _ rfl, rfl, rfl⟩ q)
theorem di_e (ha : DE X P W iter sa) : DI X P W tg iter (siE sa) := PI.imp (iList_and ha) fun σV H R ⟨m, h, σ, A, o⟩ => by
  refine A.first (rel1 := RT X.K X.mg) o fun m1 h1 t x H1 E1 r A1 o1 => ?_
  cases r with
  | @tup a vs ts hq r => exact .inr (.inl ⟨a, rfl, ⟨vs, hq⟩, o1 _ m1 H1 (Ext.refl _ _) (srcj_tup hq r) A1.hr⟩)
  | @fl a vs ts hq r => exact .inl ⟨a, rfl, ⟨vs, hq.sq⟩, o1 _ m1 H1 (Ext.refl _ _) (srcj_fl hq r) A1.hr⟩
  | @str z hz => exact .inr (.inr ⟨z, rfl, o1 _ m1 H1 (Ext.refl _ _) (srcj_str hz) A1.hr⟩)
  | @ref l a e1 =>
    have o' : Out X.K X.mg X.w (SrcJ X.K X.mg X.w) W σV R m1 H1 (match lstAt h1 l with | some _ => .ok (.live l) h1 | none => .stk) := o1
    split at o'
    · rename_i ts q1
      obtain ⟨vs, g1, r1⟩ := A1.hr.lst e1 q1
      exact .inl ⟨a, rfl, ⟨vs, SqL.of g1⟩, o' _ m1 H1 (Ext.refl _ _) (srcj_live e1) A1.hr⟩
    · exact False.elim o'
  | _ => exact False.elim o1
theorem di_range1 {p : Pos} (hg : Gl X "range") (hm : X.mg "range" = none) (ha : DA X P W [a] ar) (hs : starEach [a] X.env = [(false, eval a X.env)] := by rfl) : DI X P W tg (.Call (.Name "range" p) [a] [] pos) (siRange1 ar) :=
  PI.imp (pi_range1 hg hm ha hs) fun σV H R ⟨m, h, σ, A, o⟩ => by
    refine A.first (rel1 := RTs X.K X.mg) o fun m1 h1 ts x H1 E1 r A1 o1 => ?_
    unfold rngOf at o1
    split at o1
    · obtain ⟨v, rfl, r1⟩ := r.one
      cases r1 with
      | int _ =>
        rename_i j
        split at o1
        · rename_i hj
          exact ⟨j, rfl, hj.1, hj.2, o1 _ m1 H1 (Ext.refl _ _) (srcj_range 0 j.toNat) A1.hr⟩
        · exact False.elim o1
    · exact False.elim o1
def Only3 (is : List Nat) (σV σV' : L2.St) : Prop := σV'.length = σV.length ∧ ∀ j, j ∉ is → σV'[j]? = σV[j]?
def tTg (K : PySem.W.Frag) (mg : Str → Option Value) (wd : World) (P : Pq) (is : List Nat) (g : SG) : TG := fun v σV H Q => ∃ m h σ t, At K mg wd P m H σV σ h ∧ RT K mg m H t v ∧
  (match g t σ with | some σ' => ∀ σV', SR K mg m H σ' σV' → Only3 is σV σV' → Q σV' H | none => False)
abbrev DG (X : Cx) (P : Pq) (tg : Expr) (is : List Nat) (g : SG) : Prop := PG X tg (tTg X.K X.mg X.w P is g)
theorem PG.imp {tg : Expr} {t t' : TG} (h : PG X tg t) (k : ∀ v σ H Q, t' v σ H Q → t v σ H Q) : PG X tg t' := ⟨fun pins s σ H v u Q I r hw => h.run pins s σ H v u Q I r (k _ _ _ _ hw)⟩
theorem PGs.imp {tg : List Expr} {t t' : TGs} (h : PGs X tg t) (k : ∀ v σ H Q, t' v σ H Q → t v σ H Q) : PGs X tg t' := ⟨fun pins s σ H v u Q I r hw => h.run pins s σ H v u Q I r (k _ _ _ _ hw)⟩
theorem SR.set {m : Mp} {H : Hp} {σ : St3} {σV : L2.St} (r : SR X.K X.mg m H σ σV) {t : T} {v : V} (q : RT X.K X.mg m H t v) (i : Nat) : SR X.K X.mg m H (σ.set i (some t)) (σV.set i (some v)) := by
  refine ⟨by rw [List.length_set, List.length_set]; exact r.1, fun j u e => ?_⟩
  by_cases hj : i = j
  · subst hj
    by_cases hi : i < σ.length
    · rw [List.getElem?_set_self hi] at e
      cases e
      exact ⟨v, by rw [List.getElem?_set_self (by rw [← r.1]; exact hi)], q⟩
    · rw [List.getElem?_eq_none (by rw [List.length_set]; omega)] at e
      cases e
  · rw [List.getElem?_set_ne hj] at e
    obtain ⟨w, e2, q2⟩ := r.2 j u e
    exact ⟨w, by rw [List.getElem?_set_ne hj]; exact e2, q2⟩
theorem dg_name {i : Nat} {x : Str} (hN : X.N.Nodup) (hi : X.N[i]? = some x) (hx : Loc X.env.scope x) (hf : X.fn x = true ∨ X.env.scope.names.lookup x = some .local := by first | exact .inl rfl | exact .inr rfl | assumption) : DG X P (.Name x pos) [i] (sgName i) :=
  PG.imp (pg_name hN hi hx hf) fun v σV H Q ⟨m, h, σ, t, A, r, q⟩ => by
    refine q (σV.set i (some v)) (A.sr.set r i) ⟨List.length_set, fun j hj => ?_⟩
    rw [List.getElem?_set_ne (fun e => hj (by simp [e]))]
def relL (K : PySem.W.Frag) (mg : Str → Option Value) (H0 : Hp) (m : Mp) (H : Hp) (ts : List T) (v : V) : Prop :=
  ∃ D vs, v = .ref D ∧ H0 D = none ∧ H D = some (.lst vs) ∧ RTs K mg m H ts vs ∧ ∀ l, m l ≠ some D
def tL (K : PySem.W.Frag) (mg : Str → Option Value) (wd : World) (P : Pq) (W : WX) (sa : SA) : TE := fun σV H Q => tG K mg wd (relL K mg H) P W sa σV H Q
abbrev DL (X : Cx) (P : Pq) (W : WX) (e : Expr) (sa : SA) : Prop := PE X e (tL X.K X.mg X.w P W sa)
abbrev DTs (X : Cx) (P : Pq) (W : WX) (es : List Expr) (se : ST) : Prop := PTs X es (tTst X.K X.mg X.w P W se)
theorem PTs.imp {es : List Expr} {t t' : TT} (h : PTs X es t) (k : ∀ σ H Q, t' σ H Q → t σ H Q) : PTs X es t' := ⟨fun pins s σ H Q I hw => h.run pins s σ H Q I (k _ _ _ hw)⟩
theorem dts_nil : DTs X P W [] stYes := PTs.imp pts_nil fun σV H Q ⟨m, h, σ, A, o⟩ => o true m H (Ext.refl _ _) rfl A.hr
def WF : WX := fun _ _ _ _ => False
theorem SR.wipe {m : Mp} {H : Hp} {σ : St3} {σV : L2.St} (r : SR X.K X.mg m H σ σV) : ∀ vs : List Nat, SR X.K X.mg m H (wipeT σ vs) (L2.wipe σV vs)
  | [] => r
  | v :: vs => by
    have ih := SR.wipe r vs
    refine ⟨by unfold wipeT L2.wipe; rw [List.length_set, List.length_set]; exact ih.1, fun j u e => ?_⟩
    unfold wipeT at e
    unfold L2.wipe
    by_cases hj : v = j
    · subst hj
      by_cases hi : v < (wipeT σ vs).length
      · rw [List.getElem?_set_self hi] at e; cases e
      · rw [List.getElem?_eq_none (by rw [List.length_set]; omega)] at e; cases e
    · rw [List.getElem?_set_ne hj] at e ⊢
      exact ih.2 j u e
theorem wipe_get (σV : L2.St) : ∀ (vs : List Nat) (j : Nat), (L2.wipe σV vs)[j]? = if j ∈ vs ∧ j < σV.length then some none else σV[j]?
  | [], j => by simp [L2.wipe]
  | v :: vs, j => by
    unfold L2.wipe
    by_cases hj : v = j
    · subst hj
      by_cases hi : v < σV.length
      · rw [List.getElem?_set_self (by rw [wipe_length]; exact hi), if_pos ⟨List.mem_cons_self, hi⟩]
      · rw [List.getElem?_eq_none (by rw [List.length_set, wipe_length]; omega), if_neg (fun z => hi z.2), List.getElem?_eq_none (by omega)]
    · rw [List.getElem?_set_ne hj, wipe_get σV vs j]
      have : (j ∈ v :: vs ∧ j < σV.length) ↔ (j ∈ vs ∧ j < σV.length) := by
        simp only [List.mem_cons]
        constructor
        · rintro ⟨z | z, w⟩
          · exact absurd z.symm hj
          · exact ⟨z, w⟩
        · rintro ⟨z, w⟩; exact ⟨.inr z, w⟩
      by_cases hh : j ∈ vs ∧ j < σV.length
      · rw [if_pos hh, if_pos (this.mpr hh)]
      · rw [if_neg hh, if_neg (fun z => hh (this.mp z))]
theorem wipe_only {is vs : List Nat} {σV σV' : L2.St} (hs : ∀ i ∈ is, i ∈ vs) (o : Only3 is (L2.wipe σV vs) σV') : L2.wipe σV' vs = L2.wipe σV vs := by
  apply List.ext_getElem?
  intro j
  rw [wipe_get, wipe_get]
  have hl : σV'.length = σV.length := by rw [o.1, wipe_length]
  by_cases hj : j ∈ vs ∧ j < σV.length
  · rw [if_pos (by rw [hl]; exact hj), if_pos hj]
  · rw [if_neg (by rw [hl]; exact hj), if_neg hj]
    by_cases hj2 : j ∈ vs
    · have : ¬ j < σV.length := fun z => hj ⟨hj2, z⟩
      rw [List.getElem?_eq_none (by omega), List.getElem?_eq_none (by omega)]
    · rw [o.2 j (fun z => hj2 (hs j z)), wipe_get, if_neg (fun z => hj2 z.1)]
theorem lc_read {is vs : List Nat} {g : SG} {tt : ST} {te : SE} (his : ∀ i ∈ is, i ∈ vs) {σV : L2.St} {H : Hp} {Q : VK} (h : tL X.K X.mg X.w P W (saLc si g tt te vs) σV H Q) :
    tLc (tG X.K X.mg X.w (SrcJ X.K X.mg X.w) P W si) (tTg X.K X.mg X.w P is g) (tTst X.K X.mg X.w P WF tt) (tI X.K X.mg X.w P WF te) vs σV H Q := by
  obtain ⟨m, h, σ, A, o⟩ := h
  refine A.first (rel1 := SrcJ X.K X.mg X.w) o fun m1 h1 s J H1 E1 S A1 o1 D hD => ?_
  have hD0 : H D = none := by
    cases q : H D with
    | none => rfl
    | some u =>
      obtain ⟨w, e⟩ := E1.live D u q
      rw [hD] at e; cases e
  refine ⟨fun i k H' => ∃ m' h' acc accV, Ext m1 H1 m' H' ∧ HR X.K X.mg X.w m' h' H' ∧ H' D = some (.lst accV) ∧ RTs X.K X.mg m' H' acc accV ∧ (∀ l, m' l ≠ some D) ∧
    Out X.K X.mg X.w (relL X.K X.mg H) W σV Q m1 H1 (lcRun s g tt te (wipeT σ vs) k i acc h'), ⟨s.len h1, m1, h1, [], [], Ext.garbage A1.hr hD, A1.hr.garbage hD, upd_same, .nil, fun l e => ?_, o1⟩, ?_⟩
  · obtain ⟨u, e2, _⟩ := A1.hr.tracked e
    rw [hD] at e2; cases e2
  rintro i k H' ⟨m', h', acc, accV, E', R', hDl, racc, nD, o'⟩
  unfold lcRun at o'
  cases es : s.at h' i with
  | none => rw [es] at o'; exact False.elim o'
  | some ox =>
    cases ox with
    | none =>
      rw [es] at o'
      exact .inl ⟨S.stop m' h' H' i E'.tr R' es, o' _ m' H' E' ⟨D, accV, rfl, hD0, hDl, racc, nD⟩ R'⟩
    | some x =>
      rw [es] at o'
      cases k with
      | zero => exact False.elim o'
      | succ k =>
        obtain ⟨jg, jy⟩ := S.go m' h' H' i x E'.tr R' es
        refine .inr ⟨jg, _, fun H'' q => ⟨k, Nat.lt_succ_self k, q⟩, fun y H2 hy => ?_⟩
        obtain ⟨E2, R2, rx⟩ := jy y H2 hy
        have A2 : At X.K X.mg X.w P m' H2 (L2.wipe σV vs) (wipeT σ vs) h' := ⟨((A1.sr.ext (E'.trans E2)).wipe vs), R2, P.st (E'.trans E2) A1.pr⟩
        refine ⟨m', h', wipeT σ vs, x, A2, rx, ?_⟩
        have keepD : ∀ {m3 H3}, Ext m' H2 m3 H3 → H3 D = some (.lst accV) ∧ ∀ l, m3 l ≠ some D := fun {m3 H3} E3 => by
          have d2 : H2 D = some (.lst accV) := E2.keep D _ hDl nD
          refine ⟨E3.keep D _ d2 nD, fun l e => ?_⟩
          rcases E3.fresh l D e with z | z
          · exact nD l z
          · rw [d2] at z; cases z
        dsimp only at o'
        cases eg : g x (wipeT σ vs) with
        | none => rw [eg] at o'; exact False.elim o'
        | some σ1 =>
          rw [eg] at o'
          intro σV1 s1 only
          refine ⟨wipe_only his only, m', h', σ1, ⟨s1, R2, A2.pr⟩, ?_⟩
          dsimp only at o'
          cases et : tt σ1 h' with
          | exc c fs h3 => rw [et] at o'; exact False.elim o'
          | stk => rw [et] at o'; exact False.elim o'
          | ok b h3 =>
            rw [et] at o'
            dsimp only at o'
            intro b' m3 H3 E3 eb R3
            subst eb
            cases b with
            | false =>
              rw [if_neg Bool.false_ne_true] at o' ⊢
              obtain ⟨d3, n3⟩ := keepD E3
              exact ⟨m3, h3, acc, accV, (E'.trans E2).trans E3, R3, d3, (racc.ext E2).ext E3, n3, o'⟩
            | true =>
              rw [if_pos rfl] at o' ⊢
              refine ⟨m3, h3, σ1, ⟨s1.ext E3, R3, P.st E3 A2.pr⟩, ?_⟩
              cases ee : te σ1 h3 with
              | exc c fs h4 => rw [ee] at o'; exact False.elim o'
              | stk => rw [ee] at o'; exact False.elim o'
              | ok t h4 =>
                rw [ee] at o'
                dsimp only at o'
                intro y' m4 H4 E4 rt R4
                obtain ⟨d4, n4⟩ := keepD (E3.trans E4)
                split at o'
                · rename_i hz
                  refine ⟨accV, d4, by rw [← racc.length]; exact hz, m4, h4, acc ++ [t], accV ++ [y'], ?_, R4.out d4 n4, upd_same, ?_, n4, o'⟩
                  · exact Ext.out (((E'.trans E2).trans E3).trans E4) hD
                  · have r4 := (((racc.ext E2).ext E3).ext E4).append (.cons rt .nil)
                    exact r4.tr (Tr.out d4)
                · exact False.elim o'
theorem dl_lc {elt : Expr} {ifs : List Expr} {scope : Scope} {own : List (Str × Nat)} {is : List Nat} {g : SG} {tt : ST} {te : SE} (hc : X.calm = true) (hN : X.N.Nodup) (hi : DI X P W tg iter si) (ok : BlkOk X.N X.env.scope scope own)
    (hg : ∀ (s : Shared) (H : Hp) (C : Addr) (cl : List (Str × Addr)) (fp : List Addr), DG (X.blk s H scope (compEnvC scope cl C X.env) fp) P tg is g)
    (ht : ∀ (s : Shared) (H : Hp) (C : Addr) (cl : List (Str × Addr)) (fp : List Addr), DTs (X.blk s H scope (compEnvC scope cl C X.env) fp) P WF ifs tt)
    (he : ∀ (s : Shared) (H : Hp) (C : Addr) (cl : List (Str × Addr)) (fp : List Addr), DE (X.blk s H scope (compEnvC scope cl C X.env) fp) P WF elt te)
    (his : ∀ i ∈ is, i ∈ own.map (·.2) := by decide) (hs : ∀ x, foldedSetIterable iter X.env x = pure x := by intro _; rfl) :
    DL X P W (.ListComp elt [⟨tg, iter, ifs, 0⟩] scope pos) (saLc si g tt te (own.map (·.2))) := by
  exact PE.imp (pe_lc (own := own) (wi := tG X.K X.mg X.w (SrcJ X.K X.mg X.w) P W si) (g := tTg X.K X.mg X.w P is g) (tt := tTst X.K X.mg X.w P WF tt) (te := tI X.K X.mg X.w P WF te) hc hN hi ok hg ht he hs) fun σV H Q h => lc_read his h
theorem lc_keep {sa : SA} {σV : L2.St} {H : Hp} {Q : VK} (h : tI X.K X.mg X.w P W (sLc sa) σV H Q) : tL X.K X.mg X.w P W sa σV H Q := by
  obtain ⟨m, h, σ, A, o⟩ := h
  refine ⟨m, h, σ, A, ?_⟩
  unfold sLc at o
  cases e : sa σ h with
  | exc c fs h1 => rw [e] at o; exact o
  | stk => rw [e] at o; exact o
  | ok ts h1 =>
    rw [e] at o
    rintro v m1 H1 E1 ⟨D, vs, rfl, hD, d1, r1, n1⟩ R1
    have o' : Out X.K X.mg X.w (RT X.K X.mg) W σV Q m H (alloc (.lst ts) h1) := o
    have hne : ∀ l a, m1 l = some a → l ≠ h1.length := fun l a e => Nat.ne_of_lt (R1.dom l a e)
    have E2 : Ext m H (m1.put h1.length D) H1 := ⟨fun l a e => by rw [Mp.put_ne (hne l a (E1.mono l a e))]; exact E1.mono l a e, fun l a e => by
        by_cases hl : l = h1.length
        · subst hl; rw [Mp.put_same] at e; cases e; exact .inr hD
        · rw [Mp.put_ne hl] at e; exact E1.fresh l a e, E1.live, E1.keep, E1.tups, E1.frzs, E1.xds⟩
    have T2 : Tr m1 H1 (m1.put h1.length D) H1 := ⟨fun l a e => by rw [Mp.put_ne (hne l a e)]; exact e, fun _ _ q => q, fun _ _ _ q => q, fun _ _ q => q⟩
    refine o' _ (m1.put h1.length D) H1 E2 (.ref Mp.put_same) ⟨fun l a e => ?_, fun l l' a e e' => ?_, fun l u q => ?_⟩
    · rw [List.length_append, List.length_singleton]
      by_cases hl : l = h1.length
      · omega
      · rw [Mp.put_ne hl] at e; have := R1.dom l a e; omega
    · by_cases hl : l = h1.length
      · by_cases hl' : l' = h1.length
        · rw [hl, hl']
        · rw [hl, Mp.put_same] at e; cases e
          rw [Mp.put_ne hl'] at e'
          exact absurd e' (n1 l')
      · by_cases hl' : l' = h1.length
        · rw [hl', Mp.put_same] at e'; cases e'
          rw [Mp.put_ne hl] at e
          exact absurd e (n1 l)
        · rw [Mp.put_ne hl] at e; rw [Mp.put_ne hl'] at e'
          exact R1.inj l l' a e e'
    · by_cases hl : l < h1.length
      · rw [List.getElem?_append_left hl] at q
        obtain ⟨a, e1, r⟩ := R1.ob l u q
        exact ⟨a, T2.mono l a e1, r.moveT T2 rfl⟩
      · have : l = h1.length := by
          have := (List.getElem?_eq_some_iff.mp q).1
          rw [List.length_append, List.length_singleton] at this
          omega
        subst this
        simp at q
        subst q
        exact ⟨D, Mp.put_same, vs, d1, r1.tr T2⟩
end
end W3
end

section
namespace W3
open PySem PySem.Spec PyProof.Rows
open L2
section
variable (K : PySem.W.Frag) (mg : Str → Option Value) (wd : World)
def OutS (W : WX) (D : Ends) (m : Mp) (H : Hp) : Flo → Prop
  | .nx σ' h' => ∀ σV' m' H', Ext m H m' H' → SR K mg m' H' σ' σV' → HR K mg wd m' h' H' → D.nx σV' H'
  | .rt t h' => ∀ v m' H', Ext m H m' H' → RT K mg m' H' t v → HR K mg wd m' h' H' → D.rt v H'
  | .bk σ' h' => ∀ σV' m' H', Ext m H m' H' → SR K mg m' H' σ' σV' → HR K mg wd m' h' H' → D.bk σV' H'
  | .ct σ' h' => ∀ σV' m' H', Ext m H m' H' → SR K mg m' H' σ' σV' → HR K mg wd m' h' H' → D.ct σV' H'
  | .exc c fs σ' h' => ∀ cls d σV' m' H', Ext m H m' H' → SR K mg m' H' σ' σV' → XR K mg m' H' c fs cls d → HR K mg wd m' h' H' → W cls d σV' H'
  | .stk => False
def tS (P : Pq) (W : WX) (ss : SS) : TS := fun D σV H => ∃ m h σ, At K mg wd P m H σV σ h ∧ OutS K mg wd W D m H (ss σ h)
end
abbrev DS (X : Cx) (P : Pq) (W : WX) (st : Stmt) (ss : SS) : Prop := PS X st (tS X.K X.mg X.w P W ss)
abbrev DSs (X : Cx) (P : Pq) (W : WX) (st : List Stmt) (ss : SS) : Prop := PSs X st (tS X.K X.mg X.w P W ss)
section
variable {K : PySem.W.Frag} {mg : Str → Option Value} {wd : World} {m m' : Mp} {H H' : Hp} {h : Hh} {P : Pq} {W : WX} {σV : L2.St} {σ : St3} {D : Ends}
theorem OutS.ext {r : Flo} (E : Ext m H m' H') (o : OutS K mg wd W D m H r) : OutS K mg wd W D m' H' r := by
  cases r with
  | nx σ h => exact fun v m2 H2 E2 => o v m2 H2 (E.trans E2)
  | rt σ h => exact fun v m2 H2 E2 => o v m2 H2 (E.trans E2)
  | bk σ h => exact fun v m2 H2 E2 => o v m2 H2 (E.trans E2)
  | ct σ h => exact fun v m2 H2 E2 => o v m2 H2 (E.trans E2)
  | exc c fs σ h => exact fun c d v m2 H2 E2 => o c d v m2 H2 (E.trans E2)
  | stk => exact o
theorem At.flo {α β : Type} {rel1 : Mp → Hp → α → β → Prop} {se : St3 → Hh → Res α} {k : α → Hh → Flo} {Q1 : β → Hp → Prop} (A : At K mg wd P m H σV σ h) (o : OutS K mg wd W D m H ((se σ h).flo σ k))
    (q : ∀ m1 h1 a b H1, Ext m H m1 H1 → rel1 m1 H1 a b → At K mg wd P m1 H1 σV σ h1 → OutS K mg wd W D m1 H1 (k a h1) → Q1 b H1) : tG K mg wd rel1 P W se σV H Q1 := by
  refine ⟨m, h, σ, A, ?_⟩
  cases e : se σ h with
  | ok a h1 =>
    rw [e] at o
    exact fun b m1 H1 E1 r1 R1 => q m1 h1 a b H1 E1 r1 (A.ext E1 R1) (OutS.ext E1 o)
  | exc c fs h1 =>
    rw [e] at o
    exact fun cls d m1 H1 E1 x R1 => o cls d σV m1 H1 E1 (A.sr.ext E1) x R1
  | stk => rw [e] at o; exact o
end
section
variable {X : Cx} {P : Pq} {W : WX} {a b c tg iter : Expr} {sa sb sc : SE} {pos pos' : Pos} {es : List Expr} {ar : SA} {si : SI} {ta tb : ST} {st : Stmt} {rest body : List Stmt} {x1 x2 : SS}
theorem ds_nil : DSs X P W [] ssNil := PSs.imp pss_nil fun D σV H ⟨m, h, σ, A, o⟩ => o σV m H (Ext.refl _ _) A.sr A.hr
theorem ds_cons (h1 : DS X P W st x1) (h2 : DSs X P W rest x2) : DSs X P W (st :: rest) (ssCons x1 x2) := PSs.imp (pss_cons h1 h2) fun D σV H ⟨m, h, σ, A, o⟩ => by
  refine ⟨m, h, σ, A, ?_⟩
  have o' : OutS X.K X.mg X.w W D m H ((x1 σ h).seq x2) := o
  cases e : x1 σ h with
  | nx σ1 h1 =>
    rw [e] at o'
    exact fun σV1 m1 H1 E1 s1 R1 => ⟨m1, h1, σ1, ⟨s1, R1, P.st E1 A.pr⟩, OutS.ext E1 o'⟩
  | rt t h1 => rw [e] at o'; exact o'
  | bk σ1 h1 => rw [e] at o'; exact o'
  | ct σ1 h1 => rw [e] at o'; exact o'
  | exc c fs σ1 h1 => rw [e] at o'; exact o'
  | stk => rw [e] at o'; exact o'
theorem ds_if {p q : List Stmt} (hc : DT X P W c ta) (ha : DSs X P W p x1) (hb : DSs X P W q x2) : DS X P W (.If c p q pos) (ssIf ta x1 x2) := PS.imp (ps_if hc ha hb) fun D σV H ⟨m, h, σ, A, o⟩ => by
  refine A.flo (rel1 := fun _ _ a b => a = b) o fun m1 h1 t x H1 E1 r A1 o1 => ?_
  subst r
  cases t with
  | true => exact ⟨m1, h1, σ, A1, o1⟩
  | false => exact ⟨m1, h1, σ, A1, o1⟩
theorem ds_ret (ha : DE X P W a sa) : DS X P W (.Return (some a) pos) (ssRet sa) := PS.imp (ps_ret ha) fun D σV H ⟨m, h, σ, A, o⟩ => by
  refine A.flo (rel1 := RT X.K X.mg) o fun m1 h1 t x H1 E1 r A1 o1 => ?_
  exact o1 x m1 H1 (Ext.refl _ _) r A1.hr
theorem ds_expr (ha : DE X P W a sa) (hs : swapsWith a none pos.line X.env = pure false := by rfl) : DS X P W (.Expr a pos) (ssExpr sa) := PS.imp (ps_expr ha hs) fun D σV H ⟨m, h, σ, A, o⟩ => by
  refine A.flo (rel1 := RT X.K X.mg) o fun m1 h1 t x H1 E1 r A1 o1 => ?_
  exact o1 σV m1 H1 (Ext.refl _ _) A1.sr A1.hr
theorem ds_set {i : Nat} {x : Str} (hN : X.N.Nodup) (hi : X.N[i]? = some x) (hx : Loc X.env.scope x) (ha : DE X P W a sa) (hs : swapsWith a (some (.Name x pos')) pos.line X.env = pure false := by rfl) (hf : X.fn x = true ∨ X.env.scope.names.lookup x = some .local := by first | exact .inl rfl | exact .inr rfl | assumption) :
    DS X P W (.Assign [.Name x pos'] a pos) (ssAsg sa (sgName i)) := PS.imp (ps_set hN hi hx ha hs hf) fun D σV H ⟨m, h, σ, A, o⟩ => by
  refine A.flo (rel1 := RT X.K X.mg) o fun m1 h1 t x H1 E1 r A1 o1 => ?_
  exact o1 _ m1 H1 (Ext.refl _ _) (A1.sr.set r i) A1.hr
theorem ds_setLc {i : Nat} {y : Str} {py : Pos} {elt : Expr} {ifs : List Expr} {scope : Scope} {own : List (Str × Nat)} {spos : Pos} {is : List Nat} {g : SG} {tt : ST} {te : SE} (hc : X.calm = true) (hN : X.N.Nodup) (hy : X.N[i]? = some y) (hyl : X.env.scope.names.lookup y = some .local)
    (hsw : swapsWith (.ListComp elt [⟨tg, iter, ifs, 0⟩] scope pos) (some (.Name y py)) spos.line X.env = pure true) (hi : DI X P W tg iter si) (ok : BlkOk X.N X.env.scope scope own)
    (hg : ∀ (s : Shared) (H : Hp) (C : Addr) (cl : List (Str × Addr)) (fp : List Addr), DG (X.blk s H scope (compEnvC scope cl C X.env) fp) P tg is g)
    (ht : ∀ (s : Shared) (H : Hp) (C : Addr) (cl : List (Str × Addr)) (fp : List Addr), DTs (X.blk s H scope (compEnvC scope cl C X.env) fp) P WF ifs tt)
    (he : ∀ (s : Shared) (H : Hp) (C : Addr) (cl : List (Str × Addr)) (fp : List Addr), DE (X.blk s H scope (compEnvC scope cl C X.env) fp) P WF elt te)
    (his : ∀ i ∈ is, i ∈ own.map (·.2) := by decide) (hs : ∀ x, foldedSetIterable iter X.env x = pure x := by intro _; rfl) :
    DS X P W (.Assign [.Name y py] (.ListComp elt [⟨tg, iter, ifs, 0⟩] scope pos) spos) (ssAsg (sLc (saLc si g tt te (own.map (·.2)))) (sgName i)) := by
  refine PS.imp (ps_setLc (own := own) (i := i) (wi := tG X.K X.mg X.w (SrcJ X.K X.mg X.w) P W si) (g := tTg X.K X.mg X.w P is g) (tt := tTst X.K X.mg X.w P WF tt) (te := tI X.K X.mg X.w P WF te) hc hN hy hyl hsw hi ok hg ht he hs) fun D σV H h => ?_
  refine lc_read his (lc_keep ?_)
  obtain ⟨m, h, σ, A, o⟩ := h
  refine A.flo (rel1 := RT X.K X.mg) o fun m1 h1 t x H1 E1 r A1 o1 => ?_
  exact o1 _ m1 H1 (Ext.refl _ _) (A1.sr.set r i) A1.hr
end
end W3
end

section
namespace W3
open PySem PySem.Spec PyProof.Rows
open L2
section
variable {X : Cx} {P : Pq} {W : WX} {a b c tg iter : Expr} {sa sb sc : SE} {pos pos' : Pos} {es : List Expr} {ar : SA} {si : SI} {ta tb : ST} {st : Stmt} {rest body : List Stmt} {x1 x2 : SS}
theorem ds_for {is : List Nat} {g : SG} (hp : PassesOwn (model X.prog X.w) X.A X.env X.xe) (hc : X.calm = true) (hi : DI X P W tg iter si) (hg : DG X P tg is g) (hb : DSs X P W body x1)
    (hs : ∀ x, foldedSetIterable iter X.env x = pure x := by intro _; rfl) : DS X P W (.For tg iter body [] pos) (ssFor si g x1) := PS.imp (ps_for hp hc hi hg hb hs) fun D σV H ⟨m, h, σ, A, o⟩ => by
  refine A.flo (rel1 := SrcJ X.K X.mg X.w) o fun m1 h1 s J H1 E1 S A1 o1 => ?_
  refine ⟨fun i k σV' H' => ∃ m' h' σ', Ext m1 H1 m' H' ∧ At X.K X.mg X.w P m' H' σV' σ' h' ∧ OutS X.K X.mg X.w W D m1 H1 (forRun s g x1 k i σ' h'), ⟨s.len h1, m1, h1, σ, Ext.refl _ _, A1, o1⟩, ?_⟩
  rintro i k σV' H' ⟨m', h', σ', E', A', o'⟩
  unfold forRun at o'
  cases es : s.at h' i with
  | none => rw [es] at o'; exact False.elim o'
  | some ox =>
    cases ox with
    | none =>
      rw [es] at o'
      exact .inl ⟨S.stop m' h' H' i E'.tr A'.hr es, o' σV' m' H' E' A'.sr A'.hr⟩
    | some x =>
      rw [es] at o'
      cases k with
      | zero => exact False.elim o'
      | succ k =>
        obtain ⟨jg, jy⟩ := S.go m' h' H' i x E'.tr A'.hr es
        refine .inr ⟨jg, _, fun σV2 H'' q => ⟨k, Nat.lt_succ_self k, q⟩, fun y H2 hy => ?_⟩
        obtain ⟨E2, R2, rx⟩ := jy y H2 hy
        have A2 : At X.K X.mg X.w P m' H2 σV' σ' h' := A'.ext E2 R2
        refine ⟨m', h', σ', x, A2, rx, ?_⟩
        dsimp only at o'
        cases eg : g x σ' with
        | none => rw [eg] at o'; exact False.elim o'
        | some σ1 =>
          rw [eg] at o'
          intro σV1 s1 _
          refine ⟨m', h', σ1, ⟨s1, R2, A2.pr⟩, ?_⟩
          dsimp only at o'
          have up : ∀ {r : Flo}, OutS X.K X.mg X.w W D m1 H1 r → OutS X.K X.mg X.w W D m' H2 r := fun q => OutS.ext (E'.trans E2) q
          cases eb : x1 σ1 h' with
          | nx σ2 h2 =>
            rw [eb] at o'
            exact fun σV3 m3 H3 E3 s3 R3 => ⟨m3, h2, σ2, (E'.trans E2).trans E3, ⟨s3, R3, P.st E3 A2.pr⟩, o'⟩
          | ct σ2 h2 =>
            rw [eb] at o'
            exact fun σV3 m3 H3 E3 s3 R3 => ⟨m3, h2, σ2, (E'.trans E2).trans E3, ⟨s3, R3, P.st E3 A2.pr⟩, o'⟩
          | bk σ2 h2 => rw [eb] at o'; exact up o'
          | rt t h2 => rw [eb] at o'; exact up (r := .rt t h2) o'
          | exc c fs σ2 h2 => rw [eb] at o'; exact up (r := .exc c fs σ2 h2) o'
          | stk => rw [eb] at o'; exact o'
theorem ds_sub {o i v : Expr} {so si' sv : SE} (ho : DE X P W o so) (hi : DE X P W i si') (hv : DE X P W v sv) (hs : swapsWithSole [.Subscript o i pos'] v pos.line X.env = pure false := by rfl) (hw : swappedStores [.Subscript o i pos'] v X.env = pure none := by rfl)
    (h1 : (assignEach [.Subscript o i pos'] X.env).map (·.2) = [assign (.Subscript o i pos') X.env] := by rfl)
    (ha : ∀ v, assign (.Subscript o i pos') X.env v = (do
      let ov ← holding [v] (eval o X.env)
      let iv ← holding [v, ov] (eval i X.env)
      standAt pos'
      holding [v, ov, iv] (setItem ov iv v)
      release [v, ov, iv] []) := by intro _; rfl) : DS X P W (.Assign [.Subscript o i pos'] v pos) (ssSub so si' sv) := by
  refine PS.imp (ps_asg hv (pg_sub ho hi set_list ha) hs hw h1) fun D σV H ⟨m, h, σ, A, o⟩ => ?_
  refine A.flo (rel1 := RT X.K X.mg) o fun m1 h1 t1 y H1 E1 r1 A1 o1 => ?_
  refine A1.flo (rel1 := RT X.K X.mg) o1 fun m2 h2 t2 x H2 E2 r2 A2 o2 => ?_
  refine A2.flo (rel1 := RT X.K X.mg) o2 fun m3 h3 t3 k H3 E3 r3 A3 o3 => ?_
  have r2' := r2.ext E3
  cases r2' with
  | @ref l a e1 =>
    cases r3 with
    | int n =>
      have o' : OutS X.K X.mg X.w W D m3 H3 (match lstAt h3 l with
        | some ts => (match L2.ixN ts.length n with | some j => .nx σ (h3.set l (.lst (ts.set j t1))) | none => .stk)
        | none => .stk) := o3
      split at o'
      · rename_i ts q1
        obtain ⟨vs, g1, rv⟩ := A3.hr.lst e1 q1
        split at o'
        · rename_i j q2
          rw [rv.length] at q2
          refine ⟨a, vs, n, j, rfl, rfl, g1, q2, ?_⟩
          have Ew : Ext m3 H3 m3 (upd H3 a (.lst (vs.set j y))) := Ext.write A3.hr e1
          exact o' σV m3 _ Ew (A3.sr.ext Ew) (A3.hr.write e1 ⟨_, upd_same, ((rv.set j ((r1.ext E2).ext E3)).ext Ew)⟩)
        · exact False.elim o'
      · exact False.elim o'
    | _ => exact False.elim o3
  | _ => exact False.elim o3
theorem nx_extend : NoXM mExtend := fun x y h c fs h' e => by unfold mExtend at e; (repeat' split at e) <;> cases e
def MtS (X : Cx) (id : String) (f : T → List T → Hh → Res T) : Prop :=
  ∀ (pins : List (Addr × Obj)) (s : Shared) (σ : L2.St) (H : Hp) (x : V) (xs : List V) (v : Value) (us : List Value) (Q : VK), L2.Inv X pins σ H s → RelV x v → Vals xs us → rPM X.K X.mg X.w f x xs H Q →
    wpAny (model X.prog X.w) X.A (call (.builtin id) (v :: us)) (EP X pins σ Q) X.xe s
theorem ms_extend : MtS X "list.extend" mExtend := by
  intro pins s σ H x xs v us Q I rx rs ⟨m, h, t, ts, r, rr, R, o⟩
  cases r with
  | @ref l a e1 =>
    cases rr with
    | nil => exact False.elim o
    | cons r1 r2 =>
      cases r2 with
      | cons _ _ => cases r1 <;> exact False.elim o
      | nil =>
        cases r1 with
        | @ref k b e2 =>
          have o' : OutP X.K X.mg X.w Q m H (match lstAt h l, lstAt h k with
            | some ts, some zs => if ts.length + zs.length ≤ sizeLine then .ok .non (h.set l (.lst (ts ++ zs))) else .stk
            | _, _ => .stk) := o
          split at o'
          · rename_i ts zs q1 q2
            obtain ⟨vs, g1, rv⟩ := R.lst e1 q1
            obtain ⟨ws, g2, rw⟩ := R.lst e2 q2
            split at o'
            · rename_i hz
              refine mt_extend pins s σ H _ _ v us Q I rx rs ⟨a, b, vs, ws, rfl, rfl, g1, g2, by rw [← rv.length, ← rw.length]; exact hz, ?_⟩
              have Ew : Ext m H m (upd H a (.lst (vs ++ ws))) := Ext.write R e1
              exact o' .non m _ Ew .non (R.write e1 ⟨_, upd_same, (rv.append rw).ext Ew⟩)
            · exact False.elim o'
          · exact False.elim o'
        | _ => exact False.elim o
  | _ => exact False.elim o
end
end W3
end

section
namespace W3
open PySem PySem.Spec PyProof.Rows
open L2
section
variable {X : Cx} {P : Pq} {W : WX} {a b c o e : Expr} {sa sb sc so : SE} {pos pos' apos cpos p : Pos} {es : List Expr} {ar : SA}
theorem mt_read {f : T → List T → Hh → Res T} (hf : NoXM f) {σV : L2.St} {H : Hp} {Q : VK} (h : tI X.K X.mg X.w P W (sMtL f so ar) σV H Q) :
    tI X.K X.mg X.w P W so σV H fun x H1 => tyV X.K "list" x H1 ∧ tAr X.K X.mg X.w P W ar σV H1 fun xs H2 => rPM X.K X.mg X.w f x xs H2 Q := by
  obtain ⟨m, h, σ, A, o⟩ := h
  refine A.first (rel1 := RT X.K X.mg) o fun m1 h1 t x H1 E1 r A1 o1 => ?_
  split at o1
  · rename_i hl
    refine ⟨?_, ?_⟩
    · cases r with
      | @ref l a e1 =>
        have hl' : (lstAt h1 l).isSome = true := hl
        obtain ⟨ts, q⟩ := Option.isSome_iff_exists.mp hl'
        obtain ⟨vs, g, _⟩ := A1.hr.lst e1 q
        exact .inl ⟨rfl, vs, SqL.of g⟩
      | @fl a vs ts hq _ => exact .inl ⟨rfl, vs, hq.sq⟩
      | _ => cases hl
    · refine A1.first (rel1 := RTs X.K X.mg) o1 fun m2 h2 ts xs H2 E2 r2 A2 o2 => ?_
      exact ⟨m2, h2, t, ts, r.ext E2, r2, A2.hr, o2.outP (hf _ _ _)⟩
  · exact False.elim o1
theorem de_mt {id : String} {name : Str} {f : T → List T → Hh → Res T} (hm : MtS X id f) (hf : NoXM f) (pa : PlainAttrs "list") (slot : Slot "list" name id) (hty : typeOf (.builtin id) = pure (.type "method_descriptor")) (ho : DE X P W o so) (ha : DA X P W (e :: es) ar)
    (hbase : attributeBase o name X.env (eval o X.env) = eval o X.env := by rfl)
    (hfew : ((backTo cpos (starEach (e :: es) X.env)).all (fun x => !x.1) && (backToKw cpos (keywordEach [] X.env)).all (fun x => x.1.isSome)
      && decide ((e :: es).length + ([] : List Keyword).length + (if ([] : List Keyword).isEmpty then 0 else 1) < 30)) = true := by rfl)
    (hline : (apos.endLine == cpos.line) = true := by rfl) (hs : starEach (e :: es) X.env = (false, eval e X.env) :: starEach es X.env := by rfl) (hplain : (backTo cpos (starEach es X.env)).any (·.1) = false := by rfl) :
    DE X P W (.Call (.Attribute o name apos) (e :: es) [] cpos) (sMtL f so ar) :=
  PE.imp (pe_bm (r := rPM X.K X.mg X.w f) pa slot hty hm ho ha hbase hfew hline hs hplain) fun σV H Q h => mt_read hf h
def spT (K : PySem.W.Frag) (mg : Str → Option Value) (wd : World) (n : Nat) (f : List T → Hh → Res T) : Sp := fun vs H Q E => vs.length = n ∧ ∃ m h ts, RTs K mg m H ts vs ∧ HR K mg wd m h H ∧
  (match f ts h with
    | .ok t h' => ∀ v m' H', Ext m H m' H' → RT K mg m' H' t v → HR K mg wd m' h' H' → Q v H'
    | .exc c fs h' => ∀ cls d m' H', Ext m H m' H' → XR K mg m' H' c fs cls d → HR K mg wd m' h' H' → E cls d H'
    | .stk => False)
theorem SR.start {K : PySem.W.Frag} {mg : Str → Option Value} {m : Mp} {H : Hp} {ts : List T} {vs : List V} (N : List Str) (r : RTs K mg m H ts vs) : SR K mg m H (startT N.length ts) (L2.start N vs) := by
  unfold startT L2.start
  rw [r.length]
  refine ⟨by rw [List.length_append, List.length_append, List.length_map, List.length_map, List.length_replicate, List.length_replicate, r.length], fun i t e => ?_⟩
  by_cases hi : i < vs.length
  · have hi' : i < ts.length := by rw [r.length]; exact hi
    rw [List.getElem?_append_left (by rw [List.length_map]; exact hi'), List.getElem?_map] at e
    cases q : ts[i]? with
    | none => rw [q] at e; cases e
    | some u =>
      rw [q] at e
      have e2 : u = t := Option.some.inj (Option.some.inj e)
      subst e2
      obtain ⟨v, q2, rv⟩ := r.get q
      exact ⟨v, by rw [List.getElem?_append_left (by rw [List.length_map]; exact hi), List.getElem?_map, q2]; rfl, rv⟩
  · rw [List.getElem?_append_right (by rw [List.length_map, r.length]; omega), List.getElem?_replicate] at e
    split at e
    · cases e
    · cases e
abbrev cxD (P : Program) (w : World) (K : PySem.W.Frag) (mg : Str → Option Value) (base : Heap) (N : List Str) (qual : Str) (sc : Scope) (f : Addr) (cdv : Value) (A : Around) (outer : List Env) (s : Shared) (H : Hp) (E : XK) : Cx :=
  cxOf (L2N.CX P w) P w K mg base N qual sc f cdv A outer s H E
abbrev wD (E : XK) : WX := fun cls d _ H => E cls d H
theorem def_read {K : PySem.W.Frag} {mg : Str → Option Value} {wd : World} {N ps : List Str} {ss : SS} {vs : List V} {H : Hp} {Q : VK} {E : XK} (h : spT K mg wd ps.length (defRun N.length ss) vs H Q E) : tS K mg wd PqT (wD E) ss { nx := fun _ H' => Q .non H', rt := Q } (L2.start N vs) H := by
  obtain ⟨_, m, h, ts, r, R, o⟩ := h
  refine ⟨m, h, startT N.length ts, ⟨SR.start N r, R, trivial⟩, ?_⟩
  unfold defRun at o
  cases e : ss (startT N.length ts) h with
  | nx σ1 h1 => rw [e] at o; exact fun σV' m' H' E' _ R' => o .non m' H' E' .non R'
  | rt t h1 => rw [e] at o; exact o
  | exc c fs σ1 h1 => rw [e] at o; exact fun cls d _ m' H' E' _ x R' => o cls d m' H' E' x R'
  | bk σ1 h1 => rw [e] at o; exact False.elim o
  | ct σ1 h1 => rw [e] at o; exact False.elim o
  | stk => rw [e] at o; exact False.elim o
theorem fn_T {P : Program} {w : World} {K : PySem.W.Frag} {mg : Str → Option Value} {base : Heap} {x qual : Str} {st : Stmt} {f : Addr} {fd : FuncData} {N ps : List Str} {k : Nat} {ss : SS} (F : Fun K x qual st f fd) (S : FnScope N ps (defScope st))
    (hbody : ∀ (cdv : Value) (A : Around) (outer : List Env) (s : Shared) (H : Hp) (E : XK), Room k (cxD P w K mg base N qual (defScope st) f cdv A outer s H E).A → L2N.Takes (cxD P w K mg base N qual (defScope st) f cdv A outer s H E) (wD E) →
      PassesOwn (model P w) (cxD P w K mg base N qual (defScope st) f cdv A outer s H E).A (cxD P w K mg base N qual (defScope st) f cdv A outer s H E).env (cxD P w K mg base N qual (defScope st) f cdv A outer s H E).xe →
      DSs (cxD P w K mg base N qual (defScope st) f cdv A outer s H E) PqT (wD E) (defBody st) ss) : FnOk P w K mg base (L2N.CX P w) (k + 1) f fd ps (spT K mg w ps.length (defRun N.length ss)) :=
  by
  obtain ⟨oc, od, kV, doc, pm, an, cdv, ct, osl, rfl, lk, hcd⟩ := F.ex
  exact fn_of lk hcd S (fun vs H Q E h => h.1) fun A outer s H vs Q E hr h => ⟨_, hbody cdv A outer s H E hr (L2N.takes_of rfl rfl rfl rfl) (passes_of rfl), def_read h⟩
theorem de_call {x : Str} {k : Nat} {f : Addr} {fd : FuncData} {ps : List Str} {ff : List T → Hh → Res T} (F : FnOk X.prog X.w X.K X.mg X.base (L2N.CX X.prog X.w) k f fd ps (spT X.K X.mg X.w ps.length ff)) (hr : Room k X.A) (hg : Gl X x) (hm : X.mg x = some (.ref f))
    (hk : PySem.W.keepIn X.K (.ref f) = true) (hb : Binds X.K fd ps []) (tk : L2N.Takes X W) (ha : DA X P W (a :: es) ar) (hdb : (x == ("__debug__" : Str)) = false := by decide)
    (he : starEach (a :: es) X.env = (false, eval a X.env) :: starEach es X.env := by rfl) (hpl : (backTo pos (starEach es X.env)).any (·.1) = false := by rfl) :
    DE X P W (.Call (.Name x p) (a :: es) [] pos) (sCl (arN ps.length ff) ar) :=
  PE.imp (pe_callS F hr hg hm hk hb (fun σ => L2N.passAt tk σ) ha hdb he hpl) fun σV H Q ⟨m, h, σ, A, o⟩ => by
    refine A.first (rel1 := RTs X.K X.mg) o fun m1 h1 ts xs H1 E1 r A1 o1 => ?_
    unfold arN at o1
    split at o1
    · rename_i hl
      refine ⟨by rw [← r.length]; exact hl, m1, h1, ts, r, A1.hr, ?_⟩
      cases e : ff ts h1 with
      | ok t h2 => rw [e] at o1; exact o1
      | exc c fs h2 => rw [e] at o1; exact o1
      | stk => rw [e] at o1; exact o1
    · exact False.elim o1
theorem RTs.weave {K : PySem.W.Frag} {mg : Str → Option Value} {m : Mp} {H : Hp} : ∀ (pat : List Bool) {ds zs : List T} {dv zv : List V}, RTs K mg m H ds dv → RTs K mg m H zs zv → RTs K mg m H (weave pat ds zs) (weave pat dv zv)
  | [], _, _, _, _, _, _ => .nil
  | true :: r, _, _, _, _, d, .cons q z => .cons q (RTs.weave r d z)
  | true :: _, _, _, _, _, _, .nil => .nil
  | false :: r, _, _, _, _, .cons q d, z => .cons q (RTs.weave r d z)
  | false :: _, _, _, _, _, .nil, _ => .nil
theorem Vals.weave : ∀ (pat : List Bool) {ds zs : List V} {dv zv : List Value}, Vals ds dv → Vals zs zv → Vals (W3.weave pat ds zs) (W3.weave pat dv zv)
  | [], _, _, _, _, _, _ => .nil
  | true :: r, _, _, _, _, d, .cons q z => .cons q (Vals.weave r d z)
  | true :: _, _, _, _, _, _, .nil => .nil
  | false :: r, _, _, _, _, .cons q d, z => .cons q (Vals.weave r d z)
  | false :: _, _, _, _, _, .nil, _ => .nil
theorem PK.imp {kws : List Keyword} {t t' : TA} (h : PK X kws t) (k : ∀ σ H Q, t' σ H Q → t σ H Q) : PK X kws t' := ⟨fun pos pins s σ H Q I hw => h.run pos pins s σ H Q I (k _ _ _ hw)⟩
end
end W3
end

section
namespace W3
open PySem PySem.Spec PyProof.Rows
open L2
section
variable {X : Cx} {P : Pq} {W : WX} {a b c o e : Expr} {sa sb sc so : SE} {pos pos' apos cpos p : Pos} {es : List Expr} {ar : SA}
def bMakeK (c : Str) (q n : Nat) (pat : List Bool) (ds : List T) (f : List T → Hh → Res T) (a kw : SA) : SE := fun σ h => (a σ h).bind fun xs h1 => (kw σ h1).bind fun zs h2 => if xs.length = n ∧ zs.length = q then bMake c (n + 1 + pat.length) f (xs ++ weave pat ds zs) h2 else .stk
end
end W3
end

section
namespace W3
open PySem PySem.Spec PyProof.Rows
open L2
def Kd.nm : Kd → String
  | .int => "int" | .bool => "bool" | .str => "str" | .tuple => "tuple" | .list => "list" | .dict => "dict"
section
variable {X : Cx} {P : Pq} {W : WX} {a b c o e : Expr} {sa sb sc so : SE} {pos pos' apos cpos p p2 : Pos} {es : List Expr} {ar : SA}
theorem ty_of {m : Mp} {H : Hp} {h : Hh} {t : T} {v : V} {k : Kd} {r : Bool} (R : HR X.K X.mg X.w m h H) (q : RT X.K X.mg m H t v) (e : isK k t h = some r) : ∃ n : String, TyX X.K H v (.type n) ∧ kitB n k.nm = some r := by
  cases q with
  | non => exact ⟨_, .base .non, by cases e; cases k <;> decide +kernel⟩
  | bl b => exact ⟨_, .base (.bl b), by cases e; cases k <;> decide +kernel⟩
  | int b => exact ⟨_, .base (.int b), by cases e; cases k <;> decide +kernel⟩
  | str b => exact ⟨_, .base (.str _), by cases e; cases k <;> decide +kernel⟩
  | @tup a vs ts hq _ =>
    refine ⟨"tuple", ?_, by cases e; cases k <;> decide +kernel⟩
    rcases hq with ⟨ob, z, _⟩ | ⟨ob, its, n, hk, hc, _⟩
    · exact .fTuple z
    · exact .kTuple hk hc
  | @fl a vs ts hq _ =>
    refine ⟨"list", ?_, by cases e; cases k <;> decide +kernel⟩
    rcases hq with ⟨ob, z⟩ | ⟨ob, its, n, hk, hc, _⟩
    · exact .base (.frz z)
    · exact .kList hk hc
  | @ref l a e1 =>
    have e' : (match h[l]? with
      | some (.lst _) => some (k == .list)
      | some (.dic _) => some (k == .dict)
      | some (.ins _ _) => none
      | some (.dtk _) => none
      | some (.err _ _) => none
      | none => none) = some r := e
    split at e'
    · rename_i ts q1
      obtain ⟨b, e2, vs, g, _⟩ := R.ob l _ q1
      rw [e1] at e2; cases e2
      exact ⟨"list", .base (.lst g), by cases e'; cases k <;> decide +kernel⟩
    · rename_i ts q1
      obtain ⟨b, e2, _, g, _⟩ := R.ob l _ q1
      rw [e1] at e2; cases e2
      exact ⟨"dict", .base (.dK g), by cases e'; cases k <;> decide +kernel⟩
    · cases e'
    · cases e'
    · cases e'
    · cases e'
  | cls _ => cases e
theorem nx_isk (k : Kd) : NoX1 (oIsK k) := fun x h c fs h' e => by unfold oIsK at e; (repeat' split at e) <;> cases e
theorem de_isk (k : Kd) {x : Str} (hx : bootBuiltins x = some (.type k.nm)) (hg : Gl X "isinstance") (hm : X.mg "isinstance" = none) (hgx : Gl X x) (hmx : X.mg x = none) (ha : DE X P W a sa) (hn : x ≠ "__name__" := by decide) (hdx : (x == ("__debug__" : Str)) = false := by decide)
    (he : starEach [a, .Name x p2] X.env = (false, eval a X.env) :: starEach [.Name x p2] X.env := by rfl) (hpl : (backTo pos (starEach [.Name x p2] X.env)).any (·.1) = false := by rfl) (hs2 : starEach [.Name x p2] X.env = (false, eval (.Name x p2) X.env) :: starEach [] X.env := by rfl) :
    DE X P W (.Call (.Name "isinstance" p) [a, .Name x p2] [] pos) (s1 (oIsK k) sa) :=
  PE.imp (pe_callB call_isi hg hm boot_isinstance (pa_cons ha (pa_cons (pe_bltn (v := .ty k.nm) hgx hmx hx rfl hn hdx) pa_nil hs2) he) (by decide) (by decide) he hpl) fun σV H Q h => by
    refine tG.mono (fun v H1 hq => ?_) (one (nx_isk k) h)
    obtain ⟨m, h, t, r, R, o⟩ := hq
    unfold oIsK at o
    split at o
    · rename_i b e
      obtain ⟨n, ty, kb⟩ := ty_of R r e
      exact ⟨v, .ty k.nm, .type n, .type k.nm, b, rfl, .ty _, ty, kit_ty kb, o _ m H1 (Ext.refl _ _) (.bl _) R⟩
    · exact False.elim o
def sDic0 : SE := fun _ h => alloc (.dic []) h
def rLst (K : PySem.W.Frag) (mg : Str → Option Value) (wd : World) (f : List T → Hh → Res T) : List V → Hp → VK → Prop := fun xs H Q => ∃ m h ts D vs, xs = [.ref D] ∧ H D = some (.lst vs) ∧ RTs K mg m H ts vs ∧ HR K mg wd m h H ∧ OutP K mg wd Q m H (f ts h)
theorem over_read {f : List T → Hh → Res T} (hf : NoXL f) {σV : L2.St} {H : Hp} {Q : VK} (h : tI X.K X.mg X.w P W (sOver f ar) σV H Q) : tL X.K X.mg X.w P W ar σV H fun x H1 => rLst X.K X.mg X.w f [x] H1 Q := by
  obtain ⟨m, h, σ, A, o⟩ := h
  refine A.first (rel1 := relL X.K X.mg H) o fun m1 h1 ts x H1 E1 r1 A1 o1 => ?_
  obtain ⟨D, vs, rfl, _, hD, rr, _⟩ := r1
  exact ⟨m1, h1, ts, D, vs, rfl, hD, rr, A1.hr, o1.outP (hf _ _)⟩
theorem de_overB {id : String} {x : Str} {f : List T → Hh → Res T} (hc : CallR X (.builtin id) (rLst X.K X.mg X.w f)) (hf : NoXL f) (hg : Gl X x) (hm : X.mg x = none) (hv : bootBuiltins x = some (.builtin id)) (ha : DL X P W a ar) (hn : x ≠ "__name__" := by decide) (hdb : (x == ("__debug__" : Str)) = false := by decide)
    (he : starEach [a] X.env = (false, eval a X.env) :: starEach [] X.env := by rfl) (hpl : (backTo pos (starEach [] X.env)).any (·.1) = false := by rfl) : DE X P W (.Call (.Name x p) [a] [] pos) (sOver f ar) :=
  PE.imp (pe_callB hc hg hm hv (pa_cons ha pa_nil he) hn hdb he hpl) fun σV H Q h => over_read hf h
theorem bls_of {m : Mp} {H : Hp} : ∀ {ts : List T} {vs : List V} {bs : List Bool}, RTs X.K X.mg m H ts vs → blsOf ts = some bs → vs = bs.map V.bl
  | _, _, _, .nil, e => by cases e; rfl
  | _, _, bs, .cons (t := t) (ts := ts) r q, e => by
    cases r with
    | bl b =>
      have e' : (blsOf ts).map (b :: ·) = some bs := e
      cases z : blsOf ts with
      | none => rw [z] at e'; cases e'
      | some cs =>
        rw [z] at e'; cases e'
        rw [bls_of q z]; rfl
    | _ => cases e
theorem nx_all : NoXL bAll := fun x h c fs h' e => by unfold bAll at e; (repeat' split at e) <;> cases e
theorem cl_all (hc : X.calm = true) : CallR X (.builtin "all") (rLst X.K X.mg X.w bAll) := by
  intro pins s σ H xs us Q I ru hq
  obtain ⟨m, h, ts, D, vs, rfl, hD, r, R, o⟩ := hq
  unfold bAll at o
  split at o
  · rename_i bs e
    have := bls_of r e
    subst this
    exact cr_all hc pins s σ H _ us Q I ru ⟨D, bs, rfl, SqL.of hD, o _ m H (Ext.refl _ _) (.bl _) R⟩
  · exact False.elim o
end
end W3
end

section
namespace W3
open PySem PySem.Spec PyProof.Rows
open L2
instance decMemK (k : Key) (l : List Key) : Decidable (k ∈ l) := decidable_of_iff (l.any (fun j => decide (j = k)) = true) (by simp [List.any_eq_true])
section
variable {X : Cx}
end
end W3
end

section
namespace W3
open PySem PySem.Spec PyProof.Rows
open L2
section
variable {P : Program} {w : World} {A : Around} {E : Value → Shared → Prop} {s : Shared}
abbrev KeysAre (P : Program) (w : World) (ks : List Key) (vs : List Value) : Prop := Paired (fun k v => RelV (kV k) v) ks vs
theorem KeysAre.get {ks : List Key} {vs : List Value} (r : KeysAre P w ks vs) : ∀ {i : Nat} {v : Value}, vs[i]? = some v → ∃ k, ks[i]? = some k ∧ RelV (kV k) v := by
  induction r with
  | nil => intro i v e; simp at e
  | cons r _ ih =>
    intro i v e
    cases i with
    | zero => simp at e; subst e; exact ⟨_, rfl, r⟩
    | succ i => exact ih (by simpa using e)
end
end W3
end

section
namespace W3
open PySem PySem.Spec PyProof.Rows
open L2
section
variable {X : Cx} {P : Pq} {W : WX} {a b c o e tg iter : Expr} {sa sb sc so : SE} {pos pos' apos cpos p p2 q2 : Pos} {es : List Expr} {ar : SA} {si : SI}
end
end W3
end

section
namespace W3
open PySem PySem.Spec PyProof.Rows
open L2
theorem hu65 {k : Nat} {A : Around} (hr : Room k A) : A.units + 65 < cLine := by have := hr.un; omega
section
variable {X : Cx} {P : Pq} {W : WX} {a b c o e : Expr} {sa sb sc so : SE} {pos pos' : Pos} {st : Stmt}
theorem dv (i : Nat) {x : Str} (hN : X.N[i]? = some x := by rfl) (hv : Vis X.env.scope x := by first | exact Or.inl rfl | exact Or.inr (Or.inl rfl) | exact Or.inr (Or.inr rfl)) (hd : (x == ("__debug__" : Str)) = false := by decide) (hcd : (x == ("__classdict__" : Str)) = false := by decide) :
    DE X P W (.Name x pos) (sVar i) := de_var hN hv hd hcd
def ssStk : SS := fun _ _ => .stk
end
theorem sqF_of {K : PySem.W.Frag} {H : Hp} {a : Addr} {xs : List V} (hO : Only H) (h : SqL K H a xs) : SqF K H a xs := by
  rcases h with (h | ⟨o, h⟩) | h
  · rcases hO a with z | ⟨o, ys, z⟩
    · rw [z] at h; cases h
    · rw [z] at h; cases h
  · exact .inl ⟨o, h⟩
  · exact .inr h
theorem rts_ints {K : PySem.W.Frag} {mg : Str → Option Value} {m : Mp} {H : Hp} : ∀ ns : List Int, RTs K mg m H (ns.map T.int) (ns.map V.int)
  | [] => .nil
  | n :: ns => .cons (.int n) (rts_ints ns)
theorem sp_law {K : PySem.W.Frag} {mg : Str → Option Value} {wd : World} {f : List T → Hh → Res T} (hf : ∀ ns : List Int, ns.length ≤ 63 → ∃ h', f [.fl (ns.map T.int)] [] = .ok (.bl true) h') {H : Hp} {a : Addr} {ns : List Int} (hl : ns.length ≤ 63) (hO : Only H)
    (hS : SqL K H a (ns.map V.int)) : spT K mg wd 1 f [.ref a] H (fun v _ => v = .bl true) fun _ _ _ => False := by
  refine ⟨rfl, fun _ => none, [], [.fl (ns.map T.int)], .cons (.fl (sqF_of hO hS) (rts_ints ns)) .nil, ⟨fun l a e => (by cases e), fun l l' a e => (by cases e), fun l o e => by simp at e⟩, ?_⟩
  obtain ⟨h', e⟩ := hf ns hl
  rw [e]
  intro v m' H' _ r _
  cases r
  rfl
end W3
namespace W3
open PySem PySem.Spec PyProof.Rows
open L2
def spL (K : PySem.W.Frag) (f : List T → Hh → Res T) : Sp := fun vs H Q E => ∀ mg wd, spT K mg wd 1 f vs H Q E
theorem fnL {P : Program} {w : World} {K : PySem.W.Frag} {mg : Str → Option Value} {base : Heap} {CX : CXT} {k : Nat} {fa : Addr} {fd : FuncData} {ps : List Str} {f : List T → Hh → Res T} (F : FnOk P w K mg base CX k fa fd ps (spT K mg w 1 f)) : FnOk P w K mg base CX k fa fd ps (spL K f) :=
  F.imp fun _ _ _ _ h => h mg w
end W3
namespace W3
open PySem PySem.Spec PyProof.Rows
open L2
end W3
end

section
namespace W3
open PySem PySem.Spec PyProof.Rows
open L2
def lc2Run (s : Src) (g : SG) (tt : ST) (si1 : SI) (g1 : SG) (tt1 : ST) (te : SE) (vs1 : List Nat) (σ : St3) : Nat → Nat → List T → Hh → Res (List T)
  | k, i, acc, h => match s.at h i with
    | none => .stk
    | some none => .ok acc h
    | some (some x) => match k with
      | 0 => .stk
      | k + 1 => match g x σ with
        | none => .stk
        | some σ1 => match tt σ1 h with
          | .ok b h1 => if b = true then (match si1 σ1 h1 with
              | .ok s1 h2 => (match lcRun s1 g1 tt1 te (wipeT σ1 vs1) (s1.len h2) 0 acc h2 with
                | .ok acc' h3 => lc2Run s g tt si1 g1 tt1 te vs1 σ k (i + 1) acc' h3
                | _ => .stk)
              | _ => .stk) else lc2Run s g tt si1 g1 tt1 te vs1 σ k (i + 1) acc h1
          | _ => .stk
def saLc2 (si : SI) (g : SG) (tt : ST) (si1 : SI) (g1 : SG) (tt1 : ST) (te : SE) (vs vs1 : List Nat) : SA := fun σ h => (si σ h).bind fun s h1 => lc2Run s g tt si1 g1 tt1 te vs1 (wipeT σ vs) (s.len h1) 0 [] h1
section
variable {X : Cx} {P : Pq} {W : WX} {a b c tg iter tg1 iter1 : Expr} {sa sb sc : SE} {pos : Pos} {es : List Expr} {ar : SA} {si si1 : SI} {ta tb : ST} {rest : List Expr}
end
section
variable {X : Cx} {P : Pq} {W : WX} {a b c o e : Expr} {sa sb sc so : SE} {pos pos' apos cpos tpos p p2 p3 : Pos} {es : List Expr} {ar : SA}
end
end W3
end

section
namespace PySem
open Builtin
open AutoSeq1 (wpAny_loadPart')
end PySem
namespace W3
open PySem PySem.Spec PyProof.Rows
open L2
def enumL : Nat → List T → List T
  | _, [] => []
  | i, t :: ts => .tup [.int i, t] :: enumL (i + 1) ts
section
variable {K : PySem.W.Frag} {mg : Str → Option Value} {wd : World} {m : Mp} {H : Hp}
end
def enumOf (xs : List T) (h : Hh) : Res Src := match xs with | [.tup ts] => .ok (.its (enumL 0 ts)) h | _ => .stk
def siEnum (a : SA) : SI := fun σ h => (a σ h).bind enumOf
section
variable {X : Cx} {P : Pq} {W : WX} {a b c : Expr} {ar : SA} {pos : Pos}
end
theorem RTs.two {K : PySem.W.Frag} {mg : Str → Option Value} {m : Mp} {H : Hp} {t u : T} {vs : List V} (r : RTs K mg m H [t, u] vs) : ∃ v w, vs = [v, w] ∧ RT K mg m H t v ∧ RT K mg m H u w := by
  cases r with
  | cons r1 rr =>
    cases rr with
    | cons r2 rn => cases rn; exact ⟨_, _, rfl, r1, r2⟩
end W3
end

section
namespace W3
open PySem PySem.Spec PyProof.Rows PySem.W
open L2
structure ExF (prog : Program) (K : PySem.W.Frag) (C f c cc : Addr) (fd : FuncData) : Prop where
  oex : OexC K C
  fn : ∃ oc od osl, K.lookup f = some ⟨oc, od, .func fd, osl⟩
  code : ∃ ccl cdd vs ccs file tf, K.lookup c = some ⟨ccl, cdd, .fields vs, ccs⟩ ∧ vs[2]? = some (.str file tf) ∧ ((prog.main.file : Str) == file) = true
  cell : ∃ cl cld csl, K.lookup cc = some ⟨cl, cld, .cell (some (.ref C)), csl⟩
  sup : PySem.W.ks_superIn K C C "__init__" = some (some (.builtin "ValueError.__init__"))
  subV : PySem.W.subIn K (.ref C) (.type "ValueError") = some true
  subC : PySem.W.mroIn K C (.ref C) = some true
  opq : PySem.W.nsIn K cStatics "thirdparty.any" = some none
  top : (prog.main.scope.names.lookup ("super" : Str)).isSome = false
theorem boot_super : bootBuiltins "super" = some (.type "super") := by decide +kernel
theorem clsIn_of {K : PySem.W.Frag} {C : Addr} (T : OexC K C) : ∃ cd, PySem.W.clsIn K C = some cd := by
  obtain ⟨nm, q, N, bs, bm, sn, sub, ab, col, dd, k0, k1, k2, k3, k5, hC, hbm⟩ := T.cls
  unfold PySem.W.clsIn
  rw [hC]
  exact ⟨_, rfl⟩
theorem call_mwV {prog : Program} {w : World} {A : Around} {E : Value → Shared → Prop} {h : Heap} {g : Array GenState} {d : Drawn} {t : Nat} {os : OsState} {nm q : Str} {C N : Addr} {bs bm : List Value} {hdct : Bool} {sn : List Str} {sub : List Value} {ab : Bool} {col : Option Bool} {dd : Option Addr} {k0 k1 k2 k3 k5 : Option Value}
    {u e t0 : Addr} {rest : List Value} {Q : Value → Shared → Prop} (hC : h.get? C = some (excClassObj nm q C N bs bm hdct sn sub ab col dd k0 k1 k2 k3 k5 "ValueError.__new__")) (he : h.get? e = some (HandSPX.excO C t0)) (hu : h.get? u = some (kxs_mw "ValueError.__init__" e)) (hrest : rest.length ≤ sizeLine)
    (hq : ∀ h' t1, (∀ b o, b ≠ e → h.get? b = some o → h'.get? b = some o) → h'.get? e = some (HandSPX.excO C t1) → Q .none ⟨h', g, d, t, os⟩) : wpAny (model prog w) A (call (.ref u) rest) Q E ⟨h, g, d, t, os⟩ := by
  refine wpAny_call (codeAny_of_tree ?_)
  show wpAny _ A.in1 (callAny (.ref u) ⟨rest, []⟩) _ _ _
  simp only [callAny]
  refine wpAny_bind (wpAny_load hu ?_)
  simp only [kxs_mw, show (Value.type "method-wrapper" == Value.type "method" || Value.type "method-wrapper" == Value.type "builtin_function_or_method" || Value.type "method-wrapper" == Value.type "method-wrapper") = true by decide, if_true]
  refine W.KFB.if_so (by decide) ?_
  refine wpAny_bind (ESX.check_bound F.excBase_ValueError hC he rfl ?_)
  refine wpAny_bind (wpAny_pure (wpAny_pure ?_))
  refine ⟨Code.quiet_builtin _ (by decide +kernel), codeAny_builtin F.excBase_ValueError.initEntry ?_⟩
  rw [Around.under_plainId F.excBase_ValueError.init.plain _]
  wp_walk
  refine hq _ h.objs.size (fun b o hb ho => ?_) ?_
  · rw [Heap.get?_update_other _ _ (Ne.symm hb)]
    exact Heap.get?_push_of_some _ ho
  · rw [Heap.get?_update_self _ (Heap.get?_push_of_some _ he) rfl]
    rfl
section
variable {X : Cx} {pins : List (Addr × Obj)} {σ : L2.St} {H : Hp} {s : Shared}
theorem exc_first {C f c cc a : Addr} {fd : FuncData} {body : List Stmt} {p0 p1 p2 apos cpos pos : Pos} {j : Nat} {txt : Str} {ar : Arg} {pl : Sem Bool} (F : ExF X.prog X.K C f c cc fd) (I : L2.Inv X pins σ H s)
    (hfu : X.env.func = some f) (hco : X.env.code = .ref c) (hcl : X.env.cells.lookup ("__class__" : Str) = some cc) (hks : X.env.kindOf "super" = some .globalImplicit) (hkc : X.env.kindOf "__class__" = some .free)
    (hp : (fd.params.posonlyargs ++ fd.params.args).head? = some ar) (hN : X.N[0]? = some ar.arg) (hka : X.env.kindOf ar.arg = some .local) (h0 : σ[0]? = some (some (.ref a))) (hm : X.mg "super" = none) (ea : H a = some (exo a C none))
    (hi : interactive X.env = false) (hs : swapsWith (.Call (.Attribute (.Call (.Name "super" p0) [] [] p1) "__init__" apos) [.Constant (.str txt) j p2] [] cpos) none pos.line X.env = pure false)
    (hmc : eval (.Call (.Attribute (.Call (.Name "super" p0) [] [] p1) "__init__" apos) [.Constant (.str txt) j p2] [] cpos) X.env = (do
      let ov ← attributeBase (.Call (.Name "super" p0) [] [] p1) "__init__" X.env (eval (.Call (.Name "super" p0) [] [] p1) X.env)
      standAt apos.atName
      let (f, first) ← holding [ov] (getMethod ov "__init__" pl)
      callWith cpos f first (backTo cpos (starEach [.Constant (.str txt) j p2] X.env)) []))
    (he : starEach [.Constant (.str txt) j p2] X.env = (false, eval (.Constant (.str txt) j p2) X.env) :: starEach [] X.env) (hpl : (backTo cpos (starEach [] X.env)).any (·.1) = false) :
    _root_.PySem.wpAt (model X.prog X.w) X.A (.func body X.env) (exec (.Expr (.Call (.Attribute (.Call (.Name "super" p0) [] [] p1) "__init__" apos) [.Constant (.str txt) j p2] [] cpos) pos) X.env) (fun fl s' => fl = .next ∧ L2.Inv X pins σ H s') X.xe s := by
  obtain ⟨oc, od, osl, hf⟩ := F.fn
  obtain ⟨ccl, cdd, vs, ccs, file, tf, hcode, hvs, hfile⟩ := F.code
  obtain ⟨cl, cld, csl, hcell⟩ := F.cell
  obtain ⟨nm, q, N, bs, bm, sn, sub, ab, col, dd, k0, k1, k2, k3, k5, hC, hbm⟩ := F.oex.cls
  have K1 := I.kIn
  refine ks_wpAt_Expr_any ?_ hi hs
  refine ks_wpAt_MethodCall (pl := pl) ?_ hmc
  refine ks_wpAt_super_base hks hkc (by decide) hfu (K1 _ _ hf) rfl hp hco (K1 _ _ hcode) rfl hvs hfile F.top ?_
  obtain ⟨mb, b1, b2⟩ := I.mod.blt
  refine ks_loadName_global I.ok.kind hks (Calls.loadGlobal_builtin (by rw [I.ok.glob]; exact I.mod.glob.keeps I.bk) hm (by rw [I.ok.blt]; exact b1.keeps I.bk) ((b2 "super" (by decide)).trans boot_super) ⟨rfl, ?_⟩)
  refine wpAny_loadName_free I.ok.kind hkc hcl ⟨_, K1 _ _ hcell, rfl⟩ ?_
  obtain ⟨m, hn, hl⟩ := I.loc
  obtain ⟨u, ru, lk⟩ := hl 0 ar.arg (.ref a) hN h0 (.inl hka)
  obtain rfl : u = .ref a := ru
  have hmv : m ar.arg = some (.ref a) := by
    rcases lk with ⟨_, z⟩ | ⟨z | z, _⟩
    · exact z
    · rw [hka] at z; cases z
    · rw [hka] at z; cases z
  refine wpAny_loadName_local I.ok.kind hka hn hmv ?_
  obtain ⟨hp', g, d, t, os⟩ := s
  obtain ⟨t1, hx⟩ := exo_at I.hok ea
  have hC' := K1 _ _ hC
  refine ks_wpAny_isType_cls hC' rfl ⟨rfl, ?_⟩
  refine ks_wpAny_call_super hC' rfl hx rfl (fun _ z => by cases z) (looks_mroIn K1 F.subC) fun h1 e1 k1 => ?_
  have I1 : L2.Inv X pins σ H ⟨h1, g, d, t, os⟩ := I.kept (t' := t) k1
  have K2 := I1.kIn
  obtain ⟨cd, hcd⟩ := clsIn_of F.oex
  have hsup := F.sup
  unfold ks_superIn at hsup
  rw [hcd] at hsup
  have hInst : Looks (model X.prog X.w) h1 (isInstance (.ref a) (.type "ValueError")) true := by
    have LT : Looks (model X.prog X.w) h1 (typeOf (.ref a)) (.ref C) := fun A Q E s k q => wpAny_typeOf_ref (k _ _ (k1 _ _ hx)) q
    exact LT.andThen (looks_subIn K2 F.subV)
  have hne : a ≠ C := fun z => by
    rw [z, hC'] at hx
    cases hx
  refine kxs_getMethod kxs_ValueError e1 (looks_opaque K2 F.opq) (l₀ := cd.mro) (fun A Q E s k q => wpAny_bind ((looks_clsIn K2 hcd) A _ E s k (wpAny_pure q))) rfl K2 hsup hInst hne (by decide) ?_
  have k2 : ∀ b o, h1.get? b = some o → (h1.push (kxs_mw "ValueError.__init__" a)).get? b = some o := fun b o e => Heap.get?_push_of_some _ e
  have I2 : L2.Inv X pins σ H ⟨h1.push (kxs_mw "ValueError.__init__" a), g, d, t + 1, os⟩ := I1.kept (t' := t + 1) k2
  have hu : (h1.push (kxs_mw "ValueError.__init__" a)).get? h1.objs.size = some (kxs_mw "ValueError.__init__" a) := Heap.get?_push_at rfl rfl
  refine kxs_callWith (i := "ValueError.__init__") (x := a) ?_ ?_
  · rw [he]
    show (false || (backTo cpos (starEach [] X.env)).any (·.1)) = false
    rw [hpl]; rfl
  rw [he]
  refine Calls.evalArgs_plain ?_
  refine Calls.spliced_cons (Calls.Constant_str (k := j) (pos := p2) (Calls.spliced_nil ⟨hu, ?_⟩))
  obtain ⟨t2, hx2⟩ := exo_at (I2.tok (t + 2)).hok ea
  refine call_mwV (I2.kIn _ _ hC) hx2 hu (by show 1 ≤ sizeLine; decide) fun h' t3 k3 hx3 => ⟨rfl, ?_⟩
  have J := (I2.tok (t + 2)).write (t' := t + 2) (x := a) (e := a) (o := exo a C none) (by rw [ea]; exact True.intro) (.inl rfl) k3 ⟨_, hx3⟩ (exo_ok hx3)
  have eu : upd H a (exo a C none) = H := by
    funext b
    by_cases hb : b = a
    · rw [hb, upd_same, ea]
    · rw [upd_ne hb]
  rw [eu] at J
  exact J
end
abbrev nfE (name qual : Str) (params : Arguments) (body : List Stmt) (scope : Scope) (cc c : Addr) : NdefX.NF := ⟨name, qual, params, body, scope, [("__class__", cc)], c⟩
abbrev fdE (name qual : Str) (params : Arguments) (body : List Stmt) (scope : Scope) (cc c : Addr) (doc pm ct : Value) (an : Option Addr) : FuncData := PySem.W.fnX name qual params body scope [("__class__", cc)] .none .none doc pm an (.ref c) ct
theorem fn_exc {CX : CXT} {P : Program} {w : World} {K : PySem.W.Frag} {mg : Str → Option Value} {base : Heap} {k : Nat} {f c cc C : Addr} {name qual : Str} {params : Arguments} {rest : List Stmt} {scope : Scope} {doc pm ct : Value} {an : Option Addr} {N ps : List Str} {sp : Sp} {ar : Arg} {pl : Sem Bool}
    {p0 p1 p2 apos cpos pos : Pos} {j : Nat} {txt : Str}
    (F : ExF P K C f c cc (fdE name qual params (.Expr (.Call (.Attribute (.Call (.Name "super" p0) [] [] p1) "__init__" apos) [.Constant (.str txt) j p2] [] cpos) pos :: rest) scope cc c doc pm ct an))
    (hcd : PySem.W.codeIn K (.ref c) qual = true) (S : NdefX.NScope N ps ["__class__"] scope) (len : ∀ vs H Q E, sp vs H Q E → vs.length = ps.length) (hks : scope.names.lookup ("super" : Str) = some .globalImplicit)
    (hp : (params.posonlyargs ++ params.args).head? = some ar) (hN : N[0]? = some ar.arg) (hka : scope.names.lookup ar.arg = some .local) (hm : mg "super" = none)
    (hline : ∀ L : Addr, interactive (NdefX.envF (nfE name qual params (.Expr (.Call (.Attribute (.Call (.Name "super" p0) [] [] p1) "__init__" apos) [.Constant (.str txt) j p2] [] cpos) pos :: rest) scope cc c) f L) = false ∧ swapsWith (.Call (.Attribute (.Call (.Name "super" p0) [] [] p1) "__init__" apos) [.Constant (.str txt) j p2] [] cpos) none pos.line (NdefX.envF (nfE name qual params (.Expr (.Call (.Attribute (.Call (.Name "super" p0) [] [] p1) "__init__" apos) [.Constant (.str txt) j p2] [] cpos) pos :: rest) scope cc c) f L) = pure false ∧
      eval (.Call (.Attribute (.Call (.Name "super" p0) [] [] p1) "__init__" apos) [.Constant (.str txt) j p2] [] cpos) (NdefX.envF (nfE name qual params (.Expr (.Call (.Attribute (.Call (.Name "super" p0) [] [] p1) "__init__" apos) [.Constant (.str txt) j p2] [] cpos) pos :: rest) scope cc c) f L) = (do
        let ov ← attributeBase (.Call (.Name "super" p0) [] [] p1) "__init__" (NdefX.envF (nfE name qual params (.Expr (.Call (.Attribute (.Call (.Name "super" p0) [] [] p1) "__init__" apos) [.Constant (.str txt) j p2] [] cpos) pos :: rest) scope cc c) f L) (eval (.Call (.Name "super" p0) [] [] p1) (NdefX.envF (nfE name qual params (.Expr (.Call (.Attribute (.Call (.Name "super" p0) [] [] p1) "__init__" apos) [.Constant (.str txt) j p2] [] cpos) pos :: rest) scope cc c) f L))
        standAt apos.atName
        let (g, first) ← holding [ov] (getMethod ov "__init__" pl)
        callWith cpos g first (backTo cpos (starEach [.Constant (.str txt) j p2] (NdefX.envF (nfE name qual params (.Expr (.Call (.Attribute (.Call (.Name "super" p0) [] [] p1) "__init__" apos) [.Constant (.str txt) j p2] [] cpos) pos :: rest) scope cc c) f L))) []))
    (hbody : ∀ (A : Around) (outer : List Env) (s : Shared) (H : Hp) (vs : List V) (Q : VK) (E : XK), sp vs H Q E → ∃ a, vs[0]? = some (.ref a) ∧ H a = some (exo a C none) ∧
      ∃ t, PSs (NdefX.ncx CX P w K mg base N (nfE name qual params (.Expr (.Call (.Attribute (.Call (.Name "super" p0) [] [] p1) "__init__" apos) [.Constant (.str txt) j p2] [] cpos) pos :: rest) scope cc c) f A outer s H E) rest t ∧ t { nx := fun _ H' => Q .non H', rt := Q } (NdefX.startF N vs [none]) H) :
    FnOk P w K mg base CX (k + 1) f (fdE name qual params (.Expr (.Call (.Attribute (.Call (.Name "super" p0) [] [] p1) "__init__" apos) [.Constant (.str txt) j p2] [] cpos) pos :: rest) scope cc c doc pm ct an) ps sp := by
  refine ⟨len, fun A outer s H args us vs Q E hr e0 hb r hsp => ?_⟩
  obtain ⟨oc, od, osl, lk⟩ := F.fn
  obtain ⟨cl, cld, csl, hcell⟩ := F.cell
  have hl := len _ _ _ _ hsp
  have KX : K.In s.heap := e0.mod.kin.keeps fun b o e => (e0.bs b o e).1
  have lim : s.heap.NoLimit := e0.mod.nolimit.keeps fun b o e => (e0.bs b o e).1
  obtain ⟨a, h0, ea, t, ht, hq⟩ := hbody A outer s H vs Q E hsp
  have hcc := e0.mod.kin _ _ hcell
  have CA : NdefX.CellsAt [(("__class__" : Str), cc)] ["__class__"] [none] s.heap H := by
    have one : ∀ (y : Str) (c' : Addr), ([(("__class__" : Str), cc)] : List (Str × Addr)).lookup y = some c' → c' = cc ∧ y = "__class__" := fun y c' e => by
      simp only [List.lookup] at e
      split at e
      · rename_i q
        cases e
        exact ⟨rfl, by simpa using q⟩
      · cases e
    refine ⟨rfl, fun y c' e => ?_, fun x y c' e1 e2 => ?_, fun i y e => ?_⟩
    · obtain ⟨rfl, _⟩ := one y c' e
      exact ⟨(e0.bs _ _ hcc).2, _, _, (e0.bs _ _ hcc).1, rfl⟩
    · rw [(one x c' e1).2, (one y c' e2).2]
    · cases i with
      | zero =>
        simp at e
        subst e
        exact ⟨cc, by simp [List.lookup], fun v z => by simp at z⟩
      | succ i => simp at e
  refine ks_codeAny_call_defAt hr.depth (KX _ _ lk) rfl lim (PySem.W.codeRec_of KX hcd) rfl hb S.nocell (fun ⟨n, v⟩ hy => S.par n (List.of_mem_zip hy).1) (fun h₁ hns hk => ?_) S.co S.gen S.kind
  have I : L2.Inv (NdefX.ncx CX P w K mg base N (nfE name qual params (.Expr (.Call (.Attribute (.Call (.Name "super" p0) [] [] p1) "__init__" apos) [.Constant (.str txt) j p2] [] cpos) pos :: rest) scope cc c) f A outer s H E) [] (NdefX.startF N vs [none]) H { s with heap := h₁, toks := s.toks + (ps.zip us).length } := NdefX.inv_startN S hr.hd e0 hl r CA hns hk
  obtain ⟨hi, hs, hmc⟩ := hline s.heap.objs.size
  have hs0 : (NdefX.startF N vs [none])[0]? = some (some (.ref a)) := by
    unfold NdefX.startF
    cases vs with
    | nil => simp at h0
    | cons v vs => simp at h0; subst h0; simp
  refine ks_wpAt_execs_cons (ks_wpAt_mono (exc_first (X := NdefX.ncx CX P w K mg base N (nfE name qual params (.Expr (.Call (.Attribute (.Call (.Name "super" p0) [] [] p1) "__init__" apos) [.Constant (.str txt) j p2] [] cpos) pos :: rest) scope cc c) f A outer s H E) F I rfl rfl (by simp [NdefX.ncx, List.lookup]) hks (S.frk _ (by simp)) hp hN hka hs0 hm ea hi hs hmc rfl rfl) (fun fl s' z => ?_) fun e s' z => z)
  obtain ⟨rfl, J⟩ := z
  refine wpAt_of_wpAny (wpAny_mono (ht.run [] s' _ H _ J hq) (fun fl s2 hs2 => ?_) fun e s2 z => z)
  have fin : ∀ {σ' : L2.St} {H' : Hp} {v : V} {u : Value}, L2.Inv (NdefX.ncx CX P w K mg base N (nfE name qual params (.Expr (.Call (.Attribute (.Call (.Name "super" p0) [] [] p1) "__init__" apos) [.Constant (.str txt) j p2] [] cpos) pos :: rest) scope cc c) f A outer s H E) [] σ' H' s2 → L2.RelV v u → Q v H' → CE outer P w H s Q u s2 :=
    fun {σ' H' v u} J rv q => ⟨v, H', J.os, J.bare, J.base, J.hok, rv, q⟩
  cases fl with
  | ret u =>
    obtain ⟨v, σ', H', J, rv, q⟩ := hs2
    exact fin J rv q
  | next =>
    obtain ⟨σ', H', J, q⟩ := hs2
    exact fin (v := V.non) (u := Value.none) J rfl q
  | brk =>
    obtain ⟨_, _, _, q⟩ := hs2
    exact False.elim q
  | cont =>
    obtain ⟨_, _, _, q⟩ := hs2
    exact False.elim q
end W3
end

section
namespace W3
open PySem PySem.Spec PyProof.Rows PySem.W
open L2
theorem takesF0 {X : Cx} : L2N.Takes X (fun _ _ _ _ => False) := fun u s' ⟨_, _, _, _, _, _, _, _, _, _, _, _, _, _, _, _, w⟩ => False.elim w
end W3
end

section
namespace W3
open PySem PySem.Spec PyProof.Rows PySem.W
open L2
def spE1 (C : Addr) (f1 : Str) : Sp := fun vs H Q E => ∃ (a : Addr) (y1 : V), vs = [.ref a, y1] ∧ H a = some (exo a C none) ∧ ∀ dx, H dx = none → dx ≠ a → Q .non (upd (upd H dx (exd dx [(f1, y1)])) a (exo a C (some dx)))
def spE2 (C : Addr) (f1 f2 : Str) : Sp := fun vs H Q E => ∃ (a : Addr) (y1 y2 : V), vs = [.ref a, y1, y2] ∧ H a = some (exo a C none) ∧ ∀ dx, H dx = none → dx ≠ a → Q .non (upd (upd (upd H dx (exd dx [(f1, y1)])) a (exo a C (some dx))) dx (exd dx [(f2, y2), (f1, y1)]))
section
variable {X : Cx} {q1 q2 q3 q4 r1 r2 r3 r4 : Pos} {sf a1 a2 f1 f2 : Str} {C : Addr}
theorem body1 {σ : L2.St} {H : Hp} {D : Ends} (T : OexC X.K C) (n1 : PySem.W.findIn X.K (.ref C) f1 = some none) (hN0 : X.N[0]? = some sf) (hN1 : X.N[1]? = some a1) (v0 : Vis X.env.scope sf) (v1 : Vis X.env.scope a1) (hd0 : (sf == ("__debug__" : Str)) = false) (hc0 : (sf == ("__classdict__" : Str)) = false) (hd1 : (a1 == ("__debug__" : Str)) = false) (hc1 : (a1 == ("__classdict__" : Str)) = false)
    (hs : swapsWith (.Name a1 q3) (some (.Attribute (.Name sf q1) f1 q2)) q4.line X.env = pure false) {a : Addr} {y1 : V} (e0 : σ[0]? = some (some (.ref a))) (e1 : σ[1]? = some (some y1)) (ea : H a = some (exo a C none)) (q : ∀ dx, H dx = none → dx ≠ a → D.nx σ (upd (upd H dx (exd dx [(f1, y1)])) a (exo a C (some dx)))) :
    ∃ t, PSs X [.Assign [.Attribute (.Name sf q1) f1 q2] (.Name a1 q3) q4] t ∧ t D σ H :=
  ⟨_, pss_one (ps_ost (pe_var (i := 0) hN0 v0 hd0 hc0) (pe_var (i := 1) hN1 v1 hd1 hc1) hs), ⟨y1, e1, .ref a, e0, a, C, rfl, T, n1, .inl ⟨ea, q⟩⟩⟩
theorem body2 {σ : L2.St} {H : Hp} {D : Ends} (T : OexC X.K C) (n1 : PySem.W.findIn X.K (.ref C) f1 = some none) (n2 : PySem.W.findIn X.K (.ref C) f2 = some none) (hN0 : X.N[0]? = some sf) (hN1 : X.N[1]? = some a1) (hN2 : X.N[2]? = some a2) (v0 : Vis X.env.scope sf) (v1 : Vis X.env.scope a1) (v2 : Vis X.env.scope a2)
    (hd0 : (sf == ("__debug__" : Str)) = false) (hc0 : (sf == ("__classdict__" : Str)) = false) (hd1 : (a1 == ("__debug__" : Str)) = false) (hc1 : (a1 == ("__classdict__" : Str)) = false) (hd2 : (a2 == ("__debug__" : Str)) = false) (hc2 : (a2 == ("__classdict__" : Str)) = false)
    (hs : swapsWith (.Name a1 q3) (some (.Attribute (.Name sf q1) f1 q2)) q4.line X.env = pure false) (hs2 : swapsWith (.Name a2 r3) (some (.Attribute (.Name sf r1) f2 r2)) r4.line X.env = pure false) {a : Addr} {y1 y2 : V} (e0 : σ[0]? = some (some (.ref a))) (e1 : σ[1]? = some (some y1)) (e2 : σ[2]? = some (some y2)) (ea : H a = some (exo a C none))
    (q : ∀ dx, H dx = none → dx ≠ a → D.nx σ (upd (upd (upd H dx (exd dx [(f1, y1)])) a (exo a C (some dx))) dx (exd dx [(f2, y2), (f1, y1)]))) :
    ∃ t, PSs X [.Assign [.Attribute (.Name sf q1) f1 q2] (.Name a1 q3) q4, .Assign [.Attribute (.Name sf r1) f2 r2] (.Name a2 r3) r4] t ∧ t D σ H := by
  refine ⟨_, pss_cons (ps_ost (pe_var (i := 0) hN0 v0 hd0 hc0) (pe_var (i := 1) hN1 v1 hd1 hc1) hs) (pss_one (ps_ost (pe_var (i := 0) hN0 v0 hd0 hc0) (pe_var (i := 2) hN2 v2 hd2 hc2) hs2)), ⟨y1, e1, .ref a, e0, a, C, rfl, T, n1, .inl ⟨ea, fun dx hn hne => ?_⟩⟩⟩
  refine ⟨y2, e2, .ref a, e0, a, C, rfl, T, n2, .inr ⟨dx, [(f1, y1)], upd_same, ?_, by simp, q dx hn hne⟩⟩
  rw [upd_ne hne, upd_same]
end
def ssRaiseX (c : Str) (ns : List Str) (a : SA) : SS := fun σ h => (a σ h).flo σ fun xs h1 => if xs.length = ns.length then .exc c (ns.zip xs).reverse σ h1 else .stk
section
variable {X : Cx} {P : Pq} {W : WX} {e : Expr} {es : List Expr} {ar : SA} {x : Str} {C fI : Addr} {k : Nat} {fd : FuncData} {ps : List Str} {p pos pos' : Pos}
end
end W3
end

section
namespace W3
open PySem PySem.Spec PyProof.Rows
open L2
abbrev Tsu := Addr → Value → Option Addr → TS
inductive HdsA (X : Cx) : List ExceptHandler → List (Value × Option Nat × Tsu) → Prop
  | nil : HdsA X [] []
  | cons {x : Str} {c : Value} {ts : Tsu} {b₀ : Stmt} {suite : List Stmt} {np pos' : Pos} {hds : List ExceptHandler} {l : List (Value × Option Nat × Tsu)} (hc : Names X x c)
      (hsu : ∀ (a : Addr) (oe : Obj) (cls : Value) (d : Option Addr) (pn : List (Addr × Obj)), L2N.Zn cls d oe → (∃ vs, oe.data = .fields vs) → PSs (X.suite a ((a, oe) :: pn)) (b₀ :: suite) (ts a cls d)) (r : HdsA X hds l) :
      HdsA X (.ExceptHandler (some (.Name x np)) none (b₀ :: suite) pos' :: hds) ((c, none, ts) :: l)
  | cas {x n : Str} {i : Nat} {c : Value} {ts : Tsu} {b₀ : Stmt} {suite : List Stmt} {np pos' : Pos} {hds : List ExceptHandler} {l : List (Value × Option Nat × Tsu)} (hi : X.N[i]? = some n) (hln : X.env.kindOf n = some .local) (hc : Names X x c)
      (hsu : ∀ (a : Addr) (oe : Obj) (cls : Value) (d : Option Addr) (pn : List (Addr × Obj)), L2N.Zn cls d oe → (∃ vs, oe.data = .fields vs) → PSs (X.suite a ((a, oe) :: pn)) (b₀ :: suite) (ts a cls d)) (r : HdsA X hds l) :
      HdsA X (.ExceptHandler (some (.Name x np)) (some n) (b₀ :: suite) pos' :: hds) ((c, some i, ts) :: l)
section
variable {X : Cx} {body : List Stmt} {h₀ : ExceptHandler} {hds : List ExceptHandler} {l : List (Value × Option Nat × Tsu)} {pos : Pos} {tb : WX → TS} {Wout : WX}
end
abbrev XSub := List (Str × List Str)
structure Hdl where
  x : Str
  sl : Option Nat
  k : Str → List (Str × T) → SS
def clrF : Option Nat → Flo → Flo
  | none, .exc _ _ _ _ => .stk
  | none, r => r
  | some i, .nx σ h => .nx (σ.set i none) h
  | some i, .bk σ h => .bk (σ.set i none) h
  | some i, .ct σ h => .ct (σ.set i none) h
  | some _, .rt t h => .rt t h
  | some _, _ => .stk
def slSet : Option Nat → St3 → St3 | none, σ => σ | some i, σ => σ.set i none
def tryGo (XS : XSub) : List Hdl → Str → List (Str × T) → SS
  | [], c, fs => fun σ h => .exc c fs σ h
  | hd :: r, c, fs => fun σ h => match XS.lookup c with
    | none => .stk
    | some ss => if ss.contains hd.x then clrF hd.sl (hd.k c fs (slSet hd.sl σ) h) else tryGo XS r c fs σ h
def ssTryX (XS : XSub) (a : SS) (hs : List Hdl) : SS := fun σ h => match a σ h with
  | .exc c fs σ1 h1 => tryGo XS hs c fs σ1 h1
  | r => r
def tH (K : PySem.W.Frag) (mg : Str → Option Value) (wd : World) (sl : Option Nat) (a : Addr) (c : Str) (fs : List (Str × T)) (cls : Value) (d : Option Addr) (ss : SS) : TS := fun D σV H =>
  ∃ m h σ, At K mg wd PqT m H σV σ h ∧ (∀ i, sl = some i → i < σV.length → σV[i]? = some (some (.ref a))) ∧ XR K mg m H c fs cls d ∧ OutS K mg wd WF D m H (ss σ h)
def HOk (X : Cx) (XS : XSub) (sl : Option Nat) (suite : List Stmt) (k : Str → List (Str × T) → SS) : Prop := ∀ (a : Addr) (oe : Obj) (cls : Value) (d : Option Addr) (pn : List (Addr × Obj)) (c : Str) (ss : List Str) (fs : List (Str × T)), L2N.Zn cls d oe → (∃ vs, oe.data = .fields vs) → XS.lookup c = some ss → X.mg c = some cls →
  PSs (X.suite a ((a, oe) :: pn)) suite (tH X.K X.mg X.w sl a c fs cls d (k c fs))
def Catches (X : Cx) (XS : XSub) (x : Str) (cv : Value) : Prop := ∀ c ss cls, XS.lookup c = some ss → X.mg c = some cls → PySem.W.exmOne X.K cls cv = some (ss.contains x)
inductive DHs (X : Cx) (XS : XSub) : List ExceptHandler → List Hdl → Prop
  | nil : DHs X XS [] []
  | cons {x : Str} {cv : Value} {b₀ : Stmt} {suite : List Stmt} {np pos' : Pos} {hds : List ExceptHandler} {l : List Hdl} {k : Str → List (Str × T) → SS} (hc : Names X x cv) (hx : Catches X XS x cv) (hk : HOk X XS none (b₀ :: suite) k) (r : DHs X XS hds l) :
      DHs X XS (.ExceptHandler (some (.Name x np)) none (b₀ :: suite) pos' :: hds) (⟨x, none, k⟩ :: l)
  | cas {x n : Str} {i : Nat} {cv : Value} {b₀ : Stmt} {suite : List Stmt} {np pos' : Pos} {hds : List ExceptHandler} {l : List Hdl} {k : Str → List (Str × T) → SS} (hi : X.N[i]? = some n) (hln : X.env.kindOf n = some .local) (hc : Names X x cv) (hx : Catches X XS x cv)
      (hk : HOk X XS (some i) (b₀ :: suite) k) (r : DHs X XS hds l) :
      DHs X XS (.ExceptHandler (some (.Name x np)) (some n) (b₀ :: suite) pos' :: hds) (⟨x, some i, k⟩ :: l)
section
variable {X : Cx} {P : Pq} {W : WX}
end
end W3
end

section
namespace PySem.W
open PySem PySem.Spec PySem.Calls PyProof.Rows
section
variable {prog : Program} {w : World} {A : Around} {E : Value → Shared → Prop} {s : Shared} {K : Frag} {x D : Addr} {ox : Obj} {od : Option Obj}
theorem findObj_dataW {C : Addr} {name : Str} {a g : Value} (hc : (clsIn K C).isSome = true) (ha : findIn K (.ref C) name = some (some a)) (hg : specialIn K a "__get__" = some (some g)) (ht : takesIn K a = some true) : findObj K C od name = some (.bind g a) := by
  obtain ⟨cd, hc⟩ := Option.isSome_iff_exists.mp hc
  unfold findObj
  rw [hc, Option.bind_some, ha, Option.bind_some]
  simp [hg, ht]
theorem kin_classW {Q : Option Value → Shared → Prop} (hga : findIn K (.ref D) "__getattribute__" = some (some (.builtin "BaseException.__getattribute__"))) (hgt : findIn K (.ref D) "__getattr__" = some none) (hsub : subIn K (.ref D) (.type "BaseException") = some true)
    (hdct : hasDictIn K D = true) (ha : findIn K (.ref D) "__class__" = some (some (.builtin "object.__class__")))
    (hn : specialIn K (.builtin "object.__class__") "__get__" = some (some (.builtin "getset_descriptor.__get__"))) (htk : takesIn K (.builtin "object.__class__") = some true) (hm : mroIn K D (.type "object") = some true)
    (X : K.In s.heap) (I : InstAt s.heap x ox D od) (h : Q (some (.ref D)) { s with toks := s.toks + 1 }) : wpAny (model prog w) A (getAttr? (.ref x) "__class__") Q E s := by
  have hf : findObj K D od "__class__" = some (.bind (.builtin "getset_descriptor.__get__") (.builtin "object.__class__")) := findObj_dataW (by obtain ⟨cd, hc, _⟩ := any_some hdct; rw [hc]; rfl) ha hn htk
  obtain ⟨hp, g, d, t, os⟩ := s
  have L0 := I.type (M := model prog w)
  have L1 := looks_findIn (M := model prog w) X hga
  have L2 := looks_findIn (M := model prog w) X hgt
  have L3 := looks_find (M := model prog w) X I hf
  have sub : Looks (model prog w) hp (isInstance (.ref x) (.type "BaseException")) true := L0.andThen (looks_subIn X hsub)
  have hx0 : (false && onTheHeap (Value.builtin "BaseException.__getattribute__")) = false := rfl
  have hx2 : (Value.builtin "BaseException.__getattribute__" == Value.builtin "object.__getattribute__") = false := by decide +kernel
  have hx1 : (onTheHeap (Value.ref D) && Value.builtin "BaseException.__getattribute__" == Value.builtin "object.__getattribute__") = false := by rw [hx2]; rfl
  unfold getAttr? getAttrBy? getAttrBy
  refine wpAny_bind (wpAny_mkText (wpAny_bind (wpAny_attempt (wpAny_holding (wpAny_bind (L0.at (wpAny_bind (L1.at ?_))))))))
  show wpAny _ _ (if (onTheHeap (Value.ref D) && Value.builtin "BaseException.__getattribute__" == Value.builtin "object.__getattribute__") = true then _ else _) _ _ _
  rw [hx1, if_neg Bool.false_ne_true]
  unfold getAttrByItsOwn hookBefore
  refine wpAny_bind ?_
  rw [if_pos (show onTheHeap (Value.ref D) = true from rfl)]
  refine L2.at ?_
  refine wpAny_bind (wpAny_attempt (wpAny_holding ?_))
  unfold callGetattribute
  rw [hx0, if_neg Bool.false_ne_true]
  unfold boundAndCalled
  rw [PySem.F.excAttr_ValueError.ga.bind (.ref x)]
  refine wpAny_bind (wpAny_pure ?_)
  show wpAny _ _ (call (.builtin "BaseException.__getattribute__") [.ref x, .str "__class__" t]) _ _ _
  refine wpAny_call (codeAny_call_builtin PySem.F.excAttr_ValueError.ga.plain PySem.F.entry_bexc_ga ?_)
  refine @check_slot (model prog w) _ _ ⟨hp, g, d, t + 1, os⟩ "BaseException.__getattribute__" "BaseException" "__getattribute__" (.ref x) [.str "__class__" t] [] _ (by decide +kernel) (by decide +kernel) sub (PySem.F.args_bexc_ga (.ref x) (.str "__class__" t)) ?_
  unfold Builtin.«object.__getattribute__»
  refine wpAny_bind (wpAny_of_eq (a := ((Value.ref x : Value), [Value.str "__class__" t])) (by first | rfl | (simp only [slotArgs]; rfl)) ?_)
  refine wpAny_bind (wpAny_pure (wpAny_bind (L0.at (wpAny_bind (L3.at ?_)))))
  show wpAny _ _ (holding [Value.builtin "object.__class__"] (call (.builtin "getset_descriptor.__get__") [.builtin "object.__class__", .ref x, .ref D]) >>= ret) _ _ _
  refine wpAny_bind (wpAny_holding (wpAny_call (class_get (s := ⟨hp, g, d, t + 1, os⟩) (ox := ox) (od := od) X I hm ?_)))
  refine wpAny_pure ?_
  show wpAny _ _ (handedOut (.ref D)) _ _ _
  rw [handedOut_of (v := .ref D) rfl]
  first
    | exact wpAny_pure (wpAny_pure h)
    | exact wpAny_pure h
    | exact wpAny_pure (wpAny_bind (wpAny_pure (wpAny_pure h)))
theorem kitx_excW (hga : findIn K (.ref D) "__getattribute__" = some (some (.builtin "BaseException.__getattribute__"))) (hgt : findIn K (.ref D) "__getattr__" = some none) (hsub : subIn K (.ref D) (.type "BaseException") = some true) (hdct : hasDictIn K D = true) (ha : findIn K (.ref D) "__class__" = some (some (.builtin "object.__class__")))
    (hn : specialIn K (.builtin "object.__class__") "__get__" = some (some (.builtin "getset_descriptor.__get__"))) (htk : takesIn K (.builtin "object.__class__") = some true) (hm : mroIn K D (.type "object") = some true) :
    KitX K (.ref x) (.ref D) (fun h => InstAt h x ox D od) where
  ty := fun _ _ _ I => I.type
  it := fun _ _ X _ => by
    obtain ⟨cdD, hcD, _⟩ := any_some hdct
    unfold clsIn at hcD
    split at hcD
    · rename_i c' d' cd' sl' ho
      intro A' Q' E' s' k q
      unfold isType loadHead
      exact wpAny_bind (wpAny_loadPart (k _ _ (X _ _ ho)) (wpAny_pure q))
    · cases hcD
  ne := fun h tp dd its n sl X htp => by
    obtain ⟨cdD, hcD, _⟩ := any_some hdct
    refine Bool.eq_false_iff.mpr fun q => ?_
    have e : D = tp := Value.ref.inj (beq_iff_eq.mp q)
    subst e
    unfold clsIn at hcD
    split at hcD
    · rename_i c' d' cd' sl' ho
      have z := (X _ _ ho).symm.trans htp
      cases z
    · cases hcD
  ca := fun X I k => kin_classW hga hgt hsub hdct ha hn htk hm X I k
end
end PySem.W
namespace W3
open PySem PySem.Spec PyProof.Rows
open L2
def sXf (fs : List (Str × T)) (f : Str) : SE := fun _ h => match fs.lookup f with | some t => .ok t h | none => .stk
section
variable {X : Cx} {a : Addr} {oe : Obj} {pn : List (Addr × Obj)} {sl : Option Nat} {c : Str} {fs : List (Str × T)} {cls : Value} {d : Option Addr} {e : Expr} {es : List Expr} {se : SE} {ar : SA} {pos p p1 p2 : Pos}
theorem XR.ext {m m' : Mp} {H H' : Hp} (x : XR X.K X.mg m H c fs cls d) (E : Ext m H m' H') : XR X.K X.mg m' H' c fs cls d := by
  refine ⟨x.1, ?_⟩
  rcases x.2 with z | ⟨dd, fv, h1, h2, h3⟩
  · exact .inl z
  · exact .inr ⟨dd, fv, h1, E.xds _ _ h2, h3.ext E⟩
end
section
variable {X : Cx} {XS : XSub} {sl : Option Nat} {e : Expr} {pos py : Pos}
end
end W3
end

section
namespace W3
open PySem PySem.Spec PyProof.Rows
open L2
theorem bindsE {K : PySem.W.Frag} {fd : FuncData} {ps : List Str} (h : ∀ us : List Value, us.length = ps.length → bindArgs fd ⟨us, []⟩ = pure (ps.zip us)) : Binds K fd ps [] := by
  intro s us _ hl
  rw [List.append_nil] at hl ⊢
  exact .of_eq (h us hl)
abbrev envE (name qual : Str) (st : Stmt) (cc c f L : Addr) : Env := NdefX.envF (nfE name qual (defArgs st) (defBody st) (defScope st) cc c) f L
abbrev supS (p0 p1 p2 apos cpos pos : Pos) (j : Nat) (txt : Str) : Stmt := .Expr (.Call (.Attribute (.Call (.Name "super" p0) [] [] p1) "__init__" apos) [.Constant (.str txt) j p2] [] cpos) pos
abbrev stoS (sf f1 a1 : Str) (q1 q2 q3 q4 : Pos) : Stmt := .Assign [.Attribute (.Name sf q1) f1 q2] (.Name a1 q3) q4
def LineE (name qual : Str) (st : Stmt) (cc c f : Addr) (p0 p1 p2 apos cpos pos : Pos) (j : Nat) (txt : Str) (pl : Sem Bool) : Prop := ∀ L : Addr, interactive (envE name qual st cc c f L) = false ∧
  swapsWith (.Call (.Attribute (.Call (.Name "super" p0) [] [] p1) "__init__" apos) [.Constant (.str txt) j p2] [] cpos) none pos.line (envE name qual st cc c f L) = pure false ∧
  eval (.Call (.Attribute (.Call (.Name "super" p0) [] [] p1) "__init__" apos) [.Constant (.str txt) j p2] [] cpos) (envE name qual st cc c f L) = (do
    let ov ← attributeBase (.Call (.Name "super" p0) [] [] p1) "__init__" (envE name qual st cc c f L) (eval (.Call (.Name "super" p0) [] [] p1) (envE name qual st cc c f L))
    standAt apos.atName
    let (g, first) ← holding [ov] (getMethod ov "__init__" pl)
    callWith cpos g first (backTo cpos (starEach [.Constant (.str txt) j p2] (envE name qual st cc c f L))) [])
theorem exc_ok1 {P : Program} {w : World} {K : PySem.W.Frag} {mg : Str → Option Value} {base : Heap} {f c cc C : Addr} {st : Stmt} {name qual sf a1 f1 txt : Str} {doc pm ct : Value} {an : Option Addr} {ar : Arg} {pl : Sem Bool} {p0 p1 p2 apos cpos pos q1 q2 q3 q4 : Pos} {j : Nat}
    (F : ExF P K C f c cc (fdE name qual (defArgs st) (defBody st) (defScope st) cc c doc pm ct an)) (hb : defBody st = [supS p0 p1 p2 apos cpos pos j txt, stoS sf f1 a1 q1 q2 q3 q4]) (hcd : PySem.W.codeIn K (.ref c) qual = true)
    (S : NdefX.NScope [sf, a1, "__class__"] [sf, a1] ["__class__"] (defScope st)) (hks : (defScope st).names.lookup ("super" : Str) = some .globalImplicit) (hp : ((defArgs st).posonlyargs ++ (defArgs st).args).head? = some ar) (har : ar.arg = sf) (hm : mg "super" = none) (hline : LineE name qual st cc c f p0 p1 p2 apos cpos pos j txt pl)
    (n1 : PySem.W.findIn K (.ref C) f1 = some none) (hs1 : ∀ L, swapsWith (.Name a1 q3) (some (.Attribute (.Name sf q1) f1 q2)) q4.line (envE name qual st cc c f L) = pure false)
    (hd0 : (sf == ("__debug__" : Str)) = false := by decide) (hc0 : (sf == ("__classdict__" : Str)) = false := by decide) (hd1 : (a1 == ("__debug__" : Str)) = false := by decide) (hc1 : (a1 == ("__classdict__" : Str)) = false := by decide) :
    FnOk P w K mg base (L2N.CX P w) 1 f (fdE name qual (defArgs st) (defBody st) (defScope st) cc c doc pm ct an) [sf, a1] (spE1 C f1) := by
  unfold LineE at hline
  simp only [hb] at F hline hs1 ⊢
  refine fn_exc (k := 0) (pl := pl) F hcd S (fun vs H Q E ⟨a, y1, e, _⟩ => by rw [e]; rfl) hks hp (by rw [har]; rfl) (by rw [har]; exact S.par _ (by simp)) hm hline ?_
  rintro A outer s H vs Q E ⟨a, y1, rfl, ea, q⟩
  exact ⟨a, rfl, ea, body1 F.oex n1 rfl rfl (.inl (S.par _ (by simp))) (.inl (S.par _ (by simp))) hd0 hc0 hd1 hc1 (hs1 _) rfl rfl ea q⟩
theorem exc_ok2 {P : Program} {w : World} {K : PySem.W.Frag} {mg : Str → Option Value} {base : Heap} {f c cc C : Addr} {st : Stmt} {name qual sf a1 f1 a2 f2 txt : Str} {doc pm ct : Value} {an : Option Addr} {ar : Arg} {pl : Sem Bool} {p0 p1 p2 apos cpos pos q1 q2 q3 q4 r1 r2 r3 r4 : Pos} {j : Nat}
    (F : ExF P K C f c cc (fdE name qual (defArgs st) (defBody st) (defScope st) cc c doc pm ct an)) (hb : defBody st = [supS p0 p1 p2 apos cpos pos j txt, stoS sf f1 a1 q1 q2 q3 q4, stoS sf f2 a2 r1 r2 r3 r4]) (hcd : PySem.W.codeIn K (.ref c) qual = true)
    (S : NdefX.NScope [sf, a1, a2, "__class__"] [sf, a1, a2] ["__class__"] (defScope st)) (hks : (defScope st).names.lookup ("super" : Str) = some .globalImplicit) (hp : ((defArgs st).posonlyargs ++ (defArgs st).args).head? = some ar) (har : ar.arg = sf) (hm : mg "super" = none) (hline : LineE name qual st cc c f p0 p1 p2 apos cpos pos j txt pl)
    (n1 : PySem.W.findIn K (.ref C) f1 = some none) (n2 : PySem.W.findIn K (.ref C) f2 = some none) (hs1 : ∀ L, swapsWith (.Name a1 q3) (some (.Attribute (.Name sf q1) f1 q2)) q4.line (envE name qual st cc c f L) = pure false) (hs2 : ∀ L, swapsWith (.Name a2 r3) (some (.Attribute (.Name sf r1) f2 r2)) r4.line (envE name qual st cc c f L) = pure false)
    (hd0 : (sf == ("__debug__" : Str)) = false := by decide) (hc0 : (sf == ("__classdict__" : Str)) = false := by decide) (hd1 : (a1 == ("__debug__" : Str)) = false := by decide) (hc1 : (a1 == ("__classdict__" : Str)) = false := by decide) (hd2 : (a2 == ("__debug__" : Str)) = false := by decide) (hc2 : (a2 == ("__classdict__" : Str)) = false := by decide) :
    FnOk P w K mg base (L2N.CX P w) 1 f (fdE name qual (defArgs st) (defBody st) (defScope st) cc c doc pm ct an) [sf, a1, a2] (spE2 C f1 f2) := by
  unfold LineE at hline
  simp only [hb] at F hline hs1 hs2 ⊢
  refine fn_exc (k := 0) (pl := pl) F hcd S (fun vs H Q E ⟨a, y1, y2, e, _⟩ => by rw [e]; rfl) hks hp (by rw [har]; rfl) (by rw [har]; exact S.par _ (by simp)) hm hline ?_
  rintro A outer s H vs Q E ⟨a, y1, y2, rfl, ea, q⟩
  exact ⟨a, rfl, ea, body2 F.oex n1 n2 rfl rfl rfl (.inl (S.par _ (by simp))) (.inl (S.par _ (by simp))) (.inl (S.par _ (by simp))) hd0 hc0 hd1 hc1 hd2 hc2 (hs1 _) (hs2 _) rfl rfl rfl ea q⟩
def XfAll (K : PySem.W.Frag) (mg : Str → Option Value) (XS : XSub) (FL : List Str) : Prop := ∀ c ss cls, XS.lookup c = some ss → mg c = some cls → ∃ C, cls = .ref C ∧ XfC K C ∧ ExcC K C ∧ ∀ f ∈ FL, PySem.W.findIn K (.ref C) f = some none
def IsAll (K : PySem.W.Frag) (mg : Str → Option Value) (XS : XSub) (x : Str) (cv : Addr) : Prop := ∀ c ss cls C, XS.lookup c = some ss → mg c = some cls → cls = .ref C → PySem.W.kitOne K (.ref C) (.ref cv) = some (ss.contains x)
section
variable {X : Cx} {XS : XSub} {sl : Option Nat} {i : Nat} {n f x : Str} {FL : List Str} {p p1 p2 pos : Pos} {e : Expr} {es : List Expr} {se : SE} {sx : Str → List (Str × T) → SE} {ar : Str → List (Str × T) → SA}
end
end W3
end

section
namespace W3
open PySem PySem.Spec PyProof.Rows
open L2
def XAll (P : Str → List Str → Prop) : XSub → Prop
  | [] => True
  | (c, ss) :: r => P c ss ∧ XAll P r
theorem XAll.look {P : Str → List Str → Prop} : ∀ {XS : XSub}, XAll P XS → ∀ {c ss}, XS.lookup c = some ss → P c ss
  | [], _, _, _, e => by simp at e
  | (c, ss) :: r, h, c', ss', e => by
    simp only [List.lookup] at e
    split at e
    · rename_i q
      cases e
      obtain rfl : c' = c := by simpa using q
      exact h.1
    · exact h.2.look e
theorem xfall_of {K : PySem.W.Frag} {mg : Str → Option Value} {XS : XSub} {FL : List Str} (h : XAll (fun c ss => ∃ C, mg c = some (.ref C) ∧ XfC K C ∧ ExcC K C ∧ ∀ f ∈ FL, PySem.W.findIn K (.ref C) f = some none) XS) : XfAll K mg XS FL := fun c ss cls hl hm => by
  obtain ⟨C, h1, h2⟩ := h.look hl
  rw [hm] at h1; cases h1; exact ⟨C, rfl, h2⟩
end W3
end

section
namespace W3
open PySem PySem.Spec PyProof.Rows
open L2
def dicB (h : Hh) : T → Bool | .ref l => (match h[l]? with | some (.dic []) => true | _ => false) | _ => false
def oNeD (x y : T) (h : Hh) : Res T := if dicB h x = true ∧ dicB h y = true then .ok (.bl false) h else oNe x y h
section
variable {X : Cx}
end
def bIntB (xs : List T) (h : Hh) : Res T :=
  match xs with
  | [.int i] => .ok (.int i) h
  | [.bl b] => .ok (.int (if b then 1 else 0)) h
  | _ => .stk
@[simp] theorem e_intB_b (b : Bool) (h : Hh) : bIntB [.bl b] h = .ok (.int (if b then 1 else 0)) h := Eq.trans rfl rfl
@[simp] theorem e_intB_i (i : Int) (h : Hh) : bIntB [.int i] h = .ok (.int i) h := Eq.trans rfl rfl
end W3
end

section
namespace W3
open PySem PySem.Spec PyProof.Rows
open L2
section
variable {X : Cx} {XS : XSub} {sl : Option Nat} {e1 e2 : Expr} {pos p1 p2 : Pos} {rest : List Stmt}
end
section
variable {X : Cx} {XS : XSub} {i q : Nat} {n x1 x2 : Str} {FL : List Str} {p p1 p2 p3 tpos pos : Pos}
end
end W3
end

section
namespace L2
open PySem PySem.Spec PyProof.Rows
theorem tuple_mul1W (l : Addr) (items : Array Value) (n : Nat) (dd : Option Addr) (sl : Array (Option Value)) (u : Tok) :
    Meets (Builtin.«tuple.__mul__» ⟨[.ref l, .int 1 u], []⟩) (fun _ R s => s.heap.get? l = some { cls := .type "tuple", dict := dd, data := .seq items n, slots := sl } ∧ R (.ok (.ret (Value.ref l))) s) :=
  .of_wp fun prog w A R s h => by
    obtain ⟨hp, g, d, tk, os⟩ := s
    obtain ⟨hl, h⟩ := h
    have f1 := AutoSeq1.idx_int
    have c1 : (items.isEmpty || (1 : Int) == 1) = true := by simp
    wp_walk using wpAny_loadPart' hl
    repeat (first
      | (refine wpAny_ite_false (decide_eq_false (by decide)) ?_; wp_walk using wpAny_loadPart' hl)
      | (refine wpAny_ite_true (decide_eq_true (by rw [c1])) ?_; wp_walk using wpAny_loadPart' hl))
    exact ⟨_, rfl, h⟩
end L2
namespace L2
open PySem PySem.Spec PyProof.Rows
section
variable {X : Cx}
theorem op_repT1 : OpR X (binaryOp .Mult) (fun x y H Q => ∃ l xs, x = .ref l ∧ y = .int 1 ∧ SqT X.K H l xs ∧ Q (.ref l) H) := by
  intro pins s σ H x y v u Q I rx ry h
  obtain ⟨l, xs, rfl, rfl, hT, q⟩ := h
  cases rx
  obtain ⟨t, rfl⟩ := ry
  obtain ⟨its, r, ⟨⟨cls, dd, data, sl⟩, ho, hc, n, hd⟩, hs⟩ := I.tuple hT
  simp only at hc hd
  subst hc hd
  refine wpAny_binaryOp_repeat_ref (T := "tuple") (U := "int") (by decide) ⟨_, ho, rfl⟩ (fun s' => typeIs_int s' 1 t) noFill_tuple_mul F.fills_int_mul F.slot_int_rmul repeat_tuple F.slot_int_index.lookup
    (call_meets F.slot_int_rmul (typeIs_int s 1 t) F.entry_int_rmul (F.args_int_rmul_2 _ _) (int_rmul_tuple 1 t l its.toArray n dd sl)
      ⟨ho, rfl, ⟨_, ho, rfl⟩, call_meets F.slot_tuple_mul ⟨_, ho, rfl⟩ F.entry_tuple_mul (F.args_tuple_mul_2 _ _) (tuple_mul1W l its.toArray n dd sl t) ⟨ho, ?_⟩⟩)
  exact ⟨.ref l, H, I, rfl, q⟩
end
end L2
namespace W3
open PySem PySem.Spec PyProof.Rows
open L2
noncomputable def oMulT (x y : T) (h : Hh) : Res T :=
  match x, y with
  | .tup ts, .int k => if ts ≠ [] ∧ 1 ≤ k ∧ k ≤ 1000 ∧ ts.length ≤ 1000 then .ok (.tup (List.replicate k.toNat ts).flatten) h else .stk
  | x, y => oMul x y h
theorem nx_mulT : NoX2 oMulT := fun x y h c fs h' e => by
  unfold oMulT at e
  split at e
  · split at e <;> cases e
  · exact nx_mul _ _ h c fs h' e
theorem RTs.app {K : PySem.W.Frag} {mg : Str → Option Value} {m : Mp} {H : Hp} : ∀ {ts : List T} {vs : List V} {ts' : List T} {vs' : List V}, RTs K mg m H ts vs → RTs K mg m H ts' vs' → RTs K mg m H (ts ++ ts') (vs ++ vs')
  | _, _, _, _, .nil, r => r
  | _, _, _, _, .cons a b, r => .cons a (RTs.app b r)
theorem RTs.rep {K : PySem.W.Frag} {mg : Str → Option Value} {m : Mp} {H : Hp} {ts : List T} {vs : List V} (r : RTs K mg m H ts vs) : ∀ k, RTs K mg m H (List.replicate k ts).flatten (List.replicate k vs).flatten
  | 0 => .nil
  | k + 1 => by
    rw [List.replicate_succ, List.replicate_succ, List.flatten_cons, List.flatten_cons]
    exact RTs.app r (r.rep k)
theorem os_mulT {X : Cx} : OpR X (binaryOp .Mult) (rP2 X.K X.mg X.w oMulT) := by
  intro pins s σ H x y v u Q I rx ry ⟨m, h, tx, ty, r1, r2, R, o⟩
  unfold oMulT at o
  split at o
  · split at o
    · rename_i ts k hk
      obtain ⟨k0, k1, k2, k3⟩ := hk
      cases r2
      cases r1 with
      | @tup a vs _ hq rr =>
        have hl := rr.length
        by_cases e1 : k = 1
        · subst e1
          have e2 : (List.replicate (1 : Int).toNat ts).flatten = ts := by simp
          rw [e2] at o
          exact op_repT1 pins s σ H _ _ v u Q I rx ry ⟨a, vs, rfl, rfl, hq, o _ m H (Ext.refl _ _) (.tup hq rr) R⟩
        · refine op_repN pins s σ H _ _ v u Q I rx ry ⟨a, k, vs, rfl, rfl, hq, fun e => k0 (by cases rr with | nil => rfl | cons _ _ => cases e), by omega, k2, by omega, fun p ob hp hd => OutP.newTup R (rr.rep k.toNat) o hp hd⟩
    · exact False.elim o
  · exact os_mul pins s σ H x y v u Q I rx ry ⟨m, h, _, _, r1, r2, R, o⟩
@[simp] theorem e_mulT_i (i : Int) (y : T) (h : Hh) : oMulT (.int i) y h = oMul (.int i) y h := by unfold oMulT; rfl
end W3
end

section
namespace W3
open PySem PySem.Spec PyProof.Rows
open L2
abbrev SGH := T → St3 → Hh → Option St3
def sgLst (n : Nat) (g : SGs) : SGH := fun t σ h => match t with
  | .ref l => match lstAt h l with | some ts => if ts.length = n then g ts σ else none | none => none
  | _ => none
def forRunH (s : Src) (g : SGH) (b : SS) : Nat → Nat → St3 → Hh → Flo
  | k, i, σ, h => match s.at h i with
    | none => .stk
    | some none => .nx σ h
    | some (some x) => match k with
      | 0 => .stk
      | k + 1 => match g x σ h with
        | none => .stk
        | some σ1 => match b σ1 h with
          | .nx σ2 h2 => forRunH s g b k (i + 1) σ2 h2
          | .ct σ2 h2 => forRunH s g b k (i + 1) σ2 h2
          | .bk σ2 h2 => .nx σ2 h2
          | r => r
def ssForH (si : SI) (g : SGH) (b : SS) : SS := fun σ h => (si σ h).flo σ fun s h1 => forRunH s g b (s.len h1) 0 σ h1
section
variable {X : Cx} {P : Pq} {W : WX} {tg iter : Expr} {si : SI} {body : List Stmt} {x1 : SS} {pos : Pos} {es : List Expr}
end
end W3
end

section
namespace W3
open PySem PySem.Spec PyProof.Rows
open L2
def isT : T → Bool | .tup _ => true | _ => false
def sMtA (f : T → List T → Hh → Res T) (o : SE) (a : SA) : SE := fun σ h => (o σ h).bind fun x h1 => if (isL x h1 || isT x) = true then (a σ h1).bind fun xs h2 => f x xs h2 else .stk
section
variable {X : Cx} {P : Pq} {W : WX} {o e : Expr} {so : SE} {apos cpos : Pos} {es : List Expr} {ar : SA}
end
end W3
end

section
namespace W3
open PySem PySem.Spec PyProof.Rows
open L2
abbrev TKs := List Key
abbrev hTk (P : Program) (w : World) (k : TKs) : Int := tupleKeyHash (mixKind P w) k
abbrev IsTk (P : Program) (w : World) (h : Heap) (k : TKs) (b : Addr) : Prop := IsTupleKey (mixKind P w) h k b
section
variable {P : Program} {w : World} {A : Around} {E : Value → Shared → Prop} {s : Shared}
end
abbrev TkL := List (Addr × TKs)
def rowTk (P : Program) (w : World) (p : Addr × TKs) : Int × Value := (hTk P w p.2, .ref p.1)
structure SetTk (P : Program) (w : World) (h : Heap) (a : Addr) (L : TkL) (es : Array (Int × Value)) (ep : Nat) (t : SetTable) : Prop where
  at_ : ∃ o, h.get? a = some o ∧ o.ExactSet ∧ o.data = .set es ep t
  rows : es.toList = L.map (rowTk P w)
  tab : TabOk t ((L.map (rowTk P w)).map (·.1))
  nd : (L.map (·.2)).Nodup
  tup : ∀ p ∈ L, IsTk P w h p.2 p.1
  room : L.length * 5 < t.mask * 3
  few : L.length < 64
section
variable {P : Program} {w : World} {A : Around} {E : Value → Shared → Prop} {s : Shared} {a : Addr} {L : TkL} {es : Array (Int × Value)} {ep : Nat} {t : SetTable}
theorem rows_size (h : es.toList = L.map (rowTk P w)) : es.size = L.length := by
  rw [← Array.length_toList, h, List.length_map]
theorem fits_of (e : t.place.size = es.size) (d : t.dummies = #[]) (m : es.size ≤ t.mask) : t.fits es.size = true := by
  unfold SetTable.fits SetTable.fill
  rw [d, Bool.and_eq_true, beq_iff_eq, decide_eq_true_eq]
  exact ⟨e, by show t.place.size + 0 ≤ t.mask; omega⟩
theorem SetTk.fits (R : SetTk P w s.heap a L es ep t) : t.fits es.size = true := by
  have z1 := R.tab.sz
  have z2 := rows_size R.rows
  have z3 := R.room
  simp only [List.length_map] at z1
  exact fits_of (by omega) R.tab.dm (by omega)
end
structure Has (ks : TkL) (i : Nat) (L : TkL) : Prop where
  sub : ∀ p ∈ L, p ∈ ks.take i
  all : ∀ p ∈ ks.take i, p.2 ∈ L.map (·.2)
  le : L.length ≤ i
theorem Has.next {ks L L2 : TkL} {i : Nat} {x : Addr × TKs} (g : Has ks i L) (h : ks[i]? = some x) (c : (x.2 ∈ L.map (·.2) ∧ L2 = L) ∨ (x.2 ∉ L.map (·.2) ∧ L2.Perm (x :: L))) : Has ks (i + 1) L2 := by
  have et : ks.take (i + 1) = ks.take i ++ [x] := by rw [List.take_add_one, h]; rfl
  rcases c with ⟨hm, rfl⟩ | ⟨_, pm⟩
  · refine ⟨fun p hp => by rw [et]; exact List.mem_append_left _ (g.sub p hp), fun p hp => ?_, Nat.le_succ_of_le g.le⟩
    rw [et] at hp
    rcases List.mem_append.mp hp with z | z
    · exact g.all p z
    · rw [List.mem_singleton.mp z]; exact hm
  · refine ⟨fun p hp => ?_, fun p hp => ?_, by rw [pm.length_eq, List.length_cons]; exact Nat.succ_le_succ g.le⟩
    · rw [et]
      rcases List.mem_cons.mp (pm.mem_iff.mp hp) with e | z
      · rw [e]; exact List.mem_append_right _ (List.mem_singleton.mpr rfl)
      · exact List.mem_append_left _ (g.sub p z)
    · rw [(pm.map (·.2)).mem_iff, List.map_cons]
      rw [et] at hp
      rcases List.mem_append.mp hp with z | z
      · exact .tail _ (g.all p z)
      · rw [List.mem_singleton.mp z]; exact .head _
section
variable {P : Program} {w : World} {A : Around} {E : Value → Shared → Prop} {s : Shared}
theorem SetTk.keep {h h2 : Heap} {a : Addr} {L : TkL} {es : Array (Int × Value)} {ep : Nat} {t : SetTable} (R : SetTk P w h a L es ep t) (ha : ∀ o, h.get? a = some o → h2.get? a = some o) (ht : ∀ p ∈ L, IsTk P w h2 p.2 p.1) : SetTk P w h2 a L es ep t :=
  let ⟨o, e, r⟩ := R.at_
  ⟨⟨o, ha o e, r⟩, R.rows, R.tab, R.nd, ht, R.room, R.few⟩
end
end W3
end

section
namespace W3
open PySem PySem.Spec PyProof.Rows
open L2
instance decMemTk (k : TKs) (l : List TKs) : Decidable (k ∈ l) := decidable_of_iff (l.any (fun j => decide (j = k)) = true) (by simp [List.any_eq_true])
section
variable {X : Cx} {P : Pq} {W : WX} {a : Expr} {sa : SE} {pos p p2 q2 : Pos}
end
end W3
end

section
namespace W3
open PySem PySem.Spec PyProof.Rows
open L2
section
variable {prog : Program} {w : World} {A : Around} {E : Value → Shared → Prop} {s : Shared}
end
section
variable {X : Cx} {P : Pq} {W : WX}
def alikeB (ds : List PyData) : Bool := ds.all fun d => ds.all fun e => PySem.W.alike d e
def isTup1 : PyData → Bool | .tuple (_ :: _) => true | _ => false
def isOth : PyData → Bool | .none => false | .tuple _ => false | _ => true
def sortableB (ds : List PyData) : Bool := ds.all isTup1 || ds.all isOth
abbrev leT (a b : T × PyData) : Bool := PySem.W.dataLe false (fun b : T × PyData => b.2) a b
def sortT (ts : List T) (ds : List PyData) : List T := ((ts.zip ds).mergeSort leT).map (·.1)
def bSortI (ts : List T) (h : Hh) : Res T := match optL (toD h 24) ts with
  | some ds => if alikeB ds = true ∧ sortableB ds = true ∧ ts.length ≤ 1000 then alloc (.lst (sortT ts ds)) h else .stk
  | none => .stk
def bSorted (xs : List T) (h : Hh) : Res T := match xs with
  | [.tup ts] => bSortI ts h
  | [.fl ts] => bSortI ts h
  | [.ref l] => (match lstAt h l with | some ts => bSortI ts h | none => .stk)
  | _ => .stk
end
end W3
end

section
namespace W3
open PySem PySem.Spec PyProof.Rows
open L2
def zipL : List T → List T → List T
  | x :: xs, y :: ys => .tup [x, y] :: zipL xs ys
  | _, _ => []
section
variable {K : PySem.W.Frag} {mg : Str → Option Value} {wd : World} {m : Mp} {H : Hp}
end
def zipOf (xs : List T) (h : Hh) : Res Src := match xs with | [.tup ts, .tup us] => .ok (.its (zipL ts us)) h | _ => .stk
def siZip (a : SA) : SI := fun σ h => (a σ h).bind zipOf
section
variable {X : Cx} {P : Pq} {W : WX} {a b c : Expr} {ar : SA} {sb : SE} {pos p : Pos}
def KIs (K : PySem.W.Frag) (mg : Str → Option Value) (a : Addr) (t : T) : Prop := ∀ m H, RT K mg m H t (.ref a)
inductive StrsK : List Str → List Value → Prop
  | nil : StrsK [] []
  | cons {s : Str} {t : Tok} {ss : List Str} {vs : List Value} : StrsK ss vs → StrsK (s :: ss) (.str s t :: vs)
end
end W3
namespace W3
open PySem PySem.Spec PyProof.Rows
open L2
inductive KRows (K : PySem.W.Frag) (w : World) (mg : Str → Option Value) (a : Addr) : List (Str × T) → Prop
  | nil : KRows K w mg a []
  | cons {k : Str} {t : T} {r : List (Str × T)} : (∃ b, KDct K w a k (.ref b) ∧ KIs K mg b t) → KRows K w mg a r → KRows K w mg a ((k, t) :: r)
end W3
end

section
namespace W3
open PySem L2
theorem RTs.eraseIdx {K : PySem.W.Frag} {mg : Str → Option Value} {m : Mp} {H : Hp} : ∀ {ts : List T} {vs : List V} (i : Nat), RTs K mg m H ts vs → RTs K mg m H (ts.eraseIdx i) (vs.eraseIdx i)
  | _, _, _, .nil => .nil
  | _, _, 0, .cons _ q => q
  | _, _, i + 1, .cons p q => .cons p (RTs.eraseIdx i q)
def mPop (x : T) (vs : List T) (h : Hh) : Res T :=
  match x, vs with
  | .ref l, [.int i] => (match lstAt h l with
    | some ts => if 0 ≤ i ∧ i < 1000000 then (match ts[i.toNat]? with | some t => .ok t (h.set l (.lst (ts.eraseIdx i.toNat))) | none => .stk) else .stk
    | none => .stk)
  | _, _ => .stk
section
variable {X : Cx}
def ssPar2 (i j : Nat) (sa : SA) : SS := fun σ h => (sa σ h).flo σ fun xs h1 => match xs with | [x, y] => .nx ((σ.set i (some x)).set j (some y)) h1 | _ => .stk
end
@[simp] theorem e_ssPar2 (i j : Nat) (sa : SA) (σ : St3) (h : Hh) : ssPar2 i j sa σ h = (sa σ h).flo σ fun xs h1 => match xs with | [x, y] => .nx ((σ.set i (some x)).set j (some y)) h1 | _ => .stk := Eq.trans rfl rfl
@[simp] theorem e_pop (l : Nat) (i : Int) (h : Hh) : mPop (.ref l) [.int i] h = match lstAt h l with
    | some ts => if 0 ≤ i ∧ i < 1000000 then (match ts[i.toNat]? with | some t => .ok t (h.set l (.lst (ts.eraseIdx i.toNat))) | none => .stk) else .stk
    | none => .stk := Eq.trans rfl rfl
end W3
end

section
namespace W3
open PySem PySem.Spec PyProof.Rows
open L2
theorem funOfD {K : PySem.W.Frag} {x qual : Str} {st : Stmt} {f : Addr} {fd : FuncData} (F : FunD K x qual (defArgs st) (defBody st) (defScope st) [] [] f fd) : Fun K x qual st f fd := by
  obtain ⟨⟨oc, od, dV, kV, doc, pm, an, cdv, ct, osl, e, l, c, d, k⟩, kp⟩ := F
  have h : dV = .none := by
    rcases d with ⟨_, h⟩ | ⟨h, _⟩
    · exact h
    · exact absurd rfl h
  subst h
  exact ⟨⟨oc, od, kV, doc, pm, an, cdv, ct, osl, e, l, c⟩, kp⟩
theorem oexB_ok {K : PySem.W.Frag} {C : Addr} (h : oexB K C = true) : ∃ nm q N bs bm sn sub ab col dd k0 k1 k2 k3 k5, K.lookup C = some (excClassObj nm q C N bs bm true sn sub ab col dd k0 k1 k2 k3 k5 "ValueError.__new__") ∧ PySem.HandSPX.refsVE bm = true := by
  unfold oexB at h
  split at h
  · rename_i t dd cd sl ho
    obtain ⟨h1, h2⟩ := He.ba h
    have e1 := of_decide_eq_true h1
    subst e1
    split at h2
    · rename_i C' bm k0 k1 k2 k3 n k5 hm hs
      obtain ⟨a1, h3⟩ := He.ba h2
      obtain ⟨a2, h4⟩ := He.ba h3
      obtain ⟨a3, h5⟩ := He.ba h4
      obtain ⟨a4, a5⟩ := He.ba h5
      have e1 := of_decide_eq_true a1
      have e2 := of_decide_eq_true a2
      obtain ⟨nm, bs, mro, ns, qn, hd, sn, sub, ab, col, del⟩ := cd
      dsimp only at hm a3 a4
      have e3 : del = false := by simpa using a3
      subst e1 e2 e3 a4 hm
      have hsl : sl = #[k0, k1, k2, k3, some (.builtin "ValueError.__new__"), k5] := by
        obtain ⟨l⟩ := sl
        simp only at hs
        rw [hs]
      subst hsl
      exact ⟨nm, qn, ns, bs, bm, sn, sub, ab, col, dd, k0, k1, k2, k3, k5, ho, a5⟩
    · cases h2
  · cases h
structure XInit (prog : Program) (K : PySem.W.Frag) (C f : Addr) (qual : Str) (st : Stmt) : Prop where
  ex : ∃ (cc c : Addr) (doc pm ct : Value) (an : Option Addr), (∃ oc od osl, K.lookup f = some ⟨oc, od, .func (fdE "__init__" qual (defArgs st) (defBody st) (defScope st) cc c doc pm ct an), osl⟩) ∧
    (∃ ccl cdd vs ccs file tf, K.lookup c = some ⟨ccl, cdd, .fields vs, ccs⟩ ∧ vs[2]? = some (.str file tf) ∧ ((prog.main.file : Str) == file) = true) ∧
    (∃ cl cld csl, K.lookup cc = some ⟨cl, cld, .cell (some (.ref C)), csl⟩) ∧ PySem.W.codeIn K (.ref c) qual = true
theorem xinit_of {prog : Program} {K : PySem.W.Frag} {C f : Addr} {qual : Str} {st : Stmt} (e : fnE K f = xeV qual st) (h : initB K C f prog.main.file qual = true) : XInit prog K C f qual st := by
  unfold fnE xeV at e
  unfold initB at h
  cases q : K.lookup f with
  | none => rw [q] at h; cases h
  | some o =>
    obtain ⟨oc, od, dt, osl⟩ := o
    rw [q] at h e
    cases dt with
    | func fd =>
      obtain ⟨n1, n2, n3, n4, n5, n6, n7, n8, n9, n10, n11, n12, n13, n14, n15⟩ := fd
      dsimp only at h e
      simp only [Option.some.injEq, Prod.mk.injEq] at e
      obtain ⟨h1, h2, h3, h4, h5, h6, h7, h8, h9, h10⟩ := e
      split at h
      · rename_i x cc c
        have hx : x = ("__class__" : Str) := List.head_eq_of_cons_eq h7
        subst h1 h2 h3 h4 h5 h6 h8 h9 h10 hx
        obtain ⟨b1, b2⟩ := He.ba h
        obtain ⟨b2, b3⟩ := He.ba b2
        refine ⟨cc, c, _, _, _, _, ⟨_, _, _, q⟩, ?_, ?_, b3⟩
        · unfold fileB at b2
          split at b2
          · rename_i ho
            split at b2
            · rename_i hv
              exact ⟨_, _, _, _, _, _, ho, hv, b2⟩
            · cases b2
          · cases b2
        · unfold cellB at b1
          split at b1
          · rename_i ho
            have := of_decide_eq_true b1
            subst this
            exact ⟨_, _, _, ho⟩
          · cases b1
      · cases h
    | _ => cases h
section
variable {fn : List He.DefD} {ts : List He.Tab} {xs : List (PySem.W.Frag → Addr)} {es : List FnE} {bs : List (PySem.W.Frag → Bool)} {w : World} {K : PySem.W.Frag}
theorem SaysZ.t (c : SaysZ fn ts xs es bs w K) : He.SaysT [] fn ts w K := congrArg (fun z : AlZ => z.1) c
theorem SaysZ.b (c : SaysZ fn ts xs es bs w K) (i : Nat) {b : PySem.W.Frag → Bool} (h : bs[i]? = some b := by rfl) : b K = true := by
  have c1 : (bs.all fun b => b K) = true := congrArg (fun z : AlZ => z.2.2) c
  exact List.all_eq_true.mp c1 b (List.mem_of_getElem? h)
theorem SaysZ.o (c : SaysZ fn ts xs es bs w K) (i : Nat) {p : PySem.W.Frag → Prop} {d : ∀ K, Decidable (p K)} (h : bs[i]? = some fun K => @decide (p K) (d K)) : p K := @of_decide_eq_true (p K) (d K) (c.b i h)
theorem SaysZ.x (c : SaysZ fn ts xs es bs w K) (i : Nat) {f : PySem.W.Frag → Addr} {e : FnE} (h : xs[i]? = some f := by rfl) (he : es[i]? = some e := by rfl) : fnE K (f K) = e := by
  have c1 : xs.map (fun f => fnE K (f K)) = es := congrArg (fun z : AlZ => z.2.1) c
  have c2 : (xs.map fun f => fnE K (f K))[i]? = es[i]? := by rw [c1]
  rw [List.getElem?_map, h, he] at c2
  exact Option.some.inj c2
end
theorem walk3E {l : PySem.W.OpenLaw} {q : Program} {loose : List Str} {XP : (Str → Option Value) → Heap → Prop} {YP : World → Heap → Prop} {d : DefRec} {f : List T → Hh → Res T} {k : Nat} {x : Str} (hn : l.most = some 63) (hdf : d.params.defaults = []) (hr : Room k callerA)
    (hf : ∀ ns : List Int, ns.length ≤ 63 → ∃ h', f [.fl (ns.map T.int)] [] = .ok (.bl true) h')
    (F : ∀ (w : World) (mg : Str → Option Value) (fa : Addr) (h : Heap), YP w h → h.Ns mainGlobals mg → mg d.name = some (.ref fa) →
      ∃ (K : PySem.W.Frag) (fd : FuncData), K.In h ∧ (∀ (s : Shared) (u : Value), BindsTo s fd ⟨[u], []⟩ [(x, u)]) ∧ ∀ base : Heap, K.In base → base.Ns mainGlobals mg → FnOk l.prog w K mg base (L2N.CX l.prog w) k fa fd [x] (spL K f)) :
    PySem.W.WalkO q loose XP YP l.row.toRowW d [] (fun f vs => PySem.call f vs) := by
  refine Att.attach_call hn hdf fun w s₀ s₁ mg mb fa o pm cd doc a vs ns G Y ho hd hcd hmg hobj hints hlen hg => ?_
  obtain ⟨K, fd, KX, hb, hF⟩ := F w mg fa _ Y G.T.g hmg
  exact law_call KX G.T.g G.T.b G.T.builtins G.T.nolimit hg hobj hints (Nat.le_trans hlen (by decide)) hr hF hb (fun H hO hS mg => fun wd => sp_law hf hlen hO hS) fun H e s' z => by
    obtain ⟨_, _, _, _, _, _, _, _, _, _, _, _, z⟩ := z
    exact z.elim
end W3
end

section
namespace W3
open PySem PySem.Spec PyProof.Rows
open L2
def dgetT : List (T × T) → Str → Option T
  | [], _ => none
  | (.str s, t) :: r, k => if s = k then some t else dgetT r k
  | _ :: r, k => dgetT r k
def dsetT : List (T × T) → Str → T → List (T × T)
  | [], _, _ => []
  | (.str s, u) :: r, k, t => (.str s, if s = k then t else u) :: dsetT r k t
  | p :: r, k, t => p :: dsetT r k t
def dputT (kvs : List (T × T)) (k : Str) (t : T) : List (T × T) := if (dgetT kvs k).isSome = true then dsetT kvs k t else kvs ++ [(.str k, t)]
section
variable {K : PySem.W.Frag} {mg : Str → Option Value} {wd : World} {m : Mp} {H : Hp} {kvs : List (T × T)} {ks : List (Key × V)}
theorem RK.get (r : RK K mg m H kvs ks) (k : Str) : (∀ t, dgetT kvs k = some t → ∃ v, valV ks (.inr k) = some v ∧ RT K mg m H t v) ∧ (dgetT kvs k = none → valV ks (.inr k) = none) := by
  induction r with
  | nil => exact ⟨fun t e => (by cases e), fun _ => rfl⟩
  | @cons f t v fs fv r _ ih =>
    by_cases e : f = k
    · subst e
      refine ⟨fun u h => ?_, fun h => ?_⟩
      · simp only [dgetT, if_true] at h
        cases h
        exact ⟨v, valV_pos rfl, r⟩
      · simp [dgetT] at h
    · have ne : ¬ ((Sum.inr f : Key) = .inr k) := fun z => e (Sum.inr.inj z)
      have e1 : dgetT ((.str f, t) :: fs) k = dgetT fs k := by simp only [dgetT]; rw [if_neg e]
      rw [e1, valV_neg (p := (Sum.inr f, v)) ne]
      exact ih
  | @consI i t v fs fv r _ ih =>
    have ne : ¬ ((Sum.inl i : Key) = .inr k) := fun z => by cases z
    have e1 : dgetT ((.int i, t) :: fs) k = dgetT fs k := rfl
    rw [e1, valV_neg (p := (Sum.inl i, v)) ne]
    exact ih
theorem RK.isSome (r : RK K mg m H kvs ks) (k : Str) : (dgetT kvs k).isSome = (valV ks (.inr k)).isSome := by
  obtain ⟨h1, h2⟩ := r.get k
  cases e : dgetT kvs k with
  | none => rw [h2 e]; rfl
  | some t =>
    obtain ⟨v, h, _⟩ := h1 t e
    rw [h]
    rfl
theorem RK.length (r : RK K mg m H kvs ks) : kvs.length = ks.length := by
  induction r with
  | nil => rfl
  | cons _ _ ih => simp [ih]
  | consI _ _ ih => simp [ih]
theorem RK.snoc (r : RK K mg m H kvs ks) {k : Str} {t : T} {v : V} (q : RT K mg m H t v) : RK K mg m H (kvs ++ [(.str k, t)]) (ks ++ [(.inr k, v)]) := by
  induction r with
  | nil => exact .cons q .nil
  | cons r _ ih => exact .cons r ih
  | consI r _ ih => exact .consI r ih
theorem RK.set (r : RK K mg m H kvs ks) {k : Str} {t : T} {v : V} (q : RT K mg m H t v) : RK K mg m H (dsetT kvs k t) (ks.map fun kv => if kv.1 = (.inr k : Key) then (kv.1, v) else kv) := by
  induction r with
  | nil => exact .nil
  | @cons f u w fs fv r _ ih =>
    simp only [dsetT, List.map_cons]
    by_cases e : f = k
    · subst e
      rw [if_pos rfl, if_pos rfl]
      exact .cons q ih
    · rw [if_neg e, if_neg (fun z => e (Sum.inr.inj z))]
      exact .cons r ih
  | @consI i u w fs fv r _ ih =>
    simp only [dsetT, List.map_cons]
    rw [if_neg (fun z => by cases z)]
    exact .consI r ih
theorem RK.put (r : RK K mg m H kvs ks) {k : Str} {t : T} {v : V} (q : RT K mg m H t v) : RK K mg m H (dputT kvs k t) (putK ks (.inr k) v) := by
  unfold dputT putK
  rw [valV_any, ← r.isSome k]
  split
  · exact r.set q
  · exact r.snoc q
theorem HR.dic {h : Hh} (R : HR K mg wd m h H) {l : Nat} {a : Addr} (e : m l = some a) (hl : h[l]? = some (.dic kvs)) : ∃ ks, H a = some (.dK ks) ∧ RK K mg m H kvs ks := by
  obtain ⟨b, e1, r⟩ := R.ob l _ hl
  rw [e] at e1
  cases e1
  exact r
end
def dicAt (h : Hh) (l : Nat) : Option (List (T × T)) := match h[l]? with | some (.dic kvs) => some kvs | _ => none
def oDGet (x k : T) (h : Hh) : Res T := match x, k with
  | .ref l, .str s => (match dicAt h l with
    | some kvs => (match dgetT kvs s with | some t => .ok t h | none => .stk)
    | none => .stk)
  | _, _ => .stk
def oDIn (k x : T) (h : Hh) : Res T := match x, k with
  | .ref l, .str s => (match dicAt h l with
    | some kvs => .ok (.bl (dgetT kvs s).isSome) h
    | none => .stk)
  | _, _ => .stk
def ssDSub (so si sv : SE) : SS := fun σ h => (sv σ h).flo σ fun y h1 => (so σ h1).flo σ fun x h2 => (si σ h2).flo σ fun k h3 => match x, k with
  | .ref l, .str s => (match dicAt h3 l with
    | some kvs => if kvs.length < 1000 then .nx σ (h3.set l (.dic (dputT kvs s y))) else .stk
    | none => .stk)
  | _, _ => .stk
section
variable {X : Cx} {P : Pq} {W : WX} {a b c : Expr} {sa sb sc : SE} {pos p : Pos}
end
end W3
end

section
namespace W3
open PySem
open Sem (wp)
section
variable {prog : Program} {w : World} {A : Around} {E : Value → Shared → Prop} {s : Shared}
end
section
variable {prog : Program} {w : World}
end
end W3
namespace W3
open PySem PySem.Spec PyProof.Rows
open L2
end W3
namespace W3
open PySem PySem.Spec PyProof.Rows
open L2
def mkvT : List T → List T → Option (List (Str × T))
  | [], [] => some []
  | .str s :: ts, u :: us => (mkvT ts us).map ((s, u) :: ·)
  | _, _ => none
def dmrgT (acc : List (T × T)) (fs : List (Str × T)) : List (T × T) := fs.foldl (fun acc p => dputT acc p.1 p.2) acc
def dicZ (xs : List T) (h : Hh) : Res T := match xs with
  | [.tup ts, .tup us] => (match mkvT ts us with
    | some fs => alloc (.dic (dmrgT [] fs)) h
    | none => .stk)
  | _ => .stk
def sDicZ (ar : SA) : SE := fun σ h => (ar σ h).bind dicZ
section
variable {X : Cx} {P : Pq} {W : WX} {a b : Expr} {ar : SA} {pos pos2 p p2 : Pos}
end
end W3
end

section
namespace W3
open PySem PySem.Spec PyProof.Rows
open L2
structure DPs (X : Cx) (P : Pq) (W : WX) (pos : Pos) (keys : List (Option Expr)) (values : List Expr) (ks : List Str) (ar : SA) : Prop where
  ex : ∃ trs, PPs X pos keys values trs ∧ ∀ (σV : L2.St) (H : Hp) (Q : List (V × V) → Hp → Prop), tAr X.K X.mg X.w P W ar σV H (fun vs H1 => Q (List.zipWith (fun k v => (V.str k, v)) ks vs) H1) → tPairs trs σV H Q
section
variable {X : Cx} {P : Pq} {W : WX} {sa : SE} {ar : SA} {pos p : Pos} {v : Expr} {keys : List (Option Expr)} {values : List Expr} {k : Str} {ks : List Str} {j : Nat}
def sDisp (ks : List Str) (ar : SA) : SE := fun σ h => (ar σ (h ++ [.dic []])).bind fun xs h2 => match dicAt h2 h.length with
  | some [] => if xs.length = ks.length ∧ ks.length ≤ 15 then .ok (.ref h.length) (h2.set h.length (.dic (dmrgT [] (ks.zip xs)))) else .stk
  | _ => .stk
end
end W3
namespace W3
open PySem PySem.Spec PyProof.Rows
open L2
def ssPar3 (i j l : Nat) (sa : SA) : SS := fun σ h => (sa σ h).flo σ fun xs h1 => match xs with | [x, y, z] => .nx (((σ.set i (some x)).set j (some y)).set l (some z)) h1 | _ => .stk
section
variable {X : Cx}
end
@[simp] theorem e_ssPar3 (i j l : Nat) (sa : SA) (σ : St3) (h : Hh) : ssPar3 i j l sa σ h = (sa σ h).flo σ fun xs h1 => match xs with | [x, y, z] => .nx (((σ.set i (some x)).set j (some y)).set l (some z)) h1 | _ => .stk := Eq.trans rfl rfl
@[simp] theorem e_dget (l : Nat) (s : Str) (h : Hh) : oDGet (.ref l) (.str s) h = match dicAt h l with
    | some kvs => (match dgetT kvs s with | some t => .ok t h | none => .stk)
    | none => .stk := Eq.trans rfl rfl
@[simp] theorem e_din (l : Nat) (s : Str) (h : Hh) : oDIn (.str s) (.ref l) h = match dicAt h l with
    | some kvs => .ok (.bl (dgetT kvs s).isSome) h
    | none => .stk := Eq.trans rfl rfl
@[simp] theorem e_ssDSub (so si sv : SE) (σ : St3) (h : Hh) : ssDSub so si sv σ h = (sv σ h).flo σ fun y h1 => (so σ h1).flo σ fun x h2 => (si σ h2).flo σ fun k h3 => match x, k with
    | .ref l, .str s => (match dicAt h3 l with
      | some kvs => if kvs.length < 1000 then .nx σ (h3.set l (.dic (dputT kvs s y))) else .stk
      | none => .stk)
    | _, _ => .stk := Eq.trans rfl rfl
@[simp] theorem e_sDicZ (ar : SA) (σ : St3) (h : Hh) : sDicZ ar σ h = (ar σ h).bind dicZ := Eq.trans rfl rfl
@[simp] theorem e_dicZ (ts us : List T) (h : Hh) : dicZ [.tup ts, .tup us] h = match mkvT ts us with
    | some fs => alloc (.dic (dmrgT [] fs)) h
    | none => .stk := Eq.trans rfl rfl
@[simp] theorem e_sDisp (ks : List Str) (ar : SA) (σ : St3) (h : Hh) : sDisp ks ar σ h = (ar σ (h ++ [.dic []])).bind fun xs h2 => match dicAt h2 h.length with
    | some [] => if xs.length = ks.length ∧ ks.length ≤ 15 then .ok (.ref h.length) (h2.set h.length (.dic (dmrgT [] (ks.zip xs)))) else .stk
    | _ => .stk := Eq.trans rfl rfl
end W3
end

section
namespace RZ4
open PySem
open PySem.Sem (wp)
open RZ
structure At4 (z TI TO i1 i2 i3 i4 l1 l2 l3 l4 : Nat) : Prop where
  e2 : i2 = i1 + 1
  e3 : i3 = i1 + 2
  e4 : i4 = i1 + 3
  eI : TI = i1 + 4
  eO : TO = i1 + 5
  ez : z = i1 + 6
  f1 : l1 < i1
  f2 : l2 < i1
  f3 : l3 < i1
  f4 : l4 < i1
section
variable {prog : Program} {w : World} {A : Around} {E : Value → Shared → Prop} {s : Shared}
end
section
variable {prog : Program} {w : World} {A : Around} {E : Value → Shared → Prop} {s : Shared}
end
end RZ4
end

section
namespace W3
open PySem PySem.Spec PyProof.Rows
open L2
open RZ4
def zip4L : List T → List T → List T → List T → List T
  | x :: xs, y :: ys, u :: us, v :: vs => .tup [x, y, u, v] :: zip4L xs ys us vs
  | _, _, _, _ => []
section
variable {K : PySem.W.Frag} {mg : Str → Option Value} {wd : World} {m : Mp} {H : Hp}
end
def zip4Of (xs : List T) (h : Hh) : Res Src := match xs with
  | [.tup t1, .tup t2, .tup t3, .tup t4] => if t2.length = t1.length ∧ t3.length = t1.length ∧ t4.length = t1.length then .ok (.its (zip4L t1 t2 t3 t4)) h else .stk
  | _ => .stk
def siZip4 (a : SA) : SI := fun σ h => (a σ h).bind zip4Of
@[simp] theorem e_siZip4 (a : SA) (σ : St3) (h : Hh) : siZip4 a σ h = (a σ h).bind zip4Of := Eq.trans rfl rfl
section
variable {X : Cx} {P : Pq} {W : WX} {a b c d : Expr} {ar : SA} {pos p : Pos}
end
end W3
end

section
namespace W3
open PySem PySem.Spec PyProof.Rows
open L2
def ssAsgH (a : SE) (g : SGH) : SS := fun σ h => (a σ h).flo σ fun x h1 => match g x σ h1 with | some σ' => .nx σ' h1 | none => .stk
section
variable {X : Cx} {P : Pq} {W : WX} {tg a : Expr} {sa : SE} {pos : Pos}
end
@[simp] theorem e_ssAsgH (a : SE) (g : SGH) (σ : St3) (h : Hh) : ssAsgH a g σ h = (a σ h).flo σ fun x h1 => match g x σ h1 with | some σ' => .nx σ' h1 | none => .stk := Eq.trans rfl rfl
@[simp] theorem e_sgLst (n : Nat) (g : SGs) (l : Nat) (σ : St3) (h : Hh) : sgLst n g (.ref l) σ h = match lstAt h l with | some ts => if ts.length = n then g ts σ else none | none => none := Eq.trans rfl rfl
end W3
end

section
namespace OwLen
open PySem PySem.Spec PyProof.Rows
section
variable {prog : Program} {w : World} {A : Around} {E : Value → Shared → Prop} {s : Shared} {K : PySem.W.Frag} {x C D f : Addr} {ox od : Obj} {odd : Option Obj}
end
end OwLen
namespace L2
open PySem PySem.Spec PyProof.Rows
section
variable {X : Cx} {CX : CXT} {k : Nat} {C g : Addr} {fd : FuncData} {ps : List Str} {sp : Sp} {E : XK}
end
end L2
end

section
namespace W3
open PySem PySem.Spec PyProof.Rows
open L2
def fLen (cn : Str) (ff : List T → Hh → Res T) (xs : List T) (h : Hh) : Res T := match xs with
  | [.ref l] => (match insAt h l with
    | some (d, _) => if d = cn then (match ff [.ref l] h with
      | .ok (.int i) h' => if 0 ≤ i ∧ i < 2 ^ 63 then .ok (.int i) h' else .stk
      | _ => .stk) else .stk
    | none => bLen [.ref l] h)
  | _ => bLen xs h
def sProp (cn : Str) (ff : List T → Hh → Res T) (so : SE) : SE := fun σ h => (so σ h).bind fun x h1 => match x with
  | .ref l => (match insAt h1 l with
    | some (d, _) => if d = cn then (match ff [.ref l] h1 with | .ok t h2 => .ok t h2 | _ => .stk) else .stk
    | none => .stk)
  | _ => .stk
@[simp] theorem e_sProp (cn : Str) (ff : List T → Hh → Res T) (so : SE) (σ : St3) (h : Hh) : sProp cn ff so σ h = (so σ h).bind fun x h1 => match x with
  | .ref l => (match insAt h1 l with
    | some (d, _) => if d = cn then (match ff [.ref l] h1 with | .ok t h2 => .ok t h2 | _ => .stk) else .stk
    | none => .stk)
  | _ => .stk := Eq.trans rfl rfl
end W3
end

section
namespace W3
open PySem PySem.Spec PyProof.Rows
open L2
end W3
end

section
namespace W3
open PySem PySem.Spec PyProof.Rows
open L2
def fGet (cn : Str) (ff : List T → Hh → Res T) (x i : T) (h : Hh) : Res T := match x with
  | .ref l => (match insAt h l with
    | some (d, _) => if d = cn then ff [.ref l, i] h else .stk
    | none => oIx (.ref l) i h)
  | _ => oIx x i h
def fIn (cn : Str) (ff : List T → Hh → Res T) (y x : T) (h : Hh) : Res T := match x with
  | .ref l => (match insAt h l with
    | some (d, _) => if d = cn then (match ff [.ref l, y] h with
      | .ok (.bl b) h' => .ok (.bl b) h'
      | _ => .stk) else .stk
    | none => oIn y (.ref l) h)
  | _ => oIn y x h
def fNotIn (cn : Str) (ff : List T → Hh → Res T) (y x : T) (h : Hh) : Res T := match x with
  | .ref l => (match insAt h l with
    | some (d, _) => if d = cn then (match ff [.ref l, y] h with
      | .ok (.bl b) h' => .ok (.bl (!b)) h'
      | _ => .stk) else .stk
    | none => oNotIn y (.ref l) h)
  | _ => oNotIn y x h
def ssSetO (cn : Str) (ff : List T → Hh → Res T) (o i v : SE) : SS := fun σ h => (v σ h).flo σ fun y h1 => (o σ h1).flo σ fun x h2 => (i σ h2).flo σ fun k h3 => match x with
  | .ref l => (match insAt h3 l with
    | some (d, _) => if d = cn then (ff [.ref l, k, y] h3).flo σ fun _ h4 => .nx σ h4 else .stk
    | none => .stk)
  | _ => .stk
section
variable {X : Cx} {P : Pq} {W : WX} {a b : Expr} {sa sb : SE} {pos : Pos} {cn : Str} {C g : Addr} {k : Nat} {fd : FuncData} {ps : List Str} {ff : List T → Hh → Res T}
end
section
variable {h : Hh}
@[simp] theorem e_fGet (cn : Str) (ff : List T → Hh → Res T) (l : Nat) (i : T) : fGet cn ff (.ref l) i h = match insAt h l with
  | some (d, _) => if d = cn then ff [.ref l, i] h else .stk
  | none => oIx (.ref l) i h := Eq.trans rfl rfl
@[simp] theorem e_fGet_tup (cn : Str) (ff : List T → Hh → Res T) (ts : List T) (i : T) : fGet cn ff (.tup ts) i h = oIx (.tup ts) i h := Eq.trans rfl rfl
@[simp] theorem e_fIn (cn : Str) (ff : List T → Hh → Res T) (l : Nat) (y : T) : fIn cn ff y (.ref l) h = match insAt h l with
  | some (d, _) => if d = cn then (match ff [.ref l, y] h with
    | .ok (.bl b) h' => .ok (.bl b) h'
    | _ => .stk) else .stk
  | none => oIn y (.ref l) h := Eq.trans rfl rfl
@[simp] theorem e_fIn_tup (cn : Str) (ff : List T → Hh → Res T) (ts : List T) (y : T) : fIn cn ff y (.tup ts) h = oIn y (.tup ts) h := Eq.trans rfl rfl
@[simp] theorem e_fNotIn (cn : Str) (ff : List T → Hh → Res T) (l : Nat) (y : T) : fNotIn cn ff y (.ref l) h = match insAt h l with
  | some (d, _) => if d = cn then (match ff [.ref l, y] h with
    | .ok (.bl b) h' => .ok (.bl (!b)) h'
    | _ => .stk) else .stk
  | none => oNotIn y (.ref l) h := Eq.trans rfl rfl
@[simp] theorem e_fNotIn_tup (cn : Str) (ff : List T → Hh → Res T) (ts : List T) (y : T) : fNotIn cn ff y (.tup ts) h = oNotIn y (.tup ts) h := Eq.trans rfl rfl
@[simp] theorem e_ssSetO (cn : Str) (ff : List T → Hh → Res T) (o i v : SE) (σ : St3) : ssSetO cn ff o i v σ h = (v σ h).flo σ fun y h1 => (o σ h1).flo σ fun x h2 => (i σ h2).flo σ fun k h3 => match x with
  | .ref l => (match insAt h3 l with
    | some (d, _) => if d = cn then (ff [.ref l, k, y] h3).flo σ fun _ h4 => .nx σ h4 else .stk
    | none => .stk)
  | _ => .stk := Eq.trans rfl rfl
end
end W3
namespace W3
open PySem PySem.Spec PyProof.Rows
open L2
def ssRaise0 (c : Str) : SS := fun σ h => .exc c [] σ h
@[simp] theorem e_ssRaise0 (c : Str) (σ : St3) (h : Hh) : ssRaise0 c σ h = .exc c [] σ h := Eq.trans rfl rfl
end W3
namespace W3
open PySem PySem.Spec PyProof.Rows
open L2
end W3
end

section
namespace W3
open PySem PySem.Spec PyProof.Rows
open L2
structure IsoC (K : PySem.W.Frag) (C : Addr) : Prop where
  cl : Cls K C
  ha : PySem.W.findIn K (.ref C) "__class__" = some (some (.builtin "object.__class__"))
  hn : PySem.W.specialIn K (.builtin "object.__class__") "__get__" = some (some (.builtin "getset_descriptor.__get__"))
  ht : PySem.W.takesIn K (.builtin "object.__class__") = some true
  hm : PySem.W.mroIn K C (.type "object") = some true
end W3
end

section
namespace W3
open PySem PySem.Spec PyProof.Rows
open L2
def strsOf : List T → Option (List Str)
  | [] => some []
  | .str s :: r => (strsOf r).map (s :: ·)
  | _ :: _ => none
def joinT (a : Str) (ts : List T) (h : Hh) : Res T := match strsOf ts with
  | some ys => if (ys.map (·.length)).sum + ys.length * a.length ≤ 16777216 then .ok (.str (Txt.join a ys)) h else .stk
  | none => .stk
def mJoin (x : T) (vs : List T) (h : Hh) : Res T := match x, vs with
  | .str a, [.ref l] => (match lstAt h l with | some ts => joinT a ts h | none => .stk)
  | .str a, [.tup ts] => joinT a ts h
  | _, _ => .stk
def sMtS (f : T → List T → Hh → Res T) (o : SE) (a : SA) : SE := fun σ h => (o σ h).bind fun x h1 => match x with
  | .str s => (a σ h1).bind fun xs h2 => f (.str s) xs h2
  | _ => .stk
section
variable {X : Cx} {P : Pq} {W : WX} {a b c o e : Expr} {sa sb sc so : SE} {pos pos' apos cpos p : Pos} {es : List Expr} {ar : SA}
open Classical in
noncomputable def rngOf2 (xs : List T) (h1 : Hh) : Res Src := match xs with
  | [.int i, .int j] => if RngOk i ∧ RngOk j then .ok (.its (rangeT i (j - i).toNat)) h1 else .stk
  | _ => .stk
noncomputable def siRange2 (a : SA) : SI := fun σ h => (a σ h).bind rngOf2
@[simp] theorem e_siRange2 (a : SA) (σ : St3) (h : Hh) : siRange2 a σ h = (a σ h).bind rngOf2 := Eq.trans rfl rfl
@[simp] theorem e_sMtS (f : T → List T → Hh → Res T) (o : SE) (a : SA) (σ : St3) (h : Hh) : sMtS f o a σ h = (o σ h).bind fun x h1 => match x with
  | .str s => (a σ h1).bind fun xs h2 => f (.str s) xs h2
  | _ => .stk := Eq.trans rfl rfl
@[simp] theorem e_join_ref (a : Str) (l : Nat) (h : Hh) : mJoin (.str a) [.ref l] h = match lstAt h l with | some ts => joinT a ts h | none => .stk := Eq.trans rfl rfl
end
end W3
end

section
namespace W3.Ne
open PySem PySem.Spec PyProof.Rows PySem.W
section
variable {prog : Program} {w : World} {A : Around} {E : Value → Shared → Prop} {s : Shared} {K : PySem.W.Frag} {x y C L g : Addr} {h₀ : Heap} {m : Str → Option Value} {ox : Obj} {od : Option Obj}
end
end W3.Ne
namespace W3
open PySem PySem.Spec PyProof.Rows
open L2
section
variable {X : Cx} {P : Pq} {W : WX} {a b : Expr} {sa sb : SE} {pos : Pos} {cn : Str} {C g : Addr} {k : Nat} {fd : FuncData} {ps : List Str} {ff : List T → Hh → Res T}
end
end W3
end

section
namespace W3
open PySem PySem.Spec PyProof.Rows
open L2
def sTupRev (a : SE) : SE := fun σ h => (a σ h).bind fun x h1 => match x with
  | .ref l => (match lstAt h1 l with | some ts => .ok (.tup ts.reverse) h1 | none => .stk)
  | _ => .stk
section
variable {X : Cx} {P : Pq} {W : WX} {a : Expr} {sa : SE}
theorem RTs.reverse {K : PySem.W.Frag} {mg : Str → Option Value} {m : Mp} {H : Hp} : ∀ {ts : List T} {vs : List V}, RTs K mg m H ts vs → RTs K mg m H ts.reverse vs.reverse
  | _, _, .nil => .nil
  | _, _, .cons a b => by
    rw [List.reverse_cons, List.reverse_cons]
    exact RTs.append b.reverse (.cons a .nil)
end
@[simp] theorem e_sTupRev (a : SE) (σ : St3) (h : Hh) : sTupRev a σ h = (a σ h).bind fun x h1 => match x with
  | .ref l => (match lstAt h1 l with | some ts => .ok (.tup ts.reverse) h1 | none => .stk)
  | _ => .stk := Eq.trans rfl rfl
end W3
end

section
namespace W3
open PySem PySem.Spec PyProof.Rows
open L2
def ssAugO (cn : Str) (ff : List T → Hh → Res T) (i : Nat) (a : SE) : SS := fun σ h => match σ[i]? with
  | some (some (.ref l)) => (a σ h).flo σ fun y h1 => match insAt h1 l with
    | some (d, _) => if d = cn then (ff [.ref l, y] h1).flo σ fun t h2 => .nx (σ.set i (some t)) h2 else .stk
    | none => .stk
  | _ => .stk
section
variable {X : Cx} {P : Pq} {W : WX} {a : Expr} {sa : SE} {pos : Pos} {cn : Str} {C g : Addr} {k : Nat} {fd : FuncData} {ps : List Str} {ff : List T → Hh → Res T}
end
@[simp] theorem e_ssAugO (cn : Str) (ff : List T → Hh → Res T) (i : Nat) (a : SE) (σ : St3) (h : Hh) : ssAugO cn ff i a σ h = match σ[i]? with
  | some (some (.ref l)) => (a σ h).flo σ fun y h1 => match insAt h1 l with
    | some (d, _) => if d = cn then (ff [.ref l, y] h1).flo σ fun t h2 => .nx (σ.set i (some t)) h2 else .stk
    | none => .stk
  | _ => .stk := Eq.trans rfl rfl
example : dunderI Operator.Add.info.2 = ("__iadd__" : Str) := by decide +kernel
end W3
end

section
namespace W3
open PySem L2
section
variable {X : Cx}
end
end W3
end

section
namespace W3
open PySem PySem.Spec PyProof.Rows
open L2
def ngetT : List (T × T) → NestedKey → Option T
  | [], _ => none
  | (k, t) :: r, n => if nkT k = some n then some t else ngetT r n
def nsetT : List (T × T) → NestedKey → T → List (T × T)
  | [], _, _ => []
  | (k, u) :: r, n, t => (k, if nkT k = some n then t else u) :: nsetT r n t
def nputT (kvs : List (T × T)) (k : T) (n : NestedKey) (t : T) : List (T × T) := if (ngetT kvs n).isSome = true then nsetT kvs n t else kvs ++ [(k, t)]
def igetT : List (T × T) → Int → Option T
  | [], _ => none
  | (.int s, t) :: r, k => if s = k then some t else igetT r k
  | _ :: r, k => igetT r k
def isetT : List (T × T) → Int → T → List (T × T)
  | [], _, _ => []
  | (.int s, u) :: r, k, t => (.int s, if s = k then t else u) :: isetT r k t
  | p :: r, k, t => p :: isetT r k t
def iputT (kvs : List (T × T)) (k : Int) (t : T) : List (T × T) := if (igetT kvs k).isSome = true then isetT kvs k t else kvs ++ [(.int k, t)]
def obAt (h : Hh) (x : T) : Option Ob := match x with | .ref l => h[l]? | _ => none
section
variable {K : PySem.W.Frag} {mg : Str → Option Value} {m : Mp} {H : Hp} {kvs : List (T × T)} {ks : List (Key × V)}
abbrev EPr (es : List (NestedKey × Addr × V)) (xs : List (NestedKey × Addr × Value)) : Prop := Paired (fun (p : NestedKey × Addr × V) (q : NestedKey × Addr × Value) => p.1 = q.1 ∧ p.2.1 = q.2.1 ∧ RelV p.2.2 q.2.2) es xs
def esPut (es : List (NestedKey × Addr × V)) (n : NestedKey) (a : Addr) (v : V) : List (NestedKey × Addr × V) := if (es.any fun e => decide (e.1 = n)) = true then es.map (fun e => if e.1 = n then (e.1, e.2.1, v) else e) else es ++ [(n, a, v)]
theorem atKey_cons {x : NestedKey × Addr × Value} {xs : List (NestedKey × Addr × Value)} {n : NestedKey} : atKey (x :: xs) n = if x.1 = n then some x.2 else atKey xs n := by
  unfold atKey
  rw [List.find?_cons]
  by_cases e : x.1 = n
  · rw [if_pos e]; simp [e]
  · rw [if_neg e]; simp [e]
theorem RN.get {es : List (NestedKey × Addr × V)} (r : RN K mg m H kvs es) : ∀ {xs : List (NestedKey × Addr × Value)}, EPr es xs → ∀ n : NestedKey,
    (∀ t, ngetT kvs n = some t → ∃ (a : Addr) (u : Value) (v : V), atKey xs n = some (a, u) ∧ RelV v u ∧ RT K mg m H t v) ∧ (ngetT kvs n = none → atKey xs n = none) := by
  induction r with
  | nil => intro xs p n; cases p; exact ⟨fun t e => (by cases e), fun _ => rfl⟩
  | @cons t u k a v fs es hk hd r1 r2 _ ih =>
    intro xs p n
    cases p with
    | @cons _ x _ xs q p =>
      obtain ⟨q1, q2, q3⟩ := q
      obtain ⟨x1, x2, x3⟩ := x
      cases q1; cases q2
      rw [atKey_cons]
      simp only [ngetT, hk, Option.some.injEq]
      by_cases e : k = n
      · rw [if_pos e, if_pos e]
        exact ⟨fun t' h => (by cases h; exact ⟨a, x3, v, rfl, q3, r2⟩), fun h => by cases h⟩
      · rw [if_neg e, if_neg e]
        exact ih p n
theorem RN.isSome {es : List (NestedKey × Addr × V)} (r : RN K mg m H kvs es) {xs : List (NestedKey × Addr × Value)} (p : EPr es xs) (n : NestedKey) : (ngetT kvs n).isSome = (atKey xs n).isSome := by
  obtain ⟨h1, h2⟩ := r.get p n
  cases e : ngetT kvs n with
  | none => rw [h2 e]; rfl
  | some t =>
    obtain ⟨a, u, v, h, _⟩ := h1 t e
    rw [h]; rfl
theorem RN.any {es : List (NestedKey × Addr × V)} (r : RN K mg m H kvs es) (n : NestedKey) : (ngetT kvs n).isSome = es.any fun e => decide (e.1 = n) := by
  induction r with
  | nil => rfl
  | @cons t u k a v fs es hk hd r1 r2 _ ih =>
    simp only [ngetT, hk, Option.some.injEq, List.any_cons]
    by_cases e : k = n
    · rw [if_pos e]; simp [e]
    · rw [if_neg e, ih]; simp [e]
theorem RN.length {es : List (NestedKey × Addr × V)} (r : RN K mg m H kvs es) : kvs.length = es.length := by
  induction r with
  | nil => rfl
  | cons _ _ _ _ _ ih => simp [ih]
theorem RN.put {es : List (NestedKey × Addr × V)} (r : RN K mg m H kvs es) {n : NestedKey} {kt t : T} {a : Addr} {v : V} (hk : nkT kt = some n) (hd : n.depth ≤ 8) (rk : RT K mg m H kt (.ref a)) (rv : RT K mg m H t v) :
    RN K mg m H (nputT kvs kt n t) (esPut es n a v) := by
  unfold nputT esPut
  rw [r.any n]
  split
  · rename_i z
    clear z hk rk hd
    induction r with
    | nil => exact .nil
    | @cons t' u k a' v' fs es hk hd r1 r2 _ ih =>
      simp only [nsetT, List.map_cons, hk, Option.some.injEq]
      by_cases e : k = n
      · rw [if_pos e, if_pos e]; exact .cons hk hd r1 rv ih
      · rw [if_neg e, if_neg e]; exact .cons hk hd r1 r2 ih
  · rename_i z
    clear z
    induction r with
    | nil => exact .cons hk hd rk rv .nil
    | cons h1 h2 h3 h4 _ ih => exact .cons h1 h2 h3 h4 ih
theorem EPr.put {es : List (NestedKey × Addr × V)} {xs : List (NestedKey × Addr × Value)} (p : EPr es xs) {n : NestedKey} {a : Addr} {v : V} {u : Value} (q : RelV v u) : EPr (esPut es n a v) (storedH xs n a u) := by
  have e1 : (es.any fun e => decide (e.1 = n)) = (atKey xs n).isSome := by
    induction p with
    | nil => rfl
    | @cons e x es xs r _ ih =>
      rw [atKey_cons, List.any_cons, ih, r.1]
      by_cases z : x.1 = n
      · rw [if_pos z]; simp [z]
      · rw [if_neg z]; simp [z]
  unfold esPut storedH
  rw [e1]
  split
  · rename_i z
    clear z e1
    induction p with
    | nil => exact .nil
    | @cons e x es xs r _ ih =>
      simp only [List.map_cons]
      refine .cons ?_ ih
      obtain ⟨r1, r2, r3⟩ := r
      unfold putAt
      rw [r1]
      split
      · exact ⟨rfl, r2, q⟩
      · exact ⟨r1, r2, r3⟩
  · rename_i z
    clear z e1
    induction p with
    | nil => exact .cons ⟨rfl, rfl, q⟩ .nil
    | cons r _ ih => exact .cons r ih
end
end W3
namespace W3
open PySem PySem.Spec PyProof.Rows
open L2
section
variable {X : Cx} {P : Pq} {W : WX} {a b c : Expr} {sa sb sc : SE} {pos p : Pos} {pins : List (Addr × Obj)} {σ : L2.St} {H : Hp} {s : Shared}
inductive KAt (X : Cx) (m : Mp) (H : Hp) (s : Shared) (a : Addr) (y : V) (iv : Value) : Option T → Prop
  | flat {r : Option T} (o : Option V) (g : DGet H a y o) (h : (∀ t, r = some t → ∃ v, o = some v ∧ RT X.K X.mg m H t v) ∧ (r = none → o = none)) : KAt X m H s a y iv r
  | deep {r : Option T} (n : NestedKey) (ka : Addr) (xs : List (NestedKey × Addr × Value)) (ey : iv = .ref ka) (ek : (nestedKind X.prog X.w).is s.heap n ka) (hs : (a == sysModules) = false) (hd : s.heap.DictOfH (nestedKind X.prog X.w) a xs)
      (h : (∀ t, r = some t → ∃ (b : Addr) (u : Value) (v : V), atKey xs n = some (b, u) ∧ RelV v u ∧ RT X.K X.mg m H t v) ∧ (r = none → atKey xs n = none)) : KAt X m H s a y iv r
theorem KAt.typeIs {m : Mp} {a : Addr} {y : V} {iv : Value} {r : Option T} (I : Inv X pins σ H s) (k : KAt X m H s a y iv r) : s.TypeIs (.ref a) "dict" := by
  cases k with
  | flat o g h => exact dict_typeIs I g
  | deep n ka xs ey ek hs hd h => exact hd.typeIs
end
end W3
namespace W3
open PySem PySem.Spec PyProof.Rows
open L2
section
variable {X : Cx} {P : Pq} {W : WX} {a b c : Expr} {sa sb sc : SE} {pos p : Pos} {pins : List (Addr × Obj)} {σ : L2.St} {H : Hp} {s : Shared}
end
end W3
end

section
namespace W3
open PySem PySem.Spec PyProof.Rows
open L2
def putD (acc : List (T × T)) (k v : T) : Option (List (T × T)) := match k with
  | .int i => some (iputT acc i v)
  | .str s => some (dputT acc s v)
  | _ => none
def dcRun (s : Src) (g : SG) (tt : ST) (tk te : SE) (σ : St3) : Nat → Nat → List (T × T) → Hh → Res (List (T × T))
  | k, i, acc, h => match s.at h i with
    | none => .stk
    | some none => .ok acc h
    | some (some x) => match k with
      | 0 => .stk
      | k + 1 => match g x σ with
        | none => .stk
        | some σ1 => match tt σ1 h with
          | .ok b h1 => if b = true then (match tk σ1 h1 with
              | .ok kt h2 => (match te σ1 h2 with
                | .ok t h3 => if acc.length < 1000000 then (match putD acc kt t with | some acc' => dcRun s g tt tk te σ k (i + 1) acc' h3 | none => .stk) else .stk
                | _ => .stk)
              | _ => .stk) else dcRun s g tt tk te σ k (i + 1) acc h1
          | _ => .stk
def sDc (si : SI) (g : SG) (tt : ST) (tk te : SE) (vs : List Nat) : SE := fun σ h => ((si σ h).bind fun s h1 => dcRun s g tt tk te (wipeT σ vs) (s.len h1) 0 [] h1).bind fun kvs h1 => alloc (.dic kvs) h1
section
variable {K : PySem.W.Frag} {mg : Str → Option Value} {wd : World} {m : Mp} {H : Hp} {h : Hh}
end
section
variable {X : Cx} {P : Pq} {W : WX} {tg iter : Expr} {si : SI}
end
@[simp] theorem e_sDc (si : SI) (g : SG) (tt : ST) (tk te : SE) (vs : List Nat) (σ : St3) (h : Hh) : sDc si g tt tk te vs σ h = ((si σ h).bind fun s h1 => dcRun s g tt tk te (wipeT σ vs) (s.len h1) 0 [] h1).bind fun kvs h1 => alloc (.dic kvs) h1 := Eq.trans rfl rfl
end W3
end

section
namespace RL2
open PySem
open PySem.Sem (wp)
open RZ
structure AtN (z TI TO i1 i2 l1 l2 : Nat) : Prop where
  e2 : i2 = i1 + 1
  eI : TI = i1 + 2
  eO : TO = i1 + 3
  ez : z = i1 + 4
  f1 : l1 < i1
  f2 : l2 < i1
section
variable {prog : Program} {w : World} {A : Around} {E : Value → Shared → Prop} {s : Shared}
end
section
variable {prog : Program} {w : World} {A : Around} {E : Value → Shared → Prop} {s : Shared}
end
end RL2
namespace W3
open PySem PySem.Spec PyProof.Rows
open L2
open RL2
section
variable {K : PySem.W.Frag} {mg : Str → Option Value} {wd : World} {m : Mp} {H : Hp}
end
def zipL2Of (xs : List T) (h : Hh) : Res Src := match xs with
  | [.ref p1, .ref p2] => (match lstAt h p1, lstAt h p2 with | some _, some _ => .ok (.z2 p1 p2) h | _, _ => .stk)
  | _ => .stk
def siZipL2 (a : SA) : SI := fun σ h => (a σ h).bind zipL2Of
@[simp] theorem e_siZipL2 (a : SA) (σ : St3) (h : Hh) : siZipL2 a σ h = (a σ h).bind zipL2Of := Eq.trans rfl rfl
section
variable {X : Cx} {P : Pq} {W : WX} {e1 e2 : Expr} {ar : SA} {pos p : Pos}
end
end W3
end

section
namespace RL3
open PySem
open PySem.Sem (wp)
open RZ
structure AtN (z TI TO i1 i2 i3 l1 l2 l3 : Nat) : Prop where
  e2 : i2 = i1 + 1
  e3 : i3 = i1 + 2
  eI : TI = i1 + 3
  eO : TO = i1 + 4
  ez : z = i1 + 5
  f1 : l1 < i1
  f2 : l2 < i1
  f3 : l3 < i1
section
variable {prog : Program} {w : World} {A : Around} {E : Value → Shared → Prop} {s : Shared}
end
section
variable {prog : Program} {w : World} {A : Around} {E : Value → Shared → Prop} {s : Shared}
end
end RL3
namespace W3
open PySem PySem.Spec PyProof.Rows
open L2
open RL3
section
variable {K : PySem.W.Frag} {mg : Str → Option Value} {wd : World} {m : Mp} {H : Hp}
end
def zipL3Of (xs : List T) (h : Hh) : Res Src := match xs with
  | [.ref p1, .ref p2, .ref p3] => (match lstAt h p1, lstAt h p2, lstAt h p3 with | some _, some _, some _ => .ok (.z3 p1 p2 p3) h | _, _, _ => .stk)
  | _ => .stk
def siZipL3 (a : SA) : SI := fun σ h => (a σ h).bind zipL3Of
@[simp] theorem e_siZipL3 (a : SA) (σ : St3) (h : Hh) : siZipL3 a σ h = (a σ h).bind zipL3Of := Eq.trans rfl rfl
section
variable {X : Cx} {P : Pq} {W : WX} {e1 e2 e3 : Expr} {ar : SA} {pos p : Pos}
end
end W3
end

section
namespace W3
open PySem PySem.Spec PyProof.Rows
open L2
def ssAugI (i : Nat) (a : SE) : SS := fun σ h => match σ[i]? with
  | some (some (.int x)) => (a σ h).flo σ fun y h1 => match y with
    | .int z => .nx (σ.set i (some (.int (x + z)))) h1
    | _ => .stk
  | _ => .stk
def seqOf (x : T) (h : Hh) : Option (List T) := match x with
  | .tup ts => some ts
  | .fl ts => some ts
  | .ref l => lstAt h l
  | _ => none
def saStar (a : SE) (r : SA) : SA := fun σ h => (a σ h).bind fun x h1 => match seqOf x h1 with
  | some ts => (r σ h1).bind fun us h2 => .ok (ts ++ us) h2
  | none => .stk
section
variable {X : Cx} {P : Pq} {W : WX} {a b c e : Expr} {sa sb sc : SE} {pos p pos' : Pos} {es : List Expr} {ar : SA}
end
@[simp] theorem e_ssAugI (i : Nat) (a : SE) (σ : St3) (h : Hh) : ssAugI i a σ h = match σ[i]? with
  | some (some (.int x)) => (a σ h).flo σ fun y h1 => match y with
    | .int z => .nx (σ.set i (some (.int (x + z)))) h1
    | _ => .stk
  | _ => .stk := Eq.trans rfl rfl
@[simp] theorem e_saStar (a : SE) (r : SA) (σ : St3) (h : Hh) : saStar a r σ h = (a σ h).bind fun x h1 => match seqOf x h1 with
  | some ts => (r σ h1).bind fun us h2 => .ok (ts ++ us) h2
  | none => .stk := Eq.trans rfl rfl
end W3
end

section
namespace W3
open PySem PySem.Spec PyProof.Rows
open L2
def seqL (x : T) (h : Hh) : Option (List T) := match x with
  | .fl ts => some ts
  | .ref l => lstAt h l
  | _ => none
def sRevL (a : SE) : SE := fun σ h => (a σ h).bind fun x h1 => match seqL x h1 with
  | some ts => alloc (.lst ts.reverse) h1
  | none => .stk
section
variable {X : Cx} {P : Pq} {W : WX} {a : Expr} {sa : SE}
end
@[simp] theorem e_sRevL (a : SE) (σ : St3) (h : Hh) : sRevL a σ h = (a σ h).bind fun x h1 => match seqL x h1 with
  | some ts => alloc (.lst ts.reverse) h1
  | none => .stk := Eq.trans rfl rfl
section
variable {X : Cx} {XS : XSub} {a : Addr} {oe : Obj} {cls : Value} {d : Option Addr} {pn : List (Addr × Obj)} {sl : Option Nat} {c : Str} {fs : List (Str × T)} {es : List Expr} {ar : SA} {arx : Str → List (Str × T) → SA} {pos : Pos}
end
end W3
end

section
namespace W3
open PySem PySem.Spec PyProof.Rows
open L2
section
variable {X : Cx}
end
end W3
end

section
namespace W3
open PySem PySem.Spec PyProof.Rows
open L2
section
variable {X : Cx}
end
end W3
end

section
namespace W3
open PySem PySem.Spec PyProof.Rows
open L2
section
variable {X : Cx}
end
end W3
end

section
namespace W3
open PySem PySem.Spec PyProof.Rows
open L2
section
variable {X : Cx}
end
end W3
end

section
namespace W3
open PySem PySem.Spec PyProof.Rows
open L2
section
variable {X : Cx} {P : Pq} {W : WX} {o e f : Expr} {so se sf : SE} {apos cpos pos p : Pos}
end
end W3
namespace L2
open PySem PySem.Spec PyProof.Rows
section
variable {X : Cx} {e : Expr} {te : TE} {p apos cpos pos : Pos}
end
end L2
namespace W3
open PySem PySem.Spec PyProof.Rows
open L2
theorem RK.vals {K : PySem.W.Frag} {mg : Str → Option Value} {m : Mp} {H : Hp} {kvs : List (T × T)} {ks : List (Key × V)} (r : RK K mg m H kvs ks) : RTs K mg m H (kvs.map (·.2)) (ks.map (·.2)) := by
  induction r with
  | nil => exact .nil
  | cons q _ ih => exact .cons q ih
  | consI q _ ih => exact .cons q ih
section
variable {X : Cx} {P : Pq} {W : WX} {e : Expr} {se : SE} {apos cpos pos p : Pos}
end
end W3
end

section
namespace W3
open PySem PySem.Spec PyProof.Rows
open L2
section
variable {X : Cx} {P : Pq} {W : WX} {ar : SA} {a : Expr} {pos p tpos cpos : Pos} {body : List Stmt} {x1 : SS} {elts : List Expr} {kk : Nat}
end
end W3
end

section
namespace W3
open PySem PySem.Spec PyProof.Rows
open L2
section
variable {X : Cx} {P : Pq} {W : WX} {o e k v : Expr} {so se sk sv : SE} {apos cpos pos : Pos}
end
end W3
end

section
namespace W3
open PySem PySem.Spec PyProof.Rows
open L2
section
variable {X : Cx} {P : Pq} {W : WX} {o e f : Expr} {so se sf : SE} {apos cpos pos : Pos} {pins : List (Addr × Obj)} {σ : L2.St} {H : Hp} {s : Shared}
end
end W3
namespace W3
open PySem PySem.Spec PyProof.Rows
open L2
section
variable {X : Cx} {P : Pq} {W : WX} {k v : Expr} {sk sv : SE} {pos : Pos}
end
end W3
end

section
namespace W3
open PySem
theorem sz : sizeLine = 16777216 := by decide +kernel
@[simp] theorem sz_0 : 0 ≤ sizeLine := by decide +kernel
@[simp] theorem sz_1 : 1 ≤ sizeLine := by decide +kernel
@[simp] theorem sz_2 : 2 ≤ sizeLine := by decide +kernel
@[simp] theorem sz_3 : 3 ≤ sizeLine := by decide +kernel
@[simp] theorem sz_4 : 4 ≤ sizeLine := by decide +kernel
@[simp] theorem sz_5 : 5 ≤ sizeLine := by decide +kernel
@[simp] theorem sz_6 : 6 ≤ sizeLine := by decide +kernel
@[simp] theorem sz_7 : 7 ≤ sizeLine := by decide +kernel
@[simp] theorem sz_8 : 8 ≤ sizeLine := by decide +kernel
@[simp] theorem sz_9 : 9 ≤ sizeLine := by decide +kernel
@[simp] theorem sz_10 : 10 ≤ sizeLine := by decide +kernel
@[simp] theorem sz_11 : 11 ≤ sizeLine := by decide +kernel
@[simp] theorem sz_12 : 12 ≤ sizeLine := by decide +kernel
@[simp] theorem sz_13 : 13 ≤ sizeLine := by decide +kernel
@[simp] theorem sz_14 : 14 ≤ sizeLine := by decide +kernel
@[simp] theorem sz_15 : 15 ≤ sizeLine := by decide +kernel
@[simp] theorem sz_16 : 16 ≤ sizeLine := by decide +kernel
@[simp] theorem sz_17 : 17 ≤ sizeLine := by decide +kernel
@[simp] theorem sz_18 : 18 ≤ sizeLine := by decide +kernel
@[simp] theorem sz_19 : 19 ≤ sizeLine := by decide +kernel
@[simp] theorem sz_20 : 20 ≤ sizeLine := by decide +kernel
@[simp] theorem sz_21 : 21 ≤ sizeLine := by decide +kernel
@[simp] theorem sz_22 : 22 ≤ sizeLine := by decide +kernel
@[simp] theorem sz_23 : 23 ≤ sizeLine := by decide +kernel
@[simp] theorem sz_24 : 24 ≤ sizeLine := by decide +kernel
@[simp] theorem sz_25 : 25 ≤ sizeLine := by decide +kernel
@[simp] theorem sz_26 : 26 ≤ sizeLine := by decide +kernel
@[simp] theorem sz_ne : (sizeLine = 0) = False := by rw [sz]; simp
@[simp] theorem sz_lt1 : 0 < sizeLine := by decide +kernel
theorem szle {n : Nat} (h : n ≤ 16777216) : n ≤ sizeLine := by rw [sz]; exact h
def mOk (c m : Str) (x : T) (h : Hh) : Bool := match x with
  | .ref l => match insAt h l with
    | some (d, fs) => decide (d = c ∧ fs.lookup m = none)
    | none => false
  | _ => false
def fSet (cs : List (Str × List Str)) (x : T) (f : Str) (y : T) (σ : St3) (h2 : Hh) : Flo := match x with
  | .ref l => match insAt h2 l with
    | some (c, fs) => match cs.lookup c with
      | some as => if as.contains f && decide (fs.length < 1000) then .nx σ (h2.set l (.ins c (putT f y fs))) else .stk
      | none => .stk
    | none => .stk
  | _ => .stk
section
variable {σ : St3} {h : Hh}
@[simp] theorem e_sC (t : T) : sC t σ h = .ok t h := Eq.trans rfl rfl
@[simp] theorem e_s1 (f : T → Hh → Res T) (a : SE) : s1 f a σ h = (a σ h).bind f := Eq.trans rfl rfl
@[simp] theorem e_s2 (f : T → T → Hh → Res T) (a b : SE) : s2 f a b σ h = (a σ h).bind fun x h1 => (b σ h1).bind fun y h2 => f x y h2 := Eq.trans rfl rfl
@[simp] theorem e_sVar (i : Nat) : sVar i σ h = match σ[i]? with | some (some t) => .ok t h | _ => .stk := Eq.trans rfl rfl
@[simp] theorem e_sT (a : SE) : sT a σ h = (a σ h).bind fun x h1 => match x with | .bl b => .ok b h1 | _ => .stk := Eq.trans rfl rfl
@[simp] theorem e_stAnd (a b : ST) : stAnd a b σ h = (a σ h).bind fun x h1 => if x = true then b σ h1 else .ok false h1 := Eq.trans rfl rfl
@[simp] theorem e_stOr (a b : ST) : stOr a b σ h = (a σ h).bind fun x h1 => if x = true then .ok true h1 else b σ h1 := Eq.trans rfl rfl
@[simp] theorem e_stNot (a : ST) : stNot a σ h = (a σ h).bind fun x h1 => .ok (!x) h1 := Eq.trans rfl rfl
@[simp] theorem e_sB (a : ST) : sB a σ h = (a σ h).bind fun x h1 => .ok (.bl x) h1 := Eq.trans rfl rfl
@[simp] theorem e_sIf (c : ST) (a b : SE) : sIf c a b σ h = (c σ h).bind fun x h1 => if x = true then a σ h1 else b σ h1 := Eq.trans rfl rfl
@[simp] theorem e_sChain (f g : T → T → Hh → Res T) (a b c : SE) : sChain f g a b c σ h = (a σ h).bind fun x h1 => (b σ h1).bind fun y h2 => (f x y h2).bind fun z h3 => match z with
  | .bl k => if k = true then (c σ h3).bind fun w h4 => g y w h4 else .ok (.bl false) h3
  | _ => .stk := Eq.trans rfl rfl
@[simp] theorem e_saNil : saNil σ h = .ok [] h := Eq.trans rfl rfl
@[simp] theorem e_saCons (a : SE) (r : SA) : saCons a r σ h = (a σ h).bind fun x h1 => (r σ h1).bind fun xs h2 => .ok (x :: xs) h2 := Eq.trans rfl rfl
@[simp] theorem e_sTup (a : SA) : sTup a σ h = (a σ h).bind fun xs h1 => if xs.length ≤ sizeLine then .ok (.tup xs) h1 else .stk := Eq.trans rfl rfl
@[simp] theorem e_sLst (a : SA) : sLst a σ h = (a σ h).bind fun xs h1 => if xs.length ≤ sizeLine then alloc (.lst xs) h1 else .stk := Eq.trans rfl rfl
@[simp] theorem e_sCl (f : List T → Hh → Res T) (a : SA) : sCl f a σ h = (a σ h).bind f := Eq.trans rfl rfl
@[simp] theorem e_sOver (f : List T → Hh → Res T) (a : SA) : sOver f a σ h = (a σ h).bind f := Eq.trans rfl rfl
@[simp] theorem e_sLc (a : SA) : sLc a σ h = (a σ h).bind fun xs h1 => alloc (.lst xs) h1 := Eq.trans rfl rfl
@[simp] theorem e_sMt (f : T → List T → Hh → Res T) (o : SE) (a : SA) : sMt f o a σ h = (o σ h).bind fun x h1 => (a σ h1).bind fun xs h2 => f x xs h2 := Eq.trans rfl rfl
@[simp] theorem e_sMtL (f : T → List T → Hh → Res T) (o : SE) (a : SA) : sMtL f o a σ h = (o σ h).bind fun x h1 => if isL x h1 = true then (a σ h1).bind fun xs h2 => f x xs h2 else .stk := Eq.trans rfl rfl
@[simp] theorem e_soNone : soNone σ h = .ok none h := Eq.trans rfl rfl
@[simp] theorem e_soSome (a : SE) : soSome a σ h = (a σ h).bind fun x h1 => match x with | .int i => .ok (some i) h1 | _ => .stk := Eq.trans rfl rfl
@[simp] theorem e_sSl (a : SE) (lo hi : SO) : sSl a lo hi σ h = (a σ h).bind fun x h1 => (lo σ h1).bind fun l h2 => (hi σ h2).bind fun u h3 => oSl x l u h3 := Eq.trans rfl rfl
@[simp] theorem e_sDic0 : sDic0 σ h = alloc (.dic []) h := Eq.trans rfl rfl
@[simp] theorem e_alloc (o : Ob) : alloc o h = .ok (.ref h.length) (h ++ [o]) := Eq.trans rfl rfl
@[simp] theorem e_arN (n : Nat) (f : List T → Hh → Res T) (xs : List T) : arN n f xs h = if xs.length = n then f xs h else .stk := Eq.trans rfl rfl
@[simp] theorem e_siE (a : SE) : siE a σ h = (a σ h).bind srcOf := Eq.trans rfl rfl
@[simp] theorem e_siRange1 (a : SA) : siRange1 a σ h = (a σ h).bind rngOf := Eq.trans rfl rfl
@[simp] theorem e_rng {j : Int} (h0 : -1000000 ≤ j) (h2 : j ≤ 1000000) : rngOf [.int j] h = .ok (.its (rangeT 0 j.toNat)) h := by
  have a1 : RngOk j := by
    have : (2 ^ 62 : Int) = 4611686018427387904 := by decide +kernel
    unfold RngOk
    rw [this]; omega
  unfold rngOf
  simp only [a1, if_true]
@[simp] theorem e_stYes : stYes σ h = .ok true h := Eq.trans rfl rfl
@[simp] theorem e_sgName (i : Nat) (t : T) : sgName i t σ = some (σ.set i (some t)) := Eq.trans rfl rfl
@[simp] theorem e_sgsNil : sgsNil [] σ = some σ := Eq.trans rfl rfl
@[simp] theorem e_sgsCons (g : SG) (r : SGs) (t : T) (ts : List T) : sgsCons g r (t :: ts) σ = match g t σ with | some σ1 => r ts σ1 | none => none := Eq.trans rfl rfl
@[simp] theorem e_sgTup (n : Nat) (g : SGs) (ts : List T) : sgTup n g (.tup ts) σ = if ts.length = n then g ts σ else none := Eq.trans rfl rfl
@[simp] theorem e_saLc (si : SI) (g : SG) (tt : ST) (te : SE) (vs : List Nat) : saLc si g tt te vs σ h = (si σ h).bind fun s h1 => lcRun s g tt te (wipeT σ vs) (s.len h1) 0 [] h1 := Eq.trans rfl rfl
@[simp] theorem e_wipe0 : wipeT σ [] = σ := Eq.trans rfl rfl
@[simp] theorem e_wipe1 (v : Nat) (vs : List Nat) : wipeT σ (v :: vs) = (wipeT σ vs).set v none := Eq.trans rfl rfl
@[simp] theorem e_ssNil : ssNil σ h = .nx σ h := Eq.trans rfl rfl
@[simp] theorem e_ssCons (a b : SS) : ssCons a b σ h = (a σ h).seq b := Eq.trans rfl rfl
@[simp] theorem e_ssIf (c : ST) (a b : SS) : ssIf c a b σ h = (c σ h).flo σ fun x h1 => if x = true then a σ h1 else b σ h1 := Eq.trans rfl rfl
@[simp] theorem e_ssRet (a : SE) : ssRet a σ h = (a σ h).flo σ fun x h1 => .rt x h1 := Eq.trans rfl rfl
@[simp] theorem e_ssRetN : ssRetN σ h = .rt .non h := Eq.trans rfl rfl
@[simp] theorem e_ssExpr (a : SE) : ssExpr a σ h = (a σ h).flo σ fun _ h1 => .nx σ h1 := Eq.trans rfl rfl
@[simp] theorem e_ssAsg (a : SE) (g : SG) : ssAsg a g σ h = (a σ h).flo σ fun x h1 => match g x σ with | some σ1 => .nx σ1 h1 | none => .stk := Eq.trans rfl rfl
@[simp] theorem e_ssStk : ssStk σ h = .stk := Eq.trans rfl rfl
@[simp] theorem e_ssBreak : ssBreak σ h = .bk σ h := Eq.trans rfl rfl
@[simp] theorem e_ssCont : ssCont σ h = .ct σ h := Eq.trans rfl rfl
@[simp] theorem e_ssSub (o i v : SE) : ssSub o i v σ h = (v σ h).flo σ fun y h1 => (o σ h1).flo σ fun x h2 => (i σ h2).flo σ fun k h3 => match x, k with
  | .ref l, .int n => match lstAt h3 l with
    | some ts => match L2.ixN ts.length n with | some j => .nx σ (h3.set l (.lst (ts.set j y))) | none => .stk
    | none => .stk
  | _, _ => .stk := Eq.trans rfl rfl
@[simp] theorem e_ssFldC (cs : List (Str × List Str)) (o v : SE) (f : Str) : ssFldC cs o v f σ h = (v σ h).flo σ fun y h1 => (o σ h1).flo σ fun x h2 => fSet cs x f y σ h2 := Eq.trans rfl rfl
@[simp] theorem e_ssFor (si : SI) (g : SG) (b : SS) : ssFor si g b σ h = (si σ h).flo σ fun s h1 => forRun s g b (s.len h1) 0 σ h1 := Eq.trans rfl rfl
theorem e_sMeth0 (c m : Str) (n : Nat) (f : List T → Hh → Res T) (o : SE) (a : SA) : sMeth c m n f o a σ h = (o σ h).bind fun x h1 => if mOk c m x h1 = true then (a σ h1).bind fun xs h2 => arN n f (x :: xs) h2 else .stk := by
  have key : ∀ x h1, (match x with
      | .ref l => match insAt h1 l with
        | some (d, fs) => if d = c ∧ fs.lookup m = none then (a σ h1).bind fun xs h2 => arN n f (x :: xs) h2 else .stk
        | none => .stk
      | _ => .stk) = if mOk c m x h1 = true then (a σ h1).bind fun xs h2 => arN n f (x :: xs) h2 else .stk := by
    intro x h1
    cases x with
    | ref l =>
      cases hi : insAt h1 l with
      | none => simp only [mOk, hi]; rfl
      | some p =>
        obtain ⟨d, fs⟩ := p
        by_cases q : d = c ∧ fs.lookup m = none
        · simp only [mOk, hi]; rw [if_pos q, if_pos (by simp [q])]
        · simp only [mOk, hi]; rw [if_neg q, if_neg (by simpa using q)]
    | _ => rfl
  unfold sMeth
  congr 1
  funext x h1
  exact key x h1
@[simp] theorem e_sMeth (c m : Str) (n : Nat) (f : List T → Hh → Res T) (o : SE) (a : SA) : sMeth c m n f o a σ h = (o σ h).bind fun x h1 => if mOk c m x h1 = true then (a σ h1).bind fun xs h2 => arN n f (x :: xs) h2 else .stk := e_sMeth0 c m n f o a
@[simp] theorem e_sClK (n q : Nat) (pat : List Bool) (ds : List T) (f : List T → Hh → Res T) (a kw : SA) : sClK n q pat ds f a kw σ h = (a σ h).bind fun xs h1 => (kw σ h1).bind fun zs h2 => if xs.length = n ∧ zs.length = q then f (xs ++ weave pat ds zs) h2 else .stk := Eq.trans rfl rfl
@[simp] theorem e_bMakeK (c : Str) (q n : Nat) (pat : List Bool) (ds : List T) (f : List T → Hh → Res T) (a kw : SA) : bMakeK c q n pat ds f a kw σ h = (a σ h).bind fun xs h1 => (kw σ h1).bind fun zs h2 => if xs.length = n ∧ zs.length = q then bMake c (n + 1 + pat.length) f (xs ++ weave pat ds zs) h2 else .stk := Eq.trans rfl rfl
@[simp] theorem e_bMake (c : Str) (n : Nat) (f : List T → Hh → Res T) (xs : List T) : bMake c n f xs h = (arN n f (.ref h.length :: xs) (h ++ [.ins c []])).bind fun t h1 => match t with | .non => .ok (.ref h.length) h1 | _ => .stk := Eq.trans rfl rfl
@[simp] theorem e_add_ii (i j : Int) : oAdd (.int i) (.int j) h = .ok (.int (i + j)) h := Eq.trans rfl rfl
@[simp] theorem e_add_ss (i j : Str) : oAdd (.str i) (.str j) h = if i.length + j.length ≤ sizeLine then .ok (.str (i ++ j)) h else .stk := Eq.trans rfl rfl
@[simp] theorem e_add_tt (i j : List T) : oAdd (.tup i) (.tup j) h = if i.length + j.length ≤ sizeLine then .ok (.tup (i ++ j)) h else .stk := Eq.trans rfl rfl
@[simp] theorem e_sub_ii (i j : Int) : oSub (.int i) (.int j) h = .ok (.int (i - j)) h := Eq.trans rfl rfl
theorem mul_ok {i j : Int} (q : MulOk i j) : oMul (.int i) (.int j) h = .ok (.int (i * j)) h := by
  unfold oMul
  simp only [q, if_true]
theorem two64 : (2 ^ 64 : Int) = 18446744073709551616 := by decide +kernel
@[simp] theorem e_mul_l {i j : Int} (h0 : -18446744073709551616 < i) (h1 : i < 18446744073709551616) : oMul (.int i) (.int j) h = .ok (.int (i * j)) h := mul_ok (.inl (by rw [two64]; exact ⟨h0, h1⟩))
@[simp] theorem e_mul_r {i j : Int} (h0 : -18446744073709551616 < j) (h1 : j < 18446744073709551616) : oMul (.int i) (.int j) h = .ok (.int (i * j)) h := mul_ok (.inr (by rw [two64]; exact ⟨h0, h1⟩))
@[simp] theorem e_mod_ii (i j : Int) : oMod (.int i) (.int j) h = if 0 < j then .ok (.int (i % j)) h else .stk := Eq.trans rfl rfl
@[simp] theorem e_div_ii (i j : Int) : oDiv (.int i) (.int j) h = if 0 < j ∧ j < 1073741824 then .ok (.int (i / j)) h else .stk := Eq.trans rfl rfl
theorem pow_ok {i j : Int} (q : PowOk i j) : oPow (.int i) (.int j) h = .ok (.int (i ^ j.toNat)) h := by
  unfold oPow
  simp only [q, if_true]
@[simp] theorem e_pow_ii {i j : Int} (h0 : 0 ≤ j) (h1 : j ≤ 1000000) (h2 : i.natAbs < 18446744073709551616) : oPow (.int i) (.int j) h = .ok (.int (i ^ j.toNat)) h := pow_ok ⟨h0, h1, by
  have : (2 ^ 64 : Nat) = 18446744073709551616 := by decide +kernel
  rw [this]; exact h2⟩
@[simp] theorem e_lt_ii (i j : Int) : oLt (.int i) (.int j) h = .ok (.bl (decide (i < j))) h := Eq.trans rfl rfl
@[simp] theorem e_le_ii (i j : Int) : oLe (.int i) (.int j) h = .ok (.bl (decide (i ≤ j))) h := Eq.trans rfl rfl
@[simp] theorem e_gt_ii (i j : Int) : oGt (.int i) (.int j) h = .ok (.bl (decide (j < i))) h := Eq.trans rfl rfl
@[simp] theorem e_ge_ii (i j : Int) : oGe (.int i) (.int j) h = .ok (.bl (decide (j ≤ i))) h := Eq.trans rfl rfl
@[simp] theorem e_is_n (x : T) : oIs x .non h = .ok (.bl (isNonT x)) h := Eq.trans rfl rfl
@[simp] theorem e_is_b (a b : Bool) : oIs (.bl a) (.bl b) h = .ok (.bl (decide (a = b))) h := Eq.trans rfl rfl
@[simp] theorem e_isnot_n (x : T) : oIsNot x .non h = .ok (.bl (!isNonT x)) h := Eq.trans rfl rfl
@[simp] theorem e_isnot_b (a b : Bool) : oIsNot (.bl a) (.bl b) h = .ok (.bl (!decide (a = b))) h := Eq.trans rfl rfl
@[simp] theorem e_nonT0 : isNonT .non = true := Eq.trans rfl rfl
@[simp] theorem e_nonT1 (s : Str) : isNonT (.str s) = false := Eq.trans rfl rfl
@[simp] theorem e_nonT2 (s : List T) : isNonT (.tup s) = false := Eq.trans rfl rfl
@[simp] theorem e_nonT3 (s : Int) : isNonT (.int s) = false := Eq.trans rfl rfl
@[simp] theorem e_nonT4 (s : Bool) : isNonT (.bl s) = false := Eq.trans rfl rfl
@[simp] theorem e_eq_ii (i j : Int) : oEq (.int i) (.int j) h = .ok (.bl (decide (i = j))) h := by
  show Res.ok (T.bl (i == j)) h = _
  rw [show (i == j) = decide (i = j) from rfl]
@[simp] theorem e_eq_ss (i j : Str) : oEq (.str i) (.str j) h = .ok (.bl (decide (i = j))) h := by
  show Res.ok (T.bl (i == j)) h = _
  rw [show (i == j) = decide (i = j) from rfl]
@[simp] theorem e_ne_ii (i j : Int) : oNe (.int i) (.int j) h = .ok (.bl (!decide (i = j))) h := by
  show Res.ok (T.bl (!(i == j))) h = _
  rw [show (i == j) = decide (i = j) from rfl]
@[simp] theorem e_ne_ss (i j : Str) : oNe (.str i) (.str j) h = .ok (.bl (!decide (i = j))) h := by
  show Res.ok (T.bl (!(i == j))) h = _
  rw [show (i == j) = decide (i = j) from rfl]
@[simp] theorem e_ne_bb (i j : Bool) : oNe (.bl i) (.bl j) h = .ok (.bl (!decide (i = j))) h := by
  show Res.ok (T.bl (!(i == j))) h = _
  rw [show (i == j) = decide (i = j) by cases i <;> cases j <;> rfl]
@[simp] theorem e_eq_bb (i j : Bool) : oEq (.bl i) (.bl j) h = .ok (.bl (decide (i = j))) h := by
  show Res.ok (T.bl (i == j)) h = _
  rw [show (i == j) = decide (i = j) by cases i <;> cases j <;> rfl]
@[simp] theorem e_ix_tup (ts : List T) (i : Int) : oIx (.tup ts) (.int i) h = match L2.atI ts i with | some t => .ok t h | none => .stk := Eq.trans rfl rfl
@[simp] theorem e_ix_fl (ts : List T) (i : Int) : oIx (.fl ts) (.int i) h = match L2.atI ts i with | some t => .ok t h | none => .stk := Eq.trans rfl rfl
@[simp] theorem e_ix_ref (l : Nat) (i : Int) : oIx (.ref l) (.int i) h = match lstAt h l with
      | some ts => match L2.atI ts i with | some t => .ok t h | none => .stk
      | none => .stk := Eq.trans rfl rfl
@[simp] theorem e_ix_str (z : Str) (i : Int) : oIx (.str z) (.int i) h = if z.length ≤ sizeLine then (match L2.atI z.cps.toList i with | some c => .ok (.str ⟨#[c]⟩) h | none => .stk) else .stk := Eq.trans rfl rfl
@[simp] theorem e_sl_tup (ts : List T) (lo hi : Option Int) : oSl (.tup ts) lo hi h = .ok (.tup (cutT ts lo hi)) h := Eq.trans rfl rfl
@[simp] theorem e_sl_fl (ts : List T) (lo hi : Option Int) : oSl (.fl ts) lo hi h = alloc (.lst (cutT ts lo hi)) h := Eq.trans rfl rfl
@[simp] theorem e_sl_ref (l : Nat) (lo hi : Option Int) : oSl (.ref l) lo hi h = match lstAt h l with | some ts => alloc (.lst (cutT ts lo hi)) h | none => .stk := Eq.trans rfl rfl
@[simp] theorem e_sl_str (z : Str) (lo hi : Option Int) : oSl (.str z) lo hi h = if z.length ≤ sizeLine then .ok (.str (L2.cutS z lo hi)) h else .stk := Eq.trans rfl rfl
@[simp] theorem e_len_tup (ts : List T) : bLen [.tup ts] h = .ok (.int ts.length) h := Eq.trans rfl rfl
@[simp] theorem e_len_fl (ts : List T) : bLen [.fl ts] h = .ok (.int ts.length) h := Eq.trans rfl rfl
@[simp] theorem e_len_str (z : Str) : bLen [.str z] h = if z.length ≤ sizeLine then .ok (.int z.length) h else .stk := Eq.trans rfl rfl
@[simp] theorem e_len_ref (l : Nat) : bLen [.ref l] h = match lstAt h l with | some ts => .ok (.int ts.length) h | none => .stk := Eq.trans rfl rfl
@[simp] theorem e_int (i : Int) : bInt [.int i] h = .ok (.int i) h := Eq.trans rfl rfl
@[simp] theorem e_bTup (ts : List T) : bTup ts h = .ok (.tup ts) h := Eq.trans rfl rfl
@[simp] theorem e_tuple_tup (ts : List T) : bTuple [.tup ts] h = .ok (.tup ts) h := Eq.trans rfl rfl
@[simp] theorem e_tuple_ref (l : Nat) : bTuple [.ref l] h = match lstAt h l with | some ts => .ok (.tup ts) h | none => .stk := Eq.trans rfl rfl
@[simp] theorem e_list_tup (ts : List T) : bList [.tup ts] h = alloc (.lst ts) h := Eq.trans rfl rfl
@[simp] theorem e_list_ref (l : Nat) : bList [.ref l] h = match lstAt h l with | some ts => alloc (.lst ts) h | none => .stk := Eq.trans rfl rfl
@[simp] theorem e_srcOf_tup (ts : List T) : srcOf (.tup ts) h = .ok (.its ts) h := Eq.trans rfl rfl
@[simp] theorem e_srcOf_fl (ts : List T) : srcOf (.fl ts) h = .ok (.its ts) h := Eq.trans rfl rfl
@[simp] theorem e_srcOf_str (z : Str) : srcOf (.str z) h = .ok (.its (z.cps.toList.map fun c => .str ⟨#[c]⟩)) h := Eq.trans rfl rfl
@[simp] theorem e_srcOf_ref (l : Nat) : srcOf (.ref l) h = match lstAt h l with | some _ => .ok (.live l) h | none => .stk := Eq.trans rfl rfl
@[simp] theorem e_isL_ref (l : Nat) : isL (.ref l) h = (lstAt h l).isSome := Eq.trans rfl rfl
@[simp] theorem e_append (l : Nat) (y : T) : mAppend (.ref l) [y] h = match lstAt h l with
    | some ts => if ts.length < sizeLine then .ok .non (h.set l (.lst (ts ++ [y]))) else .stk
    | none => .stk := Eq.trans rfl rfl
@[simp] theorem e_isK_non (k : Kd) : oIsK k .non h = .ok (.bl false) h := Eq.trans rfl rfl
@[simp] theorem e_isK_str (k : Kd) (s : Str) : oIsK k (.str s) h = .ok (.bl (k == .str)) h := Eq.trans rfl rfl
@[simp] theorem e_isK_int (k : Kd) (s : Int) : oIsK k (.int s) h = .ok (.bl (k == .int)) h := Eq.trans rfl rfl
@[simp] theorem e_isK_bl (k : Kd) (s : Bool) : oIsK k (.bl s) h = .ok (.bl (k == .bool || k == .int)) h := Eq.trans rfl rfl
@[simp] theorem e_isK_tup (k : Kd) (s : List T) : oIsK k (.tup s) h = .ok (.bl (k == .tuple)) h := Eq.trans rfl rfl
theorem e_isK_lst {k : Kd} {l : Nat} {ts : List T} (e : lstAt h l = some ts) : oIsK k (.ref l) h = .ok (.bl (k == .list)) h := by
  unfold lstAt at e
  unfold oIsK isK
  split at e
  · rename_i q; simp only [q]
  · cases e
end
@[simp] theorem lstAt_set_self {h : Hh} {l : Nat} {ts : List T} (hl : l < h.length) : lstAt (h.set l (.lst ts)) l = some ts := by
  unfold lstAt; rw [List.getElem?_set_self hl]
theorem lstAt_set_ne {h : Hh} {l k : Nat} {o : Ob} (hl : l ≠ k) : lstAt (h.set l o) k = lstAt h k := by
  unfold lstAt; rw [List.getElem?_set_ne hl]
theorem lstAt_of {h : Hh} {l : Nat} {ts : List T} (e : h[l]? = some (.lst ts)) : lstAt h l = some ts := by
  unfold lstAt; rw [e]
theorem of_lstAt {h : Hh} {l : Nat} {ts : List T} (e : lstAt h l = some ts) : h[l]? = some (.lst ts) := by
  unfold lstAt at e; split at e
  · rename_i q; cases e; exact q
  · cases e
theorem lstAt_lt {h : Hh} {l : Nat} {ts : List T} (e : lstAt h l = some ts) : l < h.length := by
  have := of_lstAt e
  exact (List.getElem?_eq_some_iff.mp this).1
theorem lstAt_app {h : Hh} {l : Nat} {ts : List T} (o : List Ob) (e : lstAt h l = some ts) : lstAt (h ++ o) l = some ts := by
  have := lstAt_lt e
  unfold lstAt at e ⊢
  rw [List.getElem?_append_left this]; exact e
@[simp] theorem lstAt_new {h : Hh} {ts : List T} : lstAt (h ++ [.lst ts]) h.length = some ts := by
  unfold lstAt; simp
@[simp] theorem ixN_of {n : Nat} {i : Int} (h0 : 0 ≤ i) (h1 : i < n) : L2.ixN n i = some i.toNat := by
  unfold L2.ixN; rw [if_pos h0, if_pos h1]
@[simp] theorem atI_z {α : Type} (a : α) (r : List α) : L2.atI (a :: r) 0 = some a := by
  unfold L2.atI L2.ixN; simp [show (0 : Int) < (r.length : Int) + 1 by omega]
@[simp] theorem atI_1 {α : Type} (a b : α) (r : List α) : L2.atI (a :: b :: r) 1 = some b := by
  unfold L2.atI L2.ixN; simp [show (1 : Int) < (r.length : Int) + 1 + 1 by omega]
@[simp] theorem atI_2 {α : Type} (a b c : α) (r : List α) : L2.atI (a :: b :: c :: r) 2 = some c := by
  unfold L2.atI L2.ixN; simp [show (2 : Int) < (r.length : Int) + 1 + 1 + 1 by omega]
@[simp] theorem atI_3 {α : Type} (a b c d : α) (r : List α) : L2.atI (a :: b :: c :: d :: r) 3 = some d := by
  unfold L2.atI L2.ixN; simp [show (3 : Int) < (r.length : Int) + 1 + 1 + 1 + 1 by omega]
@[simp] theorem atI_4 {α : Type} (a b c d e : α) (r : List α) : L2.atI (a :: b :: c :: d :: e :: r) 4 = some e := by
  unfold L2.atI L2.ixN; simp [show (4 : Int) < (r.length : Int) + 1 + 1 + 1 + 1 + 1 by omega]
theorem atI_nat {α : Type} {xs : List α} {i : Nat} {x : α} (e : xs[i]? = some x) : L2.atI xs (i : Int) = some x := by
  have hl := (List.getElem?_eq_some_iff.mp e).1
  unfold L2.atI L2.ixN
  rw [if_pos (by omega), if_pos (by omega)]
  simpa using e
theorem atI_int {α : Type} {xs : List α} {i : Int} (h0 : 0 ≤ i) (h1 : i < xs.length) : ∃ x, L2.atI xs i = some x ∧ xs[i.toNat]? = some x := by
  have hl : i.toNat < xs.length := by omega
  refine ⟨xs[i.toNat], ?_, by simp [hl]⟩
  unfold L2.atI L2.ixN
  rw [if_pos h0, if_pos h1]
  simp [hl]
theorem atI_mem {α : Type} {xs : List α} {i : Int} (h0 : 0 ≤ i) (h1 : i < xs.length) : ∃ x, L2.atI xs i = some x ∧ x ∈ xs := by
  obtain ⟨x, e, q⟩ := atI_int h0 h1
  exact ⟨x, e, List.mem_of_getElem? q⟩
def Src.Is (s : Src) (ts : List T) (h : Hh) : Prop :=
  match s with
  | .its us => us = ts
  | .live l => lstAt h l = some ts
  | .z2 a b => ∃ t1 t2, lstAt h a = some t1 ∧ lstAt h b = some t2 ∧ t2.length = t1.length ∧ ts = List.zipWith (fun x y => T.tup [x, y]) t1 t2
  | .z3 a b c => ∃ t1 t2 t3, lstAt h a = some t1 ∧ lstAt h b = some t2 ∧ lstAt h c = some t3 ∧ t2.length = t1.length ∧ t3.length = t1.length ∧ ts = List.zipWith (fun x p => T.tup [x, p.1, p.2]) t1 (t2.zip t3)
theorem Src.Is.at {s : Src} {ts : List T} {h : Hh} (q : s.Is ts h) (i : Nat) : s.at h i = some ts[i]? := by
  cases s with
  | its us => obtain rfl : us = ts := q; rfl
  | live l => have e : lstAt h l = some ts := q; unfold Src.at; simp only [e]
  | z2 a b =>
    obtain ⟨t1, t2, e1, e2, l2, rfl⟩ := q
    unfold Src.at
    simp only [e1, e2]
    by_cases hi : i < t1.length
    · have h1 : t1[i]? = some t1[i] := by simp [hi]
      have h2 : t2[i]? = some (t2[i]'(by omega)) := by simp [l2, hi]
      rw [h1, h2]
      simp [List.getElem?_zipWith, h1, h2]
    · have h1 : t1[i]? = none := by simp; omega
      rw [h1]
      simp [List.getElem?_zipWith, h1]
  | z3 a b c =>
    obtain ⟨t1, t2, t3, e1, e2, e3, l2, l3, rfl⟩ := q
    unfold Src.at
    simp only [e1, e2, e3]
    by_cases hi : i < t1.length
    · have h1 : t1[i]? = some t1[i] := by simp [hi]
      have h2 : t2[i]? = some (t2[i]'(by omega)) := by simp [l2, hi]
      have h3 : t3[i]? = some (t3[i]'(by omega)) := by simp [l3, hi]
      rw [h1, h2, h3]
      simp [List.getElem?_zipWith, List.getElem?_zip_eq_some, List.zip, h1, h2, h3]
    · have h1 : t1[i]? = none := by simp; omega
      rw [h1]
      simp [List.getElem?_zipWith, h1]
theorem Src.Is.len {s : Src} {ts : List T} {h : Hh} (q : s.Is ts h) : s.len h = ts.length := by
  cases s with
  | its us => obtain rfl : us = ts := q; rfl
  | live l => have e : lstAt h l = some ts := q; unfold Src.len; simp only [e]
  | z2 a b =>
    obtain ⟨t1, t2, e1, e2, l2, rfl⟩ := q
    unfold Src.len
    simp only [e1]
    simp [l2]
  | z3 a b c =>
    obtain ⟨t1, t2, t3, e1, e2, e3, l2, l3, rfl⟩ := q
    unfold Src.len
    simp only [e1]
    simp [l2, l3]
theorem lc_ind {s : Src} {ts : List T} {g : SG} {tt : ST} {te : SE} {σ : St3} (hz : ts.length ≤ sizeLine) (I : Nat → List T → Hh → Prop) (hI : ∀ i acc h, I i acc h → s.Is ts h)
    (hs : ∀ i x acc h, ts[i]? = some x → I i acc h → ∃ σ1, g x σ = some σ1 ∧ ((∃ h1, tt σ1 h = .ok false h1 ∧ I (i + 1) acc h1) ∨ ∃ h1 t h2, tt σ1 h = .ok true h1 ∧ te σ1 h1 = .ok t h2 ∧ I (i + 1) (acc ++ [t]) h2)) :
    ∀ k i acc h, i + k = ts.length → acc.length ≤ i → I i acc h → ∃ acc' h', lcRun s g tt te σ k i acc h = .ok acc' h' ∧ I ts.length acc' h' ∧ acc'.length ≤ ts.length
  | 0, i, acc, h, e, ha, q => by
    have e1 : i = ts.length := by omega
    refine ⟨acc, h, ?_, e1 ▸ q, by omega⟩
    unfold lcRun
    rw [(hI _ _ _ q).at, List.getElem?_eq_none (by omega)]
  | k + 1, i, acc, h, e, ha, q => by
    have hl : i < ts.length := by omega
    have ex : ts[i]? = some ts[i] := by simp [hl]
    obtain ⟨σ1, e1, q1⟩ := hs i _ acc h ex q
    unfold lcRun
    rw [(hI _ _ _ q).at, ex]
    simp only [e1]
    rcases q1 with ⟨h1, e2, q2⟩ | ⟨h1, t, h2, e2, e3, q2⟩
    · simp only [e2]
      exact lc_ind hz I hI hs k (i + 1) acc h1 (by omega) (by omega) q2
    · simp only [e2, e3, if_true]
      rw [if_pos (by omega)]
      exact lc_ind hz I hI hs k (i + 1) _ h2 (by omega) (by simp; omega) q2
theorem lc_run {s : Src} {ts : List T} {g : SG} {tt : ST} {te : SE} {σ : St3} {h : Hh} (hz : ts.length ≤ sizeLine) (I : Nat → List T → Hh → Prop) (hI : ∀ i acc h, I i acc h → s.Is ts h) (h0 : I 0 [] h)
    (hs : ∀ i x acc h, ts[i]? = some x → I i acc h → ∃ σ1, g x σ = some σ1 ∧ ((∃ h1, tt σ1 h = .ok false h1 ∧ I (i + 1) acc h1) ∨ ∃ h1 t h2, tt σ1 h = .ok true h1 ∧ te σ1 h1 = .ok t h2 ∧ I (i + 1) (acc ++ [t]) h2)) :
    ∃ acc' h', lcRun s g tt te σ (s.len h) 0 [] h = .ok acc' h' ∧ I ts.length acc' h' ∧ acc'.length ≤ ts.length := by
  rw [(hI _ _ _ h0).len]
  exact lc_ind hz I hI hs _ _ _ _ (by omega) (Nat.le_refl _) h0
theorem lc_map {s : Src} {ts : List T} {g : SG} {te : SE} {σ : St3} {h : Hh} (f : T → T) (hz : ts.length ≤ sizeLine) (hI : s.Is ts h) (hs : ∀ x ∈ ts, ∃ σ1, g x σ = some σ1 ∧ te σ1 h = .ok (f x) h) :
    lcRun s g stYes te σ (s.len h) 0 [] h = .ok (ts.map f) h := by
  obtain ⟨acc, h', e, ⟨rfl, rfl⟩, _⟩ := lc_run (s := s) (ts := ts) (g := g) (tt := stYes) (te := te) (σ := σ) (h := h) hz (fun i acc h1 => acc = (ts.take i).map f ∧ h1 = h) (fun i acc h1 q => q.2 ▸ hI) ⟨by simp, rfl⟩ fun i x acc h1 ex ⟨q1, q2⟩ => by
    obtain ⟨σ1, e1, e2⟩ := hs x (List.mem_of_getElem? ex)
    subst q2
    refine ⟨σ1, e1, .inr ⟨h1, f x, h1, rfl, e2, ?_, rfl⟩⟩
    rw [q1, List.take_add_one, ex]
    simp
  rw [e, List.take_length]
theorem range_get : ∀ (n : Nat) (lo : Int) (i : Nat), i < n → (rangeT lo n)[i]? = some (.int (lo + i))
  | n + 1, lo, 0, _ => by simp [rangeT]
  | n + 1, lo, i + 1, hi => by
    unfold rangeT
    rw [List.getElem?_cons_succ, range_get n (lo + 1) i (by omega)]
    congr 2; omega
@[simp] theorem range_length : ∀ (n : Nat) (lo : Int), (rangeT lo n).length = n
  | 0, _ => rfl
  | n + 1, lo => by unfold rangeT; rw [List.length_cons, range_length n]
theorem range_at {n : Nat} {i : Nat} {x : T} (e : (rangeT 0 n)[i]? = some x) : x = .int i ∧ i < n := by
  have hl := (List.getElem?_eq_some_iff.mp e).1
  rw [range_length] at hl
  rw [range_get n 0 i hl] at e
  cases e
  exact ⟨by simp, hl⟩
end W3
end

section
namespace W3
open PySem
def BoxL (c : Nat) (i d s n : Int) : List T := [.ref c, .int i, .int d, .int s, .int n]
def IsBox (h : Hh) (l : Nat) : Prop := ∃ (c : Nat) (cells : List Int) (i d s n : Int), lstAt h l = some (BoxL c i d s n) ∧ lstAt h c = some (cells.map T.int) ∧ 0 ≤ i ∧ 0 ≤ d
def BoxC (h : Hh) (l : Nat) : Option Nat := match lstAt h l with | some (.ref c :: _) => some c | _ => none
structure Kp (l n : Nat) (h h' : Hh) : Prop where
  le : n ≤ h'.length
  keep : ∀ k, k < n → k ≠ l → h'[k]? = h[k]?
  box : IsBox h' l
  bc : BoxC h' l = BoxC h l
abbrev Up (l : Nat) (h h' : Hh) : Prop := Kp l h.length h h'
theorem IsBox.ne {h : Hh} {l : Nat} {c : Nat} {cells : List Int} {i d s n : Int} (e : lstAt h l = some (BoxL c i d s n)) (e2 : lstAt h c = some (cells.map T.int)) : l ≠ c := by
  intro q
  subst q
  rw [e] at e2
  cases cells with
  | nil => cases e2
  | cons a r => injection e2 with e2; injection e2 with e2 _; cases e2
theorem IsBox.lt {h : Hh} {l : Nat} (b : IsBox h l) : l < h.length := by
  obtain ⟨c, cells, i, d, s, n, e, _⟩ := b
  exact lstAt_lt e
theorem IsBox.clt {h : Hh} {l c : Nat} (b : IsBox h l) (hc : BoxC h l = some c) : c < h.length := by
  obtain ⟨c, cells, i, d, s, n, e, e2, _⟩ := b
  unfold BoxC at hc
  rw [e] at hc
  cases hc
  exact lstAt_lt e2
theorem Up.refl {l : Nat} {h : Hh} (b : IsBox h l) : Up l h h := ⟨Nat.le_refl _, fun _ _ _ => rfl, b, rfl⟩
theorem Kp.refl {l n : Nat} {h : Hh} (b : IsBox h l) (hn : n ≤ h.length) : Kp l n h h := ⟨hn, fun _ _ _ => rfl, b, rfl⟩
theorem Kp.trans {l n m : Nat} {h h1 h2 : Hh} (a : Kp l n h h1) (b : Kp l m h1 h2) (hm : n ≤ m) : Kp l n h h2 :=
  ⟨Nat.le_trans hm b.le, fun k hk hne => (b.keep k (Nat.lt_of_lt_of_le hk hm) hne).trans (a.keep k hk hne), b.box, b.bc.trans a.bc⟩
theorem Kp.up {l n : Nat} {h h1 h2 : Hh} (a : Kp l n h h1) (b : Up l h1 h2) : Kp l n h h2 := a.trans b a.le
theorem IsBox.app {l : Nat} {h : Hh} (b : IsBox h l) (o : List Ob) : IsBox (h ++ o) l := by
  obtain ⟨c, cells, i, d, s, n, e, e2, h1, h2⟩ := b
  exact ⟨c, cells, i, d, s, n, lstAt_app o e, lstAt_app o e2, h1, h2⟩
theorem Up.app {l : Nat} {h : Hh} (b : IsBox h l) (o : List Ob) : Up l h (h ++ o) := by
  refine ⟨by simp, fun k hk _ => List.getElem?_append_left hk, b.app o, ?_⟩
  obtain ⟨c, cells, i, d, s, n, e, e2, h1, h2⟩ := b
  unfold BoxC
  rw [e, lstAt_app o e]
theorem Kp.app {l n : Nat} {h h1 : Hh} (a : Kp l n h h1) (o : List Ob) : Kp l n h (h1 ++ o) := a.up (Up.app a.box o)
theorem Kp.lst {l n : Nat} {h h' : Hh} (u : Kp l n h h') {k : Nat} {ts : List T} (e : lstAt h k = some ts) (hk : k < n) (hne : k ≠ l) : lstAt h' k = some ts := by
  have := of_lstAt e
  exact lstAt_of ((u.keep k hk hne).trans this)
theorem Up.lst {l : Nat} {h h' : Hh} (u : Up l h h') {k : Nat} {ts : List T} (e : lstAt h k = some ts) (hne : k ≠ l) : lstAt h' k = some ts := Kp.lst u e (lstAt_lt e) hne
theorem IsBox.set {l : Nat} {h : Hh} (b : IsBox h l) {k : Nat} (o : Ob) (hk : k ≠ l) (hc : BoxC h l ≠ some k) : IsBox (h.set k o) l ∧ BoxC (h.set k o) l = BoxC h l := by
  obtain ⟨c, cells, i, d, s, n, e, e2, h1, h2⟩ := b
  have hkc : k ≠ c := by
    intro q
    apply hc
    unfold BoxC
    rw [e]
    simp [BoxL, q]
  refine ⟨⟨c, cells, i, d, s, n, by rw [lstAt_set_ne hk]; exact e, by rw [lstAt_set_ne hkc]; exact e2, h1, h2⟩, ?_⟩
  unfold BoxC
  rw [lstAt_set_ne hk]
theorem Kp.set {l n : Nat} {h h1 : Hh} (a : Kp l n h h1) {k : Nat} (o : Ob) (hb : IsBox h l) (hl : h.length ≤ n) (hn : n ≤ k) : Kp l n h (h1.set k o) := by
  have h0 := hb.lt
  have q := a.box.set (k := k) o (by omega) (by rw [a.bc]; intro z; have := hb.clt z; omega)
  exact ⟨by rw [List.length_set]; exact a.le, fun j hj hne => by rw [List.getElem?_set_ne (by omega)]; exact a.keep j hj hne, q.1, q.2.trans a.bc⟩
theorem cut_ints (ns : List Int) (lo hi : Option Int) : ∃ ms : List Int, cutT (ns.map T.int) lo hi = ms.map T.int ∧ ms.length ≤ ns.length := by
  refine ⟨cutT ns lo hi, ?_, ?_⟩
  · unfold cutT
    rw [List.length_map, List.map_take, List.map_drop]
  · unfold cutT
    rw [List.length_take, List.length_drop]
    omega
theorem map_int_get {ns : List Int} {i : Nat} {x : T} (e : (ns.map T.int)[i]? = some x) : ∃ n, x = .int n := by
  rw [List.getElem?_map] at e
  cases q : ns[i]? with
  | none => rw [q] at e; cases e
  | some n => rw [q] at e; cases e; exact ⟨n, rfl⟩
theorem str_app (a b : Str) : (a ++ b).cps.toList = a.cps.toList ++ b.cps.toList := by
  show (a.cps ++ b.cps).toList = _
  simp
theorem str_len (a : Str) : a.length = a.cps.toList.length := by simp [Str.length]
@[simp] theorem str_len_app (a b : Str) : (a ++ b).length = a.length + b.length := by
  rw [str_len, str_app, List.length_append, ← str_len, ← str_len]
@[simp] theorem str_len_one (c : Nat) : Str.length ⟨#[c]⟩ = 1 := Eq.trans rfl rfl
def LETS : Str := "abcdefghijklmnopqrstuvwxyz"
def Lt (s : Str) : Prop := ∀ c ∈ s.cps.toList, c ∈ LETS.cps.toList
theorem Lt.app {a b : Str} (ha : Lt a) (hb : Lt b) : Lt (a ++ b) := by
  intro c hc
  rw [str_app, List.mem_append] at hc
  exact hc.elim (ha c) (hb c)
theorem Lt.one {c : Nat} (h : c ∈ LETS.cps.toList) : Lt ⟨#[c]⟩ := by
  intro x hx
  simp at hx
  rw [hx]; exact h
theorem Lt.nil : Lt "" := by
  intro c hc
  have : (Str.ofString "").cps.toList = [] := by decide +kernel
  rw [this] at hc
  cases hc
def Nm (s : Str) : Prop := 1 ≤ s.length ∧ s.length ≤ 8 ∧ Lt s
structure NmL (ss : List Str) : Prop where
  nd : ss.Nodup
  nm : ∀ s ∈ ss, Nm s
theorem NmL.snoc {ss : List Str} (h : NmL ss) {s : Str} (hs : Nm s) (hn : s ∉ ss) : NmL (ss ++ [s]) := by
  refine ⟨List.nodup_append.mpr ⟨h.nd, by simp, fun a ha b hb => ?_⟩, fun x hx => ?_⟩
  · simp at hb
    intro e
    subst hb
    exact hn (e ▸ ha)
  · rw [List.mem_append] at hx
    rcases hx with hx | hx
    · exact h.nm x hx
    · simp at hx; rw [hx]; exact hs
abbrev tSs (ss : List Str) : List T := ss.map T.str
theorem optL_strs (h : Hh) (n : Nat) : ∀ ss : List Str, optL (toD h (n + 1)) (tSs ss) = some (ss.map PyData.str)
  | [] => rfl
  | s :: ss => by
    have e1 : toD h (n + 1) (.str s) = some (.str s) := rfl
    show optL (toD h (n + 1)) (.str s :: tSs ss) = _
    unfold optL
    rw [optL_strs h n ss, e1]
    rfl
theorem any_strs (s : Str) : ∀ ss : List Str, ((ss.map PyData.str).any fun z => PyData.eqv z (.str s)) = decide (s ∈ ss)
  | [] => by simp
  | t :: ss => by
    rw [List.map_cons, List.any_cons, any_strs s ss]
    have : PyData.eqv (.str t) (.str s) = decide (t = s) := by rw [PyData.eqv]; rfl
    rw [this]
    by_cases q : t = s
    · simp [q]
    · have q' : ¬ s = t := fun e => q e.symm
      simp [q, q']
theorem e_in_tup {s : Str} {ss : List Str} {h : Hh} : inT (.str s) (.tup (tSs ss)) h = some (decide (s ∈ ss)) := by
  show (match toD h 24 (.str s), (optL (toD h 23) (tSs ss)).map PyData.tuple with
    | some d, some (.list ds) => some (ds.any fun z => PyData.eqv z d)
    | some d, some (.tuple ds) => some (ds.any fun z => PyData.eqv z d)
    | _, _ => none) = _
  rw [optL_strs h 22]
  show some ((ss.map PyData.str).any fun z => PyData.eqv z (.str s)) = _
  rw [any_strs]
@[simp] theorem oIn_tup {s : Str} {ss : List Str} {h : Hh} : oIn (.str s) (.tup (tSs ss)) h = .ok (.bl (decide (s ∈ ss))) h := by
  unfold oIn; rw [e_in_tup]
@[simp] theorem oNotIn_tup {s : Str} {ss : List Str} {h : Hh} : oNotIn (.str s) (.tup (tSs ss)) h = .ok (.bl (!decide (s ∈ ss))) h := by
  unfold oNotIn; rw [e_in_tup]
abbrev Fn := List T → Hh → Res T
end W3
end

section
namespace W3
open PySem
abbrev EQ := Str → List (Str × T) → Hh → Prop
def Res.wp {α : Type} (r : Res α) (Q : α → Hh → Prop) (E : EQ) : Prop :=
  match r with | .ok a h => Q a h | .exc c fs h => E c fs h | .stk => False
structure FQ where
  n : St3 → Hh → Prop
  r : T → Hh → Prop
  b : St3 → Hh → Prop
  c : St3 → Hh → Prop
  e : Str → List (Str × T) → St3 → Hh → Prop
def Flo.wp (r : Flo) (Q : FQ) : Prop :=
  match r with | .nx σ h => Q.n σ h | .rt t h => Q.r t h | .bk σ h => Q.b σ h | .ct σ h => Q.c σ h | .exc c fs σ h => Q.e c fs σ h | .stk => False
section
variable {α β : Type} {Q : α → Hh → Prop} {E : EQ}
@[simp] theorem wp_ok (a : α) (h : Hh) : (Res.ok a h).wp Q E = Q a h := Eq.trans rfl rfl
@[simp] theorem wp_exc (c : Str) (fs : List (Str × T)) (h : Hh) : (Res.exc c fs h : Res α).wp Q E = E c fs h := Eq.trans rfl rfl
@[simp] theorem wp_stk : (Res.stk : Res α).wp Q E = False := Eq.trans rfl rfl
def kQ (f : α → Hh → Res β) (Q : β → Hh → Prop) (E : EQ) : α → Hh → Prop := fun a h => (f a h).wp Q E
@[simp] theorem kQ_app {Q : β → Hh → Prop} (f : α → Hh → Res β) (a : α) (h : Hh) : kQ f Q E a h = (f a h).wp Q E := Eq.trans rfl rfl
@[simp] theorem wp_bind {Q : β → Hh → Prop} (r : Res α) (f : α → Hh → Res β) : (r.bind f).wp Q E = r.wp (kQ f Q E) E := by
  cases r <;> rfl
@[simp] theorem wp_if (c : Prop) [Decidable c] (a b : Res α) : (if c then a else b).wp Q E = ((c → a.wp Q E) ∧ (¬ c → b.wp Q E)) := by
  by_cases q : c <;> simp [q]
theorem Res.wp.mono {r : Res α} {Q Q' : α → Hh → Prop} {E E' : EQ} (w : r.wp Q E) (hq : ∀ a h, Q a h → Q' a h) (he : ∀ c fs h, E c fs h → E' c fs h) : r.wp Q' E' := by
  cases r with
  | ok a h => exact hq a h w
  | exc c fs h => exact he c fs h w
  | stk => exact w
theorem Res.wp.imp {r : Res α} {Q Q' : α → Hh → Prop} {E : EQ} (w : r.wp Q E) (hq : ∀ a h, Q a h → Q' a h) : r.wp Q' E := w.mono hq fun _ _ _ h => h
abbrev noE : EQ := fun _ _ _ => False
theorem Res.wp.ok {r : Res α} (w : r.wp Q noE) : ∃ a h, r = .ok a h ∧ Q a h := by
  cases r with
  | ok a h => exact ⟨a, h, rfl, w⟩
  | exc c fs h => exact w.elim
  | stk => exact w.elim
end
section
variable {Q : FQ}
@[simp] theorem fp_nx (σ : St3) (h : Hh) : (Flo.nx σ h).wp Q = Q.n σ h := Eq.trans rfl rfl
@[simp] theorem fp_rt (t : T) (h : Hh) : (Flo.rt t h).wp Q = Q.r t h := Eq.trans rfl rfl
@[simp] theorem fp_bk (σ : St3) (h : Hh) : (Flo.bk σ h).wp Q = Q.b σ h := Eq.trans rfl rfl
@[simp] theorem fp_ct (σ : St3) (h : Hh) : (Flo.ct σ h).wp Q = Q.c σ h := Eq.trans rfl rfl
@[simp] theorem fp_exc (c : Str) (fs : List (Str × T)) (σ : St3) (h : Hh) : (Flo.exc c fs σ h).wp Q = Q.e c fs σ h := Eq.trans rfl rfl
@[simp] theorem fp_stk : (Flo.stk).wp Q = False := Eq.trans rfl rfl
def FQ.seq (Q : FQ) (k : SS) : FQ := ⟨fun σ h => (k σ h).wp Q, Q.r, Q.b, Q.c, Q.e⟩
@[simp] theorem fs_n (k : SS) (σ : St3) (h : Hh) : (Q.seq k).n σ h = (k σ h).wp Q := Eq.trans rfl rfl
@[simp] theorem fs_r (k : SS) : (Q.seq k).r = Q.r := Eq.trans rfl rfl
@[simp] theorem fs_b (k : SS) : (Q.seq k).b = Q.b := Eq.trans rfl rfl
@[simp] theorem fs_c (k : SS) : (Q.seq k).c = Q.c := Eq.trans rfl rfl
@[simp] theorem fs_e (k : SS) : (Q.seq k).e = Q.e := Eq.trans rfl rfl
def FQ.loop (Q : FQ) (J : St3 → Hh → Prop) : FQ := ⟨J, Q.r, Q.n, J, Q.e⟩
@[simp] theorem fl_n (J : St3 → Hh → Prop) : (Q.loop J).n = J := Eq.trans rfl rfl
@[simp] theorem fl_r (J : St3 → Hh → Prop) : (Q.loop J).r = Q.r := Eq.trans rfl rfl
@[simp] theorem fl_b (J : St3 → Hh → Prop) : (Q.loop J).b = Q.n := Eq.trans rfl rfl
@[simp] theorem fl_c (J : St3 → Hh → Prop) : (Q.loop J).c = J := Eq.trans rfl rfl
@[simp] theorem fl_e (J : St3 → Hh → Prop) : (Q.loop J).e = Q.e := Eq.trans rfl rfl
def FQ.df (Q : T → Hh → Prop) (E : EQ) : FQ := ⟨fun _ h => Q .non h, Q, fun _ _ => False, fun _ _ => False, fun c fs _ h => E c fs h⟩
@[simp] theorem fd_n (Q : T → Hh → Prop) (E : EQ) (σ : St3) (h : Hh) : (FQ.df Q E).n σ h = Q .non h := Eq.trans rfl rfl
@[simp] theorem fd_r (Q : T → Hh → Prop) (E : EQ) : (FQ.df Q E).r = Q := Eq.trans rfl rfl
@[simp] theorem fd_e (Q : T → Hh → Prop) (E : EQ) (c : Str) (fs : List (Str × T)) (σ : St3) (h : Hh) : (FQ.df Q E).e c fs σ h = E c fs h := Eq.trans rfl rfl
def fQ {α : Type} (k : α → Hh → Flo) (Q : FQ) : α → Hh → Prop := fun a h => (k a h).wp Q
@[simp] theorem fQ_app {α : Type} (k : α → Hh → Flo) (a : α) (h : Hh) : fQ k Q a h = (k a h).wp Q := Eq.trans rfl rfl
def eQ (Q : FQ) (σ : St3) : EQ := fun c fs h => Q.e c fs σ h
@[simp] theorem eQ_app (σ : St3) (c : Str) (fs : List (Str × T)) (h : Hh) : eQ Q σ c fs h = Q.e c fs σ h := Eq.trans rfl rfl
@[simp] theorem eQ_seq (σ : St3) (k : SS) : eQ (Q.seq k) σ = eQ Q σ := Eq.trans rfl rfl
@[simp] theorem eQ_loop (σ : St3) (J : St3 → Hh → Prop) : eQ (Q.loop J) σ = eQ Q σ := Eq.trans rfl rfl
@[simp] theorem eQ_df (σ : St3) (Q : T → Hh → Prop) (E : EQ) : eQ (FQ.df Q E) σ = E := Eq.trans rfl rfl
@[simp] theorem fp_flo {α : Type} (r : Res α) (σ : St3) (k : α → Hh → Flo) : (r.flo σ k).wp Q = r.wp (fQ k Q) (eQ Q σ) := by
  cases r <;> rfl
@[simp] theorem fp_seq (r : Flo) (k : SS) : (r.seq k).wp Q = r.wp (Q.seq k) := by
  cases r <;> rfl
@[simp] theorem fp_if (c : Prop) [Decidable c] (a b : Flo) : (if c then a else b).wp Q = ((c → a.wp Q) ∧ (¬ c → b.wp Q)) := by
  by_cases q : c <;> simp [q]
theorem Flo.wp.mono {r : Flo} {Q Q' : FQ} (w : r.wp Q) (hn : ∀ σ h, Q.n σ h → Q'.n σ h) (hr : ∀ t h, Q.r t h → Q'.r t h) (hb : ∀ σ h, Q.b σ h → Q'.b σ h) (hc : ∀ σ h, Q.c σ h → Q'.c σ h) (he : ∀ c fs σ h, Q.e c fs σ h → Q'.e c fs σ h) : r.wp Q' := by
  cases r with
  | nx σ h => exact hn σ h w
  | rt t h => exact hr t h w
  | bk σ h => exact hb σ h w
  | ct σ h => exact hc σ h w
  | exc c fs σ h => exact he c fs σ h w
  | stk => exact w
end
@[simp] theorem wp_defRun (n : Nat) (b : SS) (ts : List T) (h : Hh) (Q : T → Hh → Prop) (E : EQ) : (defRun n b ts h).wp Q E = (b (startT n ts) h).wp (FQ.df Q E) := by
  unfold defRun
  cases b (startT n ts) h <;> rfl
theorem wp_for {s : Src} {ts : List T} {g : SG} {b : SS} {σ : St3} {h : Hh} {Q : FQ} (I : Nat → St3 → Hh → Prop) (hI : ∀ i σ h, I i σ h → s.Is ts h) (h0 : I 0 σ h)
    (hs : ∀ i x σ h, ts[i]? = some x → I i σ h → ∃ σ1, g x σ = some σ1 ∧ (b σ1 h).wp (Q.loop (I (i + 1))))
    (he : ∀ σ h, I ts.length σ h → Q.n σ h) : (forRun s g b (s.len h) 0 σ h).wp Q := by
  rw [(hI _ _ _ h0).len]
  suffices H : ∀ k i σ h, i + k = ts.length → I i σ h → (forRun s g b k i σ h).wp Q from H _ _ _ _ (by omega) h0
  intro k
  induction k with
  | zero =>
    intro i σ h e q
    have e1 : i = ts.length := by omega
    unfold forRun
    rw [(hI _ _ _ q).at, List.getElem?_eq_none (by omega)]
    exact he σ h (e1 ▸ q)
  | succ k ih =>
    intro i σ h e q
    have ex : ts[i]? = some ts[i] := by simp [show i < ts.length by omega]
    obtain ⟨σ1, e1, w⟩ := hs i _ σ h ex q
    unfold forRun
    rw [(hI _ _ _ q).at, ex]
    simp only [e1]
    revert w
    cases b σ1 h with
    | nx σ2 h2 => exact fun w => ih (i + 1) σ2 h2 (by omega) w
    | ct σ2 h2 => exact fun w => ih (i + 1) σ2 h2 (by omega) w
    | bk σ2 h2 => exact fun w => w
    | rt t h2 => exact fun w => w
    | exc c fs σ2 h2 => exact fun w => w
    | stk => exact fun w => w
theorem wp_lcm {s : Src} {ts : List T} {g : SG} {te : SE} {σ : St3} {h : Hh} {Q : List T → Hh → Prop} {E : EQ} (f : T → T) (hz : ts.length ≤ sizeLine) (hI : s.Is ts h) (hs : ∀ x ∈ ts, ∃ σ1, g x σ = some σ1 ∧ te σ1 h = .ok (f x) h) (k : Q (ts.map f) h) :
    (lcRun s g stYes te σ (s.len h) 0 [] h).wp Q E := by
  rw [lc_map f hz hI hs]; exact k
structure Fr (S : Nat → Prop) (h h' : Hh) : Prop where
  le : h.length ≤ h'.length
  keep : ∀ k, k < h.length → ¬ S k → h'[k]? = h[k]?
theorem Fr.refl {S : Nat → Prop} {h : Hh} : Fr S h h := ⟨Nat.le_refl _, fun _ _ _ => rfl⟩
theorem Fr.trans {S : Nat → Prop} {h h1 h2 : Hh} (a : Fr S h h1) (b : Fr S h1 h2) : Fr S h h2 :=
  ⟨Nat.le_trans a.le b.le, fun k hk hs => (b.keep k (Nat.lt_of_lt_of_le hk a.le) hs).trans (a.keep k hk hs)⟩
end W3
end

section
namespace W3
open PySem
def MixW (f : Fn) : Prop := ∀ {v k : Int} {h : Hh} {Q : T → Hh → Prop} {E : EQ}, (∀ z, Q (.int z) h) → (f [.int v, .int k] h).wp Q E
def DrawW (f : Fn) : Prop := ∀ {h : Hh} {l : Nat} {m : Int} {Q : T → Hh → Prop} {E : EQ}, IsBox h l → 0 < m → m < 1073741824 → (∀ d h', 0 ≤ d → d < m → Up l h h' → Q (.int d) h') → (f [.ref l, .int m] h).wp Q E
def BoxW (f : Fn) : Prop := ∀ {ns : List Int} {h : Hh} {Q : T → Hh → Prop} {E : EQ}, ns.length ≤ 63 → (∀ l h', IsBox h' l → h.length ≤ l → (∀ k, k < h.length → h'[k]? = h[k]?) → (∀ c, BoxC h' l = some c → h.length ≤ c) → Q (.ref l) h') → (f [.fl (ns.map T.int)] h).wp Q E
@[simp] theorem e_startT (n : Nat) (ts : List T) : startT n ts = ts.map some ++ List.replicate (n - ts.length) none := Eq.trans rfl rfl
theorem lstAt_app_ge {h o : Hh} {k : Nat} : lstAt (h ++ o) (h.length + k) = lstAt o k := by
  unfold lstAt; rw [List.getElem?_append_right (by omega)]; simp
@[simp] theorem lstAt_app_k {h o : Hh} {k : Nat} : lstAt (h ++ o) (h.length + k) = lstAt o k := lstAt_app_ge
@[simp] theorem lstAt_app_z {h o : Hh} : lstAt (h ++ o) h.length = lstAt o 0 := by
  have := @lstAt_app_ge h o 0; simpa using this
@[simp] theorem lstAt_0 (o : Ob) (r : Hh) : lstAt (o :: r) 0 = match o with | .lst ts => some ts | _ => none := by
  unfold lstAt; cases o <;> rfl
@[simp] theorem lstAt_s (o : Ob) (r : Hh) (k : Nat) : lstAt (o :: r) (k + 1) = lstAt r k := by
  unfold lstAt; simp
@[simp] theorem e_neg (i : Int) (h : Hh) : oNeg (.int i) h = .ok (.int (-i)) h := Eq.trans rfl rfl
@[simp] theorem e_set_ap {h o : Hh} {k : Nat} {x : Ob} : (h ++ o).set (h.length + k) x = h ++ o.set k x := by
  rw [List.set_append_right _ _ (by omega)]; simp
@[simp] theorem e_set_ap0 {h o : Hh} {x : Ob} : (h ++ o).set h.length x = h ++ o.set 0 x := by
  rw [List.set_append_right _ _ (by omega)]; simp
@[simp] theorem lets_len2 : (Str.ofString "abcdefghijklmnopqrstuvwxyz").length = 26 := by decide +kernel
end W3
end

section
namespace W3
open PySem
abbrev Ent := Option Str
def tE : Ent → T | none => .non | some s => .str s
@[simp] theorem tE_n : tE none = .non := Eq.trans rfl rfl
@[simp] theorem tE_s (s : Str) : tE (some s) = .str s := Eq.trans rfl rfl
def tRow (r : List Ent) : T := .tup (r.map tE)
inductive Nr where | alone (r : List Ent) | looks (g : Str) (rs : List (List Ent))
def Nr.tLooks : Nr → T | .alone _ => .non | .looks g _ => .str g
def Nr.tNear : Nr → T | .alone r => tRow r | .looks _ rs => .tup (rs.map tRow)
structure Fd where
  first : Str
  nr : Nr
  far : Option (List Ent)
def tFar : Option (List Ent) → T | none => .non | some r => tRow r
def Fd.ts (f : Fd) : List T := [.str f.first, f.nr.tLooks, f.nr.tNear, tFar f.far]
def Fd.t (f : Fd) : T := .tup f.ts
def tPair (p : Str × Fd) : T := .tup [.str p.1, p.2.t]
structure Fm where
  words : List Str
  fields : List (Str × Fd)
  room : Int
def Fm.names (f : Fm) : List Str := f.fields.map Prod.fst
def Fm.tW (f : Fm) : T := .tup (tSs f.words)
def Fm.tF (f : Fm) : T := .tup (f.fields.map tPair)
structure RowOk (n : Nat) (r : List Ent) : Prop where
  len : r.length = n
  nm : ∀ s, some s ∈ r → Nm s
def NrOk (n : Nat) (ns : List Str) (nm : Str) : Nr → Prop
  | .alone r => RowOk n r
  | .looks g rs => g ∈ ns ∧ g ≠ nm ∧ rs.length = n ∧ ∀ r ∈ rs, RowOk n r
structure FdOk (ws ns : List Str) (nm : Str) (f : Fd) : Prop where
  first : f.first ∈ ws
  nr : NrOk ws.length ns nm f.nr
  far : ∀ r, f.far = some r → RowOk ws.length r
structure FmOk (f : Fm) : Prop where
  w2 : 2 ≤ f.words.length
  w3 : f.words.length ≤ 3
  wn : NmL f.words
  f1 : 1 ≤ f.fields.length
  f3 : f.fields.length ≤ 3
  fn : NmL f.names
  fs : ∀ p ∈ f.fields, FdOk f.words f.names p.1 p.2
  r1 : 1 ≤ f.room
  r3 : f.room ≤ 3
end W3
end

section
namespace W3
open PySem
theorem eq_of_wp {r : Res T} {v : T} {h : Hh} (w : r.wp (fun a h' => a = v ∧ h' = h) noE) : r = .ok v h := by
  obtain ⟨a, h', e, rfl, rfl⟩ := w.ok
  exact e
def Jd (v : T) (h : Hh) : Prop := match v with
  | .ref l => (∃ ts, h[l]? = some (.lst ts)) ∨ ∃ d, h[l]? = some (.dic d)
  | .cls _ => False
  | .str s => s.length ≤ 1000
  | .tup ts => ts.length ≤ 1000
  | _ => True
@[simp] theorem Jd_non (h : Hh) : Jd .non h := trivial
@[simp] theorem Jd_bl (b : Bool) (h : Hh) : Jd (.bl b) h := trivial
@[simp] theorem Jd_int (b : Int) (h : Hh) : Jd (.int b) h := trivial
@[simp] theorem Jd_str (b : Str) (h : Hh) : Jd (.str b) h = (b.length ≤ 1000) := Eq.trans rfl rfl
@[simp] theorem Jd_tup (b : List T) (h : Hh) : Jd (.tup b) h = (b.length ≤ 1000) := Eq.trans rfl rfl
@[simp] theorem Jd_fl (b : List T) (h : Hh) : Jd (.fl b) h := trivial
def isStr : T → Bool | .str _ => true | _ => false
def isTup : T → Bool | .tup _ => true | _ => false
def isBl : T → Bool | .bl _ => true | _ => false
def ltB (s : Str) : Bool := s.cps.toList.all fun c => decide (c ∈ LETS.cps.toList)
def nmB (s : Str) : Bool := decide (1 ≤ s.length ∧ s.length ≤ 8) && ltB s
def nameB : T → Bool | .str s => nmB s | _ => false
theorem nmB_iff {s : Str} : nmB s = true ↔ Nm s := by
  unfold nmB ltB Nm Lt
  rw [Bool.and_eq_true, decide_eq_true_eq, List.all_eq_true, and_assoc]
  simp only [decide_eq_true_eq]
def oneB (v : T) (ss : List Str) : Bool := match v with | .str s => decide (s ∈ ss) | _ => false
@[simp] theorem blsOf_map {α : Type} (p : α → Bool) : ∀ xs : List α, blsOf (xs.map fun x => T.bl (p x)) = some (xs.map p)
  | [] => rfl
  | x :: xs => by
    show (blsOf (xs.map fun x => T.bl (p x))).map (p x :: ·) = _
    rw [blsOf_map p xs]; rfl
@[simp] theorem bAll_map {α : Type} (p : α → Bool) (xs : List α) (h : Hh) : bAll (xs.map fun x => T.bl (p x)) h = .ok (.bl (xs.all p)) h := by
  unfold bAll; rw [blsOf_map]; simp
@[simp] theorem bAny_map {α : Type} (p : α → Bool) (xs : List α) (h : Hh) : bAny (xs.map fun x => T.bl (p x)) h = .ok (.bl (xs.any p)) h := by
  unfold bAny; rw [blsOf_map]; simp
def JdN : Nat → T → Hh → Prop
  | 0, v, h => Jd v h
  | n + 1, v, h => Jd v h ∧ ∀ ts, v = .tup ts → ∀ t ∈ ts, JdN n t h
theorem JdN.tup {n : Nat} {ts : List T} {h : Hh} (j : JdN (n + 1) (.tup ts) h) {t : T} (ht : t ∈ ts) : JdN n t h := j.2 ts rfl t ht
def entB (t : T) : Bool := isNonT t || nameB t
def rowB (v : T) (n : Int) : Bool := match v with | .tup ts => decide ((ts.length : Int) = n) && ts.all entB | _ => false
def nearB (v looks : T) (n : Int) : Bool := if isNonT looks then rowB v n else match v with | .tup ts => decide ((ts.length : Int) = n) && ts.all (fun t => rowB t n) | _ => false
def strOf : T → Str | .str s => s | _ => ⟨#[]⟩
def namesB (v : T) (lo hi : Int) : Bool := match v with | .tup ts => decide (lo ≤ ts.length ∧ (ts.length : Int) ≤ hi) && (ts.all nameB && decide ((ts.map strOf).Nodup)) | _ => false
def pairB (v : T) : Bool := match v with | .tup [a, .tup b] => nameB a && decide (b.length = 4) | _ => false
def fstOf : T → T | .tup (a :: _) => a | t => t
def fieldsB (v : T) : Bool := match v with | .tup ts => decide (1 ≤ ts.length ∧ ts.length ≤ 3) && (ts.all pairB && decide ((ts.map fun t => strOf (fstOf t)).Nodup)) | _ => false
@[simp] theorem isStr_s (s : Str) : isStr (.str s) = true := Eq.trans rfl rfl
@[simp] theorem isTup_s (s : List T) : isTup (.tup s) = true := Eq.trans rfl rfl
end W3
end

section
namespace W3
open PySem
def Fm.ins (fm : Fm) : List (Str × T) := [("words", fm.tW), ("fields", fm.tF), ("room", .int fm.room)]
def FormAt (h : Hh) (l : Nat) (fm : Fm) : Prop := h[l]? = some (.ins "Form" fm.ins)
theorem insAt_of {h : Hh} {l : Nat} {c : Str} {fs : List (Str × T)} (e : h[l]? = some (.ins c fs)) : insAt h l = some (c, fs) := by unfold insAt; rw [e]
theorem FormAt.ins {h : Hh} {l : Nat} {fm : Fm} (e : FormAt h l fm) : insAt h l = some (("Form" : Str), fm.ins) := insAt_of e
theorem mOk_of {h : Hh} {l : Nat} {c m : Str} {fs : List (Str × T)} (e : insAt h l = some (c, fs)) (hm : fs.lookup m = none) : mOk c m (.ref l) h = true := by
  unfold mOk; simp only [e]; simp [hm]
theorem FormAt.m {h : Hh} {l : Nat} {fm : Fm} {m : Str} (e : FormAt h l fm) (hm : fm.ins.lookup m = none) : mOk "Form" m (.ref l) h = true := mOk_of e.ins hm
theorem jdN_str {n : Nat} {s : Str} {h : Hh} (hs : s.length ≤ 1000) : JdN n (.str s) h := by
  cases n with
  | zero => exact hs
  | succ n => exact ⟨hs, fun ts e => by cases e⟩
theorem jdN_bl {n : Nat} {i : Bool} {h : Hh} : JdN n (.bl i) h := by
  cases n with
  | zero => trivial
  | succ n => exact ⟨trivial, fun ts e => by cases e⟩
theorem jdN_tup {n : Nat} {ts : List T} {h : Hh} (hl : ts.length ≤ 1000) (ht : ∀ t ∈ ts, JdN n t h) : JdN (n + 1) (.tup ts) h := ⟨hl, fun us e t q => by cases e; exact ht t q⟩
theorem Nm.short {s : Str} (h : Nm s) : s.length ≤ 1000 := by have := h.2.1; omega
end W3
end

section
namespace W3
open PySem
def flatT : T → Bool | .non => true | .bl _ => true | .int _ => true | .str _ => true | _ => false
def LstT (h : Hh) (t : T) (ts : List T) : Prop := (∃ l, t = .ref l ∧ lstAt h l = some ts) ∨ t = .fl ts
def SameV (h : Hh) : Nat → T → T → Prop
  | 0, t, u => t = u ∧ flatT t = true
  | n + 1, t, u => (t = u ∧ flatT t = true) ∨ ∃ ts us, ((t = .tup ts ∧ u = .tup us) ∨ (LstT h t ts ∧ LstT h u us)) ∧ ts.length = us.length ∧ ts.length ≤ 100000 ∧ ∀ (i : Nat) (x y : T), ts[i]? = some x → us[i]? = some y → SameV h n x y
def PureT : Nat → T → Prop
  | 0, t => flatT t = true
  | n + 1, t => flatT t = true ∨ ∃ ts, t = .tup ts ∧ ts.length ≤ 100000 ∧ ∀ x ∈ ts, PureT n x
theorem PureT.same {h : Hh} : ∀ {n : Nat} {t : T}, PureT n t → SameV h n t t
  | 0, t, p => ⟨rfl, p⟩
  | n + 1, t, p => by
    rcases p with p | ⟨ts, rfl, hl, p⟩
    · exact .inl ⟨rfl, p⟩
    · refine .inr ⟨ts, ts, .inl ⟨rfl, rfl⟩, rfl, hl, fun i x y ex ey => ?_⟩
      rw [ex] at ey; cases ey
      exact (p x (List.mem_of_getElem? ex)).same
theorem SameV.lists {h : Hh} {n a b : Nat} {ts : List T} (ea : lstAt h a = some ts) (eb : lstAt h b = some ts) (hl : ts.length ≤ 100000) (p : ∀ x ∈ ts, PureT n x) : SameV h (n + 1) (.ref a) (.ref b) := by
  refine .inr ⟨ts, ts, .inr ⟨.inl ⟨a, rfl, ea⟩, .inl ⟨b, rfl, eb⟩⟩, rfl, hl, fun i x y ex ey => ?_⟩
  rw [ex] at ey; cases ey
  exact (p x (List.mem_of_getElem? ex)).same
def SameW (n : Nat) (f : Fn) : Prop := ∀ {t u : T} {h : Hh}, SameV h n t u → f [t, u] h = .ok (.bl true) h
@[simp] theorem e_isK_fl (k : Kd) (s : List T) (h : Hh) : oIsK k (.fl s) h = .ok (.bl (k == .list)) h := Eq.trans rfl rfl
theorem LstT.isK {h : Hh} {t : T} {ts : List T} (e : LstT h t ts) (k : Kd) : oIsK k t h = .ok (.bl (k == .list)) h := by
  rcases e with ⟨l, rfl, e⟩ | rfl
  · exact e_isK_lst e
  · rfl
theorem LstT.len {h : Hh} {t : T} {ts : List T} (e : LstT h t ts) : bLen [t] h = .ok (.int ts.length) h := by
  rcases e with ⟨l, rfl, e⟩ | rfl
  · simp [e]
  · rfl
theorem LstT.ix {h : Hh} {t : T} {ts : List T} (e : LstT h t ts) (i : Int) : oIx t (.int i) h = match L2.atI ts i with | some t => .ok t h | none => .stk := by
  rcases e with ⟨l, rfl, e⟩ | rfl
  · rw [e_ix_ref]; simp only [e] <;> rfl
  · rfl
@[simp] theorem e_saLc2 (si : SI) (g : SG) (tt : ST) (si1 : SI) (g1 : SG) (tt1 : ST) (te : SE) (vs vs1 : List Nat) {σ : St3} {h : Hh} : saLc2 si g tt si1 g1 tt1 te vs vs1 σ h = (si σ h).bind fun s h1 => lc2Run s g tt si1 g1 tt1 te vs1 (wipeT σ vs) (s.len h1) 0 [] h1 := Eq.trans rfl rfl
def enterL (fm : Fm) : List T := fm.names.flatMap fun n => fm.words.map fun w => .tup [.str "enter", .str n, .str w]
def leaveL (fm : Fm) : List T := fm.names.map fun n => .tup [.str "leave", .str n]
def plainL (fm : Fm) : List T := enterL fm ++ leaveL fm ++ [.tup [.str "send"], .tup [.str "answer", .int 0], .tup [.str "answer", .int 1], .tup [.str "answer", .int 2]]
def wholeL (fm : Fm) : List T := plainL fm ++ [.tup [.str "reset"]]
@[simp] theorem e_extend (l b : Nat) (h : Hh) : mExtend (.ref l) [.ref b] h = match lstAt h l, lstAt h b with
    | some ts, some zs => if ts.length + zs.length ≤ sizeLine then .ok .non (h.set l (.lst (ts ++ zs))) else .stk
    | _, _ => .stk := Eq.trans rfl rfl
@[simp] theorem e_clear (l : Nat) (h : Hh) : mClear (.ref l) [] h = match lstAt h l with
    | some _ => .ok .non (h.set l (.lst []))
    | none => .stk := Eq.trans rfl rfl
@[simp] theorem e_add_rr (l b : Nat) (h : Hh) : oAdd (.ref l) (.ref b) h = match lstAt h l, lstAt h b with
    | some xs, some zs => if xs.length + zs.length ≤ sizeLine then alloc (.lst (xs ++ zs)) h else .stk
    | _, _ => .stk := Eq.trans rfl rfl
theorem pure_strs {n : Nat} {ss : List T} (h : ∀ t ∈ ss, flatT t = true) (hl : ss.length ≤ 100000) : PureT (n + 1) (.tup ss) := .inr ⟨ss, rfl, hl, fun x hx => by
  cases n with
  | zero => exact h x hx
  | succ n => exact .inl (h x hx)⟩
theorem wholeL_mem {fm : Fm} {d : T} (hd : d ∈ wholeL fm) : (∃ n ∈ fm.names, ∃ w ∈ fm.words, d = .tup [.str "enter", .str n, .str w]) ∨ (∃ n ∈ fm.names, d = .tup [.str "leave", .str n]) ∨ d = .tup [.str "send"] ∨ (∃ k : Int, 0 ≤ k ∧ k < 3 ∧ d = .tup [.str "answer", .int k]) ∨ d = .tup [.str "reset"] := by
  unfold wholeL plainL enterL leaveL at hd
  simp only [List.mem_append, List.mem_flatMap, List.mem_map, List.mem_cons, List.not_mem_nil, or_false] at hd
  rcases hd with ((⟨n, hn, w, hw, rfl⟩ | ⟨n, hn, rfl⟩) | rfl | rfl | rfl | rfl) | rfl
  · exact .inl ⟨n, hn, w, hw, rfl⟩
  · exact .inr (.inl ⟨n, hn, rfl⟩)
  · exact .inr (.inr (.inl rfl))
  · exact .inr (.inr (.inr (.inl ⟨0, by omega, by omega, rfl⟩)))
  · exact .inr (.inr (.inr (.inl ⟨1, by omega, by omega, rfl⟩)))
  · exact .inr (.inr (.inr (.inl ⟨2, by omega, by omega, rfl⟩)))
  · exact .inr (.inr (.inr (.inr rfl)))
theorem wholeL_pure {fm : Fm} {d : T} (hd : d ∈ wholeL fm) : PureT 1 d := by
  rcases wholeL_mem hd with ⟨n, _, w, _, rfl⟩ | ⟨n, _, rfl⟩ | rfl | ⟨k, _, _, rfl⟩ | rfl <;> exact pure_strs (by simp [flatT]) (by simp)
theorem FormAt.app {h : Hh} {l : Nat} {fm : Fm} (e : FormAt h l fm) (o : Hh) : FormAt (h ++ o) l fm := by
  unfold FormAt
  rw [List.getElem?_append_left (List.getElem?_eq_some_iff.mp e).1]; exact e
theorem FormAt.set {h : Hh} {l k : Nat} {fm : Fm} (e : FormAt h l fm) (o : Ob) (hk : k ≠ l) : FormAt (h.set k o) l fm := by
  unfold FormAt
  rw [List.getElem?_set_ne hk]; exact e
theorem FormAt.lt {h : Hh} {l : Nat} {fm : Fm} (e : FormAt h l fm) : l < h.length := (List.getElem?_eq_some_iff.mp e).1
theorem FormAt.ne {h : Hh} {l r : Nat} {fm : Fm} {ts : List T} (e : FormAt h l fm) (q : lstAt h r = some ts) : r ≠ l := by
  intro z
  subst z
  have := of_lstAt q
  unfold FormAt at e
  rw [e] at this
  cases this
end W3
end

section
namespace W3
open PySem
@[simp] theorem e_raise (c : Str) (ns : List Str) (a : SA) (σ : St3) (h : Hh) : ssRaiseX c ns a σ h = (a σ h).flo σ fun xs h1 => if xs.length = ns.length then .exc c (ns.zip xs).reverse σ h1 else .stk := Eq.trans rfl rfl
def FQ.tr (Q : FQ) (XS : XSub) (hs : List Hdl) : FQ := ⟨Q.n, Q.r, Q.b, Q.c, fun c fs σ h => (tryGo XS hs c fs σ h).wp Q⟩
section
variable {Q : FQ} {XS : XSub} {hs : List Hdl}
@[simp] theorem ft_n : (Q.tr XS hs).n = Q.n := Eq.trans rfl rfl
@[simp] theorem ft_r : (Q.tr XS hs).r = Q.r := Eq.trans rfl rfl
@[simp] theorem ft_b : (Q.tr XS hs).b = Q.b := Eq.trans rfl rfl
@[simp] theorem ft_c : (Q.tr XS hs).c = Q.c := Eq.trans rfl rfl
@[simp] theorem ft_e (c : Str) (fs : List (Str × T)) (σ : St3) (h : Hh) : (Q.tr XS hs).e c fs σ h = (tryGo XS hs c fs σ h).wp Q := Eq.trans rfl rfl
@[simp] theorem fp_try (a : SS) (σ : St3) (h : Hh) : (ssTryX XS a hs σ h).wp Q = (a σ h).wp (Q.tr XS hs) := by
  unfold ssTryX
  cases a σ h <;> rfl
end
@[simp] theorem xf_part2 (n p : T) (σ : St3) (h : Hh) : sXf [("field", n), ("part", p)] "part" σ h = .ok p h := by
  have : List.lookup ("part" : Str) [(("field" : Str), n), ("part", p)] = some p := by
    simp only [List.lookup, show (("part" : Str) == "field") = false by decide +kernel, show (("part" : Str) == "part") = true by decide +kernel]
  unfold sXf; rw [this]
@[simp] theorem xf_field2 (n p : T) (σ : St3) (h : Hh) : sXf [("field", n), ("part", p)] "field" σ h = .ok n h := by
  have : List.lookup ("field" : Str) [(("field" : Str), n), ("part", p)] = some n := by
    simp only [List.lookup, show (("field" : Str) == "field") = true by decide +kernel]
  unfold sXf; rw [this]
def eqS (t : T) (s : Str) : Bool := match t with | .str g => decide (g = s) | _ => false
def fieldErr (ws ns : List Str) (nm : Str) (a b c d : T) : Option Str :=
  if oneB a ws = false then some "first"
  else if isNonT b = false ∧ (oneB b ns = false ∨ eqS b nm = true) then some "looks"
  else if nearB c b ws.length = false then some "near"
  else if isNonT d = false ∧ rowB d ws.length = false then some "far"
  else none
def fErr (ws ns : List Str) : List T → Option (Str × Str)
  | [] => none
  | .tup [.str nm, .tup [a, b, c, d]] :: r => match fieldErr ws ns nm a b c d with
    | some p => some (p, nm)
    | none => fErr ws ns r
  | _ :: r => none
def roomB : T → Bool | .int i => decide (1 ≤ i ∧ i ≤ 3) | _ => false
def itsOf : T → List T | .tup ts => ts | _ => []
def initErr (W V R : T) : Option (Str × Str) :=
  if namesB W 2 3 = false then some ("words", "")
  else if fieldsB V = false then some ("fields", "")
  else match fErr ((itsOf W).map strOf) ((itsOf V).map fun t => strOf (fstOf t)) (itsOf V) with
    | some e => some e
    | none => if roomB R = false then some ("room", "") else none
theorem JdN.down {n : Nat} : ∀ {v : T} {h : Hh}, JdN (n + 1) v h → JdN n v h := by
  induction n with
  | zero => exact fun j => j.1
  | succ n ih => exact fun j => ⟨j.1, fun ts e t ht => ih (j.2 ts e t ht)⟩
theorem JdN.to {n k : Nat} {v : T} {h : Hh} (j : JdN (n + k) v h) : JdN n v h := by
  induction k with
  | zero => exact j
  | succ k ih => exact ih j.down
theorem Jd.ext {v : T} {h h' : Hh} (e : ∀ (k : Nat) (o : Ob), h[k]? = some o → h'[k]? = some o) (j : Jd v h) : Jd v h' := by
  cases v with
  | ref l => rcases j with ⟨ts, q⟩ | ⟨d, q⟩; exact .inl ⟨ts, e _ _ q⟩; exact .inr ⟨d, e _ _ q⟩
  | _ => exact j
theorem JdN.ext {n : Nat} : ∀ {v : T} {h h' : Hh}, (∀ (k : Nat) (o : Ob), h[k]? = some o → h'[k]? = some o) → JdN n v h → JdN n v h' := by
  induction n with
  | zero => exact fun e j => Jd.ext e j
  | succ n ih => exact fun e j => ⟨Jd.ext e j.1, fun ts q t ht => ih e (j.2 ts q t ht)⟩
theorem ext_app (h o : Hh) : ∀ (k : Nat) (x : Ob), h[k]? = some x → (h ++ o)[k]? = some x := fun k x e => by
  rw [List.getElem?_append_left (List.getElem?_eq_some_iff.mp e).1]; exact e
def xForm (p : Str) (n : T) : List (Str × T) := [("field", n), ("part", .str p)]
end W3
end

section
namespace W3
open PySem
def fdAt (fm : Fm) (v : T) : Option (Str × Fd) := match v with | .str s => fm.fields.find? (fun p => decide (p.1 = s)) | _ => none
def putF (k : Bool) (fd : Fd) (t : T) : List T := if k then [.str fd.first, fd.nr.tLooks, t, tFar fd.far] else [.str fd.first, fd.nr.tLooks, fd.nr.tNear, t]
end W3
namespace W3
open PySem
def AnsQ (W V R : T) (h : Hh) (Q : T → Hh → Prop) (E : EQ) : Prop :=
  (initErr W V R = none → ∀ (o : Hh) (a : Nat), (h ++ o)[a]? = some (Ob.ins "Form" [("words", W), ("fields", V), ("room", R)]) → Q (.ref a) (h ++ o)) ∧ ∀ p n, initErr W V R = some (p, n) → ∀ o : Hh, E "InvalidForm" (xForm p (.str n)) (h ++ o)
theorem AnsQ.app {W V R : T} {h : Hh} {Q : T → Hh → Prop} {E : EQ} (q : AnsQ W V R h Q E) (o : Hh) : AnsQ W V R (h ++ o) Q E :=
  ⟨fun e o2 a ha => by rw [List.append_assoc] at ha ⊢; exact q.1 e _ a ha, fun p n e o2 => by rw [List.append_assoc]; exact q.2 p n e _⟩
@[simp] theorem e_neD_s (s : Str) (y : T) (h : Hh) : oNeD (.str s) y h = oNe (.str s) y h := by unfold oNeD; simp [dicB]
theorem fdAt_some {fm : Fm} (o : FmOk fm) {p : Str × Fd} (hp : p ∈ fm.fields) : fdAt fm (.str p.1) = some p := by
  unfold fdAt
  simp only []
  have nd : (fm.fields.map Prod.fst).Nodup := o.fn.nd
  generalize fm.fields = ps at hp nd
  induction ps with
  | nil => cases hp
  | cons q ps ih =>
    rw [List.map_cons, List.nodup_cons] at nd
    rcases List.mem_cons.mp hp with z | z
    · subst z; simp
    · have hne : ¬ q.1 = p.1 := fun e => nd.1 (e ▸ List.mem_map.mpr ⟨p, z, rfl⟩)
      rw [List.find?_cons, show decide (q.1 = p.1) = false by simpa using hne]
      exact ih z nd.2
theorem same_flat {h : Hh} {n : Nat} {t : T} (f : flatT t = true) : SameV h n t t := by
  cases n with
  | zero => exact ⟨rfl, f⟩
  | succ n => exact .inl ⟨rfl, f⟩
theorem SameV.ext {h h' : Hh} (e : ∀ (k : Nat) (o : Ob), h[k]? = some o → h'[k]? = some o) : ∀ {n : Nat} {t u : T}, SameV h n t u → SameV h' n t u
  | 0, _, _, q => q
  | n + 1, _, _, q => by
    rcases q with q | ⟨ts, us, hk, hl, hz, hs⟩
    · exact .inl q
    · have ll : ∀ {t : T} {ts : List T}, LstT h t ts → LstT h' t ts := fun {t ts} z => by
        rcases z with ⟨l, rfl, z⟩ | rfl
        · exact .inl ⟨l, rfl, lstAt_of (e _ _ (of_lstAt z))⟩
        · exact .inr rfl
      refine .inr ⟨ts, us, ?_, hl, hz, fun i x y ex ey => (hs i x y ex ey).ext e⟩
      rcases hk with z | ⟨z1, z2⟩
      · exact .inl z
      · exact .inr ⟨ll z1, ll z2⟩
theorem SameV.up {h : Hh} : ∀ {n : Nat} {t u : T}, SameV h n t u → SameV h (n + 1) t u
  | 0, _, _, q => .inl q
  | n + 1, _, _, q => by
    rcases q with q | ⟨ts, us, hk, hl, hz, hs⟩
    · exact .inl q
    · exact .inr ⟨ts, us, hk, hl, hz, fun i x y ex ey => (hs i x y ex ey).up⟩
end W3
end

section
namespace W3
open PySem
theorem PureT.up : ∀ {n : Nat} {t : T}, PureT n t → PureT (n + 1) t
  | 0, _, h => .inl h
  | n + 1, _, h => by
    rcases h with h | ⟨ts, rfl, hl, hs⟩
    · exact .inl h
    · exact .inr ⟨ts, rfl, hl, fun x hx => (hs x hx).up⟩
theorem PureT.add {n : Nat} {t : T} (h : PureT n t) : ∀ k, PureT (n + k) t
  | 0 => h
  | k + 1 => (h.add k).up
theorem PureT.tup {n : Nat} {ts : List T} (hl : ts.length ≤ 100000) (h : ∀ x ∈ ts, PureT n x) : PureT (n + 1) (.tup ts) := .inr ⟨ts, rfl, hl, h⟩
theorem FormAt.upK {h h' : Hh} {l a : Nat} {fm : Fm} (e : FormAt h a fm) (u : Up l h h') (hne : a ≠ l) : FormAt h' a fm := by
  unfold FormAt
  rw [u.keep a e.lt hne]
  exact e
end W3
end

section
namespace W3
open PySem
@[simp] theorem e_siEnum (a : SA) (σ : St3) (h : Hh) : siEnum a σ h = (a σ h).bind enumOf := Eq.trans rfl rfl
@[simp] theorem enumL_len (k : Nat) (ts : List T) : (enumL k ts).length = ts.length := by
  induction ts generalizing k with
  | nil => rfl
  | cons t ts ih => simp [enumL, ih]
end W3
end

section
namespace W3
open PySem
def wordsB (fm : Fm) (v : T) : Bool := match v with | .tup ts => decide (ts.length = fm.fields.length) && ts.all (fun t => oneB t fm.words) | _ => false
end W3
end

section
namespace W3
open PySem
end W3
end

section
namespace W3
open PySem
@[simp] theorem e_ssForH (si : SI) (g : SGH) (b : SS) (σ : St3) (h : Hh) : ssForH si g b σ h = (si σ h).flo σ fun s h1 => forRunH s g b (s.len h1) 0 σ h1 := Eq.trans rfl rfl
def PickAt (h : Hh) (l : Nat) (t : T) : Prop := ∃ (r : Nat) (a b c : Int), t = .ref r ∧ lstAt h r = some [.int a, .int b, .int c] ∧ r ≠ l
theorem PickAt.up {h h' : Hh} {l : Nat} {t : T} (p : PickAt h l t) (u : Up l h h') : PickAt h' l t := by
  obtain ⟨r, a, b, c, rfl, e, hne⟩ := p
  exact ⟨r, a, b, c, rfl, u.lst e hne, hne⟩
end W3
end

section
namespace W3
open PySem
def flatJ : T → Prop | .non => True | .bl _ => True | .int _ => True | .str s => s.length ≤ 1000 | _ => False
def GV (l : Nat) (h : Hh) : Nat → T → Prop
  | 0, t => flatJ t
  | n + 1, t => flatJ t ∨ (∃ ts, t = .tup ts ∧ ts.length ≤ 1000 ∧ ∀ x ∈ ts, GV l h n x) ∨ ∃ r ts, t = .ref r ∧ r ≠ l ∧ lstAt h r = some ts ∧ ts.length ≤ 1000 ∧ ∀ x ∈ ts, GV l h n x
theorem flatJ.flat {t : T} (h : flatJ t) : flatT t = true := by cases t <;> first | rfl | exact h.elim
theorem GV.flat {l : Nat} {h : Hh} {n : Nat} {t : T} (f : flatJ t) : GV l h n t := by
  cases n with
  | zero => exact f
  | succ n => exact .inl f
theorem GV.tup {l : Nat} {h : Hh} {n : Nat} {ts : List T} (hl : ts.length ≤ 1000) (g : ∀ x ∈ ts, GV l h n x) : GV l h (n + 1) (.tup ts) := .inr (.inl ⟨ts, rfl, hl, g⟩)
theorem GV.lst {l : Nat} {h : Hh} {n r : Nat} {ts : List T} (hr : r ≠ l) (e : lstAt h r = some ts) (hl : ts.length ≤ 1000) (g : ∀ x ∈ ts, GV l h n x) : GV l h (n + 1) (.ref r) := .inr (.inr ⟨r, ts, rfl, hr, e, hl, g⟩)
theorem GV.up {l : Nat} {h h' : Hh} (u : Up l h h') : ∀ {n : Nat} {t : T}, GV l h n t → GV l h' n t
  | 0, _, g => g
  | n + 1, _, g => by
    rcases g with g | ⟨ts, rfl, hl, g⟩ | ⟨r, ts, rfl, hr, e, hl, g⟩
    · exact .inl g
    · exact .inr (.inl ⟨ts, rfl, hl, fun x hx => (g x hx).up u⟩)
    · exact .inr (.inr ⟨r, ts, rfl, hr, u.lst e hr, hl, fun x hx => (g x hx).up u⟩)
theorem GV.same {l : Nat} {h : Hh} : ∀ {n : Nat} {t : T}, GV l h n t → SameV h n t t
  | 0, _, g => ⟨rfl, flatJ.flat g⟩
  | n + 1, _, g => by
    rcases g with g | ⟨ts, rfl, hl, g⟩ | ⟨r, ts, rfl, hr, e, hl, g⟩
    · exact .inl ⟨rfl, flatJ.flat g⟩
    · refine .inr ⟨ts, ts, .inl ⟨rfl, rfl⟩, rfl, by omega, fun i x y ex ey => ?_⟩
      rw [ex] at ey; cases ey
      exact (g x (List.mem_of_getElem? ex)).same
    · refine .inr ⟨ts, ts, .inr ⟨.inl ⟨r, rfl, e⟩, .inl ⟨r, rfl, e⟩⟩, rfl, by omega, fun i x y ex ey => ?_⟩
      rw [ex] at ey; cases ey
      exact (g x (List.mem_of_getElem? ex)).same
theorem GV.more {l : Nat} {h : Hh} : ∀ {n : Nat} {t : T}, GV l h n t → GV l h (n + 1) t
  | 0, _, g => .inl g
  | n + 1, _, g => by
    rcases g with g | ⟨ts, rfl, hl, g⟩ | ⟨r, ts, rfl, hr, e, hl, g⟩
    · exact .inl g
    · exact .inr (.inl ⟨ts, rfl, hl, fun x hx => (g x hx).more⟩)
    · exact .inr (.inr ⟨r, ts, rfl, hr, e, hl, fun x hx => (g x hx).more⟩)
end W3
end

section
namespace W3
open PySem
def G0 (l b : Nat) (h : Hh) (t : T) : Prop := match t with
  | .ref r => r ≠ l ∧ ((∃ ts, h[r]? = some (.lst ts)) ∨ ∃ d, h[r]? = some (.dic d))
  | .cls _ => False
  | .fl _ => False
  | .str s => s.length ≤ 1000
  | .tup ts => ts.length ≤ b
  | _ => True
def GJ (l b : Nat) (h : Hh) : Nat → T → Prop
  | 0, t => G0 l b h t
  | n + 1, t => G0 l b h t ∧ ∀ ts, t = .tup ts → ∀ x ∈ ts, GJ l b h n x
def GA (l b : Nat) (h : Hh) (t : T) : Prop := ∀ n, GJ l b h n t
section
variable {l b : Nat} {h h' : Hh} {t : T}
theorem GJ.g0 {n : Nat} (g : GJ l b h n t) : G0 l b h t := by
  cases n with
  | zero => exact g
  | succ n => exact g.1
theorem GA.g0 (g : GA l b h t) : G0 l b h t := g 0
theorem GA.of0 (g : G0 l b h t) (hn : ∀ ts, t ≠ .tup ts) : GA l b h t := fun n => by
  cases n with
  | zero => exact g
  | succ n => exact ⟨g, fun ts e => absurd e (hn ts)⟩
theorem GA.non : GA l b h .non := .of0 trivial fun _ e => by cases e
theorem GA.bl {x : Bool} : GA l b h (.bl x) := .of0 trivial fun _ e => by cases e
theorem GA.int {x : Int} : GA l b h (.int x) := .of0 trivial fun _ e => by cases e
theorem GA.str {x : Str} (hs : x.length ≤ 1000) : GA l b h (.str x) := .of0 hs fun _ e => by cases e
theorem GA.lst {r : Nat} {ts : List T} (hr : r ≠ l) (e : lstAt h r = some ts) : GA l b h (.ref r) := .of0 ⟨hr, .inl ⟨ts, of_lstAt e⟩⟩ fun _ e => by cases e
theorem GA.dic {r : Nat} {d : List (T × T)} (hr : r ≠ l) (e : h[r]? = some (.dic d)) : GA l b h (.ref r) := .of0 ⟨hr, .inr ⟨d, e⟩⟩ fun _ e => by cases e
theorem GA.tup {ts : List T} (hl : ts.length ≤ b) (g : ∀ x ∈ ts, GA l b h x) : GA l b h (.tup ts) := fun n => by
  cases n with
  | zero => exact hl
  | succ n => exact ⟨hl, fun us e x hx => by cases e; exact g x hx n⟩
theorem GA.mem {ts : List T} (g : GA l b h (.tup ts)) {x : T} (hx : x ∈ ts) : GA l b h x := fun n => (g (n + 1)).2 ts rfl x hx
theorem GA.len {ts : List T} (g : GA l b h (.tup ts)) : ts.length ≤ b := g.g0
theorem G0.more {b' : Nat} (hb : b ≤ b') (g : G0 l b h t) : G0 l b' h t := by
  cases t with
  | tup ts => exact Nat.le_trans g hb
  | _ => exact g
theorem GJ.more {b' : Nat} (hb : b ≤ b') : ∀ {n : Nat} {t : T}, GJ l b h n t → GJ l b' h n t
  | 0, _, g => G0.more hb g
  | n + 1, _, g => ⟨G0.more hb g.1, fun ts e x hx => (g.2 ts e x hx).more hb⟩
theorem GA.more {b' : Nat} (g : GA l b h t) (hb : b ≤ b') : GA l b' h t := fun n => (g n).more hb
theorem G0.up (u : Up l h h') (g : G0 l b h t) : G0 l b h' t := by
  cases t with
  | ref r =>
    obtain ⟨hr, g⟩ := g
    refine ⟨hr, ?_⟩
    have hl : r < h.length := by rcases g with ⟨_, e⟩ | ⟨_, e⟩ <;> exact (List.getElem?_eq_some_iff.mp e).1
    rw [u.keep r hl hr]
    exact g
  | _ => exact g
theorem GJ.up (u : Up l h h') : ∀ {n : Nat} {t : T}, GJ l b h n t → GJ l b h' n t
  | 0, _, g => G0.up u g
  | n + 1, _, g => ⟨G0.up u g.1, fun ts e x hx => (g.2 ts e x hx).up u⟩
theorem GA.up (g : GA l b h t) (u : Up l h h') : GA l b h' t := fun n => (g n).up u
theorem cutT_mem {α : Type} {xs : List α} {lo hi : Option Int} {x : α} (hx : x ∈ cutT xs lo hi) : x ∈ xs := by
  unfold cutT at hx
  exact List.mem_of_mem_drop (List.mem_of_mem_take hx)
theorem GA.cut {ts : List T} (g : ∀ x ∈ ts, GA l b h x) {lo hi : Option Int} : ∀ x ∈ cutT ts lo hi, GA l b h x := fun x hx => g x (cutT_mem hx)
end
theorem GA.ent {l b : Nat} {h : Hh} {k : Nat} {r : List Ent} {e : Ent} (ro : RowOk k r) (he : e ∈ r) : GA l b h (tE e) := by
  cases e with
  | none => exact .non
  | some s => exact .str (ro.nm s he).short
theorem GA.row {l b : Nat} {h : Hh} {k : Nat} {r : List Ent} (ro : RowOk k r) (hk : k ≤ b) : GA l b h (tRow r) :=
  .tup (by rw [List.length_map, ro.len]; exact hk) fun t ht => by
    obtain ⟨e, he, rfl⟩ := List.mem_map.mp ht
    exact .ent ro he
theorem GA.fd {l b : Nat} {h : Hh} {ws ns : List Str} {nm : Str} {fd : Fd} (o : FdOk ws ns nm fd) (hw : ws.length ≤ b) (wn : NmL ws) (nn : NmL ns) : ∀ t ∈ fd.ts, GA l b h t := by
  intro t ht
  simp [Fd.ts] at ht
  rcases ht with rfl | rfl | rfl | rfl
  · exact .str (wn.nm _ o.first).short
  · cases hn : fd.nr with
    | alone r => exact .non
    | looks g rs =>
      have nk := o.nr
      rw [hn] at nk
      exact .str (nn.nm g nk.1).short
  · have nk := o.nr
    cases hn : fd.nr with
    | alone r => rw [hn] at nk; exact .row nk hw
    | looks g rs =>
      rw [hn] at nk
      refine .tup (by rw [List.length_map, nk.2.2.1]; exact hw) fun t ht => ?_
      obtain ⟨r, hr, rfl⟩ := List.mem_map.mp ht
      exact .row (nk.2.2.2 r hr) hw
  · cases hf : fd.far with
    | none => exact .non
    | some r => exact .row (o.far r hf) hw
def PairsG (l b : Nat) (h : Hh) (ts : List T) : Prop := ∀ x ∈ ts, ∃ nm fd, x = .tup [.str nm, fd] ∧ nm.length ≤ 8 ∧ GA l b h fd
theorem PairsG.up {l b : Nat} {h h' : Hh} {ts : List T} (p : PairsG l b h ts) (u : Up l h h') : PairsG l b h' ts := fun x hx => by
  obtain ⟨nm, fd, e, hn, g⟩ := p x hx
  exact ⟨nm, fd, e, hn, g.up u⟩
theorem PairsG.more {l b b' : Nat} {h : Hh} {ts : List T} (p : PairsG l b h ts) (hb : b ≤ b') : PairsG l b' h ts := fun x hx => by
  obtain ⟨nm, fd, e, hn, g⟩ := p x hx
  exact ⟨nm, fd, e, hn, g.more hb⟩
theorem PairsG.ga {l b : Nat} {h : Hh} {ts : List T} (p : PairsG l b h ts) (hb : 2 ≤ b) : ∀ x ∈ ts, GA l b h x := fun x hx => by
  obtain ⟨nm, fd, rfl, hn, g⟩ := p x hx
  refine .tup (by simpa using hb) fun y hy => ?_
  simp at hy
  rcases hy with rfl | rfl
  · exact .str (by omega)
  · exact g
end W3
end

section
namespace W3
open PySem
theorem idx_of_nodup {ss : List Str} (nd : ss.Nodup) {i : Nat} {w : Str} (e : ss[i]? = some w) : ss.idxOf w = i := by
  obtain ⟨hi, rfl⟩ := List.getElem?_eq_some_iff.mp e
  exact List.Nodup.idxOf_getElem nd i hi
def wIx (fm : Fm) (w : Str) : Nat := fm.words.idxOf w
def fIx (fm : Fm) (n : Str) : Nat := fm.names.idxOf n
def wAt (fm : Fm) (ss : List Str) (n : Str) : Str := (ss[fIx fm n]?).getD ⟨#[]⟩
def rowAt (r : List Ent) (i : Nat) : Ent := (r[i]?).getD none
def nearV (fm : Fm) (ss : List Str) (p : Str × Fd) : Ent := match p.2.nr with
  | .alone r => rowAt r (wIx fm (wAt fm ss p.1))
  | .looks g rs => rowAt ((rs[wIx fm (wAt fm ss p.1)]?).getD []) (wIx fm (wAt fm ss g))
def farV (fm : Fm) (p : Str × Fd) (w : Str) : Ent := match p.2.far with
  | none => none
  | some r => rowAt r (wIx fm w)
def trueV (fm : Fm) (ss : List Str) (p : Str × Fd) : Ent := match nearV fm ss p with
  | none => farV fm p (wAt fm ss p.1)
  | some m => some m
structure WsOk (fm : Fm) (ss : List Str) : Prop where
  len : ss.length = fm.fields.length
  mem : ∀ s ∈ ss, s ∈ fm.words
theorem WsOk.b {fm : Fm} {ss : List Str} (o : WsOk fm ss) : wordsB fm (.tup (tSs ss)) = true := by
  simp only [wordsB, List.length_map, o.len, decide_true, Bool.true_and, List.all_eq_true]
  intro t ht
  obtain ⟨s, hs, rfl⟩ := List.mem_map.mp ht
  simp [oneB, o.mem s hs]
theorem WsOk.at {fm : Fm} {ss : List Str} (o : WsOk fm ss) {n : Str} (hn : n ∈ fm.names) : ss[fIx fm n]? = some (wAt fm ss n) ∧ wAt fm ss n ∈ fm.words := by
  have hl : fIx fm n < ss.length := by
    have := List.idxOf_lt_length_iff.mpr hn
    rw [o.len]; simpa [fIx, Fm.names] using this
  have e : ss[fIx fm n]? = some ss[fIx fm n] := by simp [hl]
  unfold wAt
  rw [e]
  exact ⟨rfl, o.mem _ (List.getElem_mem hl)⟩
theorem mem_names {fm : Fm} {p : Str × Fd} (hp : p ∈ fm.fields) : p.1 ∈ fm.names := List.mem_map.mpr ⟨p, hp, rfl⟩
@[simp] theorem isT_tup (ts : List T) : isT (.tup ts) = true := Eq.trans rfl rfl
@[simp] theorem e_sMtA (f : T → List T → Hh → Res T) (o : SE) (a : SA) (σ : St3) (h : Hh) : sMtA f o a σ h = (o σ h).bind fun x h1 => if (isL x h1 || isT x) = true then (a σ h1).bind fun xs h2 => f x xs h2 else .stk := Eq.trans rfl rfl
end W3
end

section
namespace W3
open PySem
abbrev Prs := List (Str × Str)
def tPr (p : Str × Str) : T := .tup [.str p.1, .str p.2]
def dPr (p : Str × Str) : PyData := .tuple [.str p.1, .str p.2]
abbrev leP (p q : Str × Str) : Bool := PySem.W.dataLe false dPr p q
def sortP (ps : Prs) : Prs := ps.mergeSort leP
@[simp] theorem e_sorted_tup (ts : List T) (h : Hh) : bSorted [.tup ts] h = bSortI ts h := Eq.trans rfl rfl
@[simp] theorem e_sorted_ref (l : Nat) (h : Hh) : bSorted [.ref l] h = match lstAt h l with | some ts => bSortI ts h | none => .stk := Eq.trans rfl rfl
@[simp] theorem e_siZip (a : SA) (σ : St3) (h : Hh) : siZip a σ h = (a σ h).bind zipOf := Eq.trans rfl rfl
def namePairB (t : T) : Bool := match t with | .tup [.str a, .str b] => nmB a && nmB b && !decide (a = b) | _ => false
def prOf (t : T) : Str × Str := match t with | .tup [.str a, .str b] => (a, b) | _ => (⟨#[]⟩, ⟨#[]⟩)
def pairsB (v : T) : Bool := match v with | .tup ts => ts.all namePairB && decide ((ts.map prOf).Nodup) | _ => false
structure PrsOk (ps : Prs) : Prop where
  nd : ps.Nodup
  nm : ∀ p ∈ ps, Nm p.1 ∧ Nm p.2 ∧ p.1 ≠ p.2
theorem prOf_tPr (ps : Prs) : (ps.map tPr).map prOf = ps := by
  rw [List.map_map]
  exact List.map_id' ps
theorem pairsB_prs {ps : Prs} (o : PrsOk ps) : pairsB (.tup (ps.map tPr)) = true := by
  simp only [pairsB, prOf_tPr, o.nd, decide_true, Bool.and_true, List.all_map, List.all_eq_true]
  intro p hp
  obtain ⟨h1, h2, h3⟩ := o.nm p hp
  simp [namePairB, tPr, nmB_iff.mpr h1, nmB_iff.mpr h2, h3]
def MEN : List (Str × List Str) := [("opens", ["enter", "leave", "send"]), ("checks", ["enter", "leave"]), ("around", ["own", "looks"]), ("taken", ["any", "same", "last"]), ("sending", ["bar", "wait", "go"])]
def fitsB (part : Str) (v : T) : Bool := if part = "wipes" then isBl v else (decide (part = "around") && pairsB v) || (match MEN.lookup part with | some ss => oneB v ss | none => false)
def PARTSL : List Str := ["opens", "checks", "around", "wipes", "taken", "sending"]
def ruleErr : List Str → List T → Option Str
  | p :: ps, v :: vs => if fitsB p v = false then some p else ruleErr ps vs
  | _, _ => none
def sortAro (v : T) : T := match v with | .tup ts => .tup ((sortP (ts.map prOf)).map tPr) | v => v
def ruleIns (o c a w t s : T) : List (Str × T) := [("opens", o), ("checks", c), ("around", sortAro a), ("wipes", w), ("taken", t), ("sending", s)]
def shortT (v : T) : Prop := ∀ ts, v = .tup ts → ts.length < 64
inductive Aro where | word (s : Str) | pairs (ps : Prs)
def Aro.t : Aro → T | .word s => .str s | .pairs ps => .tup (ps.map tPr)
structure Ru where
  opens : Str
  checks : Str
  around : Aro
  wipes : Bool
  taken : Str
  sending : Str
structure RuOk (r : Ru) : Prop where
  o : r.opens ∈ (["enter", "leave", "send"] : List Str)
  c : r.checks ∈ (["enter", "leave"] : List Str)
  aw : ∀ s, r.around = .word s → s ∈ (["own", "looks"] : List Str)
  ap : ∀ ps, r.around = .pairs ps → PrsOk ps ∧ ps.length < 64 ∧ sortP ps = ps
  t : r.taken ∈ (["any", "same", "last"] : List Str)
  s : r.sending ∈ (["bar", "wait", "go"] : List Str)
def Ru.ins (r : Ru) : List (Str × T) := [("opens", .str r.opens), ("checks", .str r.checks), ("around", r.around.t), ("wipes", .bl r.wipes), ("taken", .str r.taken), ("sending", .str r.sending)]
def RuleAt (h : Hh) (l : Nat) (r : Ru) : Prop := h[l]? = some (.ins "Rule" r.ins)
theorem RuleAt.lt {h : Hh} {l : Nat} {r : Ru} (e : RuleAt h l r) : l < h.length := (List.getElem?_eq_some_iff.mp e).1
theorem RuleAt.app {h : Hh} {l : Nat} {r : Ru} (e : RuleAt h l r) (o : Hh) : RuleAt (h ++ o) l r := by
  unfold RuleAt
  rw [List.getElem?_append_left e.lt]
  exact e
theorem RuleAt.upK {h h' : Hh} {l a : Nat} {r : Ru} (e : RuleAt h a r) (u : Up l h h') (hne : a ≠ l) : RuleAt h' a r := by
  unfold RuleAt
  rw [u.keep a e.lt hne]
  exact e
theorem RuleAt.ins {h : Hh} {l : Nat} {r : Ru} (e : RuleAt h l r) : insAt h l = some (("Rule" : Str), r.ins) := insAt_of e
end W3
end

section
namespace W3
open PySem
def Fm.firsts (fm : Fm) : List Str := fm.fields.map fun p => p.2.first
def stepIns (d b a e : T) : List (Str × T) := [("deed", d), ("before", b), ("after", a), ("events", e)]
def StepAt (h : Hh) (l : Nat) (d b a e : T) : Prop := h[l]? = some (.ins "Step" (stepIns d b a e))
theorem StepAt.lt {h : Hh} {l : Nat} {d b a e : T} (q : StepAt h l d b a e) : l < h.length := (List.getElem?_eq_some_iff.mp q).1
theorem StepAt.app {h : Hh} {l : Nat} {d b a e : T} (q : StepAt h l d b a e) (o : Hh) : StepAt (h ++ o) l d b a e := by
  unfold StepAt
  rw [List.getElem?_append_left q.lt]
  exact q
theorem StepAt.ins {h : Hh} {l : Nat} {d b a e : T} (q : StepAt h l d b a e) : insAt h l = some (("Step" : Str), stepIns d b a e) := insAt_of q
theorem firsts_len (fm : Fm) : fm.firsts.length = fm.fields.length := List.length_map _
end W3
end

section
namespace W3
open PySem
end W3
end

section
namespace W3
open PySem
def farNames (fm : Fm) : List Str := (fm.fields.filter fun p => p.2.far.isSome).map Prod.fst
theorem far_mem {fm : Fm} {s : Str} (h : s ∈ farNames fm) : ∃ p ∈ fm.fields, p.2.far.isSome = true ∧ p.1 = s := by
  obtain ⟨p, hp, rfl⟩ := List.mem_map.mp h
  obtain ⟨h1, h2⟩ := List.mem_filter.mp hp
  exact ⟨p, h1, h2, rfl⟩
end W3
end

section
namespace W3
open PySem
def GF (t : T) : Prop := ∀ (l : Nat) (h : Hh), GA l 100 h t
theorem GF.str {s : Str} (h : s.length ≤ 1000) : GF (.str s) := fun _ _ => .str h
theorem GF.non : GF .non := fun _ _ => .non
theorem GF.bl {b : Bool} : GF (.bl b) := fun _ _ => .bl
theorem GF.int {i : Int} : GF (.int i) := fun _ _ => .int
theorem GF.tup {ts : List T} (hl : ts.length ≤ 100) (g : ∀ x ∈ ts, GF x) : GF (.tup ts) := fun l h => .tup hl fun x hx => g x hx l h
theorem GF.ent {k : Nat} {r : List Ent} {e : Ent} (ro : RowOk k r) (he : e ∈ r) : GF (tE e) := fun _ _ => .ent ro he
theorem GF.mem {ts : List T} (g : GF (.tup ts)) {x : T} (hx : x ∈ ts) : GF x := fun l h => (g l h).mem hx
end W3
end

section
namespace W3
open PySem
abbrev Kn := Option (Str × Ent)
abbrev Qn := Str × Str × Bool
def tK : Kn → T | none => .non | some (w, e) => .tup [.str w, tE e]
def tQ (q : Qn) : T := .tup [.str q.1, .str q.2.1, .bl q.2.2]
structure Sd where
  words : List Str
  shown : List Bool
  mess : List Ent
  known : List Kn
  quest : List Qn
  wait : Bool
def Sd.t (d : Sd) : T := .tup [.tup (tSs d.words), .tup (d.shown.map T.bl), .tup (d.mess.map tE), .tup (d.known.map tK), .tup (d.quest.map tQ), .bl d.wait]
def KnOk (fm : Fm) (p : Str × Fd) (k : Kn) : Prop := ∀ w e, k = some (w, e) → p.2.far.isSome = true ∧ w ∈ fm.words ∧ e = farV fm p w
def QnOk (fm : Fm) (q : Qn) : Prop := q.1 ∈ farNames fm ∧ q.2.1 ∈ fm.words
structure SdOk (fm : Fm) (snd : Str) (d : Sd) : Prop where
  ws : WsOk fm d.words
  sl : d.shown.length = fm.fields.length
  ml : d.mess.length = fm.fields.length
  mn : ∀ s, some s ∈ d.mess → Nm s
  kl : d.known.length = fm.fields.length
  kn : ∀ q ∈ fm.fields.zip d.known, KnOk fm q.1 q.2
  ql : (d.quest.length : Int) ≤ fm.room
  qn : ∀ q ∈ d.quest, QnOk fm q
  wt : d.wait = true → snd = "wait" ∧ d.quest ≠ []
theorem all_map {α : Type} {B : T → Bool} {f : α → T} {P : α → Prop} (st : ∀ t, B t = true → ∃ x, t = f x ∧ P x) : ∀ {ts : List T}, ts.all B = true → ∃ xs : List α, ts = xs.map f ∧ ∀ x ∈ xs, P x
  | [], _ => ⟨[], rfl, by simp⟩
  | t :: ts, h => by
    rw [List.all_cons, Bool.and_eq_true] at h
    obtain ⟨x, rfl, px⟩ := st t h.1
    obtain ⟨xs, rfl, pxs⟩ := all_map st h.2
    exact ⟨x :: xs, rfl, fun y hy => by
      rcases List.mem_cons.mp hy with rfl | z
      · exact px
      · exact pxs y z⟩
end W3
end

section
namespace W3
open PySem
structure Pl where
  w : Nat
  s : Nat
  m : Nat
  k : Nat
  q : Nat
  t : Nat
def Pl.all (p : Pl) : List Nat := [p.w, p.s, p.m, p.k, p.q, p.t]
def crsIns (lf lr : Nat) (p : Pl) (wt : Bool) : List (Str × T) := [("form", .ref lf), ("rule", .ref lr), ("words_now", .ref p.w), ("shown_fields", .ref p.s), ("messages", .ref p.m), ("far_words", .ref p.k), ("questions", .ref p.q), ("is_waiting", .bl wt), ("told", .ref p.t)]
structure CrsAt (n : Nat) (h : Hh) (a lf lr : Nat) (p : Pl) (d : Sd) (told : List T) : Prop where
  ins : h[a]? = some (.ins "Course" (crsIns lf lr p d.wait))
  ww : lstAt h p.w = some (tSs d.words)
  ss : lstAt h p.s = some (d.shown.map T.bl)
  mm : lstAt h p.m = some (d.mess.map tE)
  kk : lstAt h p.k = some (d.known.map tK)
  qq : lstAt h p.q = some (d.quest.map tQ)
  tt : lstAt h p.t = some told
  nd : p.all.Nodup
  la : n ≤ a
  lo : ∀ x ∈ p.all, n ≤ x
def Fz (n : Nat) (h h' : Hh) : Prop := h.length ≤ h'.length ∧ ∀ k, k < n → h'[k]? = h[k]?
theorem Fz.refl (n : Nat) (h : Hh) : Fz n h h := ⟨Nat.le_refl _, fun _ _ => rfl⟩
theorem Fz.trans {n : Nat} {h h1 h2 : Hh} (a : Fz n h h1) (b : Fz n h1 h2) : Fz n h h2 := ⟨Nat.le_trans a.1 b.1, fun k hk => (b.2 k hk).trans (a.2 k hk)⟩
theorem Fz.app {n : Nat} {h : Hh} (hn : n ≤ h.length) (o : Hh) : Fz n h (h ++ o) := ⟨by simp, fun k hk => List.getElem?_append_left (by omega)⟩
theorem Fz.set {n k : Nat} {h : Hh} (hn : n ≤ k) (o : Ob) : Fz n h (h.set k o) := ⟨by simp, fun j hj => by rw [List.getElem?_set_ne (by omega)]⟩
theorem Fz.out {h h' : Hh} (f : Fz h.length h h') : ∃ z, h' = h ++ z := by
  refine ⟨h'.drop h.length, ?_⟩
  apply List.ext_getElem?
  intro i
  by_cases hi : i < h.length
  · rw [f.2 i hi, List.getElem?_append_left hi]
  · rw [List.getElem?_append_right (by omega), List.getElem?_drop]
    congr 1
    omega
theorem FormAt.fz {n : Nat} {h h' : Hh} {l : Nat} {fm : Fm} (e : FormAt h l fm) (f : Fz n h h') (hl : l < n) : FormAt h' l fm := by
  unfold FormAt
  rw [f.2 l hl]
  exact e
theorem RuleAt.fz {n : Nat} {h h' : Hh} {l : Nat} {r : Ru} (e : RuleAt h l r) (f : Fz n h h') (hl : l < n) : RuleAt h' l r := by
  unfold RuleAt
  rw [f.2 l hl]
  exact e
section
variable {n : Nat} {h : Hh} {a lf lr : Nat} {p : Pl} {d : Sd} {told : List T}
theorem CrsAt.at (c : CrsAt n h a lf lr p d told) : insAt h a = some (("Course" : Str), crsIns lf lr p d.wait) := insAt_of c.ins
theorem CrsAt.alt (c : CrsAt n h a lf lr p d told) : a < h.length := (List.getElem?_eq_some_iff.mp c.ins).1
theorem CrsAt.nl (c : CrsAt n h a lf lr p d told) : n ≤ h.length := Nat.le_of_lt (Nat.lt_of_le_of_lt c.la c.alt)
theorem CrsAt.app (c : CrsAt n h a lf lr p d told) (o : Hh) : CrsAt n (h ++ o) a lf lr p d told where
  ins := by rw [List.getElem?_append_left c.alt]; exact c.ins
  ww := lstAt_app o c.ww
  ss := lstAt_app o c.ss
  mm := lstAt_app o c.mm
  kk := lstAt_app o c.kk
  qq := lstAt_app o c.qq
  tt := lstAt_app o c.tt
  nd := c.nd
  la := c.la
  lo := c.lo
theorem CrsAt.ne (c : CrsAt n h a lf lr p d told) {x : Nat} {ts : List T} (e : lstAt h x = some ts) : x ≠ a := by
  intro q
  subst q
  have := of_lstAt e
  rw [c.ins] at this
  cases this
theorem CrsAt.tell (c : CrsAt n h a lf lr p d told) (e : T) : CrsAt n (h.set p.t (.lst (told ++ [e]))) a lf lr p d (told ++ [e]) := by
  have nd := c.nd
  simp [Pl.all] at nd
  obtain ⟨⟨_, _, _, _, n1⟩, ⟨_, _, _, n2⟩, ⟨_, _, n3⟩, ⟨_, n4⟩, n5⟩ := nd
  exact ⟨by rw [List.getElem?_set_ne (c.ne c.tt)]; exact c.ins, by rw [lstAt_set_ne (Ne.symm n1)]; exact c.ww, by rw [lstAt_set_ne (Ne.symm n2)]; exact c.ss, by rw [lstAt_set_ne (Ne.symm n3)]; exact c.mm, by rw [lstAt_set_ne (Ne.symm n4)]; exact c.kk, by rw [lstAt_set_ne (Ne.symm n5)]; exact c.qq, by rw [lstAt_set_self (lstAt_lt c.tt)], c.nd, c.la, c.lo⟩
theorem CrsAt.wait (c : CrsAt n h a lf lr p d told) (b : Bool) : CrsAt n (h.set a (.ins "Course" (crsIns lf lr p b))) a lf lr p { d with wait := b } told :=
  ⟨by rw [List.getElem?_set_self c.alt], by rw [lstAt_set_ne (Ne.symm (c.ne c.ww))]; exact c.ww, by rw [lstAt_set_ne (Ne.symm (c.ne c.ss))]; exact c.ss, by rw [lstAt_set_ne (Ne.symm (c.ne c.mm))]; exact c.mm, by rw [lstAt_set_ne (Ne.symm (c.ne c.kk))]; exact c.kk, by rw [lstAt_set_ne (Ne.symm (c.ne c.qq))]; exact c.qq, by rw [lstAt_set_ne (Ne.symm (c.ne c.tt))]; exact c.tt, c.nd, c.la, c.lo⟩
end
end W3
end

section
namespace W3
open PySem
section
variable {n : Nat} {h : Hh} {a lf lr : Nat} {p : Pl} {d : Sd} {told : List T}
end
end W3
end

section
namespace W3
open PySem
theorem farV_nm {fm : Fm} (o : FmOk fm) {p : Str × Fd} (hp : p ∈ fm.fields) {w s : Str} (e : farV fm p w = some s) : Nm s := by
  unfold farV at e
  cases hf : p.2.far with
  | none => rw [hf] at e; cases e
  | some r =>
    rw [hf] at e
    simp only [rowAt] at e
    cases hr : r[wIx fm w]? with
    | none => rw [hr] at e; cases e
    | some x =>
      rw [hr] at e
      simp at e
      subst e
      exact ((o.fs p hp).far r hf).nm s (List.mem_of_getElem? hr)
end W3
end

section
namespace W3
open PySem
inductive Ev where
  | entered (n w : Str) | dropped | opened (n : Str) | wiped (n : Str) | checked (n : Str) (e : Ent) | asked (n w : Str)
  | answered (n w : Str) (e : Ent) (tk : Bool) | sent (ws : List Str) | waits | held | reset
def Ev.t : Ev → T
  | .entered n w => .tup [.str "entered", .str n, .str w]
  | .dropped => .tup [.str "dropped"]
  | .opened n => .tup [.str "opened", .str n]
  | .wiped n => .tup [.str "wiped", .str n]
  | .checked n e => .tup [.str "checked", .str n, tE e]
  | .asked n w => .tup [.str "asked", .str n, .str w]
  | .answered n w e tk => .tup [.str "answered", .str n, .str w, tE e, .bl tk]
  | .sent ws => .tup [.str "sent", .tup (tSs ws)]
  | .waits => .tup [.str "waits"]
  | .held => .tup [.str "held"]
  | .reset => .tup [.str "reset"]
abbrev tEs (es : List Ev) : List T := es.map Ev.t
def endV (d : Sd) (told : List Ev) : Sd × List Ev := if d.wait = true then ({ d with wait := false }, told ++ [.dropped]) else (d, told)
def resetV (fm : Fm) (d : Sd) (told : List Ev) : Sd × List Ev := endV { d with words := fm.firsts, shown := List.replicate fm.fields.length false, mess := List.replicate fm.fields.length none } (told ++ [.reset])
inductive Rz where
  | ok (d : Sd) (t : List Ev)
  | many (n : Str)
def Rz.bind : Rz → (Sd → List Ev → Rz) → Rz
  | .ok d t, k => k d t
  | .many n, _ => .many n
def nameAt (fm : Fm) (i : Nat) : Str := (fm.names[i]?).getD ⟨#[]⟩
def showC (fm : Fm) (i : Nat) (d : Sd) (told : List Ev) : Sd × List Ev := if d.shown[i]? = some false then ({ d with shown := d.shown.set i true }, told ++ [.opened (nameAt fm i)]) else (d, told)
def knEnt (w : Str) : Option Kn → Ent × Bool
  | some (some (v, e)) => if v = w then (e, false) else (none, true)
  | _ => (none, true)
def entryC (fm : Fm) (p : Str × Fd) (d : Sd) : Ent × Bool :=
  match nearV fm d.words p with
  | none => if p.2.far.isSome = true then knEnt (wAt fm d.words p.1) (d.known[fIx fm p.1]?) else (none, false)
  | some s => (some s, false)
def elder (n : Str) (q : Qn) : Qn := (q.1, q.2.1, q.2.2 && !decide (q.1 = n))
def askC (fm : Fm) (n w : Str) (d : Sd) (told : List Ev) : Rz :=
  if (n, w, true) ∈ d.quest then .ok d told
  else if (d.quest.length : Int) = fm.room then .many n
  else .ok { d with quest := d.quest.map (elder n) ++ [(n, w, true)] } (told ++ [.asked n w])
def checkC (fm : Fm) (p : Str × Fd) (d : Sd) (told : List Ev) : Rz :=
  if (entryC fm p d).2 = true then askC fm p.1 (wAt fm d.words p.1) { d with mess := d.mess.set (fIx fm p.1) (entryC fm p d).1 } (told ++ [.checked p.1 (entryC fm p d).1])
  else .ok { d with mess := d.mess.set (fIx fm p.1) (entryC fm p d).1 } (told ++ [.checked p.1 (entryC fm p d).1])
def checksC (fm : Fm) : List (Str × Fd) → Sd → List Ev → Rz
  | [], d, t => .ok d t
  | p :: ps, d, t => (checkC fm p d t).bind (checksC fm ps)
def looksAt : Nr → Option Str | .alone _ => none | .looks g _ => some g
def readsC (fm : Fm) (n : Str) : List (Str × Fd) := fm.fields.filter fun q => decide (looksAt q.2.nr = some n)
def foundC (fm : Fm) (r : Ru) (n : Str) : List (Str × Fd) := match r.around with
  | .word s => if s = "own" then [] else readsC fm n
  | .pairs ps => fm.fields.filter fun q => decide ((n, q.1) ∈ ps)
def openC (fm : Fm) (d : Sd) (p : Str × Fd) : Bool := (d.shown[fIx fm p.1]?).getD false
def withC (fm : Fm) (r : Ru) (n : Str) (d : Sd) : List (Str × Fd) := (foundC fm r n).filter (openC fm d)
def aroundL (fm : Fm) (r : Ru) (p : Str × Fd) (d : Sd) : List (Str × Fd) := (if openC fm d p = true then [p] else []) ++ withC fm r p.1 d
def aroundC (fm : Fm) (r : Ru) (p : Str × Fd) (d : Sd) (told : List Ev) : Rz := checksC fm (aroundL fm r p d) d told
def wipeC (r : Ru) (n : Str) (i : Nat) (d : Sd) (told : List Ev) : Sd × List Ev := if r.wipes = true ∧ (rowAt d.mess i).isSome = true then ({ d with mess := d.mess.set i none }, told ++ [.wiped n]) else (d, told)
def enter1 (fm : Fm) (p : Str × Fd) (w : Str) (d : Sd) (told : List Ev) : Sd × List Ev := endV { d with words := d.words.set (fIx fm p.1) w } (told ++ [.entered p.1 w])
def enter2 (fm : Fm) (r : Ru) (p : Str × Fd) (x : Sd × List Ev) : Sd × List Ev := if r.opens = "enter" then showC fm (fIx fm p.1) x.1 x.2 else x
def enterS (fm : Fm) (r : Ru) (p : Str × Fd) (w : Str) (d : Sd) (told : List Ev) : Sd × List Ev := wipeC r p.1 (fIx fm p.1) (enter2 fm r p (enter1 fm p w d told)).1 (enter2 fm r p (enter1 fm p w d told)).2
def enterC (fm : Fm) (r : Ru) (p : Str × Fd) (w : Str) (d : Sd) (told : List Ev) : Rz :=
  if wAt fm d.words p.1 = w then .ok d told
  else if r.checks = "enter" then aroundC fm r p (enterS fm r p w d told).1 (enterS fm r p w d told).2
  else .ok (enterS fm r p w d told).1 (enterS fm r p w d told).2
def leaveS (fm : Fm) (r : Ru) (p : Str × Fd) (d : Sd) (told : List Ev) : Sd × List Ev := if r.opens = "send" then (d, told) else showC fm (fIx fm p.1) d told
def leaveC (fm : Fm) (r : Ru) (p : Str × Fd) (d : Sd) (told : List Ev) : Rz := aroundC fm r p (leaveS fm r p d told).1 (leaveS fm r p d told).2
def showsC (fm : Fm) : Nat → Sd → List Ev → Sd × List Ev
  | 0, d, t => (d, t)
  | k + 1, d, t => showC fm k (showsC fm k d t).1 (showsC fm k d t).2
def hasErr (d : Sd) : Bool := d.mess.any fun e => e.isSome
def endSend (r : Ru) (d : Sd) (told : List Ev) : Sd × List Ev :=
  if hasErr d = true then (d, told ++ [.held])
  else if d.quest = [] ∨ r.sending = "go" then (d, told ++ [.sent d.words])
  else if r.sending = "wait" then ({ d with wait := true }, told ++ [.waits])
  else (d, told ++ [.held])
def sendC (fm : Fm) (r : Ru) (d : Sd) (told : List Ev) : Rz :=
  if d.wait = true then .ok d told
  else (checksC fm fm.fields (showsC fm fm.fields.length d told).1 (showsC fm fm.fields.length d told).2).bind fun d2 t2 => .ok (endSend r d2 t2).1 (endSend r d2 t2).2
def takenC (fm : Fm) (r : Ru) (p : Str × Fd) (w : Str) (nw : Bool) (d : Sd) : Bool := if r.taken = "any" then true else if r.taken = "same" then decide (wAt fm d.words p.1 = w) else nw
def takeMess (fm : Fm) (r : Ru) (p : Str × Fd) (w : Str) (d : Sd) : List Ent := if openC fm d p = true ∧ (¬ r.taken = "same" ∨ nearV fm d.words p = none) then d.mess.set (fIx fm p.1) (farV fm p w) else d.mess
def takeC (fm : Fm) (r : Ru) (p : Str × Fd) (w : Str) (nw : Bool) (d : Sd) : Sd := if takenC fm r p w nw d = true then { d with known := d.known.set (fIx fm p.1) (some (w, farV fm p w)), mess := takeMess fm r p w d } else d
def restC (d : Sd) (told : List Ev) : Sd × List Ev :=
  if d.wait = true ∧ d.quest = [] then ({ d with wait := false }, told ++ [if hasErr d = true then .held else .sent d.words]) else (d, told)
def answerP (fm : Fm) (r : Ru) (p : Str × Fd) (w : Str) (nw : Bool) (d : Sd) (told : List Ev) : Sd × List Ev :=
  restC (takeC fm r p w nw d) (told ++ [.answered p.1 w (farV fm p w) (takenC fm r p w nw d)])
def answerC (fm : Fm) (r : Ru) (i : Nat) (d : Sd) (told : List Ev) : Sd × List Ev := match d.quest[i]? with
  | none => (d, told)
  | some (n, w, nw) => match fdAt fm (.str n) with
    | none => (d, told)
    | some p => answerP fm r p w nw { d with quest := d.quest.eraseIdx i } told
inductive Dd where
  | enter (p : Str × Fd) (w : Str)
  | leave (p : Str × Fd)
  | send
  | answer (i : Nat)
  | reset
def Dd.t : Dd → T
  | .enter p w => .tup [.str "enter", .str p.1, .str w]
  | .leave p => .tup [.str "leave", .str p.1]
  | .send => .tup [.str "send"]
  | .answer i => .tup [.str "answer", .int i]
  | .reset => .tup [.str "reset"]
def DdOk (fm : Fm) : Dd → Prop
  | .enter p w => p ∈ fm.fields ∧ w ∈ fm.words
  | .leave p => p ∈ fm.fields
  | .send => True
  | .answer i => i < 3
  | .reset => True
def Rz.of (x : Sd × List Ev) : Rz := .ok x.1 x.2
def stepC (fm : Fm) (r : Ru) (D : Dd) (d : Sd) : Rz := match D with
  | .enter p w => enterC fm r p w d []
  | .leave p => leaveC fm r p d []
  | .send => sendC fm r d []
  | .answer i => .of (answerC fm r i d [])
  | .reset => .of (resetV fm d [])
structure SdW (fm : Fm) (d : Sd) : Prop where
  ws : WsOk fm d.words
  sl : d.shown.length = fm.fields.length
  ml : d.mess.length = fm.fields.length
  mn : ∀ s, some s ∈ d.mess → Nm s
  kl : d.known.length = fm.fields.length
  kn : ∀ q ∈ fm.fields.zip d.known, KnOk fm q.1 q.2
  ql : (d.quest.length : Int) ≤ fm.room
  qn : ∀ q ∈ d.quest, QnOk fm q
theorem SdOk.w {fm : Fm} {s : Str} {d : Sd} (h : SdOk fm s d) : SdW fm d := ⟨h.ws, h.sl, h.ml, h.mn, h.kl, h.kn, h.ql, h.qn⟩
theorem SdW.ok {fm : Fm} {s : Str} {d : Sd} (h : SdW fm d) (wt : d.wait = true → s = "wait" ∧ d.quest ≠ []) : SdOk fm s d := ⟨h.ws, h.sl, h.ml, h.mn, h.kl, h.kn, h.ql, h.qn, wt⟩
theorem rowAt_nm {k : Nat} {r : List Ent} {i : Nat} {s : Str} (ro : RowOk k r) (e : rowAt r i = some s) : Nm s := by
  unfold rowAt at e
  cases hr : r[i]? with
  | none => rw [hr] at e; cases e
  | some x =>
    rw [hr] at e
    simp at e
    subst e
    exact ro.nm s (List.mem_of_getElem? hr)
theorem nearV_nm {fm : Fm} (o : FmOk fm) {p : Str × Fd} (hp : p ∈ fm.fields) {ws : List Str} {s : Str} (e : nearV fm ws p = some s) : Nm s := by
  have fo := (o.fs p hp).nr
  unfold nearV at e
  cases hn : p.2.nr with
  | alone r =>
    rw [hn] at e fo
    exact rowAt_nm fo e
  | looks g rs =>
    rw [hn] at e fo
    obtain ⟨q1, q2, q3, q4⟩ := fo
    simp only at e
    cases hr : rs[wIx fm (wAt fm ws p.1)]? with
    | none =>
      rw [hr] at e
      simp [rowAt] at e
    | some r =>
      rw [hr] at e
      exact rowAt_nm (q4 r (List.mem_of_getElem? hr)) e
theorem fIx_at {fm : Fm} (o : FmOk fm) {i : Nat} {n : Str} (hi : fm.names[i]? = some n) : fIx fm n = i := idx_of_nodup o.fn.nd hi
theorem fIx_lt {fm : Fm} {p : Str × Fd} (hp : p ∈ fm.fields) : fIx fm p.1 < fm.fields.length := by
  have := List.idxOf_lt_length_iff.mpr (mem_names hp)
  simpa [fIx, Fm.names] using this
theorem fIx_get {fm : Fm} (o : FmOk fm) {p : Str × Fd} (hp : p ∈ fm.fields) : fm.fields[fIx fm p.1]? = some p := by
  obtain ⟨i, hi⟩ := List.getElem?_of_mem hp
  rw [fIx_at o (i := i) (by unfold Fm.names; rw [List.getElem?_map, hi]; rfl)]
  exact hi
theorem known_at {fm : Fm} (o : FmOk fm) {d : Sd} (w : SdW fm d) {p : Str × Fd} (hp : p ∈ fm.fields) : ∃ k, d.known[fIx fm p.1]? = some k ∧ KnOk fm p k := by
  have hl : fIx fm p.1 < d.known.length := by rw [w.kl]; exact fIx_lt hp
  refine ⟨d.known[fIx fm p.1], by simp [hl], ?_⟩
  exact w.kn (p, d.known[fIx fm p.1]) (List.mem_of_getElem? (i := fIx fm p.1) (by rw [List.getElem?_zip_eq_some]; exact ⟨fIx_get o hp, by simp [hl]⟩))
theorem entry_nm {fm : Fm} (o : FmOk fm) {d : Sd} (w : SdW fm d) {p : Str × Fd} (hp : p ∈ fm.fields) {s : Str} (e : (entryC fm p d).1 = some s) : Nm s := by
  unfold entryC at e
  cases hn : nearV fm d.words p with
  | some m =>
    rw [hn] at e
    simp at e
    exact e ▸ nearV_nm o hp hn
  | none =>
    rw [hn] at e
    simp only at e
    split at e
    · obtain ⟨k, hk, ko⟩ := known_at o w hp
      rw [hk] at e
      cases k with
      | none => simp [knEnt] at e
      | some q =>
        obtain ⟨v, x⟩ := q
        obtain ⟨_, _, rfl⟩ := ko v x rfl
        simp only [knEnt] at e
        split at e
        · exact farV_nm o hp e
        · cases e
    · cases e
theorem mess_set {es : List Ent} {i : Nat} {e : Ent} (h : ∀ s, some s ∈ es → Nm s) (he : ∀ s, e = some s → Nm s) : ∀ s, some s ∈ es.set i e → Nm s := fun s hs => by
  rcases List.mem_or_eq_of_mem_set hs with z | z
  · exact h s z
  · exact he s z.symm
theorem SdW.mess {fm : Fm} {d : Sd} (w : SdW fm d) (i : Nat) {e : Ent} (he : ∀ s, e = some s → Nm s) : SdW fm { d with mess := d.mess.set i e } :=
  { w with ml := by simp [w.ml], mn := mess_set w.mn he }
theorem SdW.show {fm : Fm} {d : Sd} (w : SdW fm d) (i : Nat) (told : List Ev) : SdW fm (showC fm i d told).1 := by
  unfold showC
  split
  · exact { w with sl := by simp [w.sl] }
  · exact w
theorem SdW.shows {fm : Fm} {d : Sd} (w : SdW fm d) (told : List Ev) : ∀ k, SdW fm (showsC fm k d told).1
  | 0 => w
  | k + 1 => (w.shows told k).show k _
theorem SdW.endw {fm : Fm} {d : Sd} (w : SdW fm d) (told : List Ev) : SdW fm (endV d told).1 := by
  unfold endV
  split
  · exact { w with }
  · exact w
structure Kept (d d' : Sd) (t t' : List Ev) (k : Nat) : Prop where
  ws : d'.words = d.words
  sh : d'.shown = d.shown
  wt : d'.wait = d.wait
  kn : d'.known = d.known
  ql : d.quest.length ≤ d'.quest.length
  tl : t'.length ≤ t.length + k
theorem Kept.trans {d d1 d2 : Sd} {t t1 t2 : List Ev} {k m : Nat} (a : Kept d d1 t t1 k) (b : Kept d1 d2 t1 t2 m) : Kept d d2 t t2 (k + m) :=
  ⟨b.ws.trans a.ws, b.sh.trans a.sh, b.wt.trans a.wt, b.kn.trans a.kn, Nat.le_trans a.ql b.ql, by have := a.tl; have := b.tl; omega⟩
theorem far_names {fm : Fm} {p : Str × Fd} (hp : p ∈ fm.fields) (hf : p.2.far.isSome = true) : p.1 ∈ farNames fm := by
  unfold farNames
  exact List.mem_map.mpr ⟨p, List.mem_filter.mpr ⟨hp, hf⟩, rfl⟩
theorem ask_kept {fm : Fm} {n w : Str} {d d' : Sd} {t t' : List Ev} (s : SdW fm d) (hn : n ∈ farNames fm) (hw : w ∈ fm.words) (e : askC fm n w d t = .ok d' t') : SdW fm d' ∧ Kept d d' t t' 1 := by
  unfold askC at e
  split at e
  · cases e
    exact ⟨s, rfl, rfl, rfl, rfl, Nat.le_refl _, by omega⟩
  · split at e
    · cases e
    · cases e
      rename_i h1 h2
      refine ⟨{ s with ql := ?_, qn := fun q hq => ?_ }, rfl, rfl, rfl, rfl, by simp, by simp⟩
      · have := s.ql
        simp only [List.length_append, List.length_map, List.length_cons, List.length_nil]
        omega
      · simp only [List.mem_append, List.mem_map, List.mem_singleton] at hq
        rcases hq with ⟨q0, hq0, rfl⟩ | rfl
        · exact s.qn q0 hq0
        · exact ⟨hn, hw⟩
theorem entry_asks {fm : Fm} {p : Str × Fd} {d : Sd} (e : (entryC fm p d).2 = true) : p.2.far.isSome = true := by
  unfold entryC at e
  split at e
  · split at e
    · assumption
    · cases e
  · cases e
theorem check_kept {fm : Fm} (o : FmOk fm) {p : Str × Fd} (hp : p ∈ fm.fields) {d d' : Sd} {t t' : List Ev} (s : SdW fm d) (e : checkC fm p d t = .ok d' t') : SdW fm d' ∧ Kept d d' t t' 2 := by
  have s1 := s.mess (fIx fm p.1) (e := (entryC fm p d).1) fun _ h => entry_nm o s hp h
  have k1 : Kept d { d with mess := d.mess.set (fIx fm p.1) (entryC fm p d).1 } t (t ++ [.checked p.1 (entryC fm p d).1]) 1 := ⟨rfl, rfl, rfl, rfl, Nat.le_refl _, by simp⟩
  unfold checkC at e
  split at e
  · rename_i ha
    obtain ⟨s2, k2⟩ := ask_kept s1 (far_names hp (entry_asks ha)) (s.ws.at (mem_names hp)).2 e
    exact ⟨s2, k1.trans k2⟩
  · cases e
    exact ⟨s1, { k1 with tl := by have := k1.tl; omega }⟩
theorem checks_kept {fm : Fm} (o : FmOk fm) : ∀ {ps : List (Str × Fd)} {d d' : Sd} {t t' : List Ev}, (∀ p ∈ ps, p ∈ fm.fields) → SdW fm d → checksC fm ps d t = .ok d' t' → SdW fm d' ∧ Kept d d' t t' (2 * ps.length)
  | [], d, d', t, t', _, s, e => by
    cases e
    exact ⟨s, rfl, rfl, rfl, rfl, Nat.le_refl _, by omega⟩
  | p :: ps, d, d', t, t', hp, s, e => by
    unfold checksC at e
    cases h1 : checkC fm p d t with
    | many n => rw [h1] at e; cases e
    | ok d1 t1 =>
      rw [h1] at e
      obtain ⟨s1, k1⟩ := check_kept o (hp p (.head _)) s h1
      obtain ⟨s2, k2⟩ := checks_kept o (fun q hq => hp q (.tail _ hq)) s1 e
      refine ⟨s2, (k1.trans k2).ws, (k1.trans k2).sh, (k1.trans k2).wt, (k1.trans k2).kn, (k1.trans k2).ql, ?_⟩
      have := (k1.trans k2).tl
      simp only [List.length_cons]
      omega
end W3
end

section
namespace W3
open PySem
section
variable {n : Nat} {h : Hh} {a lf lr : Nat} {p : Pl} {d : Sd} {told : List T}
end
structure Crz (n : Nat) (h : Hh) (a lf lr : Nat) (fm : Fm) (r : Ru) (p : Pl) (d : Sd) (told : List Ev) : Prop where
  c : CrsAt n h a lf lr p d (tEs told)
  fa : FormAt h lf fm
  ra : RuleAt h lr r
  fl : lf < n
  rl : lr < n
  o : FmOk fm
  ro : RuOk r
  s : SdW fm d
section
variable {n : Nat} {h h' : Hh} {a lf lr : Nat} {fm : Fm} {r : Ru} {p p' : Pl} {d d' : Sd} {told told' : List Ev}
theorem Crz.to (x : Crz n h a lf lr fm r p d told) (fz : Fz n h h') (c : CrsAt n h' a lf lr p' d' (tEs told')) (s : SdW fm d') : Crz n h' a lf lr fm r p' d' told' :=
  ⟨c, x.fa.fz fz x.fl, x.ra.fz fz x.rl, x.fl, x.rl, x.o, x.ro, s⟩
theorem Crz.app (x : Crz n h a lf lr fm r p d told) (o : Hh) : Crz n (h ++ o) a lf lr fm r p d told := x.to (Fz.app x.c.nl o) (x.c.app o) x.s
structure Fx (a : Nat) (p p' : Pl) (h h' : Hh) : Prop where
  le : h.length ≤ h'.length
  keep : ∀ k, k < h.length → k ≠ a → k ∉ p.all → h'[k]? = h[k]?
  pl : ∀ k ∈ p'.all, k ∈ p.all ∨ h.length ≤ k
theorem Fx.refl (a : Nat) (p : Pl) (h : Hh) : Fx a p p h h := ⟨Nat.le_refl _, fun _ _ _ _ => rfl, fun _ hk => .inl hk⟩
theorem Fx.app (a : Nat) (p : Pl) (h o : Hh) : Fx a p p h (h ++ o) := ⟨by simp, fun k hk _ _ => List.getElem?_append_left hk, fun _ hk => .inl hk⟩
theorem Fx.set {a k : Nat} {p : Pl} {h : Hh} (hk : k ∈ p.all) (o : Ob) : Fx a p p h (h.set k o) := ⟨by simp, fun j _ _ hj => by rw [List.getElem?_set_ne (fun e : k = j => hj (e ▸ hk))], fun _ hk => .inl hk⟩
theorem Fx.own {a : Nat} {p p' : Pl} {h : Hh} (o : Ob) (hp : ∀ k ∈ p'.all, k ∈ p.all ∨ h.length ≤ k) : Fx a p p' h (h.set a o) := ⟨by simp, fun j _ ha _ => by rw [List.getElem?_set_ne (Ne.symm ha)], hp⟩
theorem Fx.trans {a : Nat} {p p1 p2 : Pl} {h h1 h2 : Hh} (u : Fx a p p1 h h1) (v : Fx a p1 p2 h1 h2) : Fx a p p2 h h2 :=
  ⟨Nat.le_trans u.le v.le, fun k hk ha hp => (v.keep k (Nat.lt_of_lt_of_le hk u.le) ha fun z => (u.pl k z).elim hp fun q => by omega).trans (u.keep k hk ha hp), fun k hk => (v.pl k hk).elim (u.pl k) fun q => .inr (Nat.le_trans u.le q)⟩
theorem Crz.fz (x : Crz n h a lf lr fm r p d told) (u : Fx a p p' h h') : Fz n h h' := ⟨u.le, fun k hk => u.keep k (Nat.lt_of_lt_of_le hk x.c.nl) (fun e => by have := x.c.la; omega) fun z => by have := x.c.lo k z; omega⟩
theorem Crz.ev (x : Crz n h a lf lr fm r p d told) (e : Ev) : Crz n (h.set p.t (.lst (tEs told ++ [e.t]))) a lf lr fm r p d (told ++ [e]) := by
  refine x.to (Fz.set (x.c.lo p.t (by simp [Pl.all])) _) ?_ x.s
  have := x.c.tell e.t
  rw [show tEs (told ++ [e]) = tEs told ++ [e.t] by simp [tEs]]
  exact this
end
section
variable {n : Nat} {h h' : Hh} {a lf lr : Nat} {fm : Fm} {r : Ru} {p p' : Pl} {d d' : Sd} {told told' : List Ev} {q : Str × Fd}
end
theorem found_mem {fm : Fm} {r : Ru} {n : Str} : (∀ u ∈ foundC fm r n, u ∈ fm.fields) ∧ (foundC fm r n).length ≤ fm.fields.length := by
  unfold foundC
  split
  · split
    · simp
    · exact ⟨fun u hu => (List.mem_filter.mp hu).1, List.length_filter_le _ _⟩
  · exact ⟨fun u hu => (List.mem_filter.mp hu).1, List.length_filter_le _ _⟩
theorem with_mem {fm : Fm} {r : Ru} {n : Str} {d : Sd} : (∀ u ∈ withC fm r n d, u ∈ fm.fields) ∧ (withC fm r n d).length ≤ fm.fields.length :=
  ⟨fun u hu => found_mem.1 u (List.mem_filter.mp hu).1, Nat.le_trans (List.length_filter_le _ _) found_mem.2⟩
theorem SdW.word {fm : Fm} {d : Sd} (w : SdW fm d) (i : Nat) {v : Str} (hv : v ∈ fm.words) : SdW fm { d with words := d.words.set i v } :=
  { w with ws := ⟨by simp [w.ws.len], fun s hs => by
      rcases List.mem_or_eq_of_mem_set hs with z | z
      · exact w.ws.mem s z
      · exact z ▸ hv⟩ }
theorem SdW.wait {fm : Fm} {d : Sd} (w : SdW fm d) (b : Bool) : SdW fm { d with wait := b } := { w with }
theorem endV_len (d : Sd) (t : List Ev) : (endV d t).2.length ≤ t.length + 1 := by unfold endV; split <;> simp
theorem showC_len (fm : Fm) (i : Nat) (d : Sd) (t : List Ev) : (showC fm i d t).2.length ≤ t.length + 1 := by unfold showC; split <;> simp
theorem wipeC_len (r : Ru) (n : Str) (i : Nat) (d : Sd) (t : List Ev) : (wipeC r n i d t).2.length ≤ t.length + 1 := by unfold wipeC; split <;> simp
theorem enter1_len (fm : Fm) (q : Str × Fd) (w : Str) (d : Sd) (t : List Ev) : (enter1 fm q w d t).2.length ≤ t.length + 2 := by
  unfold enter1
  refine Nat.le_trans (endV_len _ _) ?_
  simp
theorem enter2_len (fm : Fm) (r : Ru) (q : Str × Fd) (x : Sd × List Ev) : (enter2 fm r q x).2.length ≤ x.2.length + 1 := by
  unfold enter2
  split
  · exact showC_len _ _ _ _
  · omega
theorem enterS_len (fm : Fm) (r : Ru) (q : Str × Fd) (w : Str) (d : Sd) (t : List Ev) : (enterS fm r q w d t).2.length ≤ t.length + 4 := by
  unfold enterS
  have := wipeC_len r q.1 (fIx fm q.1) (enter2 fm r q (enter1 fm q w d t)).1 (enter2 fm r q (enter1 fm q w d t)).2
  have := enter2_len fm r q (enter1 fm q w d t)
  have := enter1_len fm q w d t
  omega
theorem leaveS_len (fm : Fm) (r : Ru) (q : Str × Fd) (d : Sd) (t : List Ev) : (leaveS fm r q d t).2.length ≤ t.length + 1 := by
  unfold leaveS
  split
  · simp
  · exact showC_len _ _ _ _
theorem showsC_len (fm : Fm) (d : Sd) (t : List Ev) : ∀ k, (showsC fm k d t).2.length ≤ t.length + k
  | 0 => Nat.le_refl _
  | k + 1 => by
    have := showC_len fm k (showsC fm k d t).1 (showsC fm k d t).2
    have := showsC_len fm d t k
    unfold showsC
    omega
theorem SdW.wipe {fm : Fm} {d : Sd} (w : SdW fm d) (r : Ru) (n : Str) (i : Nat) (t : List Ev) : SdW fm (wipeC r n i d t).1 := by
  unfold wipeC
  split
  · exact w.mess i (e := none) (fun s h => by cases h)
  · exact w
theorem dd_mem {fm : Fm} {D : Dd} (k : DdOk fm D) : D.t ∈ wholeL fm := by
  have inl : ∀ {x : T}, x ∈ plainL fm → x ∈ wholeL fm := fun h => List.mem_append.mpr (.inl h)
  have nm : ∀ {p : Str × Fd}, p ∈ fm.fields → p.1 ∈ fm.names := fun hp => mem_names hp
  cases D with
  | enter p w => exact inl (List.mem_append.mpr (.inl (List.mem_append.mpr (.inl (List.mem_flatMap.mpr ⟨p.1, nm k.1, List.mem_map.mpr ⟨w, k.2, rfl⟩⟩)))))
  | leave p => exact inl (List.mem_append.mpr (.inl (List.mem_append.mpr (.inr (List.mem_map.mpr ⟨p.1, nm k, rfl⟩)))))
  | send => exact inl (List.mem_append.mpr (.inr (.head _)))
  | answer i =>
    have k : i < 3 := k
    match i, k with
    | 0, _ => exact inl (List.mem_append.mpr (.inr (.tail _ (.head _))))
    | 1, _ => exact inl (List.mem_append.mpr (.inr (.tail _ (.tail _ (.head _)))))
    | 2, _ => exact inl (List.mem_append.mpr (.inr (.tail _ (.tail _ (.tail _ (.head _))))))
  | reset => exact List.mem_append.mpr (.inr (.head _))
theorem zip_set_kn {fm : Fm} (o : FmOk fm) {ks : List Kn} (hl : ks.length = fm.fields.length) (kn : ∀ q ∈ fm.fields.zip ks, KnOk fm q.1 q.2) {q : Str × Fd} (hp : q ∈ fm.fields) {k : Kn} (hk : KnOk fm q k) : ∀ u ∈ fm.fields.zip (ks.set (fIx fm q.1) k), KnOk fm u.1 u.2 := by
  intro u hu
  obtain ⟨j, hj⟩ := List.getElem?_of_mem hu
  rw [List.getElem?_zip_eq_some] at hj
  obtain ⟨h1, h2⟩ := hj
  by_cases e : fIx fm q.1 = j
  · subst e
    rw [fIx_get o hp] at h1
    rw [List.getElem?_set_self (by rw [hl]; exact fIx_lt hp)] at h2
    have e1 : q = u.1 := by injection h1
    have e2 : k = u.2 := by injection h2
    rw [← e1, ← e2]
    exact hk
  · rw [List.getElem?_set_ne e] at h2
    exact kn u (List.mem_of_getElem? (i := j) (by rw [List.getElem?_zip_eq_some]; exact ⟨h1, h2⟩))
theorem SdW.known {fm : Fm} {d : Sd} (w : SdW fm d) (o : FmOk fm) {q : Str × Fd} (hp : q ∈ fm.fields) {k : Kn} (hk : KnOk fm q k) : SdW fm { d with known := d.known.set (fIx fm q.1) k } :=
  { w with kl := by simp [w.kl], kn := zip_set_kn o w.kl w.kn hp hk }
end W3
namespace W3
open PySem
end W3
end

section
namespace W3
open PySem
theorem around_mem {fm : Fm} {r : Ru} {q : Str × Fd} {d : Sd} (hp : q ∈ fm.fields) : (∀ u ∈ aroundL fm r q d, u ∈ fm.fields) ∧ (aroundL fm r q d).length ≤ 1 + fm.fields.length := by
  unfold aroundL
  obtain ⟨h1, h2⟩ := with_mem (fm := fm) (r := r) (n := q.1) (d := d)
  refine ⟨fun u hu => ?_, ?_⟩
  · rcases List.mem_append.mp hu with z | z
    · split at z
      · simp at z; rw [z]; exact hp
      · cases z
    · exact h1 u z
  · rw [List.length_append]
    split <;> simp <;> omega
theorem around_kept {fm : Fm} (o : FmOk fm) {r : Ru} {q : Str × Fd} (hp : q ∈ fm.fields) {d d' : Sd} {t t' : List Ev} (s : SdW fm d) (e : aroundC fm r q d t = .ok d' t') : SdW fm d' ∧ Kept d d' t t' 8 := by
  obtain ⟨h1, h2⟩ := around_mem (r := r) (d := d) hp
  obtain ⟨s', k⟩ := checks_kept o h1 s e
  have f3 := o.f3
  exact ⟨s', { k with tl := by have := k.tl; omega }⟩
theorem endV_wait (d : Sd) (t : List Ev) : (endV d t).1.wait = false := by
  unfold endV
  cases hw : d.wait <;> simp [hw]
theorem showC_wait (fm : Fm) (i : Nat) (d : Sd) (t : List Ev) : (showC fm i d t).1.wait = d.wait ∧ (showC fm i d t).1.quest = d.quest := by
  unfold showC
  split <;> exact ⟨rfl, rfl⟩
theorem wipeC_wait (r : Ru) (n : Str) (i : Nat) (d : Sd) (t : List Ev) : (wipeC r n i d t).1.wait = d.wait := by
  unfold wipeC
  split <;> rfl
theorem showsC_wait (fm : Fm) (d : Sd) (t : List Ev) : ∀ k, (showsC fm k d t).1.wait = d.wait ∧ (showsC fm k d t).1.quest = d.quest
  | 0 => ⟨rfl, rfl⟩
  | k + 1 => by
    obtain ⟨a, b⟩ := showsC_wait fm d t k
    obtain ⟨c, e⟩ := showC_wait fm k (showsC fm k d t).1 (showsC fm k d t).2
    exact ⟨c.trans a, e.trans b⟩
theorem enterS_sd {fm : Fm} {r : Ru} {q : Str × Fd} {w : Str} {d : Sd} (s : SdW fm d) (hw : w ∈ fm.words) (t : List Ev) : SdW fm (enterS fm r q w d t).1 ∧ (enterS fm r q w d t).1.wait = false := by
  have s1 : SdW fm (enter1 fm q w d t).1 := (s.word (fIx fm q.1) hw).endw _
  have w1 : (enter1 fm q w d t).1.wait = false := endV_wait _ _
  have s2 : SdW fm (enter2 fm r q (enter1 fm q w d t)).1 ∧ (enter2 fm r q (enter1 fm q w d t)).1.wait = false := by
    unfold enter2
    split
    · exact ⟨s1.show _ _, (showC_wait _ _ _ _).1.trans w1⟩
    · exact ⟨s1, w1⟩
  exact ⟨s2.1.wipe _ _ _ _, (wipeC_wait _ _ _ _ _).trans s2.2⟩
theorem leaveS_sd {fm : Fm} {r : Ru} {q : Str × Fd} {d : Sd} (s : SdW fm d) (t : List Ev) : SdW fm (leaveS fm r q d t).1 ∧ (leaveS fm r q d t).1.wait = d.wait ∧ (leaveS fm r q d t).1.quest = d.quest := by
  unfold leaveS
  split
  · exact ⟨s, rfl, rfl⟩
  · exact ⟨s.show _ _, (showC_wait _ _ _ _).1, (showC_wait _ _ _ _).2⟩
theorem take_sd {fm : Fm} (o : FmOk fm) {r : Ru} {q : Str × Fd} {w : Str} {nw : Bool} {d : Sd} (hp : q ∈ fm.fields) (hf : q.2.far.isSome = true) (hw : w ∈ fm.words) (s : SdW fm d) : SdW fm (takeC fm r q w nw d) ∧ (takeC fm r q w nw d).wait = d.wait ∧ (takeC fm r q w nw d).quest = d.quest := by
  unfold takeC
  split
  · have k := s.known o hp (k := some (w, farV fm q w)) fun w' e' e => by cases e; exact ⟨hf, hw, rfl⟩
    refine ⟨?_, rfl, rfl⟩
    unfold takeMess
    split
    · exact k.mess (fIx fm q.1) fun s hs => farV_nm o hp hs
    · exact k
  · exact ⟨s, rfl, rfl⟩
theorem rest_sd {fm : Fm} {snd : Str} {d : Sd} (s : SdW fm d) (hw : d.wait = true → snd = "wait") (t : List Ev) : SdOk fm snd (restC d t).1 := by
  unfold restC
  split
  · exact (s.wait false).ok fun z => by cases z
  · rename_i hn
    refine s.ok fun z => ⟨hw z, fun q => hn ⟨z, q⟩⟩
theorem quest_at {fm : Fm} {d : Sd} (o : FmOk fm) (s : SdW fm d) {i : Nat} {m w : Str} {nw : Bool} (e : d.quest[i]? = some (m, w, nw)) : ∃ q ∈ fm.fields, q.2.far.isSome = true ∧ q.1 = m ∧ w ∈ fm.words ∧ fdAt fm (.str m) = some q := by
  obtain ⟨hm, hw⟩ := s.qn _ (List.mem_of_getElem? e)
  obtain ⟨q, hp, hf, rfl⟩ := far_mem hm
  exact ⟨q, hp, hf, rfl, hw, fdAt_some o hp⟩
theorem step_ok {fm : Fm} (o : FmOk fm) {r : Ru} {d d' : Sd} {D : Dd} {t' : List Ev} (s : SdOk fm r.sending d) (k : DdOk fm D) (e : stepC fm r D d = .ok d' t') : SdOk fm r.sending d' := by
  cases D with
  | enter q w =>
    obtain ⟨hp, hw⟩ := k
    have e : enterC fm r q w d [] = .ok d' t' := e
    unfold enterC at e
    obtain ⟨s1, w1⟩ := enterS_sd (r := r) (q := q) s.w hw []
    split at e
    · cases e; exact s
    · split at e
      · obtain ⟨s2, kp⟩ := around_kept o hp s1 e
        exact s2.ok fun z => by rw [kp.wt, w1] at z; cases z
      · cases e
        exact s1.ok fun z => by rw [w1] at z; cases z
  | leave q =>
    have e : leaveC fm r q d [] = .ok d' t' := e
    obtain ⟨s1, w1, q1⟩ := leaveS_sd (r := r) (q := q) s.w []
    obtain ⟨s2, kp⟩ := around_kept o k s1 e
    refine s2.ok fun z => ?_
    rw [kp.wt, w1] at z
    refine ⟨(s.wt z).1, fun q0 => (s.wt z).2 ?_⟩
    have := kp.ql
    rw [q0, q1] at this
    exact List.length_eq_zero_iff.mp (by simpa using this)
  | send =>
    have e : sendC fm r d [] = .ok d' t' := e
    unfold sendC at e
    split at e
    · cases e; exact s
    · rename_i hw
      cases hc : checksC fm fm.fields (showsC fm fm.fields.length d []).1 (showsC fm fm.fields.length d []).2 with
      | many m => rw [hc] at e; cases e
      | ok d2 t2 =>
        rw [hc] at e
        obtain ⟨s2, kp⟩ := checks_kept o (fun q hq => hq) (s.w.shows [] fm.fields.length) hc
        have w2 : d2.wait = false := by
          rw [kp.wt, (showsC_wait fm d [] fm.fields.length).1]
          simpa using hw
        have e : Rz.ok (endSend r d2 t2).1 (endSend r d2 t2).2 = .ok d' t' := e
        injection e with e1 e2
        rw [← e1]
        unfold endSend
        split
        · exact s2.ok fun z => by rw [w2] at z; cases z
        · split
          · exact s2.ok fun z => by rw [w2] at z; cases z
          · rename_i h1
            split
            · rename_i h3
              exact (s2.wait true).ok fun _ => ⟨h3, fun z => h1 (.inl z)⟩
            · exact s2.ok fun z => by rw [w2] at z; cases z
  | answer i =>
    have e : Rz.of (answerC fm r i d []) = .ok d' t' := e
    unfold Rz.of at e
    injection e with e1 e2
    rw [← e1]
    unfold answerC
    cases hq : d.quest[i]? with
    | none => exact s
    | some x =>
      obtain ⟨m, w, nw⟩ := x
      obtain ⟨q, hp, hf, rfl, hw, ef⟩ := quest_at o s.w hq
      simp only [ef]
      have s1 : SdW fm { d with quest := d.quest.eraseIdx i } := { s.w with ql := (show ((d.quest.eraseIdx i).length : Int) ≤ fm.room by have := List.length_eraseIdx_le d.quest i; have := s.ql; omega), qn := fun u hu => s.qn u (List.mem_of_mem_eraseIdx hu) }
      obtain ⟨s2, w2, q2⟩ := take_sd o (r := r) (nw := nw) hp hf hw s1
      unfold answerP
      exact rest_sd s2 (fun z => by rw [w2] at z; exact (s.wt z).1) _
  | reset =>
    have e : Rz.of (resetV fm d []) = .ok d' t' := e
    unfold Rz.of at e
    injection e with e1 e2
    rw [← e1]
    refine SdW.ok ?_ fun z => by
      have : (resetV fm d []).1.wait = false := endV_wait _ _
      rw [this] at z; cases z
    refine SdW.endw ?_ _
    refine ⟨⟨firsts_len fm, fun s hs => ?_⟩, by simp, by simp, fun s hs => ?_, s.kl, s.kn, s.ql, s.qn⟩
    · obtain ⟨p, hp, rfl⟩ := List.mem_map.mp hs
      exact (o.fs p hp).first
    · exact absurd hs (by simp)
def EvOk (fm : Fm) : Ev → Prop
  | .entered n w => n ∈ fm.names ∧ w ∈ fm.words
  | .dropped => True
  | .opened n => n ∈ fm.names
  | .wiped n => n ∈ fm.names
  | .checked n e => n ∈ fm.names ∧ ∀ s, e = some s → Nm s
  | .asked n w => n ∈ farNames fm ∧ w ∈ fm.words
  | .answered n w e _ => ∃ q ∈ fm.fields, q.2.far.isSome = true ∧ n = q.1 ∧ w ∈ fm.words ∧ e = farV fm q w
  | .sent ws => WsOk fm ws
  | .waits => True
  | .held => True
  | .reset => True
abbrev EvsOk (fm : Fm) (t : List Ev) : Prop := ∀ e ∈ t, EvOk fm e
theorem EvsOk.snoc {fm : Fm} {t : List Ev} (h : EvsOk fm t) {e : Ev} (he : EvOk fm e) : EvsOk fm (t ++ [e]) := fun x hx => by
  rcases List.mem_append.mp hx with z | z
  · exact h x z
  · simp at z; rw [z]; exact he
theorem EvsOk.nil {fm : Fm} : EvsOk fm [] := fun x hx => by cases hx
theorem ask_evs {fm : Fm} {n w : Str} {d d' : Sd} {t t' : List Ev} (hn : n ∈ farNames fm) (hw : w ∈ fm.words) (h : EvsOk fm t) (e : askC fm n w d t = .ok d' t') : EvsOk fm t' := by
  unfold askC at e
  split at e
  · cases e; exact h
  · split at e
    · cases e
    · cases e; exact h.snoc ⟨hn, hw⟩
theorem check_evs {fm : Fm} (o : FmOk fm) {p : Str × Fd} (hp : p ∈ fm.fields) {d d' : Sd} {t t' : List Ev} (s : SdW fm d) (h : EvsOk fm t) (e : checkC fm p d t = .ok d' t') : EvsOk fm t' := by
  have h1 : EvsOk fm (t ++ [.checked p.1 (entryC fm p d).1]) := h.snoc ⟨mem_names hp, fun _ z => entry_nm o s hp z⟩
  unfold checkC at e
  split at e
  · rename_i ha
    exact ask_evs (far_names hp (entry_asks ha)) (s.ws.at (mem_names hp)).2 h1 e
  · cases e; exact h1
theorem checks_evs {fm : Fm} (o : FmOk fm) : ∀ {ps : List (Str × Fd)} {d d' : Sd} {t t' : List Ev}, (∀ p ∈ ps, p ∈ fm.fields) → SdW fm d → EvsOk fm t → checksC fm ps d t = .ok d' t' → EvsOk fm t'
  | [], d, d', t, t', _, s, h, e => by cases e; exact h
  | p :: ps, d, d', t, t', hp, s, h, e => by
    unfold checksC at e
    cases h1 : checkC fm p d t with
    | many n => rw [h1] at e; cases e
    | ok d1 t1 =>
      rw [h1] at e
      exact checks_evs o (fun q hq => hp q (.tail _ hq)) (check_kept o (hp p (.head _)) s h1).1 (check_evs o (hp p (.head _)) s h h1) e
theorem endV_evs {fm : Fm} {d : Sd} {t : List Ev} (h : EvsOk fm t) : EvsOk fm (endV d t).2 := by
  unfold endV
  split
  · exact h.snoc trivial
  · exact h
theorem showC_evs {fm : Fm} {i : Nat} (hi : i < fm.fields.length) {d : Sd} {t : List Ev} (h : EvsOk fm t) : EvsOk fm (showC fm i d t).2 := by
  unfold showC
  split
  · refine h.snoc ?_
    show W3.nameAt fm i ∈ fm.names
    have : i < fm.names.length := by simp [Fm.names, hi]
    simp [W3.nameAt, this]
  · exact h
theorem showsC_evs {fm : Fm} {d : Sd} {t : List Ev} (h : EvsOk fm t) : ∀ k, k ≤ fm.fields.length → EvsOk fm (showsC fm k d t).2
  | 0, _ => h
  | k + 1, hk => showC_evs (by omega) (showsC_evs h k (by omega))
theorem wipeC_evs {fm : Fm} {r : Ru} {n : Str} {i : Nat} {d : Sd} {t : List Ev} (hn : n ∈ fm.names) (h : EvsOk fm t) : EvsOk fm (wipeC r n i d t).2 := by
  unfold wipeC
  split
  · exact h.snoc hn
  · exact h
theorem enterS_evs {fm : Fm} {r : Ru} {q : Str × Fd} {w : Str} {d : Sd} {t : List Ev} (hp : q ∈ fm.fields) (hw : w ∈ fm.words) (h : EvsOk fm t) : EvsOk fm (enterS fm r q w d t).2 := by
  unfold enterS
  refine wipeC_evs (mem_names hp) ?_
  have h1 : EvsOk fm (enter1 fm q w d t).2 := endV_evs (h.snoc ⟨mem_names hp, hw⟩)
  unfold enter2
  split
  · exact showC_evs (fIx_lt hp) h1
  · exact h1
theorem leaveS_evs {fm : Fm} {r : Ru} {q : Str × Fd} {d : Sd} {t : List Ev} (hp : q ∈ fm.fields) (h : EvsOk fm t) : EvsOk fm (leaveS fm r q d t).2 := by
  unfold leaveS
  split
  · exact h
  · exact showC_evs (fIx_lt hp) h
theorem rest_evs {fm : Fm} {d : Sd} {t : List Ev} (w : WsOk fm d.words) (h : EvsOk fm t) : EvsOk fm (restC d t).2 ∧ (restC d t).2.length ≤ t.length + 1 := by
  unfold restC
  split
  · refine ⟨h.snoc ?_, by simp⟩
    split
    · trivial
    · exact w
  · exact ⟨h, by simp⟩
theorem endSend_evs {fm : Fm} {r : Ru} {d : Sd} {t : List Ev} (w : WsOk fm d.words) (h : EvsOk fm t) : EvsOk fm (endSend r d t).2 ∧ (endSend r d t).2.length = t.length + 1 := by
  unfold endSend
  split
  · exact ⟨h.snoc trivial, by simp⟩
  · split
    · exact ⟨h.snoc w, by simp⟩
    · split
      · exact ⟨h.snoc trivial, by simp⟩
      · exact ⟨h.snoc trivial, by simp⟩
theorem step_evs {fm : Fm} (o : FmOk fm) {r : Ru} {d d' : Sd} {D : Dd} {t' : List Ev} (s : SdOk fm r.sending d) (k : DdOk fm D) (e : stepC fm r D d = .ok d' t') : EvsOk fm t' ∧ t'.length ≤ 20 := by
  have f3 := o.f3
  cases D with
  | enter q w =>
    obtain ⟨hp, hw⟩ := k
    have e : enterC fm r q w d [] = .ok d' t' := e
    unfold enterC at e
    have l1 := enterS_len fm r q w d []
    have h1 := enterS_evs (r := r) (d := d) hp hw (EvsOk.nil (fm := fm))
    obtain ⟨s1, w1⟩ := enterS_sd (r := r) (q := q) s.w hw []
    split at e
    · cases e; exact ⟨.nil, by simp⟩
    · split at e
      · have tl := (around_kept o hp s1 e).2.tl
        simp at l1
        exact ⟨checks_evs o (around_mem hp).1 s1 h1 e, by omega⟩
      · cases e
        simp at l1
        exact ⟨h1, by omega⟩
  | leave q =>
    have e : leaveC fm r q d [] = .ok d' t' := e
    have l1 := leaveS_len fm r q d []
    simp at l1
    obtain ⟨s1, w1, q1⟩ := leaveS_sd (r := r) (q := q) s.w []
    have tl := (around_kept o k s1 e).2.tl
    exact ⟨checks_evs o (around_mem k).1 s1 (leaveS_evs k .nil) e, by omega⟩
  | send =>
    have e : sendC fm r d [] = .ok d' t' := e
    unfold sendC at e
    split at e
    · cases e; exact ⟨.nil, by simp⟩
    · cases hc : checksC fm fm.fields (showsC fm fm.fields.length d []).1 (showsC fm fm.fields.length d []).2 with
      | many m => rw [hc] at e; cases e
      | ok d2 t2 =>
        rw [hc] at e
        obtain ⟨s2, kp⟩ := checks_kept o (fun q hq => hq) (s.w.shows [] fm.fields.length) hc
        have e : Rz.ok (endSend r d2 t2).1 (endSend r d2 t2).2 = .ok d' t' := e
        injection e with e1 e2
        rw [← e2]
        have h2 := checks_evs o (fun q hq => hq) (s.w.shows [] fm.fields.length) (showsC_evs .nil _ (Nat.le_refl _)) hc
        obtain ⟨h3, l3⟩ := endSend_evs (r := r) s2.ws h2
        have l1 := showsC_len fm d [] fm.fields.length
        have tl := kp.tl
        simp at l1
        exact ⟨h3, by omega⟩
  | answer i =>
    have e : Rz.of (answerC fm r i d []) = .ok d' t' := e
    unfold Rz.of at e
    injection e with e1 e2
    rw [← e2]
    unfold answerC
    cases hq : d.quest[i]? with
    | none => exact ⟨.nil, by simp⟩
    | some x =>
      obtain ⟨m, w, nw⟩ := x
      obtain ⟨q, hp, hf, rfl, hw, ef⟩ := quest_at o s.w hq
      simp only [ef]
      unfold answerP
      have ww : WsOk fm (takeC fm r q w nw { d with quest := d.quest.eraseIdx i }).words := by
        unfold takeC
        split
        · exact s.ws
        · exact s.ws
      obtain ⟨h1, l1⟩ := rest_evs (t := [] ++ [.answered q.1 w (farV fm q w) (takenC fm r q w nw { d with quest := d.quest.eraseIdx i })]) ww (EvsOk.nil.snoc (show EvOk fm (.answered q.1 w (farV fm q w) (takenC fm r q w nw { d with quest := d.quest.eraseIdx i })) from ⟨q, hp, hf, rfl, hw, rfl⟩))
      exact ⟨h1, by simp at l1 ⊢; omega⟩
  | reset =>
    have e : Rz.of (resetV fm d []) = .ok d' t' := e
    unfold Rz.of at e
    injection e with e1 e2
    rw [← e2]
    unfold resetV
    refine ⟨endV_evs (EvsOk.nil.snoc trivial), Nat.le_trans (endV_len _ _) (by simp)⟩
theorem flat_ent (x : Ent) : flatT (tE x) = true := by cases x <;> rfl
theorem pure_ev {fm : Fm} (o : FmOk fm) {e : Ev} (h : EvOk fm e) : PureT 2 e.t := by
  have f3 := o.f3
  cases e with
  | sent ws =>
    refine PureT.tup (by simp) fun t ht => ?_
    simp at ht
    rcases ht with rfl | rfl
    · exact .inl rfl
    · refine pure_strs (fun t ht => by obtain ⟨s, _, rfl⟩ := List.mem_map.mp ht; rfl) ?_
      rw [List.length_map, (show WsOk fm ws from h).len]; omega
  | checked n e => exact pure_strs (n := 1) (fun t ht => by simp at ht; rcases ht with rfl | rfl | rfl <;> first | rfl | exact flat_ent _) (by simp)
  | answered n w e k => exact pure_strs (n := 1) (fun t ht => by simp at ht; rcases ht with rfl | rfl | rfl | rfl | rfl <;> first | rfl | exact flat_ent _) (by simp)
  | _ => exact pure_strs (n := 1) (fun t ht => by simp at ht; rcases ht with rfl | rfl | rfl <;> rfl) (by simp)
theorem pure_evs {fm : Fm} (o : FmOk fm) {t : List Ev} (h : EvsOk fm t) (hl : t.length ≤ 100) : PureT 3 (.tup (tEs t)) :=
  PureT.tup (by rw [List.length_map]; omega) fun x hx => by
    obtain ⟨e, he, rfl⟩ := List.mem_map.mp hx
    exact pure_ev o (h e he)
theorem pure_sd {fm : Fm} (o : FmOk fm) {d : Sd} (s : SdW fm d) : PureT 4 d.t := by
  have f3 := o.f3
  have ql := s.ql; have r3 := o.r3
  refine PureT.tup (by simp) fun t ht => ?_
  simp only [List.mem_cons, List.not_mem_nil, or_false] at ht
  rcases ht with rfl | rfl | rfl | rfl | rfl | rfl
  · exact pure_strs (fun t ht => by obtain ⟨s, _, rfl⟩ := List.mem_map.mp ht; rfl) (by rw [List.length_map, s.ws.len]; omega)
  · exact pure_strs (fun t ht => by obtain ⟨s, _, rfl⟩ := List.mem_map.mp ht; rfl) (by rw [List.length_map, s.sl]; omega)
  · exact pure_strs (fun t ht => by obtain ⟨s, _, rfl⟩ := List.mem_map.mp ht; exact flat_ent _) (by rw [List.length_map, s.ml]; omega)
  · refine PureT.tup (by rw [List.length_map, s.kl]; omega) fun t ht => ?_
    obtain ⟨k, _, rfl⟩ := List.mem_map.mp ht
    rcases k with _ | ⟨w, e⟩
    · exact .inl rfl
    · exact pure_strs (fun t ht => by simp at ht; rcases ht with rfl | rfl; rfl; exact flat_ent _) (by simp)
  · refine PureT.tup (by rw [List.length_map]; omega) fun t ht => ?_
    obtain ⟨k, _, rfl⟩ := List.mem_map.mp ht
    exact pure_strs (fun t ht => by simp at ht; rcases ht with rfl | rfl | rfl <;> rfl) (by simp)
  · exact .inl rfl
theorem pure_dd {fm : Fm} {D : Dd} (k : DdOk fm D) : PureT 1 D.t := wholeL_pure (dd_mem k)
end W3
end

section
namespace W3
open PySem
structure Made (h : Hh) (l ln ar lf : Nat) (fm : Fm) (r : Ru) : Prop where
  o : FmOk fm
  ro : RuOk r
  bx : IsBox h l
  nm : lstAt h ln = some (tSs fm.names)
  ra : RuleAt h ar r
  fa : FormAt h lf fm
  nl : ln ≠ l
  al : ar ≠ l
  fl : lf ≠ l
theorem Made.up {h h' : Hh} {l ln ar lf : Nat} {fm : Fm} {r : Ru} (m : Made h l ln ar lf fm r) (u : Up l h h') : Made h' l ln ar lf fm r :=
  ⟨m.o, m.ro, u.box, u.lst m.nm m.nl, m.ra.upK u m.al, m.fa.upK u m.fl, m.nl, m.al, m.fl⟩
theorem Made.app {h : Hh} {l ln ar lf : Nat} {fm : Fm} {r : Ru} (m : Made h l ln ar lf fm r) (o : Hh) : Made (h ++ o) l ln ar lf fm r := m.up (Up.app m.bx o)
theorem Made.nlt {h : Hh} {l ln ar lf : Nat} {fm : Fm} {r : Ru} (m : Made h l ln ar lf fm r) : ln < h.length := lstAt_lt m.nm
theorem Made.kp {h h' : Hh} {l ln ar lf n : Nat} {fm : Fm} {r : Ru} (m : Made h l ln ar lf fm r) (u : Kp l n h h') (hn : h.length ≤ n) : Made h' l ln ar lf fm r := by
  refine ⟨m.o, m.ro, u.box, u.lst m.nm (by have := m.nlt; omega) m.nl, ?_, ?_, m.nl, m.al, m.fl⟩
  · unfold RuleAt
    rw [u.keep ar (by have := m.ra.lt; omega) m.al]
    exact m.ra
  · unfold FormAt
    rw [u.keep lf (by have := m.fa.lt; omega) m.fl]
    exact m.fa
end W3
end

section
namespace W3
open PySem
end W3
end

section
namespace W3
open PySem
def Ev.w : Ev → Str
  | .entered _ _ => "entered"
  | .dropped => "dropped"
  | .opened _ => "opened"
  | .wiped _ => "wiped"
  | .checked _ _ => "checked"
  | .asked _ _ => "asked"
  | .answered _ _ _ _ => "answered"
  | .sent _ => "sent"
  | .waits => "waits"
  | .held => "held"
  | .reset => "reset"
def Ev.args : Ev → List T
  | .entered n w => [.str n, .str w]
  | .dropped => []
  | .opened n => [.str n]
  | .wiped n => [.str n]
  | .checked n e => [.str n, tE e]
  | .asked n w => [.str n, .str w]
  | .answered n w e k => [.str n, .str w, tE e, .bl k]
  | .sent ws => [.tup (tSs ws)]
  | .waits => []
  | .held => []
  | .reset => []
def is_sent : Ev → Bool | .sent _ => true | _ => false
end W3
end

section
namespace W3
open PySem
def topT (p : Pl) (b : Bool) : List T := [.ref p.w, .ref p.s, .ref p.m, .ref p.k, .ref p.q, .bl b]
structure LSt (n : Nat) (h : Hh) (ls : Nat) (p : Pl) (d : Sd) : Prop where
  top : lstAt h ls = some (topT p d.wait)
  ww : lstAt h p.w = some (tSs d.words)
  ss : lstAt h p.s = some (d.shown.map T.bl)
  mm : lstAt h p.m = some (d.mess.map tE)
  kk : lstAt h p.k = some (d.known.map tK)
  qq : lstAt h p.q = some (d.quest.map tQ)
  nd : (ls ≠ p.w ∧ ls ≠ p.s ∧ ls ≠ p.m ∧ ls ≠ p.k ∧ ls ≠ p.q) ∧ (p.w ≠ p.s ∧ p.w ≠ p.m ∧ p.w ≠ p.k ∧ p.w ≠ p.q) ∧ (p.s ≠ p.m ∧ p.s ≠ p.k ∧ p.s ≠ p.q) ∧ (p.m ≠ p.k ∧ p.m ≠ p.q) ∧ p.k ≠ p.q
  lo : n ≤ ls ∧ n ≤ p.w ∧ n ≤ p.s ∧ n ≤ p.m ∧ n ≤ p.k ∧ n ≤ p.q
section
variable {n : Nat} {h : Hh} {ls : Nat} {p : Pl} {d : Sd}
theorem LSt.llt (c : LSt n h ls p d) : ls < h.length := lstAt_lt c.top
theorem LSt.nl (c : LSt n h ls p d) : n ≤ h.length := Nat.le_of_lt (Nat.lt_of_le_of_lt c.lo.1 c.llt)
theorem LSt.app (c : LSt n h ls p d) (o : Hh) : LSt n (h ++ o) ls p d := ⟨lstAt_app o c.top, lstAt_app o c.ww, lstAt_app o c.ss, lstAt_app o c.mm, lstAt_app o c.kk, lstAt_app o c.qq, c.nd, c.lo⟩
theorem LSt.lts (c : LSt n h ls p d) : p.w < h.length ∧ p.s < h.length ∧ p.m < h.length ∧ p.k < h.length ∧ p.q < h.length := ⟨lstAt_lt c.ww, lstAt_lt c.ss, lstAt_lt c.mm, lstAt_lt c.kk, lstAt_lt c.qq⟩
theorem LSt.wait (c : LSt n h ls p d) (b : Bool) : LSt n (h.set ls (.lst (topT p b))) ls p { d with wait := b } := by
  obtain ⟨⟨nlw, nls, nlm, nlk, nlq⟩, _⟩ := c.nd
  exact ⟨lstAt_set_self c.llt, by rw [lstAt_set_ne nlw]; exact c.ww, by rw [lstAt_set_ne nls]; exact c.ss, by rw [lstAt_set_ne nlm]; exact c.mm, by rw [lstAt_set_ne nlk]; exact c.kk, by rw [lstAt_set_ne nlq]; exact c.qq, c.nd, c.lo⟩
end
end W3
end

section
namespace W3
open PySem
def nowNear (fm : Fm) (ws : List Str) (n : Str) : Ent := match fdAt fm (.str n) with | some q => nearV fm ws q | none => none
def rp (fm : Fm) (r : Ru) (k : Nat) (s : Sd) : Ev → Sd
  | .entered n w => { s with words := s.words.set (fIx fm n) w }
  | .dropped => { s with wait := false }
  | .opened n => { s with shown := s.shown.set (fIx fm n) true }
  | .wiped n => { s with mess := s.mess.set (fIx fm n) none }
  | .checked n e => { s with mess := s.mess.set (fIx fm n) e }
  | .asked n w => { s with quest := s.quest.map (elder n) ++ [(n, w, true)] }
  | .answered n w e tk => if tk = true then { s with quest := s.quest.eraseIdx k, known := s.known.set (fIx fm n) (some (w, e)), mess := if (s.shown[fIx fm n]?).getD false = true ∧ (¬ r.taken = "same" ∨ nowNear fm s.words n = none) then s.mess.set (fIx fm n) e else s.mess } else { s with quest := s.quest.eraseIdx k }
  | .sent _ => { s with wait := false }
  | .waits => { s with wait := true }
  | .held => { s with wait := false }
  | .reset => { s with words := fm.firsts, shown := List.replicate fm.fields.length false, mess := List.replicate fm.fields.length none }
section
variable {fm : Fm} {r : Ru} {k : Nat} {s : Sd}
end
structure RpOk (fm : Fm) (s : Sd) : Prop where
  ws : WsOk fm s.words
  sl : s.shown.length = fm.fields.length
  ml : s.mess.length = fm.fields.length
  kl : s.known.length = fm.fields.length
  ql : s.quest.length ≤ 100
end W3
end

section
namespace W3
open PySem
def nearRows : Nr → List (List Ent) | .alone r => [r] | .looks _ rs => rs
def farRows : Option (List Ent) → List (List Ent) | none => [] | some r => [r]
def rowsOf (f : Fd) : List (List Ent) := nearRows f.nr ++ farRows f.far
def notesOf (f : Fd) : List Str := (rowsOf f).flatMap fun r => r.filterMap id
def MessOk (fm : Fm) (sh : List Bool) (ms : List Ent) : Prop := ∀ (i : Nat) (q : Str × Fd) (s : Str), fm.fields[i]? = some q → ms[i]? = some (some s) → sh[i]? = some true ∧ s ∈ notesOf q.2
def QuestOk (qs : List Qn) : Prop := qs.Pairwise fun a b => a.1 = b.1 → a.2.2 = false
structure Rc (fm : Fm) (d : Sd) : Prop where
  m : MessOk fm d.shown d.mess
  q : QuestOk d.quest
theorem MessOk.set {fm : Fm} (o : FmOk fm) {sh : List Bool} {ms : List Ent} (h : MessOk fm sh ms) {p : Str × Fd} (hp : p ∈ fm.fields) {e : Ent} (he : ∀ s, e = some s → sh[fIx fm p.1]? = some true ∧ s ∈ notesOf p.2) : MessOk fm sh (ms.set (fIx fm p.1) e) := by
  intro i q s hi hm
  by_cases c : fIx fm p.1 = i
  · subst c
    have ef := fIx_get o hp
    rw [ef] at hi
    cases hi
    by_cases hl : fIx fm p.1 < ms.length
    · rw [List.getElem?_set_self hl] at hm
      injection hm with hm
      exact he s hm
    · rw [List.getElem?_eq_none (by rw [List.length_set]; omega)] at hm
      cases hm
  · rw [List.getElem?_set_ne c] at hm
    exact h i q s hi hm
theorem MessOk.show {fm : Fm} {sh : List Bool} {ms : List Ent} (h : MessOk fm sh ms) (j : Nat) : MessOk fm (sh.set j true) ms := by
  intro i q s hi hm
  obtain ⟨h1, h2⟩ := h i q s hi hm
  refine ⟨?_, h2⟩
  by_cases c : j = i
  · subst c
    rw [List.getElem?_set_self (List.getElem?_eq_some_iff.mp h1).1]
  · rw [List.getElem?_set_ne c]; exact h1
end W3
end

section
namespace W3
open PySem
structure Began (h : Hh) (l ln : Nat) (fm : Fm) : Prop where
  o : FmOk fm
  bx : IsBox h l
  nm : lstAt h ln = some (tSs fm.names)
  nl : ln ≠ l
theorem Began.up {h h' : Hh} {l ln : Nat} {fm : Fm} (m : Began h l ln fm) (u : Up l h h') : Began h' l ln fm := ⟨m.o, u.box, u.lst m.nm m.nl, m.nl⟩
theorem Began.app {h : Hh} {l ln : Nat} {fm : Fm} (m : Began h l ln fm) (o : Hh) : Began (h ++ o) l ln fm := m.up (Up.app m.bx o)
end W3
end

section
namespace W3
open PySem
def notWiped : Ev → Bool | .wiped _ => false | _ => true
def Rz.Lk : Rz → Rz → Prop
  | .ok d t, .ok d' t' => d = d' ∧ t.filter notWiped = t'.filter notWiped
  | .many n, .many m => n = m
  | _, _ => False
theorem Rz.Lk.refl (x : Rz) : x.Lk x := by cases x <;> simp [Rz.Lk]
end W3
end

section
namespace W3
open PySem
def strT : T → Str | .str s => s | _ => ⟨#[]⟩
def blT : T → Bool | .bl b => b | _ => false
def aroT : T → Aro | .tup ts => .pairs (sortP (ts.map prOf)) | .str s => .word s | _ => .word ⟨#[]⟩
def s6 (p k : Str) (v x : T) : T := if p = k then v else x
def putR (p : Str) (v : T) (r : Ru) : Ru := { opens := if p = "opens" then strT v else r.opens, checks := if p = "checks" then strT v else r.checks, around := if p = "around" then aroT v else r.around, wipes := if p = "wipes" then blT v else r.wipes, taken := if p = "taken" then strT v else r.taken, sending := if p = "sending" then strT v else r.sending }
theorem fit_wipes (b : Bool) : fitsB "wipes" (.bl b) = true := by
  unfold fitsB
  rw [if_pos rfl]
  rfl
structure Chg (p : Str) (v : T) (r : Ru) (h : Hh) : Prop where
  ok : RuOk (putR p v r)
  ne : ruleErr PARTSL [s6 p "opens" v (.str r.opens), s6 p "checks" v (.str r.checks), s6 p "around" v r.around.t, s6 p "wipes" v (.bl r.wipes), s6 p "taken" v (.str r.taken), s6 p "sending" v (.str r.sending)] = none
  ins : ruleIns (s6 p "opens" v (.str r.opens)) (s6 p "checks" v (.str r.checks)) (s6 p "around" v r.around.t) (s6 p "wipes" v (.bl r.wipes)) (s6 p "taken" v (.str r.taken)) (s6 p "sending" v (.str r.sending)) = (putR p v r).ins
  j : ∀ x ∈ [s6 p "opens" v (.str r.opens), s6 p "checks" v (.str r.checks), s6 p "around" v r.around.t, s6 p "wipes" v (.bl r.wipes), s6 p "taken" v (.str r.taken), s6 p "sending" v (.str r.sending)], JdN 2 x h ∧ shortT x
def takesB (p v : T) : Bool := match p with | .str s => decide (s ∈ PARTSL) && fitsB s v | _ => false
def putP (p v : T) (r : Ru) : Ru := match p with | .str s => putR s v r | _ => r
def WithPW (f : Fn) : Prop := ∀ {h : Hh} {a : Nat} {r : Ru} {p v : T} {Q : T → Hh → Prop} {E : EQ}, RuleAt h a r → RuOk r → Jd p h → JdN 2 v h → shortT v → (takesB p v = true → RuOk (putP p v r) → ∀ b z, h.length ≤ b → RuleAt (h ++ z) b (putP p v r) → Q (.ref b) (h ++ z)) →
  (takesB p v = false → E "InvalidRule" [("part", p)] h) → (f [.ref a, p, v] h).wp Q E
theorem WithPW.good {f : Fn} (W : WithPW f) {h : Hh} {a : Nat} {r : Ru} {p : Str} {v : T} {Q : T → Hh → Prop} {E : EQ} (ra : RuleAt h a r) (o : RuOk r) (hp : p ∈ PARTSL) (hf : fitsB p v = true) (jv : JdN 2 v h) (sv : shortT v)
    (hq : ∀ b z, h.length ≤ b → RuOk (putR p v r) → RuleAt (h ++ z) b (putR p v r) → Q (.ref b) (h ++ z)) : (f [.ref a, .str p, v] h).wp Q E := by
  have pl : ∀ x ∈ PARTSL, x.length ≤ 1000 := by decide +kernel
  have ht : takesB (.str p) v = true := by simp only [takesB, hf, decide_eq_true hp, Bool.and_self]
  refine W ra o (show Jd (.str p) h from pl p hp) jv sv (fun _ o' b z bl ra' => hq b z bl o' ra') (fun hn => ?_)
  rw [ht] at hn
  cases hn
theorem WithPW.word {f : Fn} (W : WithPW f) {h : Hh} {a : Nat} {r : Ru} {p s : Str} {Q : T → Hh → Prop} {E : EQ} (ra : RuleAt h a r) (o : RuOk r) (hp : p ∈ PARTSL) (hf : fitsB p (.str s) = true) (hs : s.length ≤ 1000)
    (hq : ∀ b z, h.length ≤ b → RuOk (putR p (.str s) r) → RuleAt (h ++ z) b (putR p (.str s) r) → Q (.ref b) (h ++ z)) : (f [.ref a, .str p, .str s] h).wp Q E :=
  W.good ra o hp hf (jdN_str hs) (fun ts e => by cases e) hq
theorem WithPW.bool {f : Fn} (W : WithPW f) {h : Hh} {a : Nat} {r : Ru} {b : Bool} {Q : T → Hh → Prop} {E : EQ} (ra : RuleAt h a r) (o : RuOk r)
    (hq : ∀ x z, h.length ≤ x → RuOk { r with wipes := b } → RuleAt (h ++ z) x { r with wipes := b } → Q (.ref x) (h ++ z)) : (f [.ref a, .str "wipes", .bl b] h).wp Q E := by
  have e : putR "wipes" (.bl b) r = { r with wipes := b } := by kernel_rfl
  exact W.good ra o (by decide +kernel) (fit_wipes b) jdN_bl (fun ts e => by cases e) fun x z hx o' ra' => by rw [e] at o' ra'; exact hq x z hx o' ra'
theorem WithPW.pairs {f : Fn} (W : WithPW f) {h : Hh} {a : Nat} {r : Ru} {ps : Prs} {Q : T → Hh → Prop} {E : EQ} (ra : RuleAt h a r) (o : RuOk r) (po : PrsOk ps) (hl : ps.length < 64)
    (hq : ∀ x z, h.length ≤ x → RuOk { r with around := .pairs (sortP ps) } → RuleAt (h ++ z) x { r with around := .pairs (sortP ps) } → Q (.ref x) (h ++ z)) : (f [.ref a, .str "around", .tup (ps.map tPr)] h).wp Q E := by
  have e0 : putR "around" (.tup (ps.map tPr)) r = { r with around := aroT (.tup (ps.map tPr)) } := by kernel_rfl
  have e : putR "around" (.tup (ps.map tPr)) r = { r with around := .pairs (sortP ps) } := by
    rw [e0]
    simp only [aroT, prOf_tPr]
  have ml : MEN.lookup ("around" : Str) = some (["own", "looks"] : List Str) := by decide +kernel
  have hf : fitsB "around" (.tup (ps.map tPr)) = true := by
    unfold fitsB
    rw [if_neg (by decide +kernel), ml, pairsB_prs po]
    simp
  have nm : ∀ p ∈ ps, p.1.length ≤ 1000 ∧ p.2.length ≤ 1000 := fun p hp => ⟨Nat.le_trans (po.nm p hp).1.2.1 (by omega), Nat.le_trans (po.nm p hp).2.1.2.1 (by omega)⟩
  have jv : JdN 2 (.tup (ps.map tPr)) h := jdN_tup (by simp; omega) fun t ht => by
    obtain ⟨p, hp, rfl⟩ := List.mem_map.mp ht
    refine jdN_tup (by simp) fun t ht => ?_
    simp at ht
    rcases ht with rfl | rfl
    · exact jdN_str (nm p hp).1
    · exact jdN_str (nm p hp).2
  exact W.good ra o (by decide +kernel) hf jv (fun ts e => by cases e; simpa using hl) fun x z hx o' ra' => by rw [e] at o' ra'; exact hq x z hx o' ra'
theorem SameV.tup {h : Hh} {n : Nat} {ts us : List T} (hl : ts.length = us.length) (hz : ts.length ≤ 100000) (p : ∀ (i : Nat) (x y : T), ts[i]? = some x → us[i]? = some y → SameV h n x y) : SameV h (n + 1) (.tup ts) (.tup us) :=
  .inr ⟨ts, us, .inl ⟨rfl, rfl⟩, hl, hz, p⟩
theorem SameV.tup2 {h : Hh} {n : Nat} {a b a' b' : T} (p : SameV h n a a') (q : SameV h n b b') : SameV h (n + 1) (.tup [a, b]) (.tup [a', b']) :=
  SameV.tup rfl (by simp) fun i x y ex ey => by
    match i with
    | 0 => simp at ex ey; subst ex; subst ey; exact p
    | 1 => simp at ex ey; subst ex; subst ey; exact q
    | k + 2 => simp at ex
theorem SameV.tup3 {h : Hh} {n : Nat} {a b c a' b' c' : T} (p : SameV h n a a') (q : SameV h n b b') (r : SameV h n c c') : SameV h (n + 1) (.tup [a, b, c]) (.tup [a', b', c']) :=
  SameV.tup rfl (by simp) fun i x y ex ey => by
    match i with
    | 0 => simp at ex ey; subst ex; subst ey; exact p
    | 1 => simp at ex ey; subst ex; subst ey; exact q
    | 2 => simp at ex ey; subst ex; subst ey; exact r
    | k + 3 => simp at ex
end W3
end

section
namespace W3
open PySem
end W3
end

section
namespace W3
open PySem
theorem StepAt.fz {h h' : Hh} {n l : Nat} {d b a e : T} (s : StepAt h l d b a e) (u : Fz n h h') (hl : l < n) : StepAt h' l d b a e := by
  unfold StepAt at s ⊢
  rw [u.2 l hl]
  exact s
end W3
namespace W3
open PySem
end W3
end

section
namespace W3
open PySem
theorem entry_congr (fm : Fm) (p : Str × Fd) {d d' : Sd} (hw : d'.words = d.words) (hk : d'.known = d.known) : entryC fm p d' = entryC fm p d := by
  unfold entryC
  rw [hw, hk]
structure Fresh (fm : Fm) (d : Sd) (p : Str × Fd) : Prop where
  m : rowAt d.mess (fIx fm p.1) = (entryC fm p d).1
  q : (entryC fm p d).2 = true → (p.1, wAt fm d.words p.1, true) ∈ d.quest
theorem Fresh.to {fm : Fm} {d d' : Sd} {p : Str × Fd} (f : Fresh fm d p) (hw : d'.words = d.words) (hk : d'.known = d.known) (hm : rowAt d'.mess (fIx fm p.1) = rowAt d.mess (fIx fm p.1)) (hq : ∀ w, (p.1, w, true) ∈ d.quest → (p.1, w, true) ∈ d'.quest) : Fresh fm d' p := by
  have e := entry_congr fm p hw hk
  refine ⟨by rw [hm, e]; exact f.m, fun h => ?_⟩
  rw [e] at h
  rw [hw]
  exact hq _ (f.q h)
end W3
end

section
namespace W3
open PySem
def AllFresh (fm : Fm) (d : Sd) : Prop := ∀ p ∈ fm.fields, Fresh fm d p ∧ openC fm d p = true
theorem Fresh.same {fm : Fm} {d d' : Sd} {p : Str × Fd} (f : Fresh fm d p) (hw : d'.words = d.words) (hk : d'.known = d.known) (hm : d'.mess = d.mess) (hq : d'.quest = d.quest) : Fresh fm d' p := f.to hw hk (by rw [hm]) fun w h => by rw [hq]; exact h
end W3
end

section
namespace W3
open PySem
structure SentOk (fm : Fm) (d : Sd) (ws : List Str) : Prop where
  w : ws = d.words
  q : d.quest = []
  t : ∀ p ∈ fm.fields, trueV fm d.words p = none
end W3
end

section
namespace W3
open PySem
structure LastV (fm : Fm) (d : Sd) (p : Str × Fd) : Prop where
  o : openC fm d p = true
  n : nearV fm d.words p = none
  c : trueV fm d.words p = none ∨ (p.1, wAt fm d.words p.1, true) ∈ d.quest ∨
    (rowAt d.mess (fIx fm p.1) = trueV fm d.words p ∧ (trueV fm d.words p).isSome = true ∧ d.known[fIx fm p.1]? = some (some (wAt fm d.words p.1, trueV fm d.words p)) ∧ ∀ w, (p.1, w, true) ∉ d.quest)
theorem LastV.to {fm : Fm} {d d' : Sd} {p : Str × Fd} (f : LastV fm d p) (ho : openC fm d' p = true) (hw : d'.words = d.words) (hk : d'.known[fIx fm p.1]? = d.known[fIx fm p.1]?) (hm : rowAt d'.mess (fIx fm p.1) = rowAt d.mess (fIx fm p.1)) (hq : ∀ w, (p.1, w, true) ∈ d.quest ↔ (p.1, w, true) ∈ d'.quest) : LastV fm d' p := by
  refine ⟨ho, by rw [hw]; exact f.n, ?_⟩
  rw [hw, hm, hk]
  rcases f.c with h | h | ⟨h1, h2, h3, h4⟩
  · exact .inl h
  · exact .inr (.inl ((hq _).mp h))
  · exact .inr (.inr ⟨h1, h2, h3, fun w hw => h4 w ((hq w).mpr hw)⟩)
end W3
end

section
namespace W3
open PySem
end W3
end

section
namespace W3
open PySem
end W3
end

section
namespace W3
open PySem
def noFar (p : Str × Fd) : Str × Fd := (p.1, { p.2 with far := none })
def Fm.bare (fm : Fm) : Fm := { fm with fields := fm.fields.map noFar }
structure Calm (fm : Fm) (d : Sd) : Prop where
  s : SdW fm d
  q : d.quest = []
  k : d.known = List.replicate fm.fields.length none
  w : d.wait = false
theorem Calm.sd {fm : Fm} {d : Sd} (c : Calm fm d) (s : Str) : SdOk fm s d := c.s.ok fun h => by rw [c.w] at h; cases h
end W3
end

section
namespace W3
open PySem
def AskedBy (fm : Fm) (d : Sd) (ps : List (Str × Fd)) : Prop := ∀ x ∈ d.quest, ∃ p ∈ ps, x = (p.1, wAt fm d.words p.1, true) ∧ p.2.far.isSome = true ∧ nearV fm d.words p = none
structure Asking (fm : Fm) (d : Sd) : Prop where
  f : AllFresh fm d
  a : AskedBy fm d fm.fields
def ansF (fm : Fm) (r : Ru) : Nat → Sd → Sd × List Ev
  | 0, d => (d, [])
  | k + 1, d => ((ansF fm r k (answerC fm r 0 d []).1).1, (answerC fm r 0 d []).2.filter is_sent ++ (ansF fm r k (answerC fm r 0 d []).1).2)
end W3
end

section
namespace W3
open PySem
def errsB (fm : Fm) (ws : List Str) : Bool := (fm.fields.map (trueV fm ws)).any fun e => e.isSome
structure Sent33 (fm : Fm) (r : Ru) (d d' : Sd) (t' : List Ev) : Prop where
  s : SdOk fm r.sending (ansF fm r 3 d').1
  a : Asking fm (ansF fm r 3 d').1
  q : (ansF fm r 3 d').1.quest = []
  w : (ansF fm r 3 d').1.words = d.words
  n : (ansF fm r 3 d').1.wait = false
  go : r.sending = "go" → errsB fm d.words = false → t'.filter is_sent ++ (ansF fm r 3 d').2 = [.sent d.words]
  wait : r.sending = "wait" → t'.filter is_sent ++ (ansF fm r 3 d').2 = if errsB fm d.words = true then [] else [.sent d.words]
end W3
end

section
namespace W3
open PySem
structure L2S (n : Nat) (h : Hh) (ls lt : Nat) (p : Pl) (d : Sd) (t : List Ev) : Prop where
  c : LSt n h ls p d
  tt : lstAt h lt = some (tEs t)
  tn : lt ≠ ls ∧ lt ≠ p.w ∧ lt ≠ p.s ∧ lt ≠ p.m ∧ lt ≠ p.k ∧ lt ≠ p.q
  tl : n ≤ lt
section
variable {n : Nat} {h : Hh} {ls lt : Nat} {p : Pl} {d : Sd} {t : List Ev}
theorem L2S.app (x : L2S n h ls lt p d t) (o : Hh) : L2S n (h ++ o) ls lt p d t := ⟨x.c.app o, lstAt_app o x.tt, x.tn, x.tl⟩
theorem L2S.told (x : L2S n h ls lt p d t) (e : Ev) : L2S n (h.set lt (.lst (tEs (t ++ [e])))) ls lt p d (t ++ [e]) := by
  obtain ⟨a, b, c, d, e, f⟩ := x.tn
  exact ⟨⟨by rw [lstAt_set_ne a]; exact x.c.top, by rw [lstAt_set_ne b]; exact x.c.ww, by rw [lstAt_set_ne c]; exact x.c.ss, by rw [lstAt_set_ne d]; exact x.c.mm, by rw [lstAt_set_ne e]; exact x.c.kk, by rw [lstAt_set_ne f]; exact x.c.qq, x.c.nd, x.c.lo⟩, lstAt_set_self (lstAt_lt x.tt), x.tn, x.tl⟩
theorem L2S.wait (x : L2S n h ls lt p d t) (b : Bool) : L2S n (h.set ls (.lst (topT p b))) ls lt p { d with wait := b } t := ⟨x.c.wait b, by rw [lstAt_set_ne (Ne.symm x.tn.1)]; exact x.tt, x.tn, x.tl⟩
end
def own (ls lt : Nat) (p : Pl) : List Nat := [ls, lt, p.w, p.s, p.m, p.k, p.q]
def Kq (ls lt : Nat) (p p' : Pl) (h h' : Hh) : Prop := h.length ≤ h'.length ∧ ∀ k, k < h.length → k ∉ own ls lt p → h'[k]? = h[k]? ∧ k ∉ own ls lt p'
section
variable {ls lt : Nat} {p p' : Pl} {h h' : Hh}
theorem Kq.refl : Kq ls lt p p h h := ⟨Nat.le_refl _, fun _ _ hk => ⟨rfl, hk⟩⟩
theorem Kq.trans {p2 : Pl} {h2 : Hh} (a : Kq ls lt p p' h h') (b : Kq ls lt p' p2 h' h2) : Kq ls lt p p2 h h2 :=
  ⟨Nat.le_trans a.1 b.1, fun k hk ho => by
    obtain ⟨e1, o1⟩ := a.2 k hk ho
    obtain ⟨e2, o2⟩ := b.2 k (by have := a.1; omega) o1
    exact ⟨e2.trans e1, o2⟩⟩
theorem Kq.app (o : Hh) : Kq ls lt p p h (h ++ o) := ⟨by simp, fun k hk ho => ⟨List.getElem?_append_left hk, ho⟩⟩
theorem Kq.set {j : Nat} (hj : j ∈ own ls lt p) (o : Ob) : Kq ls lt p p h (h.set j o) := ⟨by simp, fun k hk ho => ⟨List.getElem?_set_ne (fun e : j = k => ho (by rw [← e]; exact hj)), ho⟩⟩
theorem Kq.put (z : Hh) (o : Ob) (hp : ∀ k ∈ own ls lt p', k ∈ own ls lt p ∨ h.length ≤ k) : Kq ls lt p p' h ((h ++ z).set ls o) :=
  ⟨by simp, fun k hk ho => ⟨by
    rw [List.getElem?_set_ne (fun e => ho (by rw [← e]; exact .head _))]
    exact List.getElem?_append_left hk, fun hm => by
      rcases hp k hm with h1 | h1
      · exact ho h1
      · omega⟩⟩
theorem Kq.fz {n : Nat} {d : Sd} {t : List Ev} (a : Kq ls lt p p' h h') (x : L2S n h ls lt p d t) : Fz n h h' :=
  ⟨a.1, fun k hk => (a.2 k (by have := x.c.nl; omega) (fun hm => by
    obtain ⟨l0, l1, l2, l3, l4, l5⟩ := x.c.lo
    have := x.tl
    simp only [own, List.mem_cons, List.not_mem_nil, or_false] at hm
    omega)).1⟩
theorem Kq.lst {x : Nat} {ts : List T} (a : Kq ls lt p p' h h') (e : lstAt h x = some ts) (hx : x ∉ own ls lt p) : lstAt h' x = some ts ∧ x ∉ own ls lt p' := by
  obtain ⟨e1, o1⟩ := a.2 x (lstAt_lt e) hx
  refine ⟨?_, o1⟩
  unfold lstAt at e ⊢
  rw [e1]
  exact e
theorem L2S.out {n : Nat} {d : Sd} {t : List Ev} (x : L2S n h ls lt p d t) {y : Nat} (hy : h.length ≤ y) : y ∉ own ls lt p := fun hm => by
  have l1 := x.c.lts
  have l2 := x.c.llt
  have l3 := lstAt_lt x.tt
  simp only [own, List.mem_cons, List.not_mem_nil, or_false] at hm
  omega
end
end W3
end

section
namespace W3
open PySem
structure Two (fm : Fm) (r : Ru) (p1 p2 : Str × Fd) : Prop where
  o : FmOk fm
  ro : RuOk r
  fs : fm.fields = [p1, p2]
  ne : p1.1 ≠ p2.1
  f1 : p1.2.far = none
  rm : fm.room = 3
  rc : r.checks = "enter"
  rt : r.taken = "same"
  nf : foundC fm r p1.1 = []
structure Pre (fm : Fm) (p2 : Str × Fd) (wo : Str) (d : Sd) : Prop where
  s : SdW fm d
  w : d.wait = false
  k : d.known = List.replicate fm.fields.length none
  q : d.quest = [] ∨ (d.quest = [(p2.1, wo, true)] ∧ nearV fm d.words p2 = none)
section
variable {fm : Fm} {r : Ru} {p1 p2 : Str × Fd} {wo : Str} {d : Sd}
theorem Two.m1 (T : Two fm r p1 p2) : p1 ∈ fm.fields := by rw [T.fs]; exact .head _
theorem Two.m2 (T : Two fm r p1 p2) : p2 ∈ fm.fields := by rw [T.fs]; exact .tail _ (.head _)
end
end W3
end

section
namespace W3
open PySem
section
variable {fm : Fm} {r : Ru} {p1 p2 : Str × Fd} {wo : Str}
end
end W3
end

section
namespace W3
open PySem
structure Fq (S : Nat → Prop) (h h' : Hh) : Prop where
  le : h.length ≤ h'.length
  keep : ∀ k, k < h.length → ¬ S k → h'[k]? = h[k]?
  was : ∀ k, S k → k < h.length → ∃ ts, h[k]? = some (.lst ts)
  is_ : ∀ k, S k → k < h.length → ∃ ts, h'[k]? = some (.lst ts)
section
variable {S : Nat → Prop} {h h' h2 : Hh}
theorem Fq.trans (a : Fq S h h') (b : Fq S h' h2) : Fq S h h2 :=
  ⟨Nat.le_trans a.le b.le, fun k hk hs => (b.keep k (Nat.lt_of_lt_of_le hk a.le) hs).trans (a.keep k hk hs), a.was, fun k hs hk => b.is_ k hs (Nat.lt_of_lt_of_le hk a.le)⟩
theorem Fq.refl (hS : ∀ k, S k → k < h.length → ∃ ts, h[k]? = some (.lst ts)) : Fq S h h := ⟨Nat.le_refl _, fun _ _ _ => rfl, hS, hS⟩
theorem Fq.app (a : Fq S h h') (o : Hh) : Fq S h (h' ++ o) :=
  ⟨by have := a.le; simp; omega, fun k hk hs => (List.getElem?_append_left (Nat.lt_of_lt_of_le hk a.le)).trans (a.keep k hk hs), a.was, fun k hs hk => by
    obtain ⟨ts, e⟩ := a.is_ k hs hk
    exact ⟨ts, (List.getElem?_append_left (Nat.lt_of_lt_of_le hk a.le)).trans e⟩⟩
theorem Fq.sub {R : Nat → Prop} (a : Fq S h h') (hR : ∀ k, S k → R k) (h1 : ∀ k, R k → k < h.length → ∃ ts, h[k]? = some (.lst ts)) : Fq R h h' :=
  ⟨a.le, fun k hk hs => a.keep k hk fun z => hs (hR k z), h1, fun k hs hk => by
    by_cases q : S k
    · exact a.is_ k q hk
    · obtain ⟨ts, e⟩ := h1 k hs hk
      exact ⟨ts, (a.keep k hk q).trans e⟩⟩
theorem Fq.ins {c : Str} {fs : List (Str × T)} {k : Nat} (a : Fq S h h') (e : h[k]? = some (.ins c fs)) : h'[k]? = some (.ins c fs) := by
  have hk := (List.getElem?_eq_some_iff.mp e).1
  rw [a.keep k hk fun z => ?_]
  · exact e
  · obtain ⟨ts, e2⟩ := a.was k z hk
    rw [e] at e2
    cases e2
theorem Fq.lst {k : Nat} {ts : List T} (a : Fq S h h') (e : lstAt h k = some ts) (hn : ¬ S k) : lstAt h' k = some ts := by
  unfold lstAt at e ⊢
  have hk : k < h.length := by
    cases q : h[k]? with
    | none => rw [q] at e; cases e
    | some o => exact (List.getElem?_eq_some_iff.mp q).1
  rw [a.keep k hk hn]
  exact e
theorem Fq.form {l : Nat} {fm : Fm} (a : Fq S h h') (e : FormAt h l fm) : FormAt h' l fm := a.ins e
theorem Fq.rule {l : Nat} {r : Ru} (a : Fq S h h') (e : RuleAt h l r) : RuleAt h' l r := a.ins e
theorem Fq.step {l : Nat} {d b x e : T} (a : Fq S h h') (q : StepAt h l d b x e) : StepAt h' l d b x e := a.ins q
theorem Fq.mem {k : Nat} (a : Fq S h h') (hs : S k) (hk : k < h.length) : ∃ ts, lstAt h' k = some ts := by
  obtain ⟨ts, e⟩ := a.is_ k hs hk
  exact ⟨ts, lstAt_of e⟩
end
theorem Up.fq {l : Nat} {h h' : Hh} (b : IsBox h l) (u : Up l h h') : Fq (fun k => k = l) h h' :=
  ⟨u.le, fun k hk hn => u.keep k hk hn, fun k e _ => by
    subst e
    obtain ⟨c, cells, i, d, s, n, e, _⟩ := b
    exact ⟨_, of_lstAt e⟩, fun k e _ => by
    subst e
    obtain ⟨c, cells, i, d, s, n, e, _⟩ := u.box
    exact ⟨_, of_lstAt e⟩⟩
theorem fq_app (h o : Hh) : Fq (fun _ => False) h (h ++ o) := ⟨by simp, fun k hk _ => List.getElem?_append_left hk, fun _ f _ => f.elim, fun _ f _ => f.elim⟩
structure BxC (h : Hh) (l c : Nat) : Prop where
  b : IsBox h l
  c : BoxC h l = some c
theorem BxC.of {h : Hh} {l : Nat} (b : IsBox h l) : ∃ c, BxC h l c ∧ c < h.length := by
  have b0 := b
  obtain ⟨c, cells, i, d, s, n, e, e2, h1, h2⟩ := b
  refine ⟨c, ⟨b0, ?_⟩, lstAt_lt e2⟩
  unfold BoxC
  rw [e]
  rfl
theorem BxC.up {h h' : Hh} {l c : Nat} (x : BxC h l c) (u : Up l h h') : BxC h' l c := ⟨u.box, u.bc.trans x.c⟩
theorem BxC.app {h : Hh} {l c : Nat} (x : BxC h l c) (o : Hh) : BxC (h ++ o) l c := x.up (Up.app x.b o)
theorem BxC.fq {S : Nat → Prop} {h h' : Hh} {l c : Nat} (x : BxC h l c) (a : Fq S h h') (hl : ¬ S l) (hc : ¬ S c) : BxC h' l c := by
  obtain ⟨⟨c', cells, i, d, s, n, e, e2, h1, h2⟩, q⟩ := x
  unfold BoxC at q
  rw [e] at q
  have q : some c' = some c := q
  injection q with q
  subst q
  refine ⟨⟨c', cells, i, d, s, n, a.lst e hl, a.lst e2 hc, h1, h2⟩, ?_⟩
  unfold BoxC
  rw [a.lst e hl]
  rfl
structure Hy where
  D : Dd
  aft : Sd
  ev : List Ev
def StpAt (h : Hh) (b : Nat) (y : Hy) : Prop := ∃ bf, StepAt h b y.D.t bf y.aft.t (.tup (tEs y.ev))
def liveIns (d0 : Sd) (lf ar ls : Nat) : List (Str × T) := [("beginning", d0.t), ("form", .ref lf), ("rule", .ref ar), ("steps_done", .ref ls)]
abbrev Pc := List (Nat × Hy)
abbrev pcT (xs : Pc) : List T := xs.map fun s => T.ref s.1
structure LiveAt (h : Hh) (l lf ar ls : Nat) (d0 : Sd) (xs : Pc) : Prop where
  ins : h[l]? = some (.ins "Live" (liveIns d0 lf ar ls))
  st : lstAt h ls = some (pcT xs)
  at_ : ∀ s ∈ xs, StpAt h s.1 s.2
def liveD (d0 : Sd) (ys : List Hy) : Sd := match ys.getLast? with | none => d0 | some s => s.aft
def lastEv (ys : List Hy) : List Ev := match ys.getLast? with | none => [] | some s => s.ev
abbrev Pc.v (xs : Pc) : List Hy := xs.map Prod.snd
section
variable {S : Nat → Prop} {h h' : Hh} {l lf ar ls : Nat} {d0 : Sd} {xs : Pc}
theorem LiveAt.fq (x : LiveAt h l lf ar ls d0 xs) (a : Fq S h h') (hn : ¬ S ls) : LiveAt h' l lf ar ls d0 xs :=
  ⟨a.ins x.ins, a.lst x.st hn, fun s hs => by obtain ⟨bf, q⟩ := x.at_ s hs; exact ⟨bf, a.step q⟩⟩
theorem LiveAt.app (x : LiveAt h l lf ar ls d0 xs) (o : Hh) : LiveAt (h ++ o) l lf ar ls d0 xs := x.fq (fq_app h o) fun z => z
theorem LiveAt.i (x : LiveAt h l lf ar ls d0 xs) : insAt h l = some (("Live" : Str), liveIns d0 lf ar ls) := insAt_of x.ins
theorem LiveAt.m {m : Str} (x : LiveAt h l lf ar ls d0 xs) (hm : (liveIns d0 lf ar ls).lookup m = none) : mOk "Live" m (.ref l) h = true := mOk_of x.i hm
theorem LiveAt.len (x : LiveAt h l lf ar ls d0 xs) : (pcT xs).length = xs.length := List.length_map _
theorem LiveAt.lt (x : LiveAt h l lf ar ls d0 xs) : l < h.length := (List.getElem?_eq_some_iff.mp x.ins).1
end
structure HsOk (fm : Fm) (r : Ru) (d0 : Sd) (ys : List Hy) : Prop where
  d0 : SdOk fm r.sending d0
  sd : ∀ y ∈ ys, SdOk fm r.sending y.aft
  dk : ∀ y ∈ ys, DdOk fm y.D
  ev : ∀ y ∈ ys, EvsOk fm y.ev ∧ y.ev.length ≤ 20
theorem HsOk.now {fm : Fm} {r : Ru} {d0 : Sd} {ys : List Hy} (o : HsOk fm r d0 ys) : SdOk fm r.sending (liveD d0 ys) := by
  unfold liveD
  cases e : ys.getLast? with
  | none => exact o.d0
  | some y => exact o.sd y (List.mem_of_getLast? e)
theorem HsOk.last {fm : Fm} {r : Ru} {d0 : Sd} {ys : List Hy} (o : HsOk fm r d0 ys) : EvsOk fm (lastEv ys) ∧ (lastEv ys).length ≤ 20 := by
  unfold lastEv
  cases e : ys.getLast? with
  | none => exact ⟨.nil, by simp⟩
  | some y => exact o.ev y (List.mem_of_getLast? e)
theorem HsOk.nil {fm : Fm} {r : Ru} {d0 : Sd} (s : SdOk fm r.sending d0) : HsOk fm r d0 [] := ⟨s, fun _ q => (List.not_mem_nil q).elim, fun _ q => (List.not_mem_nil q).elim, fun _ q => (List.not_mem_nil q).elim⟩
theorem HsOk.app {fm : Fm} {r : Ru} {d0 : Sd} {ys zs : List Hy} (o : HsOk fm r d0 ys) (z : HsOk fm r d0 zs) : HsOk fm r d0 (ys ++ zs) :=
  ⟨o.d0, fun y q => (List.mem_append.mp q).elim (o.sd y) (z.sd y), fun y q => (List.mem_append.mp q).elim (o.dk y) (z.dk y), fun y q => (List.mem_append.mp q).elim (o.ev y) (z.ev y)⟩
theorem HsOk.snoc {fm : Fm} (om : FmOk fm) {r : Ru} {d0 : Sd} {ys : List Hy} (o : HsOk fm r d0 ys) {D : Dd} (dk : DdOk fm D) {d' : Sd} {t : List Ev} (e : stepC fm r D (liveD d0 ys) = .ok d' t) : HsOk fm r d0 (ys ++ [⟨D, d', t⟩]) := by
  have so := step_ok om o.now dk e
  have ev := step_evs om o.now dk e
  refine o.app ⟨o.d0, fun y q => ?_, fun y q => ?_, fun y q => ?_⟩ <;> (rw [List.mem_singleton] at q; subst q; assumption)
theorem HsOk.sub {fm : Fm} {r : Ru} {d0 : Sd} {ys zs : List Hy} (o : HsOk fm r d0 ys) (hz : ∀ y ∈ zs, y ∈ ys) : HsOk fm r d0 zs := ⟨o.d0, fun y q => o.sd y (hz y q), fun y q => o.dk y (hz y q), fun y q => o.ev y (hz y q)⟩
def messT (d : Sd) : T := .tup (d.mess.map tE)
def deedsL (ys : List Hy) : List T := ys.map fun y => y.D.t
def seenL (d0 : Sd) (ys : List Hy) : List T := messT d0 :: ys.map fun y => messT y.aft
def sentW : Ev → Option T | .sent ws => some (.tup (tSs ws)) | _ => none
def sentL (ys : List Hy) : List T := ys.flatMap fun y => y.ev.filterMap sentW
section
variable {h : Hh} {l lf ar ls : Nat} {d0 : Sd} {xs : Pc}
end
theorem flat_le {α β : Type} (f : α → List β) (k : Nat) : ∀ xs : List α, (∀ x ∈ xs, (f x).length ≤ k) → (xs.flatMap f).length ≤ k * xs.length
  | [], _ => by simp
  | x :: xs, h => by
    rw [List.flatMap_cons, List.length_append, List.length_cons, Nat.mul_succ]
    have := h x (.head _)
    have := flat_le f k xs fun y hy => h y (.tail _ hy)
    omega
inductive Dx where
  | good (D : Dd)
  | bad (t : T)
def Dx.t : Dx → T | .good D => D.t | .bad t => t
inductive Fo where
  | ok (ys : List Hy)
  | many (m : Str)
  | bad (t : T)
def StV (h : Hh) (n : Nat) (t : T) (d0 : Sd) (ys : List Hy) (tl : List T) : Prop := ∃ a b c, n ≤ a ∧ n ≤ b ∧ n ≤ c ∧ t = .tup ([(liveD d0 ys).t, .tup (tEs (lastEv ys)), .ref a, .ref b, .ref c, .int ys.length] ++ tl) ∧ lstAt h a = some (deedsL ys) ∧ lstAt h b = some (seenL d0 ys) ∧ lstAt h c = some (sentL ys)
theorem StV.fq {S : Nat → Prop} {h h' : Hh} {n : Nat} {t : T} {d0 : Sd} {ys : List Hy} {tl : List T} (x : StV h n t d0 ys tl) (a : Fq S h h') (hS : ∀ k, S k → k < n) : StV h' n t d0 ys tl := by
  obtain ⟨p, q, r, lp, lq, lr, e, e1, e2, e3⟩ := x
  refine ⟨p, q, r, lp, lq, lr, e, a.lst e1 fun z => ?_, a.lst e2 fun z => ?_, a.lst e3 fun z => ?_⟩
  · have := hS _ z; omega
  · have := hS _ z; omega
  · have := hS _ z; omega
theorem StV.mono {h : Hh} {n m : Nat} {t : T} {d0 : Sd} {ys : List Hy} {tl : List T} (x : StV h n t d0 ys tl) (hm : m ≤ n) : StV h m t d0 ys tl := by
  obtain ⟨p, q, r, lp, lq, lr, e⟩ := x
  exact ⟨p, q, r, by omega, by omega, by omega, e⟩
theorem pure_mess {fm : Fm} (o : FmOk fm) {d : Sd} (s : SdW fm d) : PureT 1 (messT d) := by
  have f3 := o.f3
  exact pure_strs (fun t ht => by obtain ⟨s, _, rfl⟩ := List.mem_map.mp ht; exact flat_ent _) (by rw [List.length_map, s.ml]; omega)
theorem deedsL_len (ys : List Hy) : (deedsL ys).length = ys.length := List.length_map _
theorem seenL_len (d0 : Sd) (ys : List Hy) : (seenL d0 ys).length = ys.length + 1 := by simp [seenL]
theorem sentL_len {fm : Fm} {r : Ru} {d0 : Sd} {ys : List Hy} (hs : HsOk fm r d0 ys) : (sentL ys).length ≤ 20 * ys.length := by
  unfold sentL
  refine flat_le _ 20 _ fun y hy => Nat.le_trans (List.length_filterMap_le _ _) (hs.ev y hy).2
theorem pure_deeds {fm : Fm} {r : Ru} {d0 : Sd} {ys : List Hy} (hs : HsOk fm r d0 ys) : ∀ x ∈ deedsL ys, PureT 1 x := fun x hx => by
  obtain ⟨y, hy, rfl⟩ := List.mem_map.mp hx
  exact pure_dd (hs.dk y hy)
theorem pure_seen {fm : Fm} (o : FmOk fm) {r : Ru} {d0 : Sd} {ys : List Hy} (hs : HsOk fm r d0 ys) : ∀ x ∈ seenL d0 ys, PureT 1 x := fun x hx => by
  rcases List.mem_cons.mp hx with rfl | hx
  · exact pure_mess o hs.d0.w
  · obtain ⟨y, hy, rfl⟩ := List.mem_map.mp hx
    exact pure_mess o (hs.sd y hy).w
theorem pure_sent {fm : Fm} (o : FmOk fm) {r : Ru} {d0 : Sd} {ys : List Hy} (hs : HsOk fm r d0 ys) : ∀ x ∈ sentL ys, PureT 1 x := fun x hx => by
  obtain ⟨y, hy, hx⟩ := List.mem_flatMap.mp hx
  obtain ⟨e, he, hx⟩ := List.mem_filterMap.mp hx
  have := (hs.ev y hy).1 e he
  have f3 := o.f3
  cases e <;> simp [sentW] at hx
  subst hx
  exact pure_strs (fun t ht => by obtain ⟨s, _, rfl⟩ := List.mem_map.mp ht; rfl) (by rw [List.length_map, (show WsOk fm _ from this).len]; omega)
theorem StV.same {fm : Fm} (o : FmOk fm) {r : Ru} {h : Hh} {n m : Nat} {t u : T} {d0 : Sd} {ys : List Hy} {tl : List T} (hs : HsOk fm r d0 ys) (hl : ys.length ≤ 1000) (htl : ∀ x ∈ tl, flatT x = true) (tl2 : tl.length ≤ 10) (x : StV h n t d0 ys tl) (y : StV h m u d0 ys tl) : SameV h 5 t u := by
  obtain ⟨a, b, c, _, _, _, rfl, e1, e2, e3⟩ := x
  obtain ⟨a', b', c', _, _, _, rfl, g1, g2, g3⟩ := y
  refine SameV.tup (by simp) (by simp; omega) fun i x y hx hy => ?_
  have ev := hs.last
  match i, hx, hy with
  | 0, hx, hy => cases hx; cases hy; exact (pure_sd o hs.now.w).same
  | 1, hx, hy => cases hx; cases hy; exact ((pure_evs o ev.1 (by omega)).up).same
  | 2, hx, hy => cases hx; cases hy; exact SameV.lists e1 g1 (by rw [deedsL_len]; omega) fun x hx => ((pure_deeds hs x hx).add 2)
  | 3, hx, hy => cases hx; cases hy; exact SameV.lists e2 g2 (by rw [seenL_len]; omega) fun x hx => ((pure_seen o hs x hx).add 2)
  | 4, hx, hy => cases hx; cases hy; exact SameV.lists e3 g3 (by have := sentL_len hs; omega) fun x hx => ((pure_sent o hs x hx).add 2)
  | 5, hx, hy => cases hx; cases hy; exact same_flat rfl
  | i + 6, hx, hy =>
    have hx : tl[i]? = some x := by simpa using hx
    have hy : tl[i]? = some y := by simpa using hy
    rw [hx] at hy
    cases hy
    exact same_flat (htl x (List.mem_of_getElem? hx))
@[simp] theorem e_lenO (cn : Str) (ff : List T → Hh → Res T) (l : Nat) (h : Hh) : fLen cn ff [.ref l] h = match insAt h l with
  | some (d, _) => if d = cn then (match ff [.ref l] h with | .ok (.int i) h' => if 0 ≤ i ∧ i < 2 ^ 63 then .ok (.int i) h' else .stk | _ => .stk) else .stk
  | none => bLen [.ref l] h := Eq.trans rfl rfl
end W3
end

section
namespace W3
open PySem
def shT : T → Prop | .str s => s.length ≤ 1000 | _ => True
def FV (l : Nat) (h : Hh) (t : T) : Prop := (flatT t = true ∧ shT t) ∨ ∃ p x, t = .ref p ∧ p ≠ l ∧ lstAt h p = some [x] ∧ flatT x = true
def WV (l : Nat) (h : Hh) (t : T) : Prop := FV l h t ∨ ∃ ts, t = .tup ts ∧ ts.length ≤ 3 ∧ ∀ x ∈ ts, FV l h x
section
variable {l : Nat} {h h' : Hh} {t : T}
theorem FV.fq {S : Nat → Prop} (v : FV l h t) (a : Fq S h h') (hS : ∀ p, S p → p = l) : FV l h' t := by
  rcases v with v | ⟨p, x, rfl, hp, e, hx⟩
  · exact .inl v
  · exact .inr ⟨p, x, rfl, hp, a.lst e fun z => hp (hS p z), hx⟩
theorem WV.fq {S : Nat → Prop} (v : WV l h t) (a : Fq S h h') (hS : ∀ p, S p → p = l) : WV l h' t := by
  rcases v with v | ⟨ts, rfl, hl, g⟩
  · exact .inl (v.fq a hS)
  · exact .inr ⟨ts, rfl, hl, fun x hx => (g x hx).fq a hS⟩
theorem FV.up (v : FV l h t) (b : IsBox h l) (u : Up l h h') : FV l h' t := v.fq (u.fq b) fun _ e => e
theorem WV.up (v : WV l h t) (b : IsBox h l) (u : Up l h h') : WV l h' t := v.fq (u.fq b) fun _ e => e
theorem FV.app (v : FV l h t) (o : Hh) : FV l (h ++ o) t := v.fq (fq_app h o) fun _ f => f.elim
theorem WV.app (v : WV l h t) (o : Hh) : WV l (h ++ o) t := v.fq (fq_app h o) fun _ f => f.elim
theorem FV.same (v : FV l h t) : SameV h 1 t t := by
  rcases v with ⟨f, _⟩ | ⟨p, x, rfl, hp, e, hx⟩
  · exact .inl ⟨rfl, f⟩
  · exact SameV.lists e e (by simp) fun y hy => by rw [List.mem_singleton] at hy; subst hy; exact hx
theorem WV.same (v : WV l h t) : SameV h 2 t t := by
  rcases v with v | ⟨ts, rfl, hl, g⟩
  · exact v.same.up
  · refine SameV.tup rfl (by omega) fun i x y hx hy => ?_
    rw [hx] at hy
    cases hy
    exact (g x (List.mem_of_getElem? hx)).same
theorem FV.flat (f : flatT t = true) (s : shT t) : FV l h t := .inl ⟨f, s⟩
theorem FV.one {p : Nat} {x : T} (hp : p ≠ l) (e : lstAt h p = some [x]) (hx : flatT x = true) : FV l h (.ref p) := .inr ⟨p, x, rfl, hp, e, hx⟩
end
end W3
end

section
namespace W3
open PySem
theorem Fz.lst {n k : Nat} {h h' : Hh} {ts : List T} (f : Fz n h h') (e : lstAt h k = some ts) (hk : k < n) : lstAt h' k = some ts := by
  unfold lstAt at e ⊢
  rw [f.2 k hk]
  exact e
end W3
end

section
namespace W3
open PySem
end W3
end

section
namespace W3
open PySem PySem.Spec PyProof.Rows
open L2
def txE (e : Int × Value) : Str := PyProof.Rows.strOf e.2
structure SzOk (w : World) (es : Array (Int × Value)) (t : SetTable) : Prop where
  b : es.size < scanBound
  f : t.fits es.size = true
  r : Ris t.place.toList
  l : w.params.followText "set-order" = true ∨ t.led = true
  g : ∀ e ∈ es.toList, ∃ k tk, e = (hashStr w k, Value.str k tk)
  n : (es.toList.map txE).Nodup
def Sz (w : World) (D : Addr) (acc : List Str) (h : Heap) : Prop := ∃ o es ep t, h.get? D = some o ∧ o.ExactSet ∧ o.data = .set es ep t ∧ SzOk w es t ∧ ∀ k, k ∈ es.toList.map txE ↔ k ∈ acc
theorem Sz.same {w : World} {D : Addr} {acc : List Str} {h h' : Heap} (q : Sz w D acc h) (k : ∀ o, h.get? D = some o → h'.get? D = some o) : Sz w D acc h' := by
  obtain ⟨o, es, ep, t, ho, z⟩ := q
  exact ⟨o, es, ep, t, k o ho, z⟩
section
variable {P : Program} {w : World} {A : Around} {E : Value → Shared → Prop} {s : Shared} {D : Addr}
end
section
variable {X : Cx}
end
section
variable {prog : Program} {w : World} {A : Around} {E : Value → Shared → Prop} {s : Shared} {D : Addr}
end
section
variable {X : Cx} {P : Pq} {W : WX} {a b c o e tg iter : Expr} {sa sb sc so : SE} {pos pos' apos cpos p p2 q2 : Pos} {es : List Expr} {ar : SA} {si : SI}
end
end W3
end

section
namespace W3
open PySem PySem.Spec PyProof.Rows
open L2
section
variable {X : Cx} {P : Pq} {W : WX} {ar : SA} {a : Expr} {pos p tpos cpos : Pos} {body : List Stmt} {x1 : SS} {elts : List Expr} {kk : Nat}
end
end W3
end

section
namespace W3
open PySem PySem.Spec PyProof.Rows
open L2
section
variable {X : Cx} {P : Pq} {W : WX} {a : Expr} {sa : SE}
end
end W3
end

section
namespace OwLen
open PySem PySem.Spec PyProof.Rows PySem.W
section
variable {prog : Program} {w : World} {A : Around} {E : Value → Shared → Prop} {s : Shared} {K : PySem.W.Frag} {x C D f : Addr} {ox od : Obj} {odd : Option Obj}
end
end OwLen
namespace L2
open PySem PySem.Spec PyProof.Rows
section
variable {X : Cx} {CX : CXT} {k : Nat} {C g : Addr} {fd : FuncData} {ps : List Str} {sp : Sp} {E : XK}
end
end L2
namespace W3
open PySem PySem.Spec PyProof.Rows
open L2
end W3
end

section
namespace OwBin
open PySem PySem.Spec PyProof.Rows PySem.W
section
variable {prog : Program} {w : World} {A : Around} {E : Value → Shared → Prop} {s : Shared} {K : PySem.W.Frag} {x y C f : Addr} {ox oy : Obj} {od od2 : Option Obj} {h₀ : Heap} {L : Addr} {m : Str → Option Value}
end
end OwBin
namespace W3
open PySem PySem.Spec PyProof.Rows
open L2
section
variable {X : Cx} {P : Pq} {W : WX} {a : Expr} {sa : SE} {pos : Pos} {cn : Str} {C g : Addr} {k : Nat} {fd : FuncData} {ps : List Str} {ff : List T → Hh → Res T}
end
end W3
end

section
namespace W3
open PySem PySem.Spec PyProof.Rows
open L2
section
variable {X : Cx}
end
end W3
end

section
namespace W3
open PySem PySem.Spec PyProof.Rows
open L2
def mPop0 (x : T) (vs : List T) (h : Hh) : Res T :=
  match x, vs with
  | .ref l, [] => (match lstAt h l with
    | some ts => (match ts[ts.length - 1]? with | some t => .ok t (h.set l (.lst ts.dropLast)) | none => .stk)
    | none => .stk)
  | _, _ => .stk
theorem RTs.dropLast {K : PySem.W.Frag} {mg : Str → Option Value} {m : Mp} {H : Hp} : ∀ {ts : List T} {vs : List V}, RTs K mg m H ts vs → RTs K mg m H ts.dropLast vs.dropLast
  | _, _, .nil => .nil
  | _, _, .cons p .nil => .nil
  | _, _, .cons p (.cons q r) => .cons p (RTs.dropLast (.cons q r))
section
variable {X : Cx}
end
@[simp] theorem e_pop0 (l : Nat) (h : Hh) : mPop0 (.ref l) [] h = match lstAt h l with
    | some ts => (match ts[ts.length - 1]? with | some t => .ok t (h.set l (.lst ts.dropLast)) | none => .stk)
    | none => .stk := Eq.trans rfl rfl
end W3
end

section
namespace W3
open PySem PySem.Spec PyProof.Rows
open L2
inductive Tst (X : Cx) : Expr → List Value → Prop
  | one {x : Str} {c : Value} {np : Pos} : Names X x c → Tst X (.Name x np) [c]
  | two {x y : Str} {c d : Value} {p q tp : Pos} {kk : Nat} : Names X x c → Names X y d → Tst X (.Tuple [.Name x p, .Name y q] kk tp) [c, d]
  | three {x y z : Str} {c d e : Value} {p q r tp : Pos} {kk : Nat} : Names X x c → Names X y d → Names X z e → Tst X (.Tuple [.Name x p, .Name y q, .Name z r] kk tp) [c, d, e]
inductive HdsB (X : Cx) : List ExceptHandler → List (List Value × Option Nat × Tsu) → Prop
  | nil : HdsB X [] []
  | cons {e : Expr} {c : List Value} {ts : Tsu} {b₀ : Stmt} {suite : List Stmt} {pos' : Pos} {hds : List ExceptHandler} {l : List (List Value × Option Nat × Tsu)} (hc : Tst X e c)
      (hsu : ∀ (a : Addr) (oe : Obj) (cls : Value) (d : Option Addr) (pn : List (Addr × Obj)), L2N.Zn cls d oe → (∃ vs, oe.data = .fields vs) → PSs (X.suite a ((a, oe) :: pn)) (b₀ :: suite) (ts a cls d)) (r : HdsB X hds l) :
      HdsB X (.ExceptHandler (some e) none (b₀ :: suite) pos' :: hds) ((c, none, ts) :: l)
  | cas {e : Expr} {n : Str} {i : Nat} {c : List Value} {ts : Tsu} {b₀ : Stmt} {suite : List Stmt} {pos' : Pos} {hds : List ExceptHandler} {l : List (List Value × Option Nat × Tsu)} (hi : X.N[i]? = some n) (hln : X.env.kindOf n = some .local) (hc : Tst X e c)
      (hsu : ∀ (a : Addr) (oe : Obj) (cls : Value) (d : Option Addr) (pn : List (Addr × Obj)), L2N.Zn cls d oe → (∃ vs, oe.data = .fields vs) → PSs (X.suite a ((a, oe) :: pn)) (b₀ :: suite) (ts a cls d)) (r : HdsB X hds l) :
      HdsB X (.ExceptHandler (some e) (some n) (b₀ :: suite) pos' :: hds) ((c, some i, ts) :: l)
section
variable {X : Cx} {body : List Stmt} {h₀ : ExceptHandler} {hds : List ExceptHandler} {l : List (List Value × Option Nat × Tsu)} {pos : Pos} {tb : WX → TS} {Wout : WX}
end
inductive DHs2 (X : Cx) (XS : XSub) : List ExceptHandler → List Hdl → Prop
  | nil : DHs2 X XS [] []
  | cons {x : Str} {cv : Value} {b₀ : Stmt} {suite : List Stmt} {np pos' : Pos} {hds : List ExceptHandler} {l : List Hdl} {k : Str → List (Str × T) → SS} (hc : Names X x cv) (hx : Catches X XS x cv) (hk : HOk X XS none (b₀ :: suite) k) (r : DHs2 X XS hds l) :
      DHs2 X XS (.ExceptHandler (some (.Name x np)) none (b₀ :: suite) pos' :: hds) (⟨x, none, k⟩ :: l)
  | cas {x n : Str} {i : Nat} {cv : Value} {b₀ : Stmt} {suite : List Stmt} {np pos' : Pos} {hds : List ExceptHandler} {l : List Hdl} {k : Str → List (Str × T) → SS} (hi : X.N[i]? = some n) (hln : X.env.kindOf n = some .local) (hc : Names X x cv) (hx : Catches X XS x cv)
      (hk : HOk X XS (some i) (b₀ :: suite) k) (r : DHs2 X XS hds l) :
      DHs2 X XS (.ExceptHandler (some (.Name x np)) (some n) (b₀ :: suite) pos' :: hds) (⟨x, some i, k⟩ :: l)
  | tup2 {x y : Str} {cv cv' : Value} {b₀ : Stmt} {suite : List Stmt} {p p' pos' tp : Pos} {kk : Nat} {hds : List ExceptHandler} {l : List Hdl} {k : Str → List (Str × T) → SS} (hc : Names X x cv) (hc' : Names X y cv') (hx : Catches X XS x cv) (hx' : Catches X XS y cv') (hk : HOk X XS none (b₀ :: suite) k) (r : DHs2 X XS hds l) :
      DHs2 X XS (.ExceptHandler (some (.Tuple [.Name x p, .Name y p'] kk tp)) none (b₀ :: suite) pos' :: hds) (⟨x, none, k⟩ :: ⟨y, none, k⟩ :: l)
  | tup3 {x y z : Str} {cv cv' cv'' : Value} {b₀ : Stmt} {suite : List Stmt} {p p' p'' pos' tp : Pos} {kk : Nat} {hds : List ExceptHandler} {l : List Hdl} {k : Str → List (Str × T) → SS} (hc : Names X x cv) (hc' : Names X y cv') (hc'' : Names X z cv'') (hx : Catches X XS x cv) (hx' : Catches X XS y cv') (hx'' : Catches X XS z cv'') (hk : HOk X XS none (b₀ :: suite) k) (r : DHs2 X XS hds l) :
      DHs2 X XS (.ExceptHandler (some (.Tuple [.Name x p, .Name y p', .Name z p''] kk tp)) none (b₀ :: suite) pos' :: hds) (⟨x, none, k⟩ :: ⟨y, none, k⟩ :: ⟨z, none, k⟩ :: l)
section
variable {X : Cx} {P : Pq} {W : WX}
end
end W3
end

section
namespace W3
open PySem PySem.Spec PyProof.Rows
open L2
def tupD (h : Hh) (y : T) : Bool := match toD h 24 y with | some (.tuple _) => true | _ => false
def oEqT (x y : T) (h : Hh) : Res T := if dicB h x = true ∧ tupD h y = true then .ok (.bl false) h else oEq x y h
def oNeT (x y : T) (h : Hh) : Res T := if dicB h x = true ∧ tupD h y = true then .ok (.bl true) h else oNe x y h
section
variable {X : Cx}
end
@[simp] theorem e_eqT_nd (x y : T) (h : Hh) (hx : dicB h x = false) : oEqT x y h = oEq x y h := by unfold oEqT; rw [if_neg (by rw [hx]; simp)]
@[simp] theorem e_neT_nd (x y : T) (h : Hh) (hx : dicB h x = false) : oNeT x y h = oNe x y h := by unfold oNeT; rw [if_neg (by rw [hx]; simp)]
end W3
end

section
namespace W3
open PySem PySem.Spec PyProof.Rows
open L2
section
variable {X : Cx} {body : List Stmt} {h₀ : ExceptHandler} {hds : List ExceptHandler} {l : List (Value × Option Nat × Tsu)} {pos : Pos} {tb : WX → TS} {Wout : WX}
end
section
variable {X : Cx} {P : Pq} {W : WX}
end
section
variable {X : Cx} {XS : XSub} {sl : Option Nat} {e : Expr} {pos : Pos}
end
end W3
end

section
namespace W3
open PySem PySem.Spec PyProof.Rows
open L2
def sCut (so : SE) : SE := fun σ h => (so σ h).bind fun _ _ => .stk
section
variable {X : Cx} {P : Pq} {W : WX} {o : Expr} {apos pos : Pos} {so : SE} {xs : List Stmt}
end
@[simp] theorem e_sCut (so : SE) (σ : St3) (h : Hh) : sCut so σ h = (so σ h).bind fun _ _ => .stk := Eq.trans rfl rfl
end W3
end

section
namespace W3
open PySem PySem.Spec PyProof.Rows
open L2
section
variable {X : Cx}
end
section
variable {X : Cx} {P : Pq} {W : WX} {e : Expr} {so : SE} {apos cpos : Pos}
end
section
variable {X : Cx}
theorem HR.sub {m : Mp} {h : Hh} {H H' : Hp} (R : HR X.K X.mg X.w m h H) (k : ∀ b o, H b = some o → H' b = some o) : Ext m H m H' ∧ HR X.K X.mg X.w m h H' := by
  have E : Ext m H m H' := ⟨fun _ _ e => e, fun _ _ e => .inl e, fun a o e => ⟨o, k a o e⟩, fun a o e _ => k a o e, fun a vs e => k a _ e, fun a o u e => k a _ e, fun a fs e => k a _ e⟩
  refine ⟨E, R.dom, R.inj, fun l o q => ?_⟩
  obtain ⟨a, e1, r⟩ := R.ob l o q
  obtain ⟨u, hu, _⟩ := r.some
  exact ⟨a, e1, r.moveT E.tr (by rw [k a u hu, hu])⟩
end
end W3
end

section
namespace L2
open PySem PySem.Spec PyProof.Rows
def keyV : Key → V
  | .inl i => .int i
  | .inr s => .str s
section
variable {X : Cx} {e : Expr} {te : TE} {p apos cpos pos : Pos}
end
end L2
namespace W3
open PySem PySem.Spec PyProof.Rows
open L2
theorem RK.keys {K : PySem.W.Frag} {mg : Str → Option Value} {m : Mp} {H : Hp} {kvs : List (T × T)} {ks : List (Key × V)} (r : RK K mg m H kvs ks) (hi : ∀ q ∈ kvs, ∃ i, q.1 = T.int i) : RTs K mg m H (kvs.map (·.1)) (ks.map fun q => keyV q.1) := by
  induction r with
  | nil => exact .nil
  | cons q _ ih =>
    obtain ⟨i, e⟩ := hi _ (List.mem_cons_self ..)
    cases e
  | consI q _ ih => exact .cons (.int _) (ih fun q hq => hi q (List.mem_cons_of_mem _ hq))
def sLKeys (so : SE) : SE := fun σ h => (so σ h).bind fun x h1 => match obAt h1 x with
  | some (.dic kvs) => if kvs.all (fun q => match q.1 with | .int _ => true | _ => false) then alloc (.lst (kvs.map (·.1))) h1 else .stk
  | _ => .stk
@[simp] theorem e_sLKeys (so : SE) (σ : St3) (h : Hh) : sLKeys so σ h = (so σ h).bind fun x h1 => match obAt h1 x with
  | some (.dic kvs) => if kvs.all (fun q => match q.1 with | .int _ => true | _ => false) then alloc (.lst (kvs.map (·.1))) h1 else .stk
  | _ => .stk := Eq.trans rfl rfl
section
variable {X : Cx} {P : Pq} {W : WX} {e : Expr} {se : SE} {apos cpos pos p : Pos}
end
end W3
end

section
namespace W3
open PySem PySem.Spec PyProof.Rows
open L2
section
variable {P : Program} {w : World} {A : Around} {E : Value → Shared → Prop} {s : Shared}
end
section
variable {X : Cx} {P : Pq} {W : WX} {a : Expr} {sa : SE} {pos p p2 q2 : Pos}
end
end W3
end

section
namespace W3
open PySem PySem.Spec PyProof.Rows
open L2
end W3
end

section
namespace W3
open PySem PySem.Spec PyProof.Rows
open L2
section
variable {X : Cx} {P : Pq} {W : WX} {a b c o e : Expr} {sa sb sc so : SE} {pos pos' apos cpos p : Pos} {es : List Expr} {ar : SA}
end
def numS (i : Int) : Str := toString i
def bStr (xs : List T) (h : Hh) : Res T := match xs with
  | [.str a] => .ok (.str a) h
  | [.int i] => if 0 ≤ i ∧ i ≤ 9 then .ok (.str (numS i)) h else .stk
  | _ => .stk
@[simp] theorem e_str_s (a : Str) (h : Hh) : bStr [.str a] h = .ok (.str a) h := Eq.trans rfl rfl
def keyTx (e : DictEntry) : Option Str := match e.key with | .str x _ => some x | _ => none
def keysB (K : PySem.W.Frag) (a : Addr) (ks : List Str) : Bool := match K.lookup a with
  | some ⟨_, _, .dict es _, _⟩ => decide (es.toList.map keyTx = ks.map some)
  | _ => false
def numB (K : PySem.W.Frag) (a : Addr) (k : Str) (i : Int) : Bool := match PySem.W.nsIn K a k with
  | some (some (.int j _)) => decide (j = i)
  | _ => false
structure KNum (K : PySem.W.Frag) (w : World) (a : Addr) (kvs : List (Str × Int)) : Prop where
  dic : ∃ es n, KDict K w a es n
  keys : keysB K a (kvs.map Prod.fst) = true
  vals : ∀ k i, kvs.lookup k = some i → numB K a k i = true
theorem find_none {es : List DictEntry} {ks : List Str} (e : es.map keyTx = ks.map some) {z : Str} (hz : z ∉ ks) : es.find? (fun x => x.key.isStr z) = none ∧ es.any (·.refKey) = false := by
  induction es generalizing ks with
  | nil => exact ⟨rfl, rfl⟩
  | cons x r ih =>
    cases ks with
    | nil => cases e
    | cons k ks =>
      rw [List.map_cons, List.map_cons] at e
      injection e with e1 e2
      obtain ⟨i1, i2⟩ := ih e2 (fun q => hz (.tail _ q))
      have hk : ∃ t, x.key = .str k t := by
        unfold keyTx at e1
        split at e1
        · rename_i y t q
          cases e1
          exact ⟨t, q⟩
        · cases e1
      obtain ⟨t, hk⟩ := hk
      have hne : (k == z) = false := by
        cases q : k == z with
        | false => rfl
        | true =>
          have : k = z := by simpa using q
          exact absurd (this ▸ List.mem_cons_self) hz
      refine ⟨?_, ?_⟩
      · rw [List.find?_cons]
        have : x.key.isStr z = false := by rw [hk]; exact hne
        rw [this]
        exact i1
      · rw [List.any_cons, i2, Bool.or_false]
        unfold DictEntry.refKey
        rw [hk]
theorem KNum.none {K : PySem.W.Frag} {w : World} {a : Addr} {kvs : List (Str × Int)} (D : KNum K w a kvs) {z : Str} (hz : kvs.lookup z = none) : PySem.W.nsIn K a z = some none := by
  have hm : z ∉ kvs.map Prod.fst := by
    intro q
    obtain ⟨⟨k, i⟩, h1, h2⟩ := List.mem_map.mp q
    rw [List.lookup_eq_none_iff] at hz
    have := hz _ h1
    rw [← h2] at this
    simp at this
  have hk := D.keys
  unfold keysB at hk
  unfold PySem.W.nsIn
  split at hk
  · rename_i es n sl q
    rw [q]
    have e : es.toList.map keyTx = (kvs.map Prod.fst).map some := of_decide_eq_true hk
    obtain ⟨i1, i2⟩ := find_none e hm
    dsimp only
    rw [i1, i2]
    rfl
  · cases hk
theorem KNum.some {K : PySem.W.Frag} {w : World} {a : Addr} {kvs : List (Str × Int)} (D : KNum K w a kvs) {z : Str} {i : Int} (hz : kvs.lookup z = some i) : ∃ t, PySem.W.nsIn K a z = some (some (.int i t)) := by
  have h := D.vals z i hz
  unfold numB at h
  split at h
  · rename_i j t q
    have : j = i := of_decide_eq_true h
    subst this
    exact ⟨t, q⟩
  · cases h
section
variable {X : Cx} {P : Pq} {W : WX} {a b c o e : Expr} {sa sb sc so : SE} {pos pos' apos cpos p : Pos} {es : List Expr} {ar : SA}
end
inductive NumRows (K : PySem.W.Frag) (a : Addr) : List (Str × Int) → Prop
  | nil : NumRows K a []
  | cons {k : Str} {i : Int} {r : List (Str × Int)} : numB K a k i = true → NumRows K a r → NumRows K a ((k, i) :: r)
section
variable {X : Cx} {P : Pq} {W : WX} {pos p : Pos}
end
end W3
end

section
namespace W3
open PySem PySem.Spec PyProof.Rows
open L2
def sOrV (a b : SE) : SE := fun σ h => (a σ h).bind fun t h1 => match t with
  | .tup ts => if ts.isEmpty = true then b σ h1 else .ok (.tup ts) h1
  | _ => .stk
@[simp] theorem e_sOrV (a b : SE) (σ : St3) (h : Hh) : sOrV a b σ h = (a σ h).bind fun t h1 => match t with
  | .tup ts => if ts.isEmpty = true then b σ h1 else .ok (.tup ts) h1
  | _ => .stk := Eq.trans rfl rfl
section
variable {X : Cx} {P : Pq} {W : WX} {a b : Expr} {sa sb : SE} {pos : Pos} {rest : List Expr}
end
end W3
end

section
namespace W3
open PySem PySem.Spec PyProof.Rows
open L2
section
variable {X : Cx} {P : Pq} {W : WX} {a b c o e : Expr} {ta tb : TE} {sa sb sc so : SE} {pos pos' apos cpos p : Pos} {es : List Expr} {ar : SA} {st : Stmt} {rest : List Stmt} {x1 x2 : SS}
theorem PET.imp {t t' : TE} (h : PET X e t) (k : ∀ σ H Q, t' σ H Q → t σ H Q) : PET X e t' := fun pins s σ H Q h0 I hw => h pins s σ H Q h0 I (k _ _ _ hw)
theorem PAT.imp {t t' : TA} (h : PAT X es t) (k : ∀ σ H Q, t' σ H Q → t σ H Q) : PAT X es t' := fun pos pins s σ H Q h0 I hw => h pos pins s σ H Q h0 I (k _ _ _ hw)
theorem PST.imp {t t' : TS} (h : PST X st t) (k : ∀ D σ H, t' D σ H → t D σ H) : PST X st t' := fun pins s σ H D h0 I hw => h pins s σ H D h0 I (k _ _ _ hw)
theorem PSsT.imp {t t' : TS} {sts : List Stmt} (h : PSsT X sts t) (k : ∀ D σ H, t' D σ H → t D σ H) : PSsT X sts t' := fun pins s σ H D h0 I hw => h pins s σ H D h0 I (k _ _ _ hw)
theorem PET.of {t : TE} (h : PE X e t) : PET X e t := fun pins s σ H Q _ I q => h.run pins s σ H Q I q
theorem PAT.of {t : TA} (h : PA X es t) : PAT X es t := fun pos pins s σ H Q _ I q => h.run pos pins s σ H Q I q
def oRepl (y z : Str) (x : T) (h : Hh) : Res T := match x with
  | .str s => if s.length + (s.length + 1) * z.length ≤ 16777216 then .ok (.str (Txt.replace s y z)) h else .stk
  | _ => .stk
@[simp] theorem e_repl (y z s : Str) (h : Hh) : oRepl y z (.str s) h = if s.length + (s.length + 1) * z.length ≤ 16777216 then .ok (.str (Txt.replace s y z)) h else .stk := Eq.trans rfl rfl
end
end W3
end

section
namespace W3
open PySem PySem.Spec PyProof.Rows
open L2
section
variable {X : Cx}
variable {P : Pq} {W : WX} {si : SI}
end
end W3
end

section
namespace W3
open PySem PySem.Spec PyProof.Rows
open L2
def rangeTD (lo : Int) (n : Nat) : List T := (List.range n).map fun (k : Nat) => T.int (lo - k)
section
variable {X : Cx} {P : Pq} {W : WX} {a b c : Expr} {ar : SA} {ta : TA} {tg : Expr} {p pos : Pos}
open Classical in
noncomputable def rngOfD (xs : List T) (h1 : Hh) : Res Src := match xs with
  | [.int i, .int j, .int (-1)] => if RngOk i ∧ RngOk j then .ok (.its (rangeTD i (i - j).toNat)) h1 else .stk
  | _ => .stk
noncomputable def siRangeD (a : SA) : SI := fun σ h => (a σ h).bind rngOfD
@[simp] theorem e_siRangeD (a : SA) (σ : St3) (h : Hh) : siRangeD a σ h = (a σ h).bind rngOfD := Eq.trans rfl rfl
end
end W3
end

section
namespace W3
open PySem PySem.Spec PyProof.Rows
open L2
end W3
end

section
namespace W3
open PySem PySem.Spec PyProof.Rows
open L2 HotX L2H
section
variable {prog : Program} {w : World} {A : Around} {E : Value → Shared → Prop} {s : Shared}
theorem HotAt.upd {x1 it : Addr} {f : Obj → Obj} {h : Heap} (hot : HotAt A x1 h) (ne : x1 ≠ it) : HotAt A x1 (h.update it f) := by
  obtain ⟨hh, o1, vs1, h1, d1, c1⟩ := hot
  exact ⟨hh, o1, vs1, (Heap.get?_update_other _ _ (Ne.symm ne)).trans h1, d1, c1⟩
end
section
variable {X : Cx} {P : Pq} {W : WX} {a b c tg iter : Expr} {sa sb sc : SE} {pos : Pos} {es : List Expr} {ar : SA} {si : SI} {ta tb : ST} {rest body : List Stmt} {x1 : SS}
theorem PIH.imp {tg iter : Expr} {t t' : TI} (h : PIH X tg iter t) (k : ∀ σ H R, t' σ H R → t σ H R) : PIH X tg iter t' := ⟨fun pins s σ H R I hw => h.run pins s σ H R I (k _ _ _ hw)⟩
def srcOfH : T → Hh → Res Src := fun x h => match x with | .str _ => .stk | x => srcOf x h
def siEH (a : SE) : SI := fun σ h => (a σ h).bind srcOfH
end
@[simp] theorem e_siEH (a : SE) (σ : St3) (h : Hh) : siEH a σ h = (a σ h).bind srcOfH := Eq.trans rfl rfl
@[simp] theorem e_srcH_t (ts : List T) (h : Hh) : srcOfH (.tup ts) h = srcOf (.tup ts) h := Eq.trans rfl rfl
@[simp] theorem e_srcH_f (ts : List T) (h : Hh) : srcOfH (.fl ts) h = srcOf (.fl ts) h := Eq.trans rfl rfl
@[simp] theorem e_srcH_r (l : Nat) (h : Hh) : srcOfH (.ref l) h = srcOf (.ref l) h := Eq.trans rfl rfl
end W3
end

section
namespace W3
open PySem PySem.Spec PyProof.Rows
open L2 L2H
section
variable {X : Cx} {st : Stmt} {e : Expr} {f₀ : Stmt} {fs : List Stmt} {rp pos : Pos} {ts : WX → TS} {te : WX → TE} {tf tfs : TS} {Wout : WX}
end
end W3
end

section
namespace W3
open PySem PySem.Spec PyProof.Rows
open L2 L2H
section
variable {X : Cx} {P : Pq} {W : WX} {st : Stmt} {e : Expr} {f₀ : Stmt} {fs : List Stmt} {rp pos : Pos} {a f : SS} {se : SE}
end
section
variable {X : Cx} {P : Pq} {W : WX}
end
end W3
end

section
namespace W3
open PySem PySem.Spec PyProof.Rows
open L2 L2H
section
variable {X : Cx} {P : Pq} {W : WX} {a b c o e : Expr} {sa sb sc so : SE} {pos pos' apos : Pos} {es : List Expr} {ar : SA}
end
section
variable {X : Cx} {a : Addr} {oe : Obj} {pn : List (Addr × Obj)} {sl : Option Nat} {c : Str} {fs : List (Str × T)} {cls : Value} {d : Option Addr} {e e1 e2 o : Expr} {es : List Expr} {se sa sb so : SE} {ar : SA} {pos apos p p1 p2 : Pos}
end
section
variable {X : Cx} {XS : XSub} {sl : Option Nat} {i : Nat} {n f x : Str} {p p1 p2 pos apos : Pos} {e e1 e2 o : Expr} {es : List Expr} {se : SE} {sx sa sb so : Str → List (Str × T) → SE} {ar : Str → List (Str × T) → SA}
end
end W3
end

section
namespace W3
open PySem PySem.Spec PyProof.Rows
open L2 L2H
section
variable {X : Cx}
variable {P : Pq} {W : WX} {si si1 : SI}
end
end W3
end

section
namespace W3
open PySem PySem.Spec PyProof.Rows L2
section
variable {X : Cx} {P : Pq} {W : WX} {CX : CXT} {k : Nat} {f : Addr} {fd : FuncData} {ps : List Str} {sp : Sp} {E : L2.St → XK}
end
section
variable {X : Cx} {P : Pq} {W : WX} {k : Nat} {C pr g : Addr} {mc : Value} {cn m : Str} {fd : FuncData} {ps : List Str} {ff : List T → Hh → Res T} {e : Expr} {es : List Expr} {ar : SA} {p pos apos : Pos} {pl : Sem Bool}
end
section
variable {X : Cx} {P : Pq} {W : WX} {a : Expr} {es : List Expr} {ar : SA} {p pos : Pos}
end
end W3
namespace L2
open PySem PySem.Spec PyProof.Rows
section
variable {X : Cx} {CX : CXT} {k : Nat} {C g : Addr} {fd : FuncData} {ps : List Str} {sp : Sp} {E : XK}
end
end L2
namespace W3
open PySem PySem.Spec PyProof.Rows L2
end W3
namespace W3
open PySem PySem.Spec PyProof.Rows L2
end W3
namespace L2
open PySem PySem.Spec PyProof.Rows
end L2
namespace W3
open PySem PySem.Spec PyProof.Rows L2
end W3
namespace W3
open PySem
end W3
end

section
namespace L2
open PySem PySem.Spec PyProof.Rows PySem.W
theorem exd_frz {e : Addr} {fs : List (Str × V)} {o : Obj} {u : HO} : exd e fs ≠ .frz o u := fun z => by
  have z' : HO.ext _ = HO.frz o u := z
  cases z'
theorem exd_tbl {e : Addr} {fs : List (Str × V)} {ps : Array Value} : exd e fs ≠ .tbl ps := fun z => by
  have z' : HO.ext _ = HO.tbl ps := z
  cases z'
theorem Inv.xdOf {X : Cx} {pins : List (Addr × Obj)} {σ : St} {H : Hp} {s : Shared} {d : Addr} {fs : List (Str × V)} (I : Inv X pins σ H s) (ed : H d = some (exd d fs)) : Inv X pins σ (upd H d (.xd fs)) s := by
  obtain ⟨hp, g, dr, t, os⟩ := s
  have U : Un X.fs [] H (upd H d (.xd fs)) hp hp := {
    keep := fun b o q n _ _ => q
    slot := fun b o q n _ _ => ⟨o.slots, q⟩
    free := fun b o q n _ => by rw [upd_ne (fun z => by rw [z, ed] at n; cases n)]; exact n
    there := fun b o q _ => ⟨o, q⟩
    tups := fun b xs q => by rw [upd_ne (at_ne ed q exd_tup)]; exact q
    frzs := fun b o v q => by rw [upd_ne (at_ne ed q exd_frz)]; exact q
    tbls := fun b ps q => ⟨#[], by rw [upd_ne (at_ne ed q exd_tbl), q]; simp⟩ }
  refine I.un (t' := t) U fun b o q => ?_
  by_cases hb : b = d
  · subst hb
    rw [upd_same] at q
    cases q
    obtain ⟨mA, hns, rel⟩ := exd_at I.hok ed
    exact ⟨mA, hns, rel⟩
  · rw [upd_ne hb] at q
    exact (I.hok b o q).stay (fun c v hc z => z) (fun c hc => by rw [upd_ne (at_ne ed hc exd_own)]; exact hc) (fun c xs hc => by rw [upd_ne (at_ne ed hc exd_tup)]; exact hc)
def tVkO (C : Addr) (sp : Sp) (dvs : List V) (ta : TA) : TE := fun σ H Q => ta σ H fun vs H1 => vs.length ≤ 1000 ∧ ∀ a, H1 a = none → sp (.ref a :: (vs ++ dvs)) (upd H1 a (exo a C none))
  (fun v H2 => v = .non ∧ ∃ (d : Addr) (fs : List (Str × V)), H2 a = some (exo a C (some d)) ∧ H2 d = some (exd d fs) ∧ Q (.ref a) (upd H2 d (.xd fs))) (fun _ _ _ => False)
theorem pe_oexV {X : Cx} {CX : CXT} {x : Str} {e : Expr} {es : List Expr} {ta : TA} {p pos : Pos} {C fI : Addr} {k : Nat} {fd : FuncData} {ps : List Str} {sp : Sp} {ds : List Value} {dvs : List V} (T : OexC X.K C)
    (iC : PySem.W.findIn X.K (.ref C) "__init__" = some (some (.ref fI))) (tI : PySem.W.typeIn X.K (.ref fI) = some (.type "function"))
    (F1 : FnOk X.prog X.w X.K X.mg X.base CX k fI fd ps sp) (hr : Room (k + 1) X.A) (hb : Binds X.K fd ps ds) (hd : Vals dvs ds) (hx : Passes CX X (fun _ _ _ => False)) (hg : Gl X x) (hm : X.mg x = some (.ref C)) (ha : PA X (e :: es) ta)
    (hdb : (x == ("__debug__" : Str)) = false := by decide) (he : starEach (e :: es) X.env = (false, eval e X.env) :: starEach es X.env := by rfl) (hpl : (backTo pos (starEach es X.env)).any (·.1) = false := by rfl) :
    PE X (.Call (.Name x p) (e :: es) [] pos) (tVkO C sp dvs ta) := by
  refine ⟨fun pins s σ H Q I h => ?_⟩
  obtain ⟨nm, qn, N, bs, bm, sn, sub, ab, col, dd, k0, k1, k2, k3, k5, hC, hbm⟩ := T.cls
  refine wpAny_Call_Name_kw (ld_glob I hg hm ?_ hdb)
  refine PySem.W.callWith_K (h₀ := X.base) I.ok.mod.kin T.kC (thn (ha.run pos pins s σ H _ I h) fun us s1 ⟨vs, H1, I1, r1, hz, q1⟩ => ⟨I1.kIn, ?_⟩) he hpl
  show wpAny _ _ (call (.ref C) us) _ _ _
  obtain ⟨hp, g, dr, tk, os⟩ := s1
  have sz1 : hp.objs.size ≤ hp.objs.size + 1 := Nat.le_succ _
  have hn : H1 (hp.objs.size + 1) = none := I1.hok.fresh sz1
  have kk : ∀ b o, hp.get? b = some o → ((hp.push (PySem.W.kdv_tup us)).push (PySem.HandSPX.excO C hp.objs.size)).get? b = some o := fun b o z => Heap.get?_push_of_some _ (Heap.get?_push_of_some _ z)
  have gt : ((hp.push (PySem.W.kdv_tup us)).push (PySem.HandSPX.excO C hp.objs.size)).get? (hp.objs.size + 1) = some (PySem.HandSPX.excO C hp.objs.size) := by heap_get
  have I2 := I1.laid (t' := tk) (a := hp.objs.size + 1) (o := exo (hp.objs.size + 1) C none) (h' := (hp.push (PySem.W.kdv_tup us)).push (PySem.HandSPX.excO C hp.objs.size)) kk sz1 (exo_ok gt)
  have r2 : Vals (V.ref (hp.objs.size + 1) :: (vs ++ dvs)) (Value.ref (hp.objs.size + 1) :: (us ++ ds)) := .cons rfl (r1.append hd)
  have hq := q1 (hp.objs.size + 1) hn
  have hl : (Value.ref (hp.objs.size + 1) :: us ++ ds).length = ps.length := by
    have z := r2.length
    rw [F1.len _ _ _ _ hq] at z
    exact z.symm
  have hus : us.length ≤ sizeLine := by
    rw [← Paired.length r1, sizeLine_eq]
    omega
  have run1 := F1.run _ X.stack _ _ ⟨Value.ref (hp.objs.size + 1) :: us, []⟩ (Value.ref (hp.objs.size + 1) :: (us ++ ds)) _ _ (fun _ _ _ => False) (hr.make C us []) (I2.env0.make C us []) (hb _ (Value.ref (hp.objs.size + 1) :: us) I2.kIn hl) r2 hq
  refine wpAny_call (PySem.HandSPX.call_own F.excBase_ValueError (fun Y => PySem.HandSPX.refsVE_contains Y bm hbm) (I1.kIn _ _ hC) (PySem.W.looks_findIn I1.kIn iC) (fun self => PySem.W.bind_fn I1.kIn self tI) hus (codeAny_mono run1 fun r s' hq' => ?_))
  cases r with
  | error er => exact hx pins σ _ _ er s' I2 hq'
  | ok fl =>
    cases fl with
    | ret u =>
      obtain ⟨v, H2, os2, bare2, un2, hok2, rv, ev, d, fs, ea, ed, q2⟩ := hq'
      subst ev
      obtain ⟨h2, g2, d2, t2, os'⟩ := s'
      have J := I2.call' (ch := []) os2 un2 hok2 bare2 (fun b z => absurd z (by simp))
      exact ⟨rv, ⟨.ref (hp.objs.size + 1), upd H2 d (.xd fs), J.xdOf ed, rfl, q2⟩⟩
    | next => exact False.elim hq'
    | brk => exact False.elim hq'
    | cont => exact False.elim hq'
theorem pe_exc0V {X : Cx} {C : Addr} {x : Str} {p pos : Pos} {veL : List Value} (q : PySem.W.excIn X.K C veL "ValueError.__new__" = true) (F : ExcBaseFacts "ValueError" "ValueError.__new__" "ValueError.__init__" veL) (gC : X.mg x = some (.ref C)) (kC : PySem.W.keepIn X.K (.ref C) = true) (hg : Gl X x)
    (hdb : (x == ("__debug__" : Str)) = false := by decide) : PE X (.Call (.Name x p) [] [] pos) (fun σ H Q => ∀ a, H a = none → Q (.ref a) (upd H a (exo a C none))) := by
  refine ⟨fun pins s σ H Q I h => ?_⟩
  refine wpAny_Call_Name_kw (ld_glob I hg gC ?_ hdb)
  obtain ⟨bm, N, nm, qn, bs, hdct, sn, sub, ab, col, dd, k0, k1, k2, k3, k5, mN, hC, hN, hni, T⟩ := exc_obj I.kIn q
  refine PySem.W.callWith_K0 I.kIn kC ?_
  refine wpAny_call_exc_subT F T hC hN hni (fun h' a hm => ?_) (Nat.zero_le _)
  have hn : H a = none := I.hok.gone hm.new
  obtain ⟨t, ht, _, _⟩ := hm.there
  exact ⟨.ref a, upd H a (exo a C none), I.laidN hm.keeps hm.new hn (exo_ok ht), rfl, h a hn⟩
theorem pe_errF {X : Cx} {e : Expr} {te : TE} {pos : Pos} {n : Str} (he : PE X e te) (hb : attributeBase e n X.env (eval e X.env) = eval e X.env := by rfl) :
    PE X (.Attribute e n pos) (fun σ H Q => te σ H fun x H1 => ∃ (a C dd : Addr) (fs : List (Str × V)) (v : V), x = .ref a ∧ H1 a = some (exo a C (some dd)) ∧ XfC X.K C ∧ PySem.W.findIn X.K (.ref C) n = some none ∧ H1 dd = some (.xd fs) ∧ fs.lookup n = some v ∧ Q v H1) := by
  refine ⟨fun pins s σ H Q I h => ?_⟩
  refine attr_of hb (thn (he.run pins s σ H _ I h) fun u s1 hh => ?_)
  obtain ⟨x, H1, I1, rx, a, C, dd, fs, v, ex, eo, T, hno, ea, l, q⟩ := hh
  subst ex
  obtain rfl : u = Value.ref a := rx
  obtain ⟨t1, ha⟩ := exo_at I1.hok eo
  have hx : ObjOk X.prog X.w H1 s1.heap dd (.xd fs) := I1.hok dd _ ea
  obtain ⟨mA, hns, hr⟩ := hx
  obtain ⟨od, ho, hl⟩ := lookIn_ns hns
  obtain ⟨u, hu, ru⟩ := RelO.some_of (v := v) (o := mA n) (by rw [← l]; exact hr n)
  have J : PySem.W.InstAt s1.heap a _ C (some od) := ⟨ha, rfl, rfl, ho⟩
  exact HandSPX.exc_get I1.kIn J T.ga T.gg T.exC (PySem.W.findObj_own T.hdC hno rfl (by rw [hl, hu])) (handed_of ru) ⟨v, H1, I1.tok _, ru, q⟩
def rIsV (K : PySem.W.Frag) : List V → Hp → VK → Prop := fun xs H Q => ∃ (a D : Addr) (d : Option Addr) (c : V) (cv : Value) (b : Bool), xs = [.ref a, c] ∧ H a = some (exo a D d) ∧ (∀ dd, d = some dd → ∃ fv, H dd = some (.xd fv)) ∧ ExcC K D ∧ (∀ u, RelV c u → u = cv) ∧ PySem.W.kitOne K (.ref D) cv = some b ∧ Q (.bl b) H
theorem call_isV {X : Cx} : CallR X (.builtin "isinstance") (rIsV X.K) := by
  intro pins s σ H xs us Q I r ⟨a, D, d, c, cv, b, e0, eo, hdd, C, hcv, e, q⟩
  subst e0
  cases r with
  | cons rx rr =>
    cases rr with
    | cons rt rr =>
      cases rr
      cases rx
      have ec := hcv _ rt
      subst ec
      obtain ⟨t1, hget⟩ := exo_at I.hok eo
      have J : ∃ od, PySem.W.InstAt s.heap a ({ cls := .ref D, dict := d, data := .fields #[.ref t1, .none, .none, .none, .bool false, .none] } : Obj) D od := by
        cases d with
        | none => exact ⟨none, hget, rfl, rfl, trivial⟩
        | some dd =>
          obtain ⟨fv, hx⟩ := hdd dd rfl
          obtain ⟨mA, hns, _⟩ := I.hok dd _ hx
          obtain ⟨o, es, ep, ho, _⟩ := hns
          exact ⟨some o, hget, rfl, rfl, ho⟩
      obtain ⟨od, J⟩ := J
      exact PySem.W.kia_one (PySem.W.kitx_excW C.hg C.hk C.hs C.hd C.ha C.hn C.ht C.hm) I.kIn J e (fun z => nomatch z) fun tk => ⟨.bl b, H, I.kept (t' := tk) fun _ _ z => z, rfl, q⟩
end L2
namespace W3
open PySem PySem.Spec PyProof.Rows PySem.W
open L2
def sMkE (c : Str) (ns : List Str) (a : SA) : SE := fun σ h => (a σ h).bind fun xs h1 => if xs.length = ns.length then W3.alloc (.err c (ns.zip xs).reverse) h1 else .stk
def sMkE0 (c : Str) : SE := fun _ h => W3.alloc (.err c []) h
def oFldE (XS : XSub) (f : Str) (x : T) (h : Hh) : Res T := match x with
  | .ref l => (match h[l]? with
    | some (.err c fs) => (match XS.lookup c, fs.lookup f with
      | some _, some t => .ok t h
      | _, _ => .stk)
    | _ => .stk)
  | _ => .stk
def oIsX (XS : XSub) (cn : Str) (x : T) (h : Hh) : Res T := match x with
  | .ref l => (match h[l]? with
    | some (.err c _) => (match XS.lookup c with
      | some ss => .ok (.bl (ss.contains cn)) h
      | none => .stk)
    | _ => .stk)
  | _ => .stk
def oIsVE (XS : XSub) (x : T) (h : Hh) : Res T := match x with
  | .ref l => (match h[l]? with
    | some (.err c _) => (match XS.lookup c with
      | some _ => .ok (.bl true) h
      | none => .stk)
    | _ => .stk)
  | _ => .stk
theorem nx_fldE (XS : XSub) (f : Str) : NoX1 (oFldE XS f) := fun x h c fs h' e => by
  unfold oFldE at e
  repeat (first | cases e | split at e)
theorem nx_isX (XS : XSub) (cn : Str) : NoX1 (oIsX XS cn) := fun x h c fs h' e => by
  unfold oIsX at e
  repeat (first | cases e | split at e)
theorem nx_isVE (XS : XSub) : NoX1 (oIsVE XS) := fun x h c fs h' e => by
  unfold oIsVE at e
  repeat (first | cases e | split at e)
def IsVEAll (K : PySem.W.Frag) (mg : Str → Option Value) (XS : XSub) : Prop := ∀ c ss C, XS.lookup c = some ss → mg c = some (.ref C) → PySem.W.kitOne K (.ref C) (.type "ValueError") = some true
section
variable {X : Cx} {P : Pq} {W : WX} {e : Expr} {es : List Expr} {se : SE} {ar : SA} {x : Str} {C fI : Addr} {k : Nat} {fd : FuncData} {ps : List Str} {p p1 p2 pos : Pos}
theorem err_out {m : Mp} {H : Hp} {h : Hh} {σV : L2.St} {Q : VK} {fs : List (Str × T)} {fv : List (Str × V)} {c : Str} {a dx : Addr} (R : HR X.K X.mg X.w m h H) (hm : X.mg c = some (.ref C)) (o : Out X.K X.mg X.w (RT X.K X.mg) W σV Q m H (W3.alloc (.err c fs) h)) (r : RF X.K X.mg m H fs fv) (hn : H a = none) (hdx : H dx = none) (hne : dx ≠ a) :
    Q (.ref a) (upd (upd H dx (.xd fv)) a (exo a C (some dx))) := by
  have E1 := Ext.garbage (o := .xd fv) R hdx
  have R1 := R.garbage (o := .xd fv) hdx
  have hna : (upd H dx (.xd fv)) a = none := by rw [upd_ne (Ne.symm hne)]; exact hn
  have E2 := Ext.alloc (o := exo a C (some dx)) R1 hna
  have new : OR X.K X.mg X.w (m.put h.length a) (upd (upd H dx (.xd fv)) a (exo a C (some dx))) a (.err c fs) := ⟨C, some dx, hm, upd_same, .inr ⟨dx, fv, rfl, by rw [upd_ne hne, upd_same], (r.ext E1).ext E2⟩⟩
  exact o (.ref a) _ _ (E1.trans E2) (.ref Mp.put_same) (R1.alloc hna new)
theorem de_mkE1 {f1 : Str} (tk : L2N.Takes X W) (T : OexC X.K C) (iC : PySem.W.findIn X.K (.ref C) "__init__" = some (some (.ref fI))) (tI : PySem.W.typeIn X.K (.ref fI) = some (.type "function"))
    (F1 : FnOk X.prog X.w X.K X.mg X.base (L2N.CX X.prog X.w) k fI fd ps (spE1 C f1)) (hr : Room (k + 1) X.A) (hb : Binds X.K fd ps []) (hg : Gl X x) (hm : X.mg x = some (.ref C)) (ha : DA X P W (e :: es) ar)
    (hdb : (x == ("__debug__" : Str)) = false := by decide) (he : starEach (e :: es) X.env = (false, eval e X.env) :: starEach es X.env := by rfl) (hpl : (backTo pos (starEach es X.env)).any (·.1) = false := by rfl) :
    DE X P W (.Call (.Name x p) (e :: es) [] pos) (sMkE x [f1] ar) := by
  refine PE.imp (pe_oexV T iC tI F1 hr hb .nil (L2N.passes_call tk fun _ _ _ _ z => z.elim) hg hm ha hdb he hpl) fun σV H Q ⟨m, h, σ, A, o⟩ => ?_
  refine A.first (rel1 := RTs X.K X.mg) o fun m1 h1 ts vs H1 E1 r A1 o1 => ?_
  split at o1
  · rename_i hl
    match ts, hl with
    | [t], _ =>
      obtain ⟨v, rfl, rv⟩ := r.one
      refine ⟨by simp, fun a hn => ⟨a, v, rfl, upd_same, fun dx hdx hne => ⟨rfl, dx, [(f1, v)], upd_same, ?_, ?_⟩⟩⟩
      · rw [upd_ne hne, upd_same]
      · have hdx' : H1 dx = none := by rw [upd_ne hne] at hdx; exact hdx
        have eq : upd (upd (upd (upd H1 a (exo a C none)) dx (exd dx [(f1, v)])) a (exo a C (some dx))) dx (.xd [(f1, v)]) = upd (upd H1 dx (.xd [(f1, v)])) a (exo a C (some dx)) := by
          funext b
          by_cases hb : b = dx
          · rw [hb, upd_same, upd_ne hne, upd_same]
          · rw [upd_ne hb]
            by_cases hb2 : b = a
            · rw [hb2, upd_same, upd_same]
            · rw [upd_ne hb2, upd_ne hb, upd_ne hb2, upd_ne hb2, upd_ne hb]
        rw [eq]
        exact err_out A1.hr hm o1 (.cons rv .nil) hn hdx' hne
  · exact False.elim o1
theorem de_mkE2 {f1 f2 : Str} (tk : L2N.Takes X W) (T : OexC X.K C) (iC : PySem.W.findIn X.K (.ref C) "__init__" = some (some (.ref fI))) (tI : PySem.W.typeIn X.K (.ref fI) = some (.type "function"))
    (F1 : FnOk X.prog X.w X.K X.mg X.base (L2N.CX X.prog X.w) k fI fd ps (spE2 C f1 f2)) (hr : Room (k + 1) X.A) (hb : Binds X.K fd ps []) (hg : Gl X x) (hm : X.mg x = some (.ref C)) (ha : DA X P W (e :: es) ar)
    (hdb : (x == ("__debug__" : Str)) = false := by decide) (he : starEach (e :: es) X.env = (false, eval e X.env) :: starEach es X.env := by rfl) (hpl : (backTo pos (starEach es X.env)).any (·.1) = false := by rfl) :
    DE X P W (.Call (.Name x p) (e :: es) [] pos) (sMkE x [f1, f2] ar) := by
  refine PE.imp (pe_oexV T iC tI F1 hr hb .nil (L2N.passes_call tk fun _ _ _ _ z => z.elim) hg hm ha hdb he hpl) fun σV H Q ⟨m, h, σ, A, o⟩ => ?_
  refine A.first (rel1 := RTs X.K X.mg) o fun m1 h1 ts vs H1 E1 r A1 o1 => ?_
  split at o1
  · rename_i hl
    match ts, hl with
    | [t, t2], _ =>
      obtain ⟨v, v2, rfl, rv, rv2⟩ := r.two
      refine ⟨by simp, fun a hn => ⟨a, v, v2, rfl, upd_same, fun dx hdx hne => ⟨rfl, dx, [(f2, v2), (f1, v)], ?_, upd_same, ?_⟩⟩⟩
      · rw [upd_ne (Ne.symm hne), upd_same]
      · have hdx' : H1 dx = none := by rw [upd_ne hne] at hdx; exact hdx
        have eq : upd (upd (upd (upd (upd H1 a (exo a C none)) dx (exd dx [(f1, v)])) a (exo a C (some dx))) dx (exd dx [(f2, v2), (f1, v)])) dx (.xd [(f2, v2), (f1, v)]) = upd (upd H1 dx (.xd [(f2, v2), (f1, v)])) a (exo a C (some dx)) := by
          funext b
          by_cases hb : b = dx
          · rw [hb, upd_same, upd_ne hne, upd_same]
          · rw [upd_ne hb, upd_ne hb]
            by_cases hb2 : b = a
            · rw [hb2, upd_same, upd_same]
            · rw [upd_ne hb2, upd_ne hb, upd_ne hb2, upd_ne hb2, upd_ne hb]
        rw [eq]
        exact err_out A1.hr hm o1 (.cons rv2 (.cons rv .nil)) hn hdx' hne
  · exact False.elim o1
theorem de_mkE0 (q : PySem.W.excIn X.K C veL "ValueError.__new__" = true) (kC : PySem.W.keepIn X.K (.ref C) = true) (hm : X.mg x = some (.ref C)) (hg : Gl X x) (hdb : (x == ("__debug__" : Str)) = false := by decide) :
    DE X P W (.Call (.Name x p) [] [] pos) (sMkE0 x) := by
  refine PE.imp (pe_exc0V q F.excBase_ValueError hm kC hg hdb) fun σV H Q ⟨m, h, σ, A, o⟩ => ?_
  intro a hn
  have E2 := Ext.alloc (o := exo a C none) A.hr hn
  have new : OR X.K X.mg X.w (m.put h.length a) (upd H a (exo a C none)) a (.err x []) := ⟨C, none, hm, upd_same, .inl ⟨rfl, rfl⟩⟩
  exact o (.ref a) _ _ E2 (.ref Mp.put_same) (A.hr.alloc hn new)
theorem HR.err {m : Mp} {H : Hp} {h : Hh} (R : HR X.K X.mg X.w m h H) {l : Nat} {a : Addr} {c : Str} {fs : List (Str × T)} (e : m l = some a) (hl : h[l]? = some (.err c fs)) : ∃ C d, X.mg c = some (.ref C) ∧ H a = some (exo a C d) ∧ ((d = none ∧ fs = []) ∨ ∃ dd fv, d = some dd ∧ H dd = some (.xd fv) ∧ RF X.K X.mg m H fs fv) := by
  obtain ⟨b, e1, r⟩ := R.ob l _ hl
  rw [e] at e1; cases e1
  exact r
theorem de_fldE {XS : XSub} {FL : List Str} {f : Str} (A0 : XfAll X.K X.mg XS FL) (hf : f ∈ FL) (ha : DE X P W e se) (hb : attributeBase e f X.env (eval e X.env) = eval e X.env := by rfl) : DE X P W (.Attribute e f pos) (s1 (oFldE XS f) se) :=
  PE.imp (pe_errF ha hb) fun σV H Q h => by
    refine tG.mono (fun v H1 hq => ?_) (one (nx_fldE XS f) h)
    obtain ⟨m, h, t, r, R, o⟩ := hq
    unfold oFldE at o
    split at o
    · rename_i l
      split at o
      · rename_i c fs el
        split at o
        · rename_i ss t e1 e2
          cases r with
          | ref em =>
            rename_i a
            obtain ⟨C, d, hm, eo, hd⟩ := HR.err R em el
            rcases hd with ⟨_, z⟩ | ⟨dd, fv, hdd, ex, rf⟩
            · rw [z] at e2; cases e2
            · subst hdd
              obtain ⟨v, hv, rv⟩ := rf.lookup e2
              obtain ⟨C', hC, xc, _, hno⟩ := A0 c ss _ e1 hm
              cases hC
              exact ⟨a, C, dd, fv, v, rfl, eo, xc, hno f hf, ex, hv, o v m H1 (Ext.refl _ _) rv R⟩
        · exact False.elim o
      · exact False.elim o
    · exact False.elim o
theorem de_isX {XS : XSub} {FL : List Str} {cv : Addr} (A0 : XfAll X.K X.mg XS FL) (I0 : IsAll X.K X.mg XS x cv) (hg : Gl X "isinstance") (hm : X.mg "isinstance" = none) (hgx : Gl X x) (hmx : X.mg x = some (.ref cv)) (ha : DE X P W e se)
    (hdx : (x == ("__debug__" : Str)) = false := by decide) (he : starEach [e, .Name x p2] X.env = (false, eval e X.env) :: starEach [.Name x p2] X.env := by rfl) (hpl : (backTo pos (starEach [.Name x p2] X.env)).any (·.1) = false := by rfl) (hs2 : starEach [.Name x p2] X.env = (false, eval (.Name x p2) X.env) :: starEach [] X.env := by rfl) :
    DE X P W (.Call (.Name "isinstance" p) [e, .Name x p2] [] pos) (s1 (oIsX XS x) se) :=
  PE.imp (pe_callB call_isV hg hm boot_isinstance (pa_cons ha (pa_cons (pe_glob (v := .ref cv) hgx hmx rfl hdx) pa_nil hs2) he) (by decide) (by decide) he hpl) fun σV H Q h => by
    refine tG.mono (fun v H1 hq => ?_) (one (nx_isX XS x) h)
    obtain ⟨m, h, t, r, R, o⟩ := hq
    unfold oIsX at o
    split at o
    · rename_i l
      split at o
      · rename_i c fs el
        split at o
        · rename_i ss e1
          cases r with
          | ref em =>
            rename_i a
            obtain ⟨C, d, hmc, eo, hd⟩ := HR.err R em el
            obtain ⟨C', hC, _, xe, _⟩ := A0 c ss _ e1 hmc
            cases hC
            refine ⟨a, C, d, .ref cv, .ref cv, ss.contains x, rfl, eo, fun dd hdd => ?_, xe, fun u hu => hu, I0 c ss _ C e1 hmc rfl, o _ m H1 (Ext.refl _ _) (.bl _) R⟩
            rcases hd with ⟨z, _⟩ | ⟨dd', fv, z, ex, _⟩
            · rw [z] at hdd; cases hdd
            · rw [z] at hdd; cases hdd; exact ⟨fv, ex⟩
        · exact False.elim o
      · exact False.elim o
    · exact False.elim o
theorem de_isVE {XS : XSub} {FL : List Str} (A0 : XfAll X.K X.mg XS FL) (I0 : IsVEAll X.K X.mg XS) (hg : Gl X "isinstance") (hm : X.mg "isinstance" = none) (hgx : Gl X "ValueError") (hmx : X.mg "ValueError" = none) (ha : DE X P W e se)
    (he : starEach [e, .Name "ValueError" p2] X.env = (false, eval e X.env) :: starEach [.Name "ValueError" p2] X.env := by rfl) (hpl : (backTo pos (starEach [.Name "ValueError" p2] X.env)).any (·.1) = false := by rfl) (hs2 : starEach [.Name "ValueError" p2] X.env = (false, eval (.Name "ValueError" p2) X.env) :: starEach [] X.env := by rfl) :
    DE X P W (.Call (.Name "isinstance" p) [e, .Name "ValueError" p2] [] pos) (s1 (oIsVE XS) se) :=
  PE.imp (pe_callB call_isV hg hm boot_isinstance (pa_cons ha (pa_cons (pe_bltn (v := .ty "ValueError") hgx hmx PyProof.Rows.Boot.«ValueError» rfl (by decide) (by decide)) pa_nil hs2) he) (by decide) (by decide) he hpl) fun σV H Q h => by
    refine tG.mono (fun v H1 hq => ?_) (one (nx_isVE XS) h)
    obtain ⟨m, h, t, r, R, o⟩ := hq
    unfold oIsVE at o
    split at o
    · rename_i l
      split at o
      · rename_i c fs el
        split at o
        · rename_i ss e1
          cases r with
          | ref em =>
            rename_i a
            obtain ⟨C, d, hmc, eo, hd⟩ := HR.err R em el
            obtain ⟨C', hC, _, xe, _⟩ := A0 c ss _ e1 hmc
            cases hC
            refine ⟨a, C, d, .ty "ValueError", .type "ValueError", true, rfl, eo, fun dd hdd => ?_, xe, fun u hu => hu, I0 c ss C e1 hmc, o _ m H1 (Ext.refl _ _) (.bl _) R⟩
            rcases hd with ⟨z, _⟩ | ⟨dd', fv, z, ex, _⟩
            · rw [z] at hdd; cases hdd
            · rw [z] at hdd; cases hdd; exact ⟨fv, ex⟩
        · exact False.elim o
      · exact False.elim o
    · exact False.elim o
end
@[simp] theorem e_sMkE (c : Str) (ns : List Str) (a : SA) (σ : St3) (h : Hh) : sMkE c ns a σ h = (a σ h).bind fun xs h1 => if xs.length = ns.length then W3.alloc (.err c (ns.zip xs).reverse) h1 else .stk := Eq.trans rfl rfl
@[simp] theorem e_sMkE0 (c : Str) (σ : St3) (h : Hh) : sMkE0 c σ h = W3.alloc (.err c []) h := Eq.trans rfl rfl
noncomputable def oMulR (x y : T) (h : Hh) : Res T :=
  match x, y with
  | .ref l, .int k => (match lstAt h l with
    | some ts => if 1 ≤ k ∧ k ≤ 1000 ∧ ts.length ≤ 1000 then W3.alloc (.lst (List.replicate k.toNat ts).flatten) h else .stk
    | none => .stk)
  | x, y => oMulT x y h
theorem nx_mulR : NoX2 oMulR := fun x y h c fs h' e => by
  unfold oMulR at e
  split at e
  · repeat (first | cases e | split at e)
  · exact nx_mulT _ _ h c fs h' e
theorem os_mulR {X : Cx} : OpR X (binaryOp .Mult) (rP2 X.K X.mg X.w oMulR) := by
  intro pins s σ H x y v u Q I rx ry ⟨m, h, tx, ty, r1, r2, R, o⟩
  unfold oMulR at o
  split at o
  · rename_i l k
    split at o
    · rename_i ts el
      split at o
      · rename_i hk
        obtain ⟨k1, k2, k3⟩ := hk
        cases r2
        cases r1 with
        | ref em =>
          obtain ⟨vs, eH, rr⟩ := R.lst em el
          have hl := rr.length
          refine op_rep pins s σ H _ _ v u Q I rx ry ⟨_, k, vs, rfl, rfl, eH, by omega, by omega, ?_, fun p hp => OutP.newLst R (rr.rep k.toNat) o hp⟩
          have hz : sizeLine = 16777216 := sizeLine_eq
          have h1 : k.toNat ≤ 1000 := by omega
          have h2 : vs.length ≤ 1000 := by omega
          have := Nat.mul_le_mul h2 h1
          omega
      · exact False.elim o
    · exact False.elim o
  · exact os_mulT pins s σ H x y v u Q I rx ry ⟨m, h, _, _, r1, r2, R, o⟩
@[simp] theorem e_mulR_l (l : Nat) (k : Int) (h : Hh) : oMulR (.ref l) (.int k) h = match lstAt h l with
    | some ts => if 1 ≤ k ∧ k ≤ 1000 ∧ ts.length ≤ 1000 then W3.alloc (.lst (List.replicate k.toNat ts).flatten) h else .stk
    | none => .stk := Eq.trans rfl rfl
def GAll (mg : Str → Option Value) : List (Str × List Str × Addr) → Prop
  | [] => True
  | p :: r => mg p.1 = some (.ref p.2.2) ∧ GAll mg r
theorem GAll.at {mg : Str → Option Value} : ∀ {cs : List (Str × List Str × Addr)}, GAll mg cs → ∀ p ∈ cs, mg p.1 = some (.ref p.2.2)
  | _ :: _, g, p, hp => by
    rcases List.mem_cons.mp hp with rfl | hp
    · exact g.1
    · exact g.2.at p hp
theorem lookup_memX {XS : XSub} {c : Str} {ss : List Str} (h : XS.lookup c = some ss) : (c, ss) ∈ XS := by
  induction XS with
  | nil => cases h
  | cons p r ih =>
    obtain ⟨d, us⟩ := p
    simp only [List.lookup] at h
    split at h
    · rename_i e
      cases h
      rw [beq_iff_eq] at e
      subst e
      exact .head _
    · exact .tail _ (ih h)
theorem isall_b {K : PySem.W.Frag} {mg : Str → Option Value} {XS : XSub} {cs : List (Str × List Str × Addr)} {ts : List (Str × Addr)} (hcs : cs.map (fun p => (p.1, p.2.1)) = XS) (hg : GAll mg cs) (hb : kitAllB K cs ts = true) {x : Str} {cv : Addr} (hx : (x, cv) ∈ ts) : IsAll K mg XS x cv := by
  intro c ss cls C hl hm hc
  subst hc
  have hm1 := lookup_memX hl
  rw [← hcs] at hm1
  obtain ⟨p, hp, e⟩ := List.mem_map.mp hm1
  cases e
  have h1 := hg.at p hp
  rw [hm] at h1
  cases h1
  exact of_decide_eq_true (List.all_eq_true.mp (List.all_eq_true.mp hb p hp) _ hx)
theorem isve_b {K : PySem.W.Frag} {mg : Str → Option Value} {XS : XSub} {cs : List (Str × List Str × Addr)} (hcs : cs.map (fun p => (p.1, p.2.1)) = XS) (hg : GAll mg cs) (hb : kitVB K cs = true) : IsVEAll K mg XS := by
  intro c ss C hl hm
  have hm1 := lookup_memX hl
  rw [← hcs] at hm1
  obtain ⟨p, hp, e⟩ := List.mem_map.mp hm1
  cases e
  have h1 := hg.at p hp
  rw [hm] at h1
  cases h1
  exact of_decide_eq_true (List.all_eq_true.mp hb p hp)
end W3
end

section
namespace LW
open PySem W3
noncomputable section
def CS : List (Str × List Str) := []
def XS : XSub := [("InvalidForm", ["InvalidForm", "ShownError"]), ("InvalidDeed", ["InvalidDeed", "ShownError"]), ("InvalidChange", ["InvalidChange", "ShownError"]), ("InvalidBound", ["InvalidBound", "ShownError"]), ("InvalidRule", ["InvalidRule", "ShownError"]), ("InvalidKind", ["InvalidKind", "ShownError"]), ("LimitExceeded", ["LimitExceeded", "ShownError"]), ("InvalidWords", ["InvalidWords", "ShownError"]), ("InvalidText", ["InvalidText", "ShownError"]), ("InvalidTable", ["InvalidTable", "ShownError"]), ("NotComparable", ["NotComparable", "ShownError"]), ("NoFault", ["NoFault", "ShownError"]), ("UnknownWord", ["UnknownWord", "ShownError"]), ("UnknownField", ["UnknownField", "ShownError"]), ("TooManyAsked", ["TooManyAsked", "ShownError"]), ("InvalidStanding", ["InvalidStanding", "ShownError"]), ("InvalidRules", ["InvalidRules", "ShownError"]), ("NothingToRedo", ["NothingToRedo", "ShownError"]), ("NoStanding", ["NoStanding", "ShownError"]), ("NothingToUndo", ["NothingToUndo", "ShownError"])]
def FL : List Str := ["part", "deed", "index", "value", "line", "kind", "limit", "words", "word", "field"]
structure FF where
  _law_mix : List T → Hh → Res T
  _law_box : List T → Hh → Res T
  _law_draw : List T → Hh → Res T
  _law_same : List T → Hh → Res T
  _law_classes : List T → Hh → Res T
  _law_errors : List T → Hh → Res T
  _law_held : List T → Hh → Res T
  law : List T → Hh → Res T
def b__law_mix_2 (F : FF) : SS :=
  ssCons (ssRet (s2 oMod (s2 oMul (sVar 2) (s2 oAdd (s2 oDiv (sVar 2) (sC (.int 2003))) (sC (.int 40692)))) (sC (.int 2147483399))))
  (ssNil)
def b__law_mix_1 (F : FF) : SS :=
  ssCons (ssAsg (s2 oMod (s2 oMul (sVar 2) (s2 oAdd (s2 oDiv (sVar 2) (sC (.int 1009))) (sC (.int 69621)))) (sC (.int 2147483647))) (sgName 2))
  (b__law_mix_2 F)
def b__law_mix (F : FF) : SS :=
  ssCons (ssAsg (s2 oMod (s2 oMul (s2 oAdd (s2 oAdd (sCl bInt (saCons (sVar 0) (saNil))) (s2 oMul (sC (.int 7919)) (sVar 1))) (sC (.int 1))) (sC (.int 48271))) (sC (.int 2147483647))) (sgName 2))
  (b__law_mix_1 F)
def b__law_box_3 (F : FF) : SS :=
  ssCons (ssAsg (sCl (arN 2 F._law_mix) (saCons (s2 oAdd (sVar 3) (sVar 2)) (saCons (sC (.int 3)) (saNil)))) (sgName 3))
  (ssNil)
def b__law_box_4 (F : FF) : SS :=
  ssCons (ssRet (sLst (saCons (sVar 1) (saCons (sC (.int 0)) (saCons (sC (.int 0)) (saCons (sVar 3) (saCons (sC (.int 0)) (saNil))))))))
  (ssNil)
def b__law_box_2 (F : FF) : SS :=
  ssCons (ssFor (siE (sVar 1)) (sgName 2)
  (b__law_box_3 F))
  (b__law_box_4 F)
def b__law_box_1 (F : FF) : SS :=
  ssCons (ssAsg (sC (.int 11)) (sgName 3))
  (b__law_box_2 F)
def b__law_box (F : FF) : SS :=
  ssCons (ssAsg (sLc (saLc (siE (sSl (sVar 0) (soNone) (soSome (sC (.int 63))))) (sgName 2) (stYes) (sCl bInt (saCons (sVar 2) (saNil))) [2])) (sgName 1))
  (b__law_box_1 F)
def b__law_draw_5 (F : FF) : SS :=
  ssCons (ssRet (s2 oMod (sCl bInt (saCons (sCl (arN 2 F._law_mix) (saCons (sVar 2) (saCons (s2 oIx (sVar 0) (sC (.int 4))) (saNil)))) (saNil))) (sVar 1)))
  (ssNil)
def b__law_draw_6 (F : FF) : SS :=
  ssCons (ssSub (sVar 0) (sC (.int 2)) (sVar 2))
  (ssNil)
def b__law_draw_4 (F : FF) : SS :=
  ssCons (ssIf (sT (s2 oLt (sVar 2) (s2 oPow (sC (.int 10)) (sC (.int 18)))))
   (b__law_draw_5 F)
   (ssNil))
  (b__law_draw_6 F)
def b__law_draw_3 (F : FF) : SS :=
  ssCons (ssSub (sVar 0) (sC (.int 1)) (s2 oAdd (s2 oIx (sVar 0) (sC (.int 1))) (sC (.int 1))))
  (b__law_draw_4 F)
def b__law_draw_2 (F : FF) : SS :=
  ssCons (ssAsg (s2 oIx (s2 oIx (sVar 0) (sC (.int 0))) (s2 oIx (sVar 0) (sC (.int 1)))) (sgName 2))
  (b__law_draw_3 F)
def b__law_draw_8 (F : FF) : SS :=
  ssCons (ssRet (s2 oMod (sCl bInt (saCons (sCl (arN 2 F._law_mix) (saCons (s2 oIx (sVar 0) (sC (.int 3))) (saCons (s2 oIx (sVar 0) (sC (.int 4))) (saNil)))) (saNil))) (sVar 1)))
  (ssNil)
def b__law_draw_11 (F : FF) : SS :=
  ssCons (ssRet (sVar 3))
  (ssNil)
def b__law_draw_10 (F : FF) : SS :=
  ssCons (ssSub (sVar 0) (sC (.int 2)) (s2 oDiv (sCl bInt (saCons (s2 oIx (sVar 0) (sC (.int 2))) (saNil))) (sVar 1)))
  (b__law_draw_11 F)
def b__law_draw_9 (F : FF) : SS :=
  ssCons (ssAsg (s2 oMod (sCl bInt (saCons (s2 oIx (sVar 0) (sC (.int 2))) (saNil))) (sVar 1)) (sgName 3))
  (b__law_draw_10 F)
def b__law_draw_7 (F : FF) : SS :=
  ssCons (ssIf (sT (s2 oEq (s2 oIx (sVar 0) (sC (.int 2))) (sC (.int 0))))
  (b__law_draw_8 F)
  (ssNil))
  (b__law_draw_9 F)
def b__law_draw_1 (F : FF) : SS :=
  ssCons (ssIf (stAnd (sT (s2 oEq (s2 oIx (sVar 0) (sC (.int 2))) (sC (.int 0)))) (sT (s2 oLt (s2 oIx (sVar 0) (sC (.int 1))) (sCl bLen (saCons (s2 oIx (sVar 0) (sC (.int 0))) (saNil))))))
  (b__law_draw_2 F)
  (ssNil))
  (b__law_draw_7 F)
def b__law_draw (F : FF) : SS :=
  ssCons (ssSub (sVar 0) (sC (.int 4)) (s2 oAdd (s2 oIx (sVar 0) (sC (.int 4))) (sC (.int 1))))
  (b__law_draw_1 F)
def b__law_same_2 (F : FF) : SS :=
  ssCons (ssRet (sC (.bl false)))
  (ssNil)
def b__law_same_4 (F : FF) : SS :=
  ssCons (ssRet (sC (.bl false)))
  (ssNil)
def b__law_same_5 (F : FF) : SS :=
  ssCons (ssRet (sOver bAll (saLc (siRange1 (saCons (sCl bLen (saCons (sVar 1) (saNil))) (saNil))) (sgName 2) (stYes) (sCl (arN 2 F._law_same) (saCons (s2 oIx (sVar 0) (sVar 2)) (saCons (s2 oIx (sVar 1) (sVar 2)) (saNil)))) [2])))
  (ssNil)
def b__law_same_3 (F : FF) : SS :=
  ssCons (ssIf (sT (s2 oNe (sCl bLen (saCons (sVar 0) (saNil))) (sCl bLen (saCons (sVar 1) (saNil)))))
   (b__law_same_4 F)
   (ssNil))
  (b__law_same_5 F)
def b__law_same_1 (F : FF) : SS :=
  ssCons (ssIf (stOr (sT (s2 oNe (s1 (oIsK .tuple) (sVar 1)) (s1 (oIsK .tuple) (sVar 0)))) (sT (s2 oNe (s1 (oIsK .list) (sVar 1)) (s1 (oIsK .list) (sVar 0)))))
   (b__law_same_2 F)
   (ssNil))
  (b__law_same_3 F)
def b__law_same_7 (F : FF) : SS :=
  ssCons (ssRet (s2 oIs (sVar 0) (sC .non)))
  (ssNil)
def b__law_same_9 (F : FF) : SS :=
  ssCons (ssRet (sIf (sT (s1 (oIsK .bool) (sVar 1))) (sIf (sT (s1 (oIsK .bool) (sVar 0))) (s2 oEq (sVar 1) (sVar 0)) (sC (.bl false))) (sC (.bl false))))
  (ssNil)
def b__law_same_11 (F : FF) : SS :=
  ssCons (ssRet (sIf (sT (s1 (oIsK .int) (sVar 0))) (s2 oEq (sVar 0) (sVar 1)) (sC (.bl false))))
  (ssNil)
def b__law_same_12 (F : FF) : SS :=
  ssCons (ssRet (sIf (sT (s1 (oIsK .str) (sVar 0))) (s2 oEq (sVar 0) (sVar 1)) (sC (.bl false))))
  (ssNil)
def b__law_same_10 (F : FF) : SS :=
  ssCons (ssIf (sT (s1 (oIsK .int) (sVar 1)))
  (b__law_same_11 F)
  (ssNil))
  (b__law_same_12 F)
def b__law_same_8 (F : FF) : SS :=
  ssCons (ssIf (stOr (sT (s1 (oIsK .bool) (sVar 1))) (sT (s1 (oIsK .bool) (sVar 0))))
  (b__law_same_9 F)
  (ssNil))
  (b__law_same_10 F)
def b__law_same_6 (F : FF) : SS :=
  ssCons (ssIf (sT (s2 oIs (sVar 1) (sC .non)))
  (b__law_same_7 F)
  (ssNil))
  (b__law_same_8 F)
def b__law_same (F : FF) : SS :=
  ssCons (ssIf (stOr (sT (s1 (oIsK .tuple) (sVar 1))) (sT (s1 (oIsK .list) (sVar 1))))
  (b__law_same_1 F)
  (ssNil))
  (b__law_same_6 F)
def b__law_classes_7 (F : FF) : SS :=
  ssCons (ssRet (s2 oAdd (sVar 1) (sLst (saCons (s1 (oIsX XS "UnknownField") (sVar 0)) (saCons (s1 (oIsX XS "UnknownWord") (sVar 0)) (saNil))))))
  (ssNil)
def b__law_classes_6 (F : FF) : SS :=
  ssCons (ssExpr (sMtL mExtend (sVar 1) (saCons (sLst (saCons (s1 (oIsX XS "NothingToUndo") (sVar 0)) (saCons (s1 (oIsX XS "TooManyAsked") (sVar 0)) (saNil)))) (saNil))))
  (b__law_classes_7 F)
def b__law_classes_5 (F : FF) : SS :=
  ssCons (ssExpr (sMtL mExtend (sVar 1) (saCons (sLst (saCons (s1 (oIsX XS "NotComparable") (sVar 0)) (saCons (s1 (oIsX XS "NothingToRedo") (sVar 0)) (saNil)))) (saNil))))
  (b__law_classes_6 F)
def b__law_classes_4 (F : FF) : SS :=
  ssCons (ssExpr (sMtL mExtend (sVar 1) (saCons (sLst (saCons (s1 (oIsX XS "LimitExceeded") (sVar 0)) (saCons (s1 (oIsX XS "NoFault") (sVar 0)) (saCons (s1 (oIsX XS "NoStanding") (sVar 0)) (saNil))))) (saNil))))
  (b__law_classes_5 F)
def b__law_classes_3 (F : FF) : SS :=
  ssCons (ssExpr (sMtL mExtend (sVar 1) (saCons (sLst (saCons (s1 (oIsX XS "InvalidTable") (sVar 0)) (saCons (s1 (oIsX XS "InvalidText") (sVar 0)) (saCons (s1 (oIsX XS "InvalidWords") (sVar 0)) (saNil))))) (saNil))))
  (b__law_classes_4 F)
def b__law_classes_2 (F : FF) : SS :=
  ssCons (ssExpr (sMtL mExtend (sVar 1) (saCons (sLst (saCons (s1 (oIsX XS "InvalidRules") (sVar 0)) (saCons (s1 (oIsX XS "InvalidStanding") (sVar 0)) (saNil)))) (saNil))))
  (b__law_classes_3 F)
def b__law_classes_1 (F : FF) : SS :=
  ssCons (ssExpr (sMtL mExtend (sVar 1) (saCons (sLst (saCons (s1 (oIsX XS "InvalidForm") (sVar 0)) (saCons (s1 (oIsX XS "InvalidKind") (sVar 0)) (saCons (s1 (oIsX XS "InvalidRule") (sVar 0)) (saNil))))) (saNil))))
  (b__law_classes_2 F)
def b__law_classes (F : FF) : SS :=
  ssCons (ssAsg (sLst (saCons (s1 (oIsX XS "InvalidBound") (sVar 0)) (saCons (s1 (oIsX XS "InvalidChange") (sVar 0)) (saCons (s1 (oIsX XS "InvalidDeed") (sVar 0)) (saNil))))) (sgName 1))
  (b__law_classes_1 F)
def b__law_errors_5 (F : FF) : SS :=
  ssCons (ssRet (sVar 2))
  (ssNil)
def b__law_errors_4 (F : FF) : SS :=
  ssCons (ssExpr (sMtL mExtend (sVar 2) (saCons (sLst (saCons (sMkE0 "NothingToUndo") (saCons (sMkE "TooManyAsked" ["field"] (saCons (sVar 0) (saNil))) (saCons (sMkE "UnknownField" ["field"] (saCons (sVar 0) (saNil))) (saCons (sMkE "UnknownWord" ["word"] (saCons (sVar 0) (saNil))) (saNil)))))) (saNil))))
  (b__law_errors_5 F)
def b__law_errors_3 (F : FF) : SS :=
  ssCons (ssExpr (sMtL mExtend (sVar 2) (saCons (sLst (saCons (sMkE "NoFault" ["kind", "field"] (saCons (sVar 0) (saCons (sVar 1) (saNil)))) (saCons (sMkE0 "NoStanding") (saCons (sMkE "NotComparable" ["part"] (saCons (sVar 0) (saNil))) (saCons (sMkE0 "NothingToRedo") (saNil)))))) (saNil))))
  (b__law_errors_4 F)
def b__law_errors_2 (F : FF) : SS :=
  ssCons (ssExpr (sMtL mExtend (sVar 2) (saCons (sLst (saCons (sMkE "InvalidTable" ["kind"] (saCons (sVar 0) (saNil))) (saCons (sMkE "InvalidText" ["line"] (saCons (sVar 0) (saNil))) (saCons (sMkE "InvalidWords" ["words"] (saCons (sVar 0) (saNil))) (saCons (sMkE "LimitExceeded" ["limit"] (saCons (sVar 0) (saNil))) (saNil)))))) (saNil))))
  (b__law_errors_3 F)
def b__law_errors_1 (F : FF) : SS :=
  ssCons (ssExpr (sMtL mExtend (sVar 2) (saCons (sLst (saCons (sMkE "InvalidKind" ["kind"] (saCons (sVar 0) (saNil))) (saCons (sMkE "InvalidRule" ["part"] (saCons (sVar 0) (saNil))) (saCons (sMkE0 "InvalidRules") (saCons (sMkE0 "InvalidStanding") (saNil)))))) (saNil))))
  (b__law_errors_2 F)
def b__law_errors (F : FF) : SS :=
  ssCons (ssAsg (sLst (saCons (sMkE "InvalidBound" ["value"] (saCons (sVar 0) (saNil))) (saCons (sMkE "InvalidChange" ["index"] (saCons (sVar 0) (saNil))) (saCons (sMkE "InvalidDeed" ["deed"] (saCons (sVar 0) (saNil))) (saCons (sMkE "InvalidForm" ["part", "field"] (saCons (sVar 0) (saCons (sVar 1) (saNil)))) (saNil)))))) (sgName 2))
  (b__law_errors_1 F)
def b__law_held_4 (F : FF) : SS :=
  ssCons (ssRet (sLst (saCons (sVar 1) (saCons (sLst (saCons (s1 (oFldE XS "field") (s2 oIx (sVar 0) (sC (.int 3)))) (saCons (s1 (oFldE XS "field") (s2 oIx (sVar 0) (sC (.int 12)))) (saNil)))) (saNil)))))
  (ssNil)
def b__law_held_3 (F : FF) : SS :=
  ssCons (ssExpr (sMtL mExtend (sVar 1) (saCons (sLst (saCons (s1 (oFldE XS "field") (s2 oIx (sVar 0) (sC (.int 17)))) (saCons (s1 (oFldE XS "field") (s2 oIx (sVar 0) (sC (.int 18)))) (saCons (s1 (oFldE XS "word") (s2 oIx (sVar 0) (sC (.int 19)))) (saNil))))) (saNil))))
  (b__law_held_4 F)
def b__law_held_2 (F : FF) : SS :=
  ssCons (ssExpr (sMtL mExtend (sVar 1) (saCons (sLst (saCons (s1 (oFldE XS "words") (s2 oIx (sVar 0) (sC (.int 10)))) (saCons (s1 (oFldE XS "limit") (s2 oIx (sVar 0) (sC (.int 11)))) (saCons (s1 (oFldE XS "kind") (s2 oIx (sVar 0) (sC (.int 12)))) (saCons (s1 (oFldE XS "part") (s2 oIx (sVar 0) (sC (.int 14)))) (saNil)))))) (saNil))))
  (b__law_held_3 F)
def b__law_held_1 (F : FF) : SS :=
  ssCons (ssExpr (sMtL mExtend (sVar 1) (saCons (sLst (saCons (s1 (oFldE XS "kind") (s2 oIx (sVar 0) (sC (.int 4)))) (saCons (s1 (oFldE XS "part") (s2 oIx (sVar 0) (sC (.int 5)))) (saCons (s1 (oFldE XS "kind") (s2 oIx (sVar 0) (sC (.int 8)))) (saCons (s1 (oFldE XS "line") (s2 oIx (sVar 0) (sC (.int 9)))) (saNil)))))) (saNil))))
  (b__law_held_2 F)
def b__law_held (F : FF) : SS :=
  ssCons (ssAsg (sLst (saCons (s1 (oFldE XS "value") (s2 oIx (sVar 0) (sC (.int 0)))) (saCons (s1 (oFldE XS "index") (s2 oIx (sVar 0) (sC (.int 1)))) (saCons (s1 (oFldE XS "deed") (s2 oIx (sVar 0) (sC (.int 2)))) (saCons (s1 (oFldE XS "part") (s2 oIx (sVar 0) (sC (.int 3)))) (saNil)))))) (sgName 1))
  (b__law_held_1 F)
def b_law_9 (F : FF) : SS :=
  ssCons (ssRet (sC (.bl false)))
  (ssNil)
def b_law_11 (F : FF) : SS :=
  ssCons (ssRet (sC (.bl false)))
  (ssNil)
def b_law_10 (F : FF) : SS :=
  ssCons (ssIf (stOr (stNot (sT (s1 (oIsX XS "ShownError") (s2 oIx (sVar 6) (sVar 7))))) (stNot (sT (s1 (oIsVE XS) (s2 oIx (sVar 6) (sVar 7))))))
    (b_law_11 F)
    (ssNil))
  (ssNil)
def b_law_8 (F : FF) : SS :=
  ssCons (ssIf (stNot (sT (sCl (arN 2 F._law_same) (saCons (sCl (arN 1 F._law_classes) (saCons (s2 oIx (sVar 6) (sVar 7)) (saNil))) (saCons (sVar 8) (saNil))))))
    (b_law_9 F)
    (ssNil))
  (b_law_10 F)
def b_law_7 (F : FF) : SS :=
  ssCons (ssAsg (sLc (saLc (siRange1 (saCons (sC (.int 20)) (saNil))) (sgName 9) (stYes) (s2 oEq (sVar 9) (sVar 7)) [9])) (sgName 8))
  (b_law_8 F)
def b_law_13 (F : FF) : SS :=
  ssCons (ssRet (sC (.bl false)))
  (ssNil)
def b_law_12 (F : FF) : SS :=
  ssCons (ssIf (stNot (sT (sCl (arN 2 F._law_same) (saCons (sCl (arN 1 F._law_held) (saCons (sVar 6) (saNil))) (saCons (sLst (saCons (s2 oMulR (sLst (saCons (sVar 4) (saNil))) (sC (.int 15))) (saCons (sLst (saCons (sVar 5) (saCons (sVar 5) (saNil)))) (saNil)))) (saNil))))))
   (b_law_13 F)
   (ssNil))
  (ssNil)
def b_law_6 (F : FF) : SS :=
  ssCons (ssFor (siRange1 (saCons (sC (.int 20)) (saNil))) (sgName 7)
   (b_law_7 F))
  (b_law_12 F)
def b_law_5 (F : FF) : SS :=
  ssCons (ssAsg (sCl (arN 2 F._law_errors) (saCons (sVar 4) (saCons (sVar 5) (saNil)))) (sgName 6))
  (b_law_6 F)
def b_law_4 (F : FF) : SS :=
  ssCons (ssAsg (s2 oIx (sVar 3) (sCl (arN 2 F._law_draw) (saCons (sVar 1) (saCons (sC (.int 14)) (saNil))))) (sgName 5))
  (b_law_5 F)
def b_law_3 (F : FF) : SS :=
  ssCons (ssAsg (s2 oIx (sVar 3) (sCl (arN 2 F._law_draw) (saCons (sVar 1) (saCons (sC (.int 14)) (saNil))))) (sgName 4))
  (b_law_4 F)
def b_law_2 (F : FF) : SS :=
  ssCons (ssAsg (sLst (saCons (sC (.str "near")) (saCons (sC (.str "")) (saCons (sC (.int 0)) (saCons (sC (.int 7)) (saCons (s1 oNeg (sC (.int 1))) (saCons (s2 oPow (sC (.int 10)) (sC (.int 20))) (saCons (sC (.bl true)) (saCons (sC (.bl false)) (saCons (sC .non) (saCons (sTup (saNil)) (saCons (sTup (saCons (sC (.str "a")) (saCons (sC (.int 1)) (saNil)))) (saCons (sLst (saCons (sC (.str "a")) (saNil))) (saCons (sTup (saCons (sTup (saCons (sC (.str "b")) (saNil))) (saNil))) (saCons (sC (.str "room")) (saNil)))))))))))))))) (sgName 3))
  (b_law_3 F)
def b_law_14 (F : FF) : SS :=
  ssCons (ssRet (sC (.bl true)))
  (ssNil)
def b_law_1 (F : FF) : SS :=
  ssCons (ssFor (siRange1 (saCons (sC (.int 4)) (saNil))) (sgName 2)
  (b_law_2 F))
  (b_law_14 F)
def b_law (F : FF) : SS :=
  ssCons (ssAsg (sCl (arN 1 F._law_box) (saCons (sVar 0) (saNil))) (sgName 1))
  (b_law_1 F)
def FF.stk : FF := ⟨fun _ _ => .stk, fun _ _ => .stk, fun _ _ => .stk, fun _ _ => .stk, fun _ _ => .stk, fun _ _ => .stk, fun _ _ => .stk, fun _ _ => .stk⟩
def stepF (F : FF) : FF where
  _law_mix := defRun 3 (b__law_mix F)
  _law_box := defRun 4 (b__law_box F)
  _law_draw := defRun 4 (b__law_draw F)
  _law_same := defRun 3 (b__law_same F)
  _law_classes := defRun 2 (b__law_classes F)
  _law_errors := defRun 3 (b__law_errors F)
  _law_held := defRun 2 (b__law_held F)
  law := defRun 10 (b_law F)
def runF : Nat → FF
  | 0 => FF.stk
  | k + 1 => stepF (runF k)
end
end LW
end

section
namespace LW
open PySem W3
def EN : List Str := ["InvalidBound", "InvalidChange", "InvalidDeed", "InvalidForm", "InvalidKind", "InvalidRule", "InvalidRules", "InvalidStanding", "InvalidTable", "InvalidText", "InvalidWords", "LimitExceeded", "NoFault", "NoStanding", "NotComparable", "NothingToRedo", "NothingToUndo", "TooManyAsked", "UnknownField", "UnknownWord"]
def E20 (one two : T) : List Ob := [.err "InvalidBound" [("value", one)], .err "InvalidChange" [("index", one)], .err "InvalidDeed" [("deed", one)], .err "InvalidForm" [("field", two), ("part", one)], .err "InvalidKind" [("kind", one)], .err "InvalidRule" [("part", one)], .err "InvalidRules" [], .err "InvalidStanding" [], .err "InvalidTable" [("kind", one)], .err "InvalidText" [("line", one)], .err "InvalidWords" [("words", one)], .err "LimitExceeded" [("limit", one)], .err "NoFault" [("field", two), ("kind", one)], .err "NoStanding" [], .err "NotComparable" [("part", one)], .err "NothingToRedo" [], .err "NothingToUndo" [], .err "TooManyAsked" [("field", one)], .err "UnknownField" [("field", one)], .err "UnknownWord" [("word", one)]]
def ErrsAt (h : Hh) (ls : List Nat) (one two : T) : Prop := ls.map (fun l => h[l]?) = (E20 one two).map some
theorem ErrsAt.app {h : Hh} {ls : List Nat} {one two : T} (e : ErrsAt h ls one two) (z : Hh) : ErrsAt (h ++ z) ls one two := by
  unfold ErrsAt at *
  rw [← e]
  refine List.map_congr_left fun l hl => ?_
  have : some (h[l]?) ∈ (ls.map (fun l => h[l]?)).map some := List.mem_map.mpr ⟨_, List.mem_map.mpr ⟨l, hl, rfl⟩, rfl⟩
  have hm : h[l]? ∈ ls.map (fun l => h[l]?) := List.mem_map.mpr ⟨l, hl, rfl⟩
  rw [e] at hm
  obtain ⟨u, _, eu⟩ := List.mem_map.mp hm
  have hlt : l < h.length := (List.getElem?_eq_some_iff.mp eu.symm).1
  exact List.getElem?_append_left hlt
def ErrsW (f : Fn) : Prop := ∀ {h : Hh} {one two : T} {Q : T → Hh → Prop} {E : EQ}, (∀ r ls z, h.length ≤ r → lstAt (h ++ z) r = some (ls.map T.ref) → ErrsAt (h ++ z) ls one two → Q (.ref r) (h ++ z)) → (f [one, two] h).wp Q E
theorem ok_errors {F : FF} : ErrsW (defRun 3 (b__law_errors F)) := by
  intro h one two Q E hq
  have hsz := sz
  have big : ∀ n : Nat, n ≤ 1000 → n ≤ sizeLine := fun n hn => by omega
  simp [b__law_errors, b__law_errors_1, b__law_errors_2, b__law_errors_3, b__law_errors_4, b__law_errors_5, W3.alloc, big, isL, Nat.add_assoc]
  refine hq (h.length + 4) [h.length, h.length + 1, h.length + 2, h.length + 3, h.length + 5, h.length + 6, h.length + 7, h.length + 8, h.length + 10, h.length + 11, h.length + 12, h.length + 13, h.length + 15, h.length + 16, h.length + 17, h.length + 18, h.length + 20, h.length + 21, h.length + 22, h.length + 23] _ (by omega) (by simp) ?_
  unfold ErrsAt E20
  simp [List.getElem?_append_right]
def ClsW (f : Fn) : Prop := ∀ {h : Hh} {l : Nat} {c : Str} {fs : List (Str × T)} {ss : List Str} {Q : T → Hh → Prop} {E : EQ}, h[l]? = some (.err c fs) → XS.lookup c = some ss → (∀ r z, h.length ≤ r → lstAt (h ++ z) r = some (EN.map fun n => T.bl (ss.contains n)) → Q (.ref r) (h ++ z)) → (f [.ref l] h).wp Q E
theorem isx_of {h : Hh} {l : Nat} {c : Str} {fs : List (Str × T)} {ss : List Str} (e : h[l]? = some (.err c fs)) (hs : XS.lookup c = some ss) (n : Str) : oIsX XS n (.ref l) h = .ok (.bl (ss.contains n)) h := by
  unfold oIsX
  simp only [e, hs]
theorem isve_of {h : Hh} {l : Nat} {c : Str} {fs : List (Str × T)} {ss : List Str} (e : h[l]? = some (.err c fs)) (hs : XS.lookup c = some ss) : oIsVE XS (.ref l) h = .ok (.bl true) h := by
  unfold oIsVE
  simp only [e, hs]
theorem flde_of {h : Hh} {l : Nat} {c f : Str} {fs : List (Str × T)} {ss : List Str} {t : T} (e : h[l]? = some (.err c fs)) (hs : XS.lookup c = some ss) (hf : fs.lookup f = some t) : oFldE XS f (.ref l) h = .ok t h ∧ ∀ z, oFldE XS f (.ref l) (h ++ z) = .ok t (h ++ z) := by
  have key : ∀ g : Hh, g[l]? = some (.err c fs) → oFldE XS f (.ref l) g = .ok t g := fun g e => by
    unfold oFldE
    simp only [e, hs, hf]
  exact ⟨key _ e, fun z => key _ (ext_app h z _ _ e)⟩
theorem ok_classes {F : FF} : ClsW (defRun 2 (b__law_classes F)) := by
  intro h l c fs ss Q E e hs hq
  have hsz := sz
  have big : ∀ n : Nat, n ≤ 1000 → n ≤ sizeLine := fun n hn => by omega
  have i0 := isx_of e hs
  have iz := fun z => isx_of (ext_app h z _ _ e) hs
  generalize ss.contains = cn at *
  simp [b__law_classes, b__law_classes_1, b__law_classes_2, b__law_classes_3, b__law_classes_4, b__law_classes_5, b__law_classes_6, b__law_classes_7, W3.alloc, big, isL, Nat.add_assoc, i0, iz]
  refine hq (h.length + 8) _ (by omega) ?_
  unfold EN
  simp
end LW
end

section
namespace LW
open PySem W3
def HeldW (f : Fn) : Prop := ∀ {h : Hh} {r : Nat} {ls : List Nat} {one two : T} {Q : T → Hh → Prop} {E : EQ}, lstAt h r = some (ls.map T.ref) → ErrsAt h ls one two → (∀ a b c z, lstAt (h ++ z) a = some [.ref b, .ref c] → lstAt (h ++ z) b = some (List.replicate 15 one) → lstAt (h ++ z) c = some [two, two] → Q (.ref a) (h ++ z)) → (f [.ref r] h).wp Q E
theorem xs_at : ∀ k, k < 20 → XS.lookup (EN.getD k "") = some [EN.getD k "", "ShownError"] ∧ (EN.map fun n => ([EN.getD k "", "ShownError"] : List Str).contains n) = ((List.range 20).map fun j => decide (j = k)) ∧ ([EN.getD k "", "ShownError"] : List Str).contains "ShownError" = true := by decide +kernel
theorem ok_held {F : FF} : HeldW (defRun 2 (b__law_held F)) := by
  intro h r ls one two Q E er es hq
  have hsz := sz
  have big : ∀ n : Nat, n ≤ 1000 → n ≤ sizeLine := fun n hn => by omega
  have ll : ls.length = 20 := by
    have := congrArg List.length es
    simpa [E20] using this
  match ls, ll with
  | [l0, l1, l2, l3, l4, l5, l6, l7, l8, l9, l10, l11, l12, l13, l14, l15, l16, l17, l18, l19], _ =>
    unfold ErrsAt E20 at es
    simp only [List.map_cons, List.map_nil, List.cons.injEq, and_true] at es
    obtain ⟨e0, e1, e2, e3, e4, e5, e6, e7, e8, e9, e10, e11, e12, e13, e14, e15, e16, e17, e18, e19⟩ := es
    simp only [List.map_cons, List.map_nil] at er
    have f0 := flde_of (t := one) e0 (xs_at 0 (by omega)).1 (f := "value") (by kernel_rfl)
    have f1 := flde_of (t := one) e1 (xs_at 1 (by omega)).1 (f := "index") (by kernel_rfl)
    have f2 := flde_of (t := one) e2 (xs_at 2 (by omega)).1 (f := "deed") (by kernel_rfl)
    have f3 := flde_of (t := one) e3 (xs_at 3 (by omega)).1 (f := "part") (by kernel_rfl)
    have f4 := flde_of (t := one) e4 (xs_at 4 (by omega)).1 (f := "kind") (by kernel_rfl)
    have f5 := flde_of (t := one) e5 (xs_at 5 (by omega)).1 (f := "part") (by kernel_rfl)
    have f8 := flde_of (t := one) e8 (xs_at 8 (by omega)).1 (f := "kind") (by kernel_rfl)
    have f9 := flde_of (t := one) e9 (xs_at 9 (by omega)).1 (f := "line") (by kernel_rfl)
    have f10 := flde_of (t := one) e10 (xs_at 10 (by omega)).1 (f := "words") (by kernel_rfl)
    have f11 := flde_of (t := one) e11 (xs_at 11 (by omega)).1 (f := "limit") (by kernel_rfl)
    have f12 := flde_of (t := one) e12 (xs_at 12 (by omega)).1 (f := "kind") (by kernel_rfl)
    have f14 := flde_of (t := one) e14 (xs_at 14 (by omega)).1 (f := "part") (by kernel_rfl)
    have f17 := flde_of (t := one) e17 (xs_at 17 (by omega)).1 (f := "field") (by kernel_rfl)
    have f18 := flde_of (t := one) e18 (xs_at 18 (by omega)).1 (f := "field") (by kernel_rfl)
    have f19 := flde_of (t := one) e19 (xs_at 19 (by omega)).1 (f := "word") (by kernel_rfl)
    have f3b := flde_of (t := two) e3 (xs_at 3 (by omega)).1 (f := "field") (by kernel_rfl)
    have f12b := flde_of (t := two) e12 (xs_at 12 (by omega)).1 (f := "field") (by kernel_rfl)
    have a0 : L2.atI [T.ref l0, T.ref l1, T.ref l2, T.ref l3, T.ref l4, T.ref l5, T.ref l6, T.ref l7, T.ref l8, T.ref l9, T.ref l10, T.ref l11, T.ref l12, T.ref l13, T.ref l14, T.ref l15, T.ref l16, T.ref l17, T.ref l18, T.ref l19] 0 = some (.ref l0) := rfl
    have a1 : L2.atI [T.ref l0, T.ref l1, T.ref l2, T.ref l3, T.ref l4, T.ref l5, T.ref l6, T.ref l7, T.ref l8, T.ref l9, T.ref l10, T.ref l11, T.ref l12, T.ref l13, T.ref l14, T.ref l15, T.ref l16, T.ref l17, T.ref l18, T.ref l19] 1 = some (.ref l1) := rfl
    have a2 : L2.atI [T.ref l0, T.ref l1, T.ref l2, T.ref l3, T.ref l4, T.ref l5, T.ref l6, T.ref l7, T.ref l8, T.ref l9, T.ref l10, T.ref l11, T.ref l12, T.ref l13, T.ref l14, T.ref l15, T.ref l16, T.ref l17, T.ref l18, T.ref l19] 2 = some (.ref l2) := rfl
    have a3 : L2.atI [T.ref l0, T.ref l1, T.ref l2, T.ref l3, T.ref l4, T.ref l5, T.ref l6, T.ref l7, T.ref l8, T.ref l9, T.ref l10, T.ref l11, T.ref l12, T.ref l13, T.ref l14, T.ref l15, T.ref l16, T.ref l17, T.ref l18, T.ref l19] 3 = some (.ref l3) := rfl
    have a4 : L2.atI [T.ref l0, T.ref l1, T.ref l2, T.ref l3, T.ref l4, T.ref l5, T.ref l6, T.ref l7, T.ref l8, T.ref l9, T.ref l10, T.ref l11, T.ref l12, T.ref l13, T.ref l14, T.ref l15, T.ref l16, T.ref l17, T.ref l18, T.ref l19] 4 = some (.ref l4) := rfl
    have a5 : L2.atI [T.ref l0, T.ref l1, T.ref l2, T.ref l3, T.ref l4, T.ref l5, T.ref l6, T.ref l7, T.ref l8, T.ref l9, T.ref l10, T.ref l11, T.ref l12, T.ref l13, T.ref l14, T.ref l15, T.ref l16, T.ref l17, T.ref l18, T.ref l19] 5 = some (.ref l5) := rfl
    have a8 : L2.atI [T.ref l0, T.ref l1, T.ref l2, T.ref l3, T.ref l4, T.ref l5, T.ref l6, T.ref l7, T.ref l8, T.ref l9, T.ref l10, T.ref l11, T.ref l12, T.ref l13, T.ref l14, T.ref l15, T.ref l16, T.ref l17, T.ref l18, T.ref l19] 8 = some (.ref l8) := rfl
    have a9 : L2.atI [T.ref l0, T.ref l1, T.ref l2, T.ref l3, T.ref l4, T.ref l5, T.ref l6, T.ref l7, T.ref l8, T.ref l9, T.ref l10, T.ref l11, T.ref l12, T.ref l13, T.ref l14, T.ref l15, T.ref l16, T.ref l17, T.ref l18, T.ref l19] 9 = some (.ref l9) := rfl
    have a10 : L2.atI [T.ref l0, T.ref l1, T.ref l2, T.ref l3, T.ref l4, T.ref l5, T.ref l6, T.ref l7, T.ref l8, T.ref l9, T.ref l10, T.ref l11, T.ref l12, T.ref l13, T.ref l14, T.ref l15, T.ref l16, T.ref l17, T.ref l18, T.ref l19] 10 = some (.ref l10) := rfl
    have a11 : L2.atI [T.ref l0, T.ref l1, T.ref l2, T.ref l3, T.ref l4, T.ref l5, T.ref l6, T.ref l7, T.ref l8, T.ref l9, T.ref l10, T.ref l11, T.ref l12, T.ref l13, T.ref l14, T.ref l15, T.ref l16, T.ref l17, T.ref l18, T.ref l19] 11 = some (.ref l11) := rfl
    have a12 : L2.atI [T.ref l0, T.ref l1, T.ref l2, T.ref l3, T.ref l4, T.ref l5, T.ref l6, T.ref l7, T.ref l8, T.ref l9, T.ref l10, T.ref l11, T.ref l12, T.ref l13, T.ref l14, T.ref l15, T.ref l16, T.ref l17, T.ref l18, T.ref l19] 12 = some (.ref l12) := rfl
    have a14 : L2.atI [T.ref l0, T.ref l1, T.ref l2, T.ref l3, T.ref l4, T.ref l5, T.ref l6, T.ref l7, T.ref l8, T.ref l9, T.ref l10, T.ref l11, T.ref l12, T.ref l13, T.ref l14, T.ref l15, T.ref l16, T.ref l17, T.ref l18, T.ref l19] 14 = some (.ref l14) := rfl
    have a17 : L2.atI [T.ref l0, T.ref l1, T.ref l2, T.ref l3, T.ref l4, T.ref l5, T.ref l6, T.ref l7, T.ref l8, T.ref l9, T.ref l10, T.ref l11, T.ref l12, T.ref l13, T.ref l14, T.ref l15, T.ref l16, T.ref l17, T.ref l18, T.ref l19] 17 = some (.ref l17) := rfl
    have a18 : L2.atI [T.ref l0, T.ref l1, T.ref l2, T.ref l3, T.ref l4, T.ref l5, T.ref l6, T.ref l7, T.ref l8, T.ref l9, T.ref l10, T.ref l11, T.ref l12, T.ref l13, T.ref l14, T.ref l15, T.ref l16, T.ref l17, T.ref l18, T.ref l19] 18 = some (.ref l18) := rfl
    have a19 : L2.atI [T.ref l0, T.ref l1, T.ref l2, T.ref l3, T.ref l4, T.ref l5, T.ref l6, T.ref l7, T.ref l8, T.ref l9, T.ref l10, T.ref l11, T.ref l12, T.ref l13, T.ref l14, T.ref l15, T.ref l16, T.ref l17, T.ref l18, T.ref l19] 19 = some (.ref l19) := rfl
    have ez := fun z => lstAt_app z er
    generalize hL : [T.ref l0, T.ref l1, T.ref l2, T.ref l3, T.ref l4, T.ref l5, T.ref l6, T.ref l7, T.ref l8, T.ref l9, T.ref l10, T.ref l11, T.ref l12, T.ref l13, T.ref l14, T.ref l15, T.ref l16, T.ref l17, T.ref l18, T.ref l19] = L at *
    simp [b__law_held, b__law_held_1, b__law_held_2, b__law_held_3, b__law_held_4, W3.alloc, big, isL, Nat.add_assoc, er, ez, a0, a1, a2, a3, a4, a5, a8, a9, a10, a11, a12, a14, a17, a18, a19, f0.1, f0.2, f1.1, f1.2, f2.1, f2.2, f3.1, f3.2, f4.1, f4.2, f5.1, f5.2, f8.1, f8.2, f9.1, f9.2, f10.1, f10.2, f11.1, f11.2, f12.1, f12.2, f14.1, f14.2, f17.1, f17.2, f18.1, f18.2, f19.1, f19.2, f3b.1, f3b.2, f12b.1, f12b.2]
    exact hq (h.length + 5) h.length (h.length + 4) _ (by simp) (by simp) (by simp)
end LW
end

section
namespace LW
open PySem W3
theorem ok_mix (F : FF) : MixW (defRun 3 (b__law_mix F)) := by
  intro v k h Q E hq
  have e1 : ∀ x : Int, 0 ≤ x % 2147483647 ∧ x % 2147483647 < 2147483647 := fun x => by omega
  have q := e1 ((v + 7919 * k + 1) * 48271)
  simp [b__law_mix, b__law_mix_1, b__law_mix_2]
  rw [e_mul_l (by omega) (by omega)]
  simp
  have q := e1 (((v + 7919 * k + 1) * 48271 % 2147483647 * ((v + 7919 * k + 1) * 48271 % 2147483647 / 1009 + 69621)))
  rw [e_mul_l (by omega) (by omega)]
  simp [hq]
theorem ok_box {F : FF} (m : MixW F._law_mix) : BoxW (defRun 4 (b__law_box F)) := by
  intro ns h Q E hns hq
  obtain ⟨ms, em, hm⟩ := cut_ints ns none (some 63)
  simp [b__law_box, b__law_box_1, em]
  refine wp_lcm (ts := ms.map T.int) id (szle (by simp; omega)) lstAt_new (fun x hx => ?_) ?_
  · obtain ⟨n, _, rfl⟩ := List.mem_map.mp hx
    simp
  simp [b__law_box_1, b__law_box_2]
  refine wp_for (ts := ms.map T.int) (fun i σ h1 => (∃ a z, σ = [some (T.fl (List.map T.int ns)), some (T.ref (List.length h + 1)), a, some (T.int z)]) ∧ h1 = h ++ [Ob.lst (List.map T.int ms), Ob.lst (List.map T.int ms)])
    (fun i σ h1 q => by rw [q.2]; simp [Src.Is]) ⟨⟨_, _, rfl⟩, rfl⟩ (fun i x σ h1 ex q => ?_) (fun σ h1 q => ?_)
  · obtain ⟨⟨a, z, rfl⟩, rfl⟩ := q
    obtain ⟨n, rfl⟩ := map_int_get ex
    refine ⟨_, rfl, ?_⟩
    simp [b__law_box_3]
    refine m fun y => ?_
    simp
  · obtain ⟨⟨a, z, rfl⟩, rfl⟩ := q
    simp [sizeLine, b__law_box_4]
    refine hq _ _ ⟨h.length + 1, ms, 0, 0, z, 0, ?_, ?_, by omega, by omega⟩ (by simp) (fun k hk => ?_) (fun c hc => ?_)
    · simp [BoxL]
    · simp
    · rw [List.getElem?_append_left hk]
    · unfold BoxC at hc
      simp at hc
      omega
theorem ok_draw {F : FF} (M : MixW F._law_mix) : DrawW (defRun 4 (b__law_draw F)) := by
  intro h l m Q E hb h0 h1 hq
  obtain ⟨c, cells, i, d, s, n, e, e2, hi, hd⟩ := hb
  have hne := IsBox.ne e e2
  have hlt := lstAt_lt e
  unfold BoxL at e
  have ec : ∀ o, lstAt (List.set h l o) c = some (cells.map T.int) := fun o => by rw [lstAt_set_ne hne]; exact e2
  have key : ∀ i' d' s' n', 0 ≤ i' → 0 ≤ d' → Up l h (List.set h l (.lst [T.ref c, T.int i', T.int d', T.int s', T.int n'])) := fun i' d' s' n' q1 q2 =>
    ⟨by simp, fun k _ hk => List.getElem?_set_ne (Ne.symm hk), ⟨c, cells, i', d', s', n', lstAt_set_self hlt, ec _, q1, q2⟩, by unfold BoxC; rw [lstAt_set_self hlt, e]⟩
  have hmod : ∀ x : Int, 0 ≤ x % m ∧ x % m < m := fun x => ⟨Int.emod_nonneg _ (by omega), Int.emod_lt_of_pos _ h0⟩
  simp [b__law_draw, b__law_draw_1, b__law_draw_2, b__law_draw_3, b__law_draw_4, b__law_draw_5, b__law_draw_6, b__law_draw_7, b__law_draw_8, b__law_draw_9, b__law_draw_10, b__law_draw_11, e, hlt]
  by_cases hd0 : d = 0
  · subst hd0
    by_cases hi2 : i < cells.length
    · obtain ⟨x, ex, qx⟩ := atI_int (xs := cells.map T.int) hi (by simpa using hi2)
      obtain ⟨z, rfl⟩ := map_int_get qx
      simp [ec, hlt, hi2, ex, h0, h1]
      refine ⟨fun hz => M fun y => ?_, fun hz => ⟨fun hz0 => by omega, fun hz0 => ?_⟩⟩
      · simp [h0]
        exact hq _ _ (hmod _).1 (hmod _).2 (key _ _ _ _ (by omega) (by omega))
      · exact hq _ _ (hmod _).1 (hmod _).2 (key _ _ _ _ (by omega) (Int.ediv_nonneg (by omega) (by omega)))
    · simp [ec, hlt, hi2, h0]
      refine M fun y => ?_
      simp [h0]
      exact hq _ _ (hmod _).1 (hmod _).2 (key _ _ _ _ (by omega) (by omega))
  · simp [hd0, hlt, h0, h1]
    exact hq _ _ (hmod _).1 (hmod _).2 (key _ _ _ _ (by omega) (Int.ediv_nonneg (by omega) (by omega)))
end LW
end

section
namespace LW
open PySem W3
theorem ok_same0 (F : FF) : SameW 0 (defRun 3 (b__law_same F)) := by
  intro t u h ⟨e, hf⟩
  subst e
  apply eq_of_wp
  cases t <;> simp [flatT] at hf <;> simp [b__law_same, b__law_same_6, b__law_same_7, b__law_same_8, b__law_same_9, b__law_same_10, b__law_same_11, b__law_same_12]
theorem ok_same {F : FF} {n : Nat} (ih : SameW n F._law_same) : SameW (n + 1) (defRun 3 (b__law_same F)) := by
  intro t u h q
  rcases q with ⟨e, hf⟩ | ⟨ts, us, hk, hl, hz, hs⟩
  · exact ok_same0 F (h := h) ⟨e, hf⟩
  · have hsz := sz
    have key : (lcRun (.its (rangeT 0 (us.length : Int).toNat)) (sgName 2) stYes (sCl (arN 2 F._law_same) (saCons (s2 oIx (sVar 0) (sVar 2)) (saCons (s2 oIx (sVar 1) (sVar 2)) saNil))) [some t, some u, none] ((Src.its (rangeT 0 (us.length : Int).toNat)).len h) 0 [] h) = .ok ((rangeT 0 us.length).map fun _ => .bl true) h := by
      rw [show ((us.length : Int)).toNat = us.length by omega]
      refine lc_map (fun _ => .bl true) (szle (by simp; omega)) rfl fun x hx => ?_
      obtain ⟨i, ex⟩ := List.getElem?_of_mem hx
      obtain ⟨rfl, hi⟩ := range_at ex
      have e1 : us[i]? = some us[i] := by simp [hi]
      have e2 : ts[i]? = some ts[i] := by simp [show i < ts.length by omega]
      have a1 := atI_nat e1
      have a2 := atI_nat e2
      have st := ih (hs i _ _ e2 e1)
      refine ⟨_, rfl, ?_⟩
      rcases hk with ⟨rfl, rfl⟩ | ⟨k1, k2⟩
      · simp [a1, a2, st]
      · simp [k1.ix, k2.ix, a1, a2, st]
    apply eq_of_wp
    rcases hk with ⟨rfl, rfl⟩ | ⟨k1, k2⟩
    · simp [b__law_same, b__law_same_1, b__law_same_3, b__law_same_5, hl]
      rw [e_rng (by omega) (by omega)]
      simp
      simp at key
      rw [key]
      simp
    · simp [b__law_same, b__law_same_1, b__law_same_3, b__law_same_5, k1.isK, k2.isK, k1.len, k2.len, hl]
      rw [e_rng (by omega) (by omega)]
      simp
      simp at key
      rw [key]
      simp
def MenuV (h : Hh) (v : T) : Prop := PureT 2 v ∨ ∃ l, v = .ref l ∧ lstAt h l = some [.str "a"]
theorem MenuV.app {h : Hh} {v : T} (m : MenuV h v) (z : Hh) : MenuV (h ++ z) v := by
  rcases m with m | ⟨l, rfl, e⟩
  · exact .inl m
  · exact .inr ⟨l, rfl, lstAt_app z e⟩
theorem MenuV.up {l : Nat} {h h' : Hh} {v : T} (m : MenuV h v) (u : Up l h h') (hb : IsBox h l) : MenuV h' v := by
  rcases m with m | ⟨r, rfl, e⟩
  · exact .inl m
  · refine .inr ⟨r, rfl, u.lst e fun z => ?_⟩
    subst z
    obtain ⟨c, cells, i, d, s, n, e2, _⟩ := hb
    rw [e] at e2
    injection e2 with e2
    cases e2
theorem MenuV.same {h : Hh} {v : T} (m : MenuV h v) : SameV h 2 v v := by
  rcases m with m | ⟨l, rfl, e⟩
  · exact m.same
  · refine .inr ⟨[.str "a"], [.str "a"], .inr ⟨.inl ⟨_, rfl, e⟩, .inl ⟨_, rfl, e⟩⟩, rfl, by simp, fun i x y hx hy => ?_⟩
    rw [hx] at hy
    cases hy
    match i, hx with
    | 0, hx => cases hx; exact .inl ⟨rfl, rfl⟩
theorem same_lst {h : Hh} {n : Nat} {a b : Nat} {ts : List T} (ea : lstAt h a = some ts) (eb : lstAt h b = some ts) (hl : ts.length ≤ 100000) (hs : ∀ t ∈ ts, SameV h n t t) : SameV h (n + 1) (.ref a) (.ref b) := by
  refine .inr ⟨ts, ts, .inr ⟨.inl ⟨_, rfl, ea⟩, .inl ⟨_, rfl, eb⟩⟩, rfl, hl, fun i x y hx hy => ?_⟩
  rw [hx] at hy
  cases hy
  exact hs x (List.mem_of_getElem? hx)
def eqN (k : Nat) : T → T | .int j => .bl (decide (j = (k : Int))) | _ => .non
theorem range20 : rangeT 0 20 = (List.range 20).map fun j => T.int (j : Nat) := by
  simp [rangeT, List.range, List.range.loop]
theorem due_eq {k : Nat} (hk : k < 20) : (rangeT 0 20).map (eqN k) = EN.map fun n => T.bl (([EN.getD k "", "ShownError"] : List Str).contains n) := by
  have e := (xs_at k hk).2.1
  have e1 : (EN.map fun n => T.bl (([EN.getD k "", "ShownError"] : List Str).contains n)) = (EN.map fun n => ([EN.getD k "", "ShownError"] : List Str).contains n).map T.bl := by rw [List.map_map]; rfl
  rw [e1, e, range20, List.map_map, List.map_map]
  refine List.map_congr_left fun j _ => ?_
  show T.bl (decide (((j : Nat) : Int) = (k : Int))) = T.bl (decide (j = k))
  congr 1
  simp
  omega
theorem e20_at (one two : T) : ∀ k, k < 20 → ∃ fs, (E20 one two)[k]? = some (.err (EN.getD k "") fs) := by
  intro k hk
  match k, hk with
  | 0, _ => exact ⟨_, rfl⟩
  | 1, _ => exact ⟨_, rfl⟩
  | 2, _ => exact ⟨_, rfl⟩
  | 3, _ => exact ⟨_, rfl⟩
  | 4, _ => exact ⟨_, rfl⟩
  | 5, _ => exact ⟨_, rfl⟩
  | 6, _ => exact ⟨_, rfl⟩
  | 7, _ => exact ⟨_, rfl⟩
  | 8, _ => exact ⟨_, rfl⟩
  | 9, _ => exact ⟨_, rfl⟩
  | 10, _ => exact ⟨_, rfl⟩
  | 11, _ => exact ⟨_, rfl⟩
  | 12, _ => exact ⟨_, rfl⟩
  | 13, _ => exact ⟨_, rfl⟩
  | 14, _ => exact ⟨_, rfl⟩
  | 15, _ => exact ⟨_, rfl⟩
  | 16, _ => exact ⟨_, rfl⟩
  | 17, _ => exact ⟨_, rfl⟩
  | 18, _ => exact ⟨_, rfl⟩
  | 19, _ => exact ⟨_, rfl⟩
  | k + 20, h => exact absurd h (by omega)
theorem errs_at {h : Hh} {ls : List Nat} {one two : T} (es : ErrsAt h ls one two) {k : Nat} (hk : k < 20) : ∃ l fs, ls[k]? = some l ∧ h[l]? = some (.err (EN.getD k "") fs) := by
  obtain ⟨fs, e⟩ := e20_at one two k hk
  have := congrArg (fun xs => xs[k]?) es
  simp only [List.getElem?_map, e] at this
  cases hl : ls[k]? with
  | none => rw [hl] at this; cases this
  | some l =>
    rw [hl] at this
    exact ⟨l, fs, rfl, by simpa using this⟩
def M43 (la : Nat) : List T := [.str "near", .str "", .int 0, .int 7, .int (-1), .int 100000000000000000000, .bl true, .bl false, .non, .tup [], .tup [.str "a", .int 1], .ref la, .tup [.tup [.str "b"]], .str "room"]
theorem menu43 {h : Hh} {la : Nat} {v : T} (hv : v ∈ M43 la) (e : lstAt h la = some [.str "a"]) : MenuV h v := by
  unfold M43 at hv
  simp only [List.mem_cons, List.not_mem_nil, or_false] at hv
  rcases hv with rfl | rfl | rfl | rfl | rfl | rfl | rfl | rfl | rfl | rfl | rfl | rfl | rfl | rfl
  · exact .inl (.inl rfl)
  · exact .inl (.inl rfl)
  · exact .inl (.inl rfl)
  · exact .inl (.inl rfl)
  · exact .inl (.inl rfl)
  · exact .inl (.inl rfl)
  · exact .inl (.inl rfl)
  · exact .inl (.inl rfl)
  · exact .inl (.inl rfl)
  · exact .inl (PureT.tup (by simp) fun x hx => by cases hx)
  · exact .inl (pure_strs (fun t ht => by simp at ht; rcases ht with rfl | rfl <;> rfl) (by simp))
  · exact .inr ⟨_, rfl, e⟩
  · exact .inl (PureT.tup (by simp) fun x hx => by rw [List.mem_singleton] at hx; subst hx; exact pure_strs (n := 0) (fun t ht => by simp at ht; subst ht; rfl) (by simp))
  · exact .inl (.inl rfl)
def L43I (ns : List Int) (l : Nat) (i : Nat) (σ : St3) (h' : Hh) : Prop := (∃ a2 a3 a4 a5 a6 a7 a8 a9 : Option T, σ = [some (.fl (ns.map T.int)), some (.ref l), a2, a3, a4, a5, a6, a7, a8, a9]) ∧ IsBox h' l
def L43J (ns : List Int) (l r : Nat) (ls : List Nat) (one two : T) (i : Nat) (σ : St3) (h' : Hh) : Prop := (∃ a2 a3 a7 a8 a9 : Option T, σ = [some (.fl (ns.map T.int)), some (.ref l), a2, a3, some one, some two, some (.ref r), a7, a8, a9]) ∧ IsBox h' l ∧ lstAt h' r = some (ls.map T.ref) ∧ ErrsAt h' ls one two ∧ MenuV h' one ∧ MenuV h' two
theorem ok_law43 {F : FF} (B : BoxW F._law_box) (D : DrawW F._law_draw) (Sa : SameW 4 F._law_same) (Er : ErrsW F._law_errors) (Cl : ClsW F._law_classes) (He : HeldW F._law_held)
    {ns : List Int} (hns : ns.length ≤ 63) : (defRun 10 (b_law F) [.fl (ns.map T.int)] []).wp (fun a _ => a = .bl true) noE := by
  have hsz := sz
  have big : ∀ n : Nat, n ≤ 1000 → n ≤ sizeLine := fun n hn => by omega
  simp [wp_defRun, b_law]
  refine B hns fun l h0 bx0 _ _ _ => ?_
  simp [b_law_1]
  refine wp_for (ts := rangeT 0 4) (L43I ns l) (fun i σ h' q => rfl) ⟨⟨_, _, _, _, _, _, _, _, rfl⟩, bx0⟩ (fun i x σ h' hx q => ?_) (fun σ h' q => ?_)
  · obtain ⟨⟨a2, a3, a4, a5, a6, a7, a8, a9, rfl⟩, bx⟩ := q
    refine ⟨_, rfl, ?_⟩
    simp [b_law_2, W3.alloc, big]
    have e2 : lstAt (h' ++ [Ob.lst [T.str "a"], Ob.lst (M43 h'.length)]) h'.length = some [.str "a"] := by simp
    have e3 : lstAt (h' ++ [Ob.lst [T.str "a"], Ob.lst (M43 h'.length)]) (h'.length + 1) = some (M43 h'.length) := by simp
    have b2 := bx.app [Ob.lst [T.str "a"], Ob.lst (M43 h'.length)]
    have bl := bx.lt
    have go : ∀ (la rm : Nat) (g : Hh), la ≠ l → rm ≠ l → IsBox g l → lstAt g la = some [.str "a"] → lstAt g rm = some (M43 la) →
        (b_law_3 F [some (.fl (ns.map T.int)), some (.ref l), some x, some (.ref rm), a4, a5, a6, a7, a8, a9] g).wp (((FQ.df (fun a x => a = T.bl true) noE).seq (b_law_14 F)).loop (L43I ns l (i + 1))) := by
      intro la rm g hla hrm b2 e2 e3
      simp [b_law_3]
      refine D b2 (by omega) (by omega) fun d1 h3 d10 d11 u3 => ?_
      obtain ⟨one, eo, ho⟩ := atI_mem (xs := M43 la) d10 (by simpa [M43] using d11)
      have e2 := u3.lst e2 hla
      have e3 := u3.lst e3 hrm
      have b3 := u3.box
      have m1 := menu43 ho e2
      simp [e3, eo, b_law_4]
      refine D b3 (by omega) (by omega) fun d2 h4 d20 d21 u4 => ?_
      obtain ⟨two, et, ht⟩ := atI_mem (xs := M43 la) d20 (by simpa [M43] using d21)
      have m1 := m1.up u4 b3
      have e2 := u4.lst e2 hla
      have e3 := u4.lst e3 hrm
      have b4 := u4.box
      have m2 := menu43 ht e2
      simp [e3, et, b_law_5]
      clear e2 e3 eo ho et ht
      refine Er fun r ls z hr el es => ?_
      have m1 := m1.app z
      have m2 := m2.app z
      have b5 := b4.app z
      generalize h4 ++ z = h5 at *
      have ll : ls.length = 20 := by
        have := congrArg List.length es
        simpa [E20] using this
      simp [b_law_6]
      refine wp_for (ts := rangeT 0 20) (L43J ns l r ls one two) (fun i σ h' q => rfl) ⟨⟨_, _, _, _, _, rfl⟩, b5, el, es, m1, m2⟩ (fun k y σ h' hy q => ?_) (fun σ h' q => ?_)
      · obtain ⟨⟨a2, a3, a7, a8, a9, rfl⟩, b6, el, es, m1, m2⟩ := q
        obtain ⟨rfl, hk⟩ := range_at hy
        refine ⟨_, rfl, ?_⟩
        simp [b_law_7]
        have hz : (rangeT 0 20).length ≤ sizeLine := by rw [range_length]; omega
        have hI : Src.Is (.its (rangeT 0 20)) (rangeT 0 20) h' := rfl
        generalize hR : rangeT 0 20 = R at *
        refine wp_lcm (s := .its R) (ts := R) (eqN k) hz hI (fun t ht => ?_) ?_
        · rw [← hR] at ht
          obtain ⟨j, ej⟩ := List.getElem?_of_mem ht
          obtain ⟨rfl, hj⟩ := range_at ej
          refine ⟨_, rfl, ?_⟩
          simp [eqN]
        · rw [← hR, due_eq hk]
          clear hR hz hI
          obtain ⟨le, fs, e1, ee⟩ := errs_at es hk
          obtain ⟨x1, _, x3⟩ := xs_at k hk
          have ed : lstAt (h' ++ [Ob.lst (EN.map fun n => T.bl (([EN.getD k "", "ShownError"] : List Str).contains n))]) h'.length = some (EN.map fun n => T.bl (([EN.getD k "", "ShownError"] : List Str).contains n)) := by simp
          generalize [EN.getD k "", "ShownError"] = ss at *
          have ee := ext_app h' [Ob.lst (EN.map fun n => T.bl (ss.contains n))] _ _ ee
          have el := lstAt_app [Ob.lst (EN.map fun n => T.bl (ss.contains n))] el
          have es := es.app [Ob.lst (EN.map fun n => T.bl (ss.contains n))]
          have m1 := m1.app [Ob.lst (EN.map fun n => T.bl (ss.contains n))]
          have m2 := m2.app [Ob.lst (EN.map fun n => T.bl (ss.contains n))]
          have b7 := b6.app [Ob.lst (EN.map fun n => T.bl (ss.contains n))]
          have ev : L2.atI (ls.map T.ref) (k : Int) = some (.ref le) := atI_nat (by rw [List.getElem?_map, e1]; rfl)
          generalize hD : (EN.map fun n => T.bl (ss.contains n)) = D at *
          have dl : D.length = 20 := by rw [← hD]; rfl
          have df : ∀ t ∈ D, flatT t = true := fun t ht => by
            rw [← hD] at ht
            obtain ⟨n, _, rfl⟩ := List.mem_map.mp ht
            rfl
          simp
          generalize h' ++ [Ob.lst D] = h6 at *
          generalize h'.length = rd at *
          simp [b_law_8, el, ev]
          refine Cl ee x1 fun rc z2 _ ec => ?_
          rw [hD] at ec
          have ee := ext_app h6 z2 _ _ ee
          have el := lstAt_app z2 el
          have ed := lstAt_app z2 ed
          have es := es.app z2
          have m1 := m1.app z2
          have m2 := m2.app z2
          have b8 := b7.app z2
          generalize h6 ++ z2 = h7 at *
          have sm : SameV h7 4 (.ref rc) (.ref rd) := same_lst ec ed (by omega) fun t ht => .inl ⟨rfl, df t ht⟩
          have i1 := isx_of ee x1 "ShownError"
          have i2 := isve_of ee x1
          rw [x3] at i1
          simp [Sa sm, b_law_10, el, ev, i1, i2]
          exact ⟨⟨_, _, _, _, _, rfl⟩, b8, el, es, m1, m2⟩
      · obtain ⟨⟨a2, a3, a7, a8, a9, rfl⟩, b6, el, es, m1, m2⟩ := q
        simp [b_law_12]
        refine He el es fun a b c z e5 e6 e7 => ?_
        have m1 := m1.app z
        have m2 := m2.app z
        have b9 := b6.app z
        generalize h' ++ z = h8 at *
        simp [big]
        have e5 := lstAt_app [Ob.lst [one], Ob.lst (List.replicate 15 one), Ob.lst [two, two], Ob.lst [T.ref (h8.length + 1), T.ref (h8.length + 2)]] e5
        have e6 := lstAt_app [Ob.lst [one], Ob.lst (List.replicate 15 one), Ob.lst [two, two], Ob.lst [T.ref (h8.length + 1), T.ref (h8.length + 2)]] e6
        have e7 := lstAt_app [Ob.lst [one], Ob.lst (List.replicate 15 one), Ob.lst [two, two], Ob.lst [T.ref (h8.length + 1), T.ref (h8.length + 2)]] e7
        have m1 := m1.app [Ob.lst [one], Ob.lst (List.replicate 15 one), Ob.lst [two, two], Ob.lst [T.ref (h8.length + 1), T.ref (h8.length + 2)]]
        have m2 := m2.app [Ob.lst [one], Ob.lst (List.replicate 15 one), Ob.lst [two, two], Ob.lst [T.ref (h8.length + 1), T.ref (h8.length + 2)]]
        have b10 := b9.app [Ob.lst [one], Ob.lst (List.replicate 15 one), Ob.lst [two, two], Ob.lst [T.ref (h8.length + 1), T.ref (h8.length + 2)]]
        have n1 : lstAt (h8 ++ [Ob.lst [one], Ob.lst (List.replicate 15 one), Ob.lst [two, two], Ob.lst [T.ref (h8.length + 1), T.ref (h8.length + 2)]]) (h8.length + 1) = some (List.replicate 15 one) := by simp
        have n2 : lstAt (h8 ++ [Ob.lst [one], Ob.lst (List.replicate 15 one), Ob.lst [two, two], Ob.lst [T.ref (h8.length + 1), T.ref (h8.length + 2)]]) (h8.length + 2) = some [two, two] := by simp
        have n3 : lstAt (h8 ++ [Ob.lst [one], Ob.lst (List.replicate 15 one), Ob.lst [two, two], Ob.lst [T.ref (h8.length + 1), T.ref (h8.length + 2)]]) (h8.length + 3) = some [T.ref (h8.length + 1), T.ref (h8.length + 2)] := by simp
        rw [show [one, one, one, one, one, one, one, one, one, one, one, one, one, one, one] = List.replicate 15 one from rfl]
        generalize h8 ++ [Ob.lst [one], Ob.lst (List.replicate 15 one), Ob.lst [two, two], Ob.lst [T.ref (h8.length + 1), T.ref (h8.length + 2)]] = h9 at *
        have sm : SameV h9 4 (.ref a) (.ref (h8.length + 3)) := by
          refine .inr ⟨_, _, .inr ⟨.inl ⟨_, rfl, e5⟩, .inl ⟨_, rfl, n3⟩⟩, rfl, by simp, fun i x y hx hy => ?_⟩
          match i, hx, hy with
          | 0, hx, hy => cases hx; cases hy; exact same_lst e6 n1 (by simp) fun t ht => by rw [(List.mem_replicate.mp ht).2]; exact m1.same
          | 1, hx, hy => cases hx; cases hy; exact same_lst e7 n2 (by simp) fun t ht => by simp at ht; subst ht; exact m2.same
        simp [Sa sm]
        exact ⟨⟨_, _, _, _, _, _, _, _, rfl⟩, b10⟩
    exact go h'.length (h'.length + 1) _ (by omega) (by omega) b2 e2 e3
  · obtain ⟨⟨a2, a3, a4, a5, a6, a7, a8, a9, rfl⟩, bx⟩ := q
    simp [b_law_14]
end LW
end

section
namespace LW
open PySem W3
theorem s__law_mix : ∀ k, MixW (runF (k + 1))._law_mix := fun k => ok_mix (F := runF (k + 0)) 
theorem s__law_box : ∀ k, BoxW (runF (k + 2))._law_box := fun k => ok_box (F := runF (k + 1)) (s__law_mix (k + 0))
theorem s__law_draw : ∀ k, DrawW (runF (k + 2))._law_draw := fun k => ok_draw (F := runF (k + 1)) (s__law_mix (k + 0))
theorem s__law_same_0 : ∀ k, SameW 0 (runF (k + 1))._law_same := fun k => ok_same0 (F := runF (k + 0)) 
theorem s__law_same_1 : ∀ k, SameW 1 (runF (k + 2))._law_same := fun k => ok_same (F := runF (k + 1)) (s__law_same_0 (k + 0))
theorem s__law_same_2 : ∀ k, SameW 2 (runF (k + 3))._law_same := fun k => ok_same (F := runF (k + 2)) (s__law_same_1 (k + 0))
theorem s__law_same_3 : ∀ k, SameW 3 (runF (k + 4))._law_same := fun k => ok_same (F := runF (k + 3)) (s__law_same_2 (k + 0))
theorem s__law_same_4 : ∀ k, SameW 4 (runF (k + 5))._law_same := fun k => ok_same (F := runF (k + 4)) (s__law_same_3 (k + 0))
theorem s__law_errors : ∀ k, ErrsW (runF (k + 1))._law_errors := fun k => ok_errors (F := runF (k + 0)) 
theorem s__law_classes : ∀ k, ClsW (runF (k + 1))._law_classes := fun k => ok_classes (F := runF (k + 0)) 
theorem s__law_held : ∀ k, HeldW (runF (k + 1))._law_held := fun k => ok_held (F := runF (k + 0)) 
def fuel : Nat := 6
theorem law_true : ∀ ns : List Int, ns.length ≤ 63 → ∃ h', (runF fuel).law [.fl (ns.map T.int)] [] = .ok (.bl true) h' := by
  intro ns hns
  obtain ⟨a, h', e, rfl⟩ := (ok_law43 (F := runF 5) (s__law_box (0 + 3)) (s__law_draw (0 + 3)) (s__law_same_4 (0 + 0)) (s__law_errors (0 + 4)) (s__law_classes (0 + 4)) (s__law_held (0 + 4)) hns).ok
  exact ⟨h', e⟩
end LW
end

section
namespace LW
open PySem PySem.Spec PyProof.Rows
open L2 W3
structure Ad where
  f__law_mix : Addr
  d__law_mix : FuncData
  f__law_box : Addr
  d__law_box : FuncData
  f__law_draw : Addr
  d__law_draw : FuncData
  f__law_same : Addr
  d__law_same : FuncData
  f__law_classes : Addr
  d__law_classes : FuncData
  f__law_errors : Addr
  d__law_errors : FuncData
  f__law_held : Addr
  d__law_held : FuncData
  f_law : Addr
  d_law : FuncData
  c_ShownError : Addr
  c_InvalidForm : Addr
  c_InvalidRule : Addr
  c_InvalidWords : Addr
  c_InvalidStanding : Addr
  c_InvalidDeed : Addr
  c_InvalidTable : Addr
  c_InvalidText : Addr
  c_UnknownField : Addr
  c_UnknownWord : Addr
  c_TooManyAsked : Addr
  c_NothingToUndo : Addr
  c_NothingToRedo : Addr
  c_InvalidBound : Addr
  c_LimitExceeded : Addr
  c_NoStanding : Addr
  c_NoFault : Addr
  c_InvalidKind : Addr
  c_NotComparable : Addr
  c_InvalidChange : Addr
  c_InvalidRules : Addr
  xf_InvalidForm : Addr
  xd_InvalidForm : FuncData
  xf_InvalidDeed : Addr
  xd_InvalidDeed : FuncData
  xf_InvalidChange : Addr
  xd_InvalidChange : FuncData
  xf_InvalidBound : Addr
  xd_InvalidBound : FuncData
  xf_InvalidRule : Addr
  xd_InvalidRule : FuncData
  xf_InvalidKind : Addr
  xd_InvalidKind : FuncData
  xf_LimitExceeded : Addr
  xd_LimitExceeded : FuncData
  xf_InvalidWords : Addr
  xd_InvalidWords : FuncData
  xf_InvalidText : Addr
  xd_InvalidText : FuncData
  xf_InvalidTable : Addr
  xd_InvalidTable : FuncData
  xf_NotComparable : Addr
  xd_NotComparable : FuncData
  xf_NoFault : Addr
  xd_NoFault : FuncData
  xf_UnknownWord : Addr
  xd_UnknownWord : FuncData
  xf_UnknownField : Addr
  xd_UnknownField : FuncData
  xf_TooManyAsked : Addr
  xd_TooManyAsked : FuncData
structure Txt (w : World) (K : PySem.W.Frag) (mg : Str → Option Value) (A : Ad) : Prop where
  u__law_mix : Fun K "_law_mix" "_law_mix" st__law_mix A.f__law_mix A.d__law_mix
  b__law_mix : Binds K A.d__law_mix ["_law_value", "_law_k"] []
  g__law_mix : mg "_law_mix" = some (.ref A.f__law_mix)
  u__law_box : Fun K "_law_box" "_law_box" st__law_box A.f__law_box A.d__law_box
  b__law_box : Binds K A.d__law_box ["_law_script"] []
  g__law_box : mg "_law_box" = some (.ref A.f__law_box)
  u__law_draw : Fun K "_law_draw" "_law_draw" st__law_draw A.f__law_draw A.d__law_draw
  b__law_draw : Binds K A.d__law_draw ["_law_box_here", "_law_many"] []
  g__law_draw : mg "_law_draw" = some (.ref A.f__law_draw)
  u__law_same : Fun K "_law_same" "_law_same" st__law_same A.f__law_same A.d__law_same
  b__law_same : Binds K A.d__law_same ["_law_told", "_law_due"] []
  g__law_same : mg "_law_same" = some (.ref A.f__law_same)
  u__law_classes : Fun K "_law_classes" "_law_classes" st__law_classes A.f__law_classes A.d__law_classes
  b__law_classes : Binds K A.d__law_classes ["_law_error"] []
  g__law_classes : mg "_law_classes" = some (.ref A.f__law_classes)
  u__law_errors : Fun K "_law_errors" "_law_errors" st__law_errors A.f__law_errors A.d__law_errors
  b__law_errors : Binds K A.d__law_errors ["_law_one", "_law_two"] []
  g__law_errors : mg "_law_errors" = some (.ref A.f__law_errors)
  u__law_held : Fun K "_law_held" "_law_held" st__law_held A.f__law_held A.d__law_held
  b__law_held : Binds K A.d__law_held ["_law_found"] []
  g__law_held : mg "_law_held" = some (.ref A.f__law_held)
  u_law : Fun K "law" "law" st_law A.f_law A.d_law
  b_law : Binds K A.d_law ["_law_script"] []
  g_law : mg "law" = some (.ref A.f_law)
  cs : ClsF K mg CS
  n_ValueError : mg "ValueError" = none
  n_all : mg "all" = none
  n_bool : mg "bool" = none
  n_int : mg "int" = none
  n_isinstance : mg "isinstance" = none
  n_len : mg "len" = none
  n_list : mg "list" = none
  n_range : mg "range" = none
  n_str : mg "str" = none
  n_super : mg "super" = none
  n_tuple : mg "tuple" = none
  g_ShownError : mg "ShownError" = some (.ref A.c_ShownError)
  g_InvalidForm : mg "InvalidForm" = some (.ref A.c_InvalidForm)
  g_InvalidRule : mg "InvalidRule" = some (.ref A.c_InvalidRule)
  g_InvalidWords : mg "InvalidWords" = some (.ref A.c_InvalidWords)
  g_InvalidStanding : mg "InvalidStanding" = some (.ref A.c_InvalidStanding)
  g_InvalidDeed : mg "InvalidDeed" = some (.ref A.c_InvalidDeed)
  g_InvalidTable : mg "InvalidTable" = some (.ref A.c_InvalidTable)
  g_InvalidText : mg "InvalidText" = some (.ref A.c_InvalidText)
  g_UnknownField : mg "UnknownField" = some (.ref A.c_UnknownField)
  g_UnknownWord : mg "UnknownWord" = some (.ref A.c_UnknownWord)
  g_TooManyAsked : mg "TooManyAsked" = some (.ref A.c_TooManyAsked)
  g_NothingToUndo : mg "NothingToUndo" = some (.ref A.c_NothingToUndo)
  g_NothingToRedo : mg "NothingToRedo" = some (.ref A.c_NothingToRedo)
  g_InvalidBound : mg "InvalidBound" = some (.ref A.c_InvalidBound)
  g_LimitExceeded : mg "LimitExceeded" = some (.ref A.c_LimitExceeded)
  g_NoStanding : mg "NoStanding" = some (.ref A.c_NoStanding)
  g_NoFault : mg "NoFault" = some (.ref A.c_NoFault)
  g_InvalidKind : mg "InvalidKind" = some (.ref A.c_InvalidKind)
  g_NotComparable : mg "NotComparable" = some (.ref A.c_NotComparable)
  g_InvalidChange : mg "InvalidChange" = some (.ref A.c_InvalidChange)
  g_InvalidRules : mg "InvalidRules" = some (.ref A.c_InvalidRules)
  ox_InvalidForm : OexC K A.c_InvalidForm
  xi_InvalidForm : PySem.W.findIn K (.ref A.c_InvalidForm) "__init__" = some (some (.ref A.xf_InvalidForm))
  xt_InvalidForm : PySem.W.typeIn K (.ref A.xf_InvalidForm) = some (.type "function")
  b_InvalidForm : Binds K A.xd_InvalidForm ["self", "part", "field"] []
  ox_InvalidDeed : OexC K A.c_InvalidDeed
  xi_InvalidDeed : PySem.W.findIn K (.ref A.c_InvalidDeed) "__init__" = some (some (.ref A.xf_InvalidDeed))
  xt_InvalidDeed : PySem.W.typeIn K (.ref A.xf_InvalidDeed) = some (.type "function")
  b_InvalidDeed : Binds K A.xd_InvalidDeed ["self", "deed"] []
  ox_InvalidChange : OexC K A.c_InvalidChange
  xi_InvalidChange : PySem.W.findIn K (.ref A.c_InvalidChange) "__init__" = some (some (.ref A.xf_InvalidChange))
  xt_InvalidChange : PySem.W.typeIn K (.ref A.xf_InvalidChange) = some (.type "function")
  b_InvalidChange : Binds K A.xd_InvalidChange ["self", "index"] []
  ox_InvalidBound : OexC K A.c_InvalidBound
  xi_InvalidBound : PySem.W.findIn K (.ref A.c_InvalidBound) "__init__" = some (some (.ref A.xf_InvalidBound))
  xt_InvalidBound : PySem.W.typeIn K (.ref A.xf_InvalidBound) = some (.type "function")
  b_InvalidBound : Binds K A.xd_InvalidBound ["self", "value"] []
  ox_InvalidRule : OexC K A.c_InvalidRule
  xi_InvalidRule : PySem.W.findIn K (.ref A.c_InvalidRule) "__init__" = some (some (.ref A.xf_InvalidRule))
  xt_InvalidRule : PySem.W.typeIn K (.ref A.xf_InvalidRule) = some (.type "function")
  b_InvalidRule : Binds K A.xd_InvalidRule ["self", "part"] []
  ox_InvalidKind : OexC K A.c_InvalidKind
  xi_InvalidKind : PySem.W.findIn K (.ref A.c_InvalidKind) "__init__" = some (some (.ref A.xf_InvalidKind))
  xt_InvalidKind : PySem.W.typeIn K (.ref A.xf_InvalidKind) = some (.type "function")
  b_InvalidKind : Binds K A.xd_InvalidKind ["self", "kind"] []
  ox_LimitExceeded : OexC K A.c_LimitExceeded
  xi_LimitExceeded : PySem.W.findIn K (.ref A.c_LimitExceeded) "__init__" = some (some (.ref A.xf_LimitExceeded))
  xt_LimitExceeded : PySem.W.typeIn K (.ref A.xf_LimitExceeded) = some (.type "function")
  b_LimitExceeded : Binds K A.xd_LimitExceeded ["self", "limit"] []
  ox_InvalidWords : OexC K A.c_InvalidWords
  xi_InvalidWords : PySem.W.findIn K (.ref A.c_InvalidWords) "__init__" = some (some (.ref A.xf_InvalidWords))
  xt_InvalidWords : PySem.W.typeIn K (.ref A.xf_InvalidWords) = some (.type "function")
  b_InvalidWords : Binds K A.xd_InvalidWords ["self", "words"] []
  ox_InvalidText : OexC K A.c_InvalidText
  xi_InvalidText : PySem.W.findIn K (.ref A.c_InvalidText) "__init__" = some (some (.ref A.xf_InvalidText))
  xt_InvalidText : PySem.W.typeIn K (.ref A.xf_InvalidText) = some (.type "function")
  b_InvalidText : Binds K A.xd_InvalidText ["self", "line"] []
  ox_InvalidTable : OexC K A.c_InvalidTable
  xi_InvalidTable : PySem.W.findIn K (.ref A.c_InvalidTable) "__init__" = some (some (.ref A.xf_InvalidTable))
  xt_InvalidTable : PySem.W.typeIn K (.ref A.xf_InvalidTable) = some (.type "function")
  b_InvalidTable : Binds K A.xd_InvalidTable ["self", "kind"] []
  ox_NotComparable : OexC K A.c_NotComparable
  xi_NotComparable : PySem.W.findIn K (.ref A.c_NotComparable) "__init__" = some (some (.ref A.xf_NotComparable))
  xt_NotComparable : PySem.W.typeIn K (.ref A.xf_NotComparable) = some (.type "function")
  b_NotComparable : Binds K A.xd_NotComparable ["self", "part"] []
  ox_NoFault : OexC K A.c_NoFault
  xi_NoFault : PySem.W.findIn K (.ref A.c_NoFault) "__init__" = some (some (.ref A.xf_NoFault))
  xt_NoFault : PySem.W.typeIn K (.ref A.xf_NoFault) = some (.type "function")
  b_NoFault : Binds K A.xd_NoFault ["self", "kind", "field"] []
  ox_UnknownWord : OexC K A.c_UnknownWord
  xi_UnknownWord : PySem.W.findIn K (.ref A.c_UnknownWord) "__init__" = some (some (.ref A.xf_UnknownWord))
  xt_UnknownWord : PySem.W.typeIn K (.ref A.xf_UnknownWord) = some (.type "function")
  b_UnknownWord : Binds K A.xd_UnknownWord ["self", "word"] []
  ox_UnknownField : OexC K A.c_UnknownField
  xi_UnknownField : PySem.W.findIn K (.ref A.c_UnknownField) "__init__" = some (some (.ref A.xf_UnknownField))
  xt_UnknownField : PySem.W.typeIn K (.ref A.xf_UnknownField) = some (.type "function")
  b_UnknownField : Binds K A.xd_UnknownField ["self", "field"] []
  ox_TooManyAsked : OexC K A.c_TooManyAsked
  xi_TooManyAsked : PySem.W.findIn K (.ref A.c_TooManyAsked) "__init__" = some (some (.ref A.xf_TooManyAsked))
  xt_TooManyAsked : PySem.W.typeIn K (.ref A.xf_TooManyAsked) = some (.type "function")
  b_TooManyAsked : Binds K A.xd_TooManyAsked ["self", "field"] []
  xq_InvalidStanding : PySem.W.excIn K A.c_InvalidStanding veL "ValueError.__new__" = true
  xbe_InvalidStanding : PySem.W.subIn K (.ref A.c_InvalidStanding) (.type "BaseException") = some true
  xty_InvalidStanding : PySem.W.typeIn K (.ref A.c_InvalidStanding) = some (.type "type")
  xk_InvalidStanding : PySem.W.keepIn K (.ref A.c_InvalidStanding) = true
  xq_InvalidRules : PySem.W.excIn K A.c_InvalidRules veL "ValueError.__new__" = true
  xbe_InvalidRules : PySem.W.subIn K (.ref A.c_InvalidRules) (.type "BaseException") = some true
  xty_InvalidRules : PySem.W.typeIn K (.ref A.c_InvalidRules) = some (.type "type")
  xk_InvalidRules : PySem.W.keepIn K (.ref A.c_InvalidRules) = true
  xq_NothingToRedo : PySem.W.excIn K A.c_NothingToRedo veL "ValueError.__new__" = true
  xbe_NothingToRedo : PySem.W.subIn K (.ref A.c_NothingToRedo) (.type "BaseException") = some true
  xty_NothingToRedo : PySem.W.typeIn K (.ref A.c_NothingToRedo) = some (.type "type")
  xk_NothingToRedo : PySem.W.keepIn K (.ref A.c_NothingToRedo) = true
  xq_NoStanding : PySem.W.excIn K A.c_NoStanding veL "ValueError.__new__" = true
  xbe_NoStanding : PySem.W.subIn K (.ref A.c_NoStanding) (.type "BaseException") = some true
  xty_NoStanding : PySem.W.typeIn K (.ref A.c_NoStanding) = some (.type "type")
  xk_NoStanding : PySem.W.keepIn K (.ref A.c_NoStanding) = true
  xq_NothingToUndo : PySem.W.excIn K A.c_NothingToUndo veL "ValueError.__new__" = true
  xbe_NothingToUndo : PySem.W.subIn K (.ref A.c_NothingToUndo) (.type "BaseException") = some true
  xty_NothingToUndo : PySem.W.typeIn K (.ref A.c_NothingToUndo) = some (.type "type")
  xk_NothingToUndo : PySem.W.keepIn K (.ref A.c_NothingToUndo) = true
  is_ShownError : IsAll K mg XS "ShownError" A.c_ShownError
  is_InvalidDeed : IsAll K mg XS "InvalidDeed" A.c_InvalidDeed
  is_InvalidChange : IsAll K mg XS "InvalidChange" A.c_InvalidChange
  is_InvalidBound : IsAll K mg XS "InvalidBound" A.c_InvalidBound
  is_InvalidRule : IsAll K mg XS "InvalidRule" A.c_InvalidRule
  is_InvalidKind : IsAll K mg XS "InvalidKind" A.c_InvalidKind
  is_InvalidForm : IsAll K mg XS "InvalidForm" A.c_InvalidForm
  is_InvalidStanding : IsAll K mg XS "InvalidStanding" A.c_InvalidStanding
  is_InvalidRules : IsAll K mg XS "InvalidRules" A.c_InvalidRules
  is_InvalidWords : IsAll K mg XS "InvalidWords" A.c_InvalidWords
  is_InvalidText : IsAll K mg XS "InvalidText" A.c_InvalidText
  is_InvalidTable : IsAll K mg XS "InvalidTable" A.c_InvalidTable
  is_NoStanding : IsAll K mg XS "NoStanding" A.c_NoStanding
  is_NoFault : IsAll K mg XS "NoFault" A.c_NoFault
  is_LimitExceeded : IsAll K mg XS "LimitExceeded" A.c_LimitExceeded
  is_NothingToRedo : IsAll K mg XS "NothingToRedo" A.c_NothingToRedo
  is_NotComparable : IsAll K mg XS "NotComparable" A.c_NotComparable
  is_TooManyAsked : IsAll K mg XS "TooManyAsked" A.c_TooManyAsked
  is_NothingToUndo : IsAll K mg XS "NothingToUndo" A.c_NothingToUndo
  is_UnknownWord : IsAll K mg XS "UnknownWord" A.c_UnknownWord
  is_UnknownField : IsAll K mg XS "UnknownField" A.c_UnknownField
  isv : IsVEAll K mg XS
  xf : XfAll K mg XS FL
structure Exs (P : Program) (w : World) (K : PySem.W.Frag) (mg : Str → Option Value) (base : Heap) (A : Ad) : Prop where
  F_InvalidForm : FnOk P w K mg base (L2N.CX P w) 1 A.xf_InvalidForm A.xd_InvalidForm ["self", "part", "field"] (spE2 A.c_InvalidForm "part" "field")
  F_InvalidDeed : FnOk P w K mg base (L2N.CX P w) 1 A.xf_InvalidDeed A.xd_InvalidDeed ["self", "deed"] (spE1 A.c_InvalidDeed "deed")
  F_InvalidChange : FnOk P w K mg base (L2N.CX P w) 1 A.xf_InvalidChange A.xd_InvalidChange ["self", "index"] (spE1 A.c_InvalidChange "index")
  F_InvalidBound : FnOk P w K mg base (L2N.CX P w) 1 A.xf_InvalidBound A.xd_InvalidBound ["self", "value"] (spE1 A.c_InvalidBound "value")
  F_InvalidRule : FnOk P w K mg base (L2N.CX P w) 1 A.xf_InvalidRule A.xd_InvalidRule ["self", "part"] (spE1 A.c_InvalidRule "part")
  F_InvalidKind : FnOk P w K mg base (L2N.CX P w) 1 A.xf_InvalidKind A.xd_InvalidKind ["self", "kind"] (spE1 A.c_InvalidKind "kind")
  F_LimitExceeded : FnOk P w K mg base (L2N.CX P w) 1 A.xf_LimitExceeded A.xd_LimitExceeded ["self", "limit"] (spE1 A.c_LimitExceeded "limit")
  F_InvalidWords : FnOk P w K mg base (L2N.CX P w) 1 A.xf_InvalidWords A.xd_InvalidWords ["self", "words"] (spE1 A.c_InvalidWords "words")
  F_InvalidText : FnOk P w K mg base (L2N.CX P w) 1 A.xf_InvalidText A.xd_InvalidText ["self", "line"] (spE1 A.c_InvalidText "line")
  F_InvalidTable : FnOk P w K mg base (L2N.CX P w) 1 A.xf_InvalidTable A.xd_InvalidTable ["self", "kind"] (spE1 A.c_InvalidTable "kind")
  F_NotComparable : FnOk P w K mg base (L2N.CX P w) 1 A.xf_NotComparable A.xd_NotComparable ["self", "part"] (spE1 A.c_NotComparable "part")
  F_NoFault : FnOk P w K mg base (L2N.CX P w) 1 A.xf_NoFault A.xd_NoFault ["self", "kind", "field"] (spE2 A.c_NoFault "kind" "field")
  F_UnknownWord : FnOk P w K mg base (L2N.CX P w) 1 A.xf_UnknownWord A.xd_UnknownWord ["self", "word"] (spE1 A.c_UnknownWord "word")
  F_UnknownField : FnOk P w K mg base (L2N.CX P w) 1 A.xf_UnknownField A.xd_UnknownField ["self", "field"] (spE1 A.c_UnknownField "field")
  F_TooManyAsked : FnOk P w K mg base (L2N.CX P w) 1 A.xf_TooManyAsked A.xd_TooManyAsked ["self", "field"] (spE1 A.c_TooManyAsked "field")
section
variable {P : Program} {w : World} {K : PySem.W.Frag} {mg : Str → Option Value} {base : Heap} {A : Ad} {F : FF} {j : Nat}
structure Oks (P : Program) (w : World) (K : PySem.W.Frag) (mg : Str → Option Value) (base : Heap) (A : Ad) (j : Nat) (F : FF) : Prop where
  _law_mix : FnOk P w K mg base (L2N.CX P w) j A.f__law_mix A.d__law_mix ["_law_value", "_law_k"] (spT K mg w 2 F._law_mix)
  _law_box : FnOk P w K mg base (L2N.CX P w) j A.f__law_box A.d__law_box ["_law_script"] (spT K mg w 1 F._law_box)
  _law_draw : FnOk P w K mg base (L2N.CX P w) j A.f__law_draw A.d__law_draw ["_law_box_here", "_law_many"] (spT K mg w 2 F._law_draw)
  _law_same : FnOk P w K mg base (L2N.CX P w) j A.f__law_same A.d__law_same ["_law_told", "_law_due"] (spT K mg w 2 F._law_same)
  _law_classes : FnOk P w K mg base (L2N.CX P w) j A.f__law_classes A.d__law_classes ["_law_error"] (spT K mg w 1 F._law_classes)
  _law_errors : FnOk P w K mg base (L2N.CX P w) j A.f__law_errors A.d__law_errors ["_law_one", "_law_two"] (spT K mg w 2 F._law_errors)
  _law_held : FnOk P w K mg base (L2N.CX P w) j A.f__law_held A.d__law_held ["_law_found"] (spT K mg w 1 F._law_held)
  law : FnOk P w K mg base (L2N.CX P w) j A.f_law A.d_law ["_law_script"] (spT K mg w 1 F.law)
theorem sc__law_mix : FnScope ["_law_value", "_law_k", "_law_number"] ["_law_value", "_law_k"] (defScope st__law_mix) := ⟨rfl, rfl, rfl, by decide +kernel, rfl, by decide +kernel, by decide +kernel⟩
theorem der__law_mix (tx : Txt w K mg A) (ex : Exs P w K mg base A) (O : Oks P w K mg base A j F) : FnOk P w K mg base (L2N.CX P w) (j + 3) A.f__law_mix A.d__law_mix ["_law_value", "_law_k"] (spT K mg w 2 (defRun 3 (b__law_mix F))) := by
  have S := sc__law_mix
  refine fn_T tx.u__law_mix S fun cdv Ar outer s H E hr tk hp => ?_
  have hr0 := hr.mono (Nat.le_add_right _ _)
  have hr1 := hr.mono (Nat.le_succ _)
  have hr2 := hr.mono (Nat.le_add_left 2 _)
  have hu := hu65 hr
  exact (ds_cons (ds_set (i := 2) S.nd rfl (by first | exact Or.inl rfl | exact Or.inr rfl) (de_op os_mod nx_mod (de_op os_mul nx_mul (de_op os_add nx_add (de_op os_add nx_add (de_callTy cs_int nx_bint rfl tx.n_int boot_int (da_cons (dv 0) da_nil)) (de_op os_mul nx_mul de_int (dv 1))) de_int) de_int) de_int))
  (ds_cons (ds_set (i := 2) S.nd rfl (by first | exact Or.inl rfl | exact Or.inr rfl) (de_op os_mod nx_mod (de_op os_mul nx_mul (dv 2) (de_op os_add nx_add (de_op os_div nx_div (dv 2) de_int) de_int)) de_int))
  (ds_cons (ds_ret (de_op os_mod nx_mod (de_op os_mul nx_mul (dv 2) (de_op os_add nx_add (de_op os_div nx_div (dv 2) de_int) de_int)) de_int))
  ds_nil)))
theorem sc__law_box : FnScope ["_law_script", "_law_cells", "_law_cell", "_law_seed"] ["_law_script"] (defScope st__law_box) := ⟨rfl, rfl, rfl, by decide +kernel, rfl, by decide +kernel, by decide +kernel⟩
theorem der__law_box (tx : Txt w K mg A) (ex : Exs P w K mg base A) (O : Oks P w K mg base A j F) : FnOk P w K mg base (L2N.CX P w) (j + 3) A.f__law_box A.d__law_box ["_law_script"] (spT K mg w 1 (defRun 4 (b__law_box F))) := by
  have S := sc__law_box
  refine fn_T tx.u__law_box S fun cdv Ar outer s H E hr tk hp => ?_
  have hr0 := hr.mono (Nat.le_add_right _ _)
  have hr1 := hr.mono (Nat.le_succ _)
  have hr2 := hr.mono (Nat.le_add_left 2 _)
  have hu := hu65 hr
  exact (ds_cons (ds_setLc (i := 1) (own := [("_law_cell", 2)]) rfl S.nd rfl rfl (sw_true rfl rfl rfl (by decide +kernel)) (di_e (de_sl (dv 0) do_none (do_some de_int))) (blkOk_by rfl) (fun _ _ _ _ _ => (dg_name (i := 2) S.nd rfl (by first | exact Or.inl rfl | exact Or.inr rfl))) (fun _ _ _ _ _ => dts_nil) (fun _ _ _ _ _ => (de_callTy cs_int nx_bint rfl tx.n_int boot_int (da_cons (dv 2) da_nil))))
  (ds_cons (ds_set (i := 3) S.nd rfl (by first | exact Or.inl rfl | exact Or.inr rfl) de_int)
  (ds_cons (ds_for hp rfl (di_e (dv 1)) (dg_name (i := 2) S.nd rfl (by first | exact Or.inl rfl | exact Or.inr rfl))
  (ds_cons (ds_set (i := 3) S.nd rfl (by first | exact Or.inl rfl | exact Or.inr rfl) (de_call (ps := ["_law_value", "_law_k"]) O._law_mix hr0 rfl tx.g__law_mix tx.u__law_mix.kp tx.b__law_mix tk (da_cons (de_op os_add nx_add (dv 3) (dv 2)) (da_cons de_int da_nil))))
   ds_nil))
  (ds_cons (ds_ret (de_lst (da_cons (dv 1) (da_cons de_int (da_cons de_int (da_cons (dv 3) (da_cons de_int da_nil)))))))
  ds_nil))))
theorem sc__law_draw : FnScope ["_law_box_here", "_law_many", "_law_cell", "_law_digit"] ["_law_box_here", "_law_many"] (defScope st__law_draw) := ⟨rfl, rfl, rfl, by decide +kernel, rfl, by decide +kernel, by decide +kernel⟩
theorem der__law_draw (tx : Txt w K mg A) (ex : Exs P w K mg base A) (O : Oks P w K mg base A j F) : FnOk P w K mg base (L2N.CX P w) (j + 3) A.f__law_draw A.d__law_draw ["_law_box_here", "_law_many"] (spT K mg w 2 (defRun 4 (b__law_draw F))) := by
  have S := sc__law_draw
  refine fn_T tx.u__law_draw S fun cdv Ar outer s H E hr tk hp => ?_
  have hr0 := hr.mono (Nat.le_add_right _ _)
  have hr1 := hr.mono (Nat.le_succ _)
  have hr2 := hr.mono (Nat.le_add_left 2 _)
  have hu := hu65 hr
  exact (ds_cons (ds_sub (dv 0) de_int (de_op os_add nx_add (de_ix (dv 0) de_int) de_int))
  (ds_cons (ds_if (dt_w (dw_and (dt_cmp (os_eq hu) nx_eq (de_ix (dv 0) de_int) de_int rfl) (dw_and1 (dt_cmp os_lt nx_lt (de_ix (dv 0) de_int) (de_callB cs_len nx_len rfl tx.n_len boot_len (da_cons (de_ix (dv 0) de_int) da_nil)) rfl))))
  (ds_cons (ds_set (i := 2) S.nd rfl (by first | exact Or.inl rfl | exact Or.inr rfl) (de_ix (de_ix (dv 0) de_int) (de_ix (dv 0) de_int)))
   (ds_cons (ds_sub (dv 0) de_int (de_op os_add nx_add (de_ix (dv 0) de_int) de_int))
   (ds_cons (ds_if (dt_cmp os_lt nx_lt (dv 2) (de_op os_pow nx_pow de_int de_int) rfl)
   (ds_cons (ds_ret (de_op os_mod nx_mod (de_callTy cs_int nx_bint rfl tx.n_int boot_int (da_cons (de_call (ps := ["_law_value", "_law_k"]) O._law_mix hr0 rfl tx.g__law_mix tx.u__law_mix.kp tx.b__law_mix tk (da_cons (dv 2) (da_cons (de_ix (dv 0) de_int) da_nil))) da_nil)) (dv 1)))
    ds_nil)
   ds_nil)
   (ds_cons (ds_sub (dv 0) de_int (dv 2))
   ds_nil))))
  ds_nil)
  (ds_cons (ds_if (dt_cmp (os_eq hu) nx_eq (de_ix (dv 0) de_int) de_int rfl)
  (ds_cons (ds_ret (de_op os_mod nx_mod (de_callTy cs_int nx_bint rfl tx.n_int boot_int (da_cons (de_call (ps := ["_law_value", "_law_k"]) O._law_mix hr0 rfl tx.g__law_mix tx.u__law_mix.kp tx.b__law_mix tk (da_cons (de_ix (dv 0) de_int) (da_cons (de_ix (dv 0) de_int) da_nil))) da_nil)) (dv 1)))
   ds_nil)
  ds_nil)
  (ds_cons (ds_set (i := 3) S.nd rfl (by first | exact Or.inl rfl | exact Or.inr rfl) (de_op os_mod nx_mod (de_callTy cs_int nx_bint rfl tx.n_int boot_int (da_cons (de_ix (dv 0) de_int) da_nil)) (dv 1)))
  (ds_cons (ds_sub (dv 0) de_int (de_op os_div nx_div (de_callTy cs_int nx_bint rfl tx.n_int boot_int (da_cons (de_ix (dv 0) de_int) da_nil)) (dv 1)))
  (ds_cons (ds_ret (dv 3))
  ds_nil))))))
theorem sc__law_same : FnScope ["_law_told", "_law_due", "_law_k"] ["_law_told", "_law_due"] (defScope st__law_same) := ⟨rfl, rfl, rfl, by decide +kernel, rfl, by decide +kernel, by decide +kernel⟩
theorem der__law_same (tx : Txt w K mg A) (ex : Exs P w K mg base A) (O : Oks P w K mg base A j F) : FnOk P w K mg base (L2N.CX P w) (j + 3) A.f__law_same A.d__law_same ["_law_told", "_law_due"] (spT K mg w 2 (defRun 3 (b__law_same F))) := by
  have S := sc__law_same
  refine fn_T tx.u__law_same S fun cdv Ar outer s H E hr tk hp => ?_
  have hr0 := hr.mono (Nat.le_add_right _ _)
  have hr1 := hr.mono (Nat.le_succ _)
  have hr2 := hr.mono (Nat.le_add_left 2 _)
  have hu := hu65 hr
  exact (ds_cons (ds_if (dt_w (dw_or (dt_val (de_isk .tuple boot_tuple rfl tx.n_isinstance rfl tx.n_tuple (dv 1))) (dw_or1 (dt_val (de_isk .list boot_list rfl tx.n_isinstance rfl tx.n_list (dv 1))))))
  (ds_cons (ds_if (dt_w (dw_or (dt_cmp (os_ne hu) nx_ne (de_isk .tuple boot_tuple rfl tx.n_isinstance rfl tx.n_tuple (dv 1)) (de_isk .tuple boot_tuple rfl tx.n_isinstance rfl tx.n_tuple (dv 0)) rfl) (dw_or1 (dt_cmp (os_ne hu) nx_ne (de_isk .list boot_list rfl tx.n_isinstance rfl tx.n_list (dv 1)) (de_isk .list boot_list rfl tx.n_isinstance rfl tx.n_list (dv 0)) rfl))))
   (ds_cons (ds_ret de_bl)
    ds_nil)
   ds_nil)
   (ds_cons (ds_if (dt_cmp (os_ne hu) nx_ne (de_callB cs_len nx_len rfl tx.n_len boot_len (da_cons (dv 0) da_nil)) (de_callB cs_len nx_len rfl tx.n_len boot_len (da_cons (dv 1) da_nil)) rfl)
   (ds_cons (ds_ret de_bl)
    ds_nil)
   ds_nil)
   (ds_cons (ds_ret (de_overB (cl_all rfl) nx_all rfl tx.n_all boot_all (dl_lc (own := [("_law_k", 2)]) rfl S.nd (di_range1 rfl tx.n_range (da_cons (de_callB cs_len nx_len rfl tx.n_len boot_len (da_cons (dv 1) da_nil)) da_nil)) (blkOk_by rfl) (fun _ _ _ _ _ => (dg_name (i := 2) S.nd rfl (by first | exact Or.inl rfl | exact Or.inr rfl))) (fun _ _ _ _ _ => dts_nil) (fun _ _ _ _ _ => (de_call (ps := ["_law_told", "_law_due"]) O._law_same hr0 rfl tx.g__law_same tx.u__law_same.kp tx.b__law_same takesF0 (da_cons (de_ix (dv 0) (dv 2)) (da_cons (de_ix (dv 1) (dv 2)) da_nil)))))))
   ds_nil)))
  ds_nil)
  (ds_cons (ds_if (dt_cmp os_is nx_is (dv 1) de_non rfl)
  (ds_cons (ds_ret (de_cmp os_is nx_is (dv 0) de_non rfl))
   ds_nil)
  ds_nil)
  (ds_cons (ds_if (dt_w (dw_or (dt_val (de_isk .bool boot_bool rfl tx.n_isinstance rfl tx.n_bool (dv 1))) (dw_or1 (dt_val (de_isk .bool boot_bool rfl tx.n_isinstance rfl tx.n_bool (dv 0))))))
  (ds_cons (ds_ret (de_and (de_isk .bool boot_bool rfl tx.n_isinstance rfl tx.n_bool (dv 1)) (de_and (de_isk .bool boot_bool rfl tx.n_isinstance rfl tx.n_bool (dv 0)) (de_and1 (de_cmp (os_eq hu) nx_eq (dv 1) (dv 0) rfl)))))
   ds_nil)
  ds_nil)
  (ds_cons (ds_if (dt_val (de_isk .int boot_int rfl tx.n_isinstance rfl tx.n_int (dv 1)))
  (ds_cons (ds_ret (de_and (de_isk .int boot_int rfl tx.n_isinstance rfl tx.n_int (dv 0)) (de_and1 (de_cmp (os_eq hu) nx_eq (dv 0) (dv 1) rfl))))
   ds_nil)
  ds_nil)
  (ds_cons (ds_ret (de_and (de_isk .str boot_str rfl tx.n_isinstance rfl tx.n_str (dv 0)) (de_and1 (de_cmp (os_eq hu) nx_eq (dv 0) (dv 1) rfl))))
  ds_nil)))))
theorem sc__law_classes : FnScope ["_law_error", "_law_found"] ["_law_error"] (defScope st__law_classes) := ⟨rfl, rfl, rfl, by decide +kernel, rfl, by decide +kernel, by decide +kernel⟩
theorem der__law_classes (tx : Txt w K mg A) (ex : Exs P w K mg base A) (O : Oks P w K mg base A j F) : FnOk P w K mg base (L2N.CX P w) (j + 3) A.f__law_classes A.d__law_classes ["_law_error"] (spT K mg w 1 (defRun 2 (b__law_classes F))) := by
  have S := sc__law_classes
  refine fn_T tx.u__law_classes S fun cdv Ar outer s H E hr tk hp => ?_
  have hr0 := hr.mono (Nat.le_add_right _ _)
  have hr1 := hr.mono (Nat.le_succ _)
  have hr2 := hr.mono (Nat.le_add_left 2 _)
  have hu := hu65 hr
  exact (ds_cons (ds_set (i := 1) S.nd rfl (by first | exact Or.inl rfl | exact Or.inr rfl) (de_lst (da_cons (de_isX tx.xf tx.is_InvalidBound rfl tx.n_isinstance rfl tx.g_InvalidBound (dv 0)) (da_cons (de_isX tx.xf tx.is_InvalidChange rfl tx.n_isinstance rfl tx.g_InvalidChange (dv 0)) (da_cons (de_isX tx.xf tx.is_InvalidDeed rfl tx.n_isinstance rfl tx.g_InvalidDeed (dv 0)) da_nil)))))
  (ds_cons (ds_expr (de_mt ms_extend nx_extend PySem.F.plainAttrs_list PySem.F.slot_list_extend PySem.F.type_list_extend (dv 1) (da_cons (de_lst (da_cons (de_isX tx.xf tx.is_InvalidForm rfl tx.n_isinstance rfl tx.g_InvalidForm (dv 0)) (da_cons (de_isX tx.xf tx.is_InvalidKind rfl tx.n_isinstance rfl tx.g_InvalidKind (dv 0)) (da_cons (de_isX tx.xf tx.is_InvalidRule rfl tx.n_isinstance rfl tx.g_InvalidRule (dv 0)) da_nil)))) da_nil)))
  (ds_cons (ds_expr (de_mt ms_extend nx_extend PySem.F.plainAttrs_list PySem.F.slot_list_extend PySem.F.type_list_extend (dv 1) (da_cons (de_lst (da_cons (de_isX tx.xf tx.is_InvalidRules rfl tx.n_isinstance rfl tx.g_InvalidRules (dv 0)) (da_cons (de_isX tx.xf tx.is_InvalidStanding rfl tx.n_isinstance rfl tx.g_InvalidStanding (dv 0)) da_nil))) da_nil)))
  (ds_cons (ds_expr (de_mt ms_extend nx_extend PySem.F.plainAttrs_list PySem.F.slot_list_extend PySem.F.type_list_extend (dv 1) (da_cons (de_lst (da_cons (de_isX tx.xf tx.is_InvalidTable rfl tx.n_isinstance rfl tx.g_InvalidTable (dv 0)) (da_cons (de_isX tx.xf tx.is_InvalidText rfl tx.n_isinstance rfl tx.g_InvalidText (dv 0)) (da_cons (de_isX tx.xf tx.is_InvalidWords rfl tx.n_isinstance rfl tx.g_InvalidWords (dv 0)) da_nil)))) da_nil)))
  (ds_cons (ds_expr (de_mt ms_extend nx_extend PySem.F.plainAttrs_list PySem.F.slot_list_extend PySem.F.type_list_extend (dv 1) (da_cons (de_lst (da_cons (de_isX tx.xf tx.is_LimitExceeded rfl tx.n_isinstance rfl tx.g_LimitExceeded (dv 0)) (da_cons (de_isX tx.xf tx.is_NoFault rfl tx.n_isinstance rfl tx.g_NoFault (dv 0)) (da_cons (de_isX tx.xf tx.is_NoStanding rfl tx.n_isinstance rfl tx.g_NoStanding (dv 0)) da_nil)))) da_nil)))
  (ds_cons (ds_expr (de_mt ms_extend nx_extend PySem.F.plainAttrs_list PySem.F.slot_list_extend PySem.F.type_list_extend (dv 1) (da_cons (de_lst (da_cons (de_isX tx.xf tx.is_NotComparable rfl tx.n_isinstance rfl tx.g_NotComparable (dv 0)) (da_cons (de_isX tx.xf tx.is_NothingToRedo rfl tx.n_isinstance rfl tx.g_NothingToRedo (dv 0)) da_nil))) da_nil)))
  (ds_cons (ds_expr (de_mt ms_extend nx_extend PySem.F.plainAttrs_list PySem.F.slot_list_extend PySem.F.type_list_extend (dv 1) (da_cons (de_lst (da_cons (de_isX tx.xf tx.is_NothingToUndo rfl tx.n_isinstance rfl tx.g_NothingToUndo (dv 0)) (da_cons (de_isX tx.xf tx.is_TooManyAsked rfl tx.n_isinstance rfl tx.g_TooManyAsked (dv 0)) da_nil))) da_nil)))
  (ds_cons (ds_ret (de_op os_add nx_add (dv 1) (de_lst (da_cons (de_isX tx.xf tx.is_UnknownField rfl tx.n_isinstance rfl tx.g_UnknownField (dv 0)) (da_cons (de_isX tx.xf tx.is_UnknownWord rfl tx.n_isinstance rfl tx.g_UnknownWord (dv 0)) da_nil)))))
  ds_nil))))))))
theorem sc__law_errors : FnScope ["_law_one", "_law_two", "_law_found"] ["_law_one", "_law_two"] (defScope st__law_errors) := ⟨rfl, rfl, rfl, by decide +kernel, rfl, by decide +kernel, by decide +kernel⟩
theorem der__law_errors (tx : Txt w K mg A) (ex : Exs P w K mg base A) (O : Oks P w K mg base A j F) : FnOk P w K mg base (L2N.CX P w) (j + 3) A.f__law_errors A.d__law_errors ["_law_one", "_law_two"] (spT K mg w 2 (defRun 3 (b__law_errors F))) := by
  have S := sc__law_errors
  refine fn_T tx.u__law_errors S fun cdv Ar outer s H E hr tk hp => ?_
  have hr0 := hr.mono (Nat.le_add_right _ _)
  have hr1 := hr.mono (Nat.le_succ _)
  have hr2 := hr.mono (Nat.le_add_left 2 _)
  have hu := hu65 hr
  exact (ds_cons (ds_set (i := 2) S.nd rfl (by first | exact Or.inl rfl | exact Or.inr rfl) (de_lst (da_cons (de_mkE1 tk tx.ox_InvalidBound tx.xi_InvalidBound tx.xt_InvalidBound ex.F_InvalidBound hr2 tx.b_InvalidBound rfl tx.g_InvalidBound (da_cons (dv 0) da_nil)) (da_cons (de_mkE1 tk tx.ox_InvalidChange tx.xi_InvalidChange tx.xt_InvalidChange ex.F_InvalidChange hr2 tx.b_InvalidChange rfl tx.g_InvalidChange (da_cons (dv 0) da_nil)) (da_cons (de_mkE1 tk tx.ox_InvalidDeed tx.xi_InvalidDeed tx.xt_InvalidDeed ex.F_InvalidDeed hr2 tx.b_InvalidDeed rfl tx.g_InvalidDeed (da_cons (dv 0) da_nil)) (da_cons (de_mkE2 tk tx.ox_InvalidForm tx.xi_InvalidForm tx.xt_InvalidForm ex.F_InvalidForm hr2 tx.b_InvalidForm rfl tx.g_InvalidForm (da_cons (dv 0) (da_cons (dv 1) da_nil))) da_nil))))))
  (ds_cons (ds_expr (de_mt ms_extend nx_extend PySem.F.plainAttrs_list PySem.F.slot_list_extend PySem.F.type_list_extend (dv 2) (da_cons (de_lst (da_cons (de_mkE1 tk tx.ox_InvalidKind tx.xi_InvalidKind tx.xt_InvalidKind ex.F_InvalidKind hr2 tx.b_InvalidKind rfl tx.g_InvalidKind (da_cons (dv 0) da_nil)) (da_cons (de_mkE1 tk tx.ox_InvalidRule tx.xi_InvalidRule tx.xt_InvalidRule ex.F_InvalidRule hr2 tx.b_InvalidRule rfl tx.g_InvalidRule (da_cons (dv 0) da_nil)) (da_cons (de_mkE0 tx.xq_InvalidRules tx.xk_InvalidRules tx.g_InvalidRules rfl) (da_cons (de_mkE0 tx.xq_InvalidStanding tx.xk_InvalidStanding tx.g_InvalidStanding rfl) da_nil))))) da_nil)))
  (ds_cons (ds_expr (de_mt ms_extend nx_extend PySem.F.plainAttrs_list PySem.F.slot_list_extend PySem.F.type_list_extend (dv 2) (da_cons (de_lst (da_cons (de_mkE1 tk tx.ox_InvalidTable tx.xi_InvalidTable tx.xt_InvalidTable ex.F_InvalidTable hr2 tx.b_InvalidTable rfl tx.g_InvalidTable (da_cons (dv 0) da_nil)) (da_cons (de_mkE1 tk tx.ox_InvalidText tx.xi_InvalidText tx.xt_InvalidText ex.F_InvalidText hr2 tx.b_InvalidText rfl tx.g_InvalidText (da_cons (dv 0) da_nil)) (da_cons (de_mkE1 tk tx.ox_InvalidWords tx.xi_InvalidWords tx.xt_InvalidWords ex.F_InvalidWords hr2 tx.b_InvalidWords rfl tx.g_InvalidWords (da_cons (dv 0) da_nil)) (da_cons (de_mkE1 tk tx.ox_LimitExceeded tx.xi_LimitExceeded tx.xt_LimitExceeded ex.F_LimitExceeded hr2 tx.b_LimitExceeded rfl tx.g_LimitExceeded (da_cons (dv 0) da_nil)) da_nil))))) da_nil)))
  (ds_cons (ds_expr (de_mt ms_extend nx_extend PySem.F.plainAttrs_list PySem.F.slot_list_extend PySem.F.type_list_extend (dv 2) (da_cons (de_lst (da_cons (de_mkE2 tk tx.ox_NoFault tx.xi_NoFault tx.xt_NoFault ex.F_NoFault hr2 tx.b_NoFault rfl tx.g_NoFault (da_cons (dv 0) (da_cons (dv 1) da_nil))) (da_cons (de_mkE0 tx.xq_NoStanding tx.xk_NoStanding tx.g_NoStanding rfl) (da_cons (de_mkE1 tk tx.ox_NotComparable tx.xi_NotComparable tx.xt_NotComparable ex.F_NotComparable hr2 tx.b_NotComparable rfl tx.g_NotComparable (da_cons (dv 0) da_nil)) (da_cons (de_mkE0 tx.xq_NothingToRedo tx.xk_NothingToRedo tx.g_NothingToRedo rfl) da_nil))))) da_nil)))
  (ds_cons (ds_expr (de_mt ms_extend nx_extend PySem.F.plainAttrs_list PySem.F.slot_list_extend PySem.F.type_list_extend (dv 2) (da_cons (de_lst (da_cons (de_mkE0 tx.xq_NothingToUndo tx.xk_NothingToUndo tx.g_NothingToUndo rfl) (da_cons (de_mkE1 tk tx.ox_TooManyAsked tx.xi_TooManyAsked tx.xt_TooManyAsked ex.F_TooManyAsked hr2 tx.b_TooManyAsked rfl tx.g_TooManyAsked (da_cons (dv 0) da_nil)) (da_cons (de_mkE1 tk tx.ox_UnknownField tx.xi_UnknownField tx.xt_UnknownField ex.F_UnknownField hr2 tx.b_UnknownField rfl tx.g_UnknownField (da_cons (dv 0) da_nil)) (da_cons (de_mkE1 tk tx.ox_UnknownWord tx.xi_UnknownWord tx.xt_UnknownWord ex.F_UnknownWord hr2 tx.b_UnknownWord rfl tx.g_UnknownWord (da_cons (dv 0) da_nil)) da_nil))))) da_nil)))
  (ds_cons (ds_ret (dv 2))
  ds_nil))))))
theorem sc__law_held : FnScope ["_law_found", "_law_held_here"] ["_law_found"] (defScope st__law_held) := ⟨rfl, rfl, rfl, by decide +kernel, rfl, by decide +kernel, by decide +kernel⟩
theorem der__law_held (tx : Txt w K mg A) (ex : Exs P w K mg base A) (O : Oks P w K mg base A j F) : FnOk P w K mg base (L2N.CX P w) (j + 3) A.f__law_held A.d__law_held ["_law_found"] (spT K mg w 1 (defRun 2 (b__law_held F))) := by
  have S := sc__law_held
  refine fn_T tx.u__law_held S fun cdv Ar outer s H E hr tk hp => ?_
  have hr0 := hr.mono (Nat.le_add_right _ _)
  have hr1 := hr.mono (Nat.le_succ _)
  have hr2 := hr.mono (Nat.le_add_left 2 _)
  have hu := hu65 hr
  exact (ds_cons (ds_set (i := 1) S.nd rfl (by first | exact Or.inl rfl | exact Or.inr rfl) (de_lst (da_cons (de_fldE tx.xf (by decide +kernel) (de_ix (dv 0) de_int)) (da_cons (de_fldE tx.xf (by decide +kernel) (de_ix (dv 0) de_int)) (da_cons (de_fldE tx.xf (by decide +kernel) (de_ix (dv 0) de_int)) (da_cons (de_fldE tx.xf (by decide +kernel) (de_ix (dv 0) de_int)) da_nil))))))
  (ds_cons (ds_expr (de_mt ms_extend nx_extend PySem.F.plainAttrs_list PySem.F.slot_list_extend PySem.F.type_list_extend (dv 1) (da_cons (de_lst (da_cons (de_fldE tx.xf (by decide +kernel) (de_ix (dv 0) de_int)) (da_cons (de_fldE tx.xf (by decide +kernel) (de_ix (dv 0) de_int)) (da_cons (de_fldE tx.xf (by decide +kernel) (de_ix (dv 0) de_int)) (da_cons (de_fldE tx.xf (by decide +kernel) (de_ix (dv 0) de_int)) da_nil))))) da_nil)))
  (ds_cons (ds_expr (de_mt ms_extend nx_extend PySem.F.plainAttrs_list PySem.F.slot_list_extend PySem.F.type_list_extend (dv 1) (da_cons (de_lst (da_cons (de_fldE tx.xf (by decide +kernel) (de_ix (dv 0) de_int)) (da_cons (de_fldE tx.xf (by decide +kernel) (de_ix (dv 0) de_int)) (da_cons (de_fldE tx.xf (by decide +kernel) (de_ix (dv 0) de_int)) (da_cons (de_fldE tx.xf (by decide +kernel) (de_ix (dv 0) de_int)) da_nil))))) da_nil)))
  (ds_cons (ds_expr (de_mt ms_extend nx_extend PySem.F.plainAttrs_list PySem.F.slot_list_extend PySem.F.type_list_extend (dv 1) (da_cons (de_lst (da_cons (de_fldE tx.xf (by decide +kernel) (de_ix (dv 0) de_int)) (da_cons (de_fldE tx.xf (by decide +kernel) (de_ix (dv 0) de_int)) (da_cons (de_fldE tx.xf (by decide +kernel) (de_ix (dv 0) de_int)) da_nil)))) da_nil)))
  (ds_cons (ds_ret (de_lst (da_cons (dv 1) (da_cons (de_lst (da_cons (de_fldE tx.xf (by decide +kernel) (de_ix (dv 0) de_int)) (da_cons (de_fldE tx.xf (by decide +kernel) (de_ix (dv 0) de_int)) da_nil))) da_nil))))
  ds_nil)))))
theorem sc_law : FnScope ["_law_script", "_law_box_here", "_law_k", "_law_menu", "_law_one", "_law_two", "_law_found", "_law_at", "_law_due", "_law_number"] ["_law_script"] (defScope st_law) := ⟨rfl, rfl, rfl, by decide +kernel, rfl, by decide +kernel, by decide +kernel⟩
theorem der_law (tx : Txt w K mg A) (ex : Exs P w K mg base A) (O : Oks P w K mg base A j F) : FnOk P w K mg base (L2N.CX P w) (j + 3) A.f_law A.d_law ["_law_script"] (spT K mg w 1 (defRun 10 (b_law F))) := by
  have S := sc_law
  refine fn_T tx.u_law S fun cdv Ar outer s H E hr tk hp => ?_
  have hr0 := hr.mono (Nat.le_add_right _ _)
  have hr1 := hr.mono (Nat.le_succ _)
  have hr2 := hr.mono (Nat.le_add_left 2 _)
  have hu := hu65 hr
  exact (ds_cons (ds_set (i := 1) S.nd rfl (by first | exact Or.inl rfl | exact Or.inr rfl) (de_call (ps := ["_law_script"]) O._law_box hr0 rfl tx.g__law_box tx.u__law_box.kp tx.b__law_box tk (da_cons (dv 0) da_nil)))
  (ds_cons (ds_for hp rfl (di_range1 rfl tx.n_range (da_cons de_int da_nil)) (dg_name (i := 2) S.nd rfl (by first | exact Or.inl rfl | exact Or.inr rfl))
  (ds_cons (ds_set (i := 3) S.nd rfl (by first | exact Or.inl rfl | exact Or.inr rfl) (de_lst (da_cons (de_str (by decide +kernel)) (da_cons (de_str (by decide +kernel)) (da_cons de_int (da_cons de_int (da_cons (de_un us_neg nx_neg de_int) (da_cons (de_op os_pow nx_pow de_int de_int) (da_cons de_bl (da_cons de_bl (da_cons de_non (da_cons (de_tup da_nil) (da_cons (de_tup (da_cons (de_str (by decide +kernel)) (da_cons de_int da_nil))) (da_cons (de_lst (da_cons (de_str (by decide +kernel)) da_nil)) (da_cons (de_tup (da_cons (de_tup (da_cons (de_str (by decide +kernel)) da_nil)) da_nil)) (da_cons (de_str (by decide +kernel)) da_nil))))))))))))))))
   (ds_cons (ds_set (i := 4) S.nd rfl (by first | exact Or.inl rfl | exact Or.inr rfl) (de_ix (dv 3) (de_call (ps := ["_law_box_here", "_law_many"]) O._law_draw hr0 rfl tx.g__law_draw tx.u__law_draw.kp tx.b__law_draw tk (da_cons (dv 1) (da_cons de_int da_nil)))))
   (ds_cons (ds_set (i := 5) S.nd rfl (by first | exact Or.inl rfl | exact Or.inr rfl) (de_ix (dv 3) (de_call (ps := ["_law_box_here", "_law_many"]) O._law_draw hr0 rfl tx.g__law_draw tx.u__law_draw.kp tx.b__law_draw tk (da_cons (dv 1) (da_cons de_int da_nil)))))
   (ds_cons (ds_set (i := 6) S.nd rfl (by first | exact Or.inl rfl | exact Or.inr rfl) (de_call (ps := ["_law_one", "_law_two"]) O._law_errors hr0 rfl tx.g__law_errors tx.u__law_errors.kp tx.b__law_errors tk (da_cons (dv 4) (da_cons (dv 5) da_nil))))
   (ds_cons (ds_for hp rfl (di_range1 rfl tx.n_range (da_cons de_int da_nil)) (dg_name (i := 7) S.nd rfl (by first | exact Or.inl rfl | exact Or.inr rfl))
   (ds_cons (ds_setLc (i := 8) (own := [("_law_number", 9)]) rfl S.nd rfl rfl (sw_true rfl rfl rfl (by decide +kernel)) (di_range1 rfl tx.n_range (da_cons de_int da_nil)) (blkOk_by rfl) (fun _ _ _ _ _ => (dg_name (i := 9) S.nd rfl (by first | exact Or.inl rfl | exact Or.inr rfl))) (fun _ _ _ _ _ => dts_nil) (fun _ _ _ _ _ => (de_cmp (os_eq hu) nx_eq (dv 9) (dv 7) rfl)))
    (ds_cons (ds_if (dt_not (dt_val (de_call (ps := ["_law_told", "_law_due"]) O._law_same hr0 rfl tx.g__law_same tx.u__law_same.kp tx.b__law_same tk (da_cons (de_call (ps := ["_law_error"]) O._law_classes hr0 rfl tx.g__law_classes tx.u__law_classes.kp tx.b__law_classes tk (da_cons (de_ix (dv 6) (dv 7)) da_nil)) (da_cons (dv 8) da_nil)))))
    (ds_cons (ds_ret de_bl)
     ds_nil)
    ds_nil)
    (ds_cons (ds_if (dt_w (dw_or (dt_not (dt_val (de_isX tx.xf tx.is_ShownError rfl tx.n_isinstance rfl tx.g_ShownError (de_ix (dv 6) (dv 7))))) (dw_or1 (dt_not (dt_val (de_isVE tx.xf tx.isv rfl tx.n_isinstance rfl tx.n_ValueError (de_ix (dv 6) (dv 7))))))))
    (ds_cons (ds_ret de_bl)
     ds_nil)
    ds_nil)
    ds_nil))))
   (ds_cons (ds_if (dt_not (dt_val (de_call (ps := ["_law_told", "_law_due"]) O._law_same hr0 rfl tx.g__law_same tx.u__law_same.kp tx.b__law_same tk (da_cons (de_call (ps := ["_law_found"]) O._law_held hr0 rfl tx.g__law_held tx.u__law_held.kp tx.b__law_held tk (da_cons (dv 6) da_nil)) (da_cons (de_lst (da_cons (de_op os_mulR nx_mulR (de_lst (da_cons (dv 4) da_nil)) de_int) (da_cons (de_lst (da_cons (dv 5) (da_cons (dv 5) da_nil))) da_nil))) da_nil)))))
   (ds_cons (ds_ret de_bl)
    ds_nil)
   ds_nil)
   ds_nil)))))))
  (ds_cons (ds_ret de_bl)
  ds_nil)))
theorem oks_step (tx : Txt w K mg A) (ex : Exs P w K mg base A) (O : Oks P w K mg base A j F) : Oks P w K mg base A (j + 3) (stepF F) :=
  ⟨der__law_mix tx ex O, der__law_box tx ex O, der__law_draw tx ex O, der__law_same tx ex O, der__law_classes tx ex O, der__law_errors tx ex O, der__law_held tx ex O, der_law tx ex O⟩
theorem oks_stk : Oks P w K mg base A 0 FF.stk := by
  constructor <;> exact ⟨fun vs H Q E h => h.1, fun Ar outer s H args us vs Q E hr e0 hb hv hs => (by obtain ⟨_, _, _, _, _, _, z⟩ := hs; exact False.elim z)⟩
theorem oks_run (tx : Txt w K mg A) (ex : Exs P w K mg base A) : ∀ k, Oks P w K mg base A (3 * k) (runF k)
  | 0 => oks_stk
  | k + 1 => oks_step tx ex (oks_run tx ex k)
end
end LW
end

section
namespace LW
open PySem PySem.Spec PyProof.Rows
open L2 W3
set_option maxHeartbeats 0 in
theorem all_mk {P : Program} {w : World} {K : PySem.W.Frag} {h : Heap} {mg : Str → Option Value} {fa : Addr} (X : K.In h) (G : h.Ns mainGlobals mg) (hfa : mg "law" = some (.ref fa))
    {f__law_mix : Addr} {fd__law_mix : FuncData}
    {f__law_box : Addr} {fd__law_box : FuncData}
    {f__law_draw : Addr} {fd__law_draw : FuncData}
    {f__law_same : Addr} {fd__law_same : FuncData}
    {f__law_classes : Addr} {fd__law_classes : FuncData}
    {f__law_errors : Addr} {fd__law_errors : FuncData}
    {f__law_held : Addr} {fd__law_held : FuncData}
    {f_law : Addr} {fd_law : FuncData}
    {C_ShownError : Addr}
    {C_InvalidForm : Addr}
    {C_InvalidRule : Addr}
    {C_InvalidWords : Addr}
    {C_InvalidStanding : Addr}
    {C_InvalidDeed : Addr}
    {C_InvalidTable : Addr}
    {C_InvalidText : Addr}
    {C_UnknownField : Addr}
    {C_UnknownWord : Addr}
    {C_TooManyAsked : Addr}
    {C_NothingToUndo : Addr}
    {C_NothingToRedo : Addr}
    {C_InvalidBound : Addr}
    {C_LimitExceeded : Addr}
    {C_NoStanding : Addr}
    {C_NoFault : Addr}
    {C_InvalidKind : Addr}
    {C_NotComparable : Addr}
    {C_InvalidChange : Addr}
    {C_InvalidRules : Addr}
    {xf_InvalidForm : Addr}
    {xf_InvalidDeed : Addr}
    {xf_InvalidChange : Addr}
    {xf_InvalidBound : Addr}
    {xf_InvalidRule : Addr}
    {xf_InvalidKind : Addr}
    {xf_LimitExceeded : Addr}
    {xf_InvalidWords : Addr}
    {xf_InvalidText : Addr}
    {xf_InvalidTable : Addr}
    {xf_NotComparable : Addr}
    {xf_NoFault : Addr}
    {xf_UnknownWord : Addr}
    {xf_UnknownField : Addr}
    {xf_TooManyAsked : Addr}
    (a__law_mix : PySem.W.nsIn K mainGlobals "_law_mix" = some (some (.ref f__law_mix)))
    (U__law_mix : Fun K "_law_mix" "_law_mix" st__law_mix f__law_mix fd__law_mix)
    (a__law_box : PySem.W.nsIn K mainGlobals "_law_box" = some (some (.ref f__law_box)))
    (U__law_box : Fun K "_law_box" "_law_box" st__law_box f__law_box fd__law_box)
    (a__law_draw : PySem.W.nsIn K mainGlobals "_law_draw" = some (some (.ref f__law_draw)))
    (U__law_draw : Fun K "_law_draw" "_law_draw" st__law_draw f__law_draw fd__law_draw)
    (a__law_same : PySem.W.nsIn K mainGlobals "_law_same" = some (some (.ref f__law_same)))
    (U__law_same : Fun K "_law_same" "_law_same" st__law_same f__law_same fd__law_same)
    (a__law_classes : PySem.W.nsIn K mainGlobals "_law_classes" = some (some (.ref f__law_classes)))
    (U__law_classes : Fun K "_law_classes" "_law_classes" st__law_classes f__law_classes fd__law_classes)
    (a__law_errors : PySem.W.nsIn K mainGlobals "_law_errors" = some (some (.ref f__law_errors)))
    (U__law_errors : Fun K "_law_errors" "_law_errors" st__law_errors f__law_errors fd__law_errors)
    (a__law_held : PySem.W.nsIn K mainGlobals "_law_held" = some (some (.ref f__law_held)))
    (U__law_held : Fun K "_law_held" "_law_held" st__law_held f__law_held fd__law_held)
    (a_law : PySem.W.nsIn K mainGlobals "law" = some (some (.ref f_law)))
    (U_law : Fun K "law" "law" st_law f_law fd_law)
    (a_ShownError : PySem.W.nsIn K mainGlobals "ShownError" = some (some (.ref C_ShownError)))
    (a_InvalidForm : PySem.W.nsIn K mainGlobals "InvalidForm" = some (some (.ref C_InvalidForm)))
    (a_InvalidRule : PySem.W.nsIn K mainGlobals "InvalidRule" = some (some (.ref C_InvalidRule)))
    (a_InvalidWords : PySem.W.nsIn K mainGlobals "InvalidWords" = some (some (.ref C_InvalidWords)))
    (a_InvalidStanding : PySem.W.nsIn K mainGlobals "InvalidStanding" = some (some (.ref C_InvalidStanding)))
    (a_InvalidDeed : PySem.W.nsIn K mainGlobals "InvalidDeed" = some (some (.ref C_InvalidDeed)))
    (a_InvalidTable : PySem.W.nsIn K mainGlobals "InvalidTable" = some (some (.ref C_InvalidTable)))
    (a_InvalidText : PySem.W.nsIn K mainGlobals "InvalidText" = some (some (.ref C_InvalidText)))
    (a_UnknownField : PySem.W.nsIn K mainGlobals "UnknownField" = some (some (.ref C_UnknownField)))
    (a_UnknownWord : PySem.W.nsIn K mainGlobals "UnknownWord" = some (some (.ref C_UnknownWord)))
    (a_TooManyAsked : PySem.W.nsIn K mainGlobals "TooManyAsked" = some (some (.ref C_TooManyAsked)))
    (a_NothingToUndo : PySem.W.nsIn K mainGlobals "NothingToUndo" = some (some (.ref C_NothingToUndo)))
    (a_NothingToRedo : PySem.W.nsIn K mainGlobals "NothingToRedo" = some (some (.ref C_NothingToRedo)))
    (a_InvalidBound : PySem.W.nsIn K mainGlobals "InvalidBound" = some (some (.ref C_InvalidBound)))
    (a_LimitExceeded : PySem.W.nsIn K mainGlobals "LimitExceeded" = some (some (.ref C_LimitExceeded)))
    (a_NoStanding : PySem.W.nsIn K mainGlobals "NoStanding" = some (some (.ref C_NoStanding)))
    (a_NoFault : PySem.W.nsIn K mainGlobals "NoFault" = some (some (.ref C_NoFault)))
    (a_InvalidKind : PySem.W.nsIn K mainGlobals "InvalidKind" = some (some (.ref C_InvalidKind)))
    (a_NotComparable : PySem.W.nsIn K mainGlobals "NotComparable" = some (some (.ref C_NotComparable)))
    (a_InvalidChange : PySem.W.nsIn K mainGlobals "InvalidChange" = some (some (.ref C_InvalidChange)))
    (a_InvalidRules : PySem.W.nsIn K mainGlobals "InvalidRules" = some (some (.ref C_InvalidRules)))
    (opq : PySem.W.nsIn K cStatics "thirdparty.any" = some none)
    (tops : (P.main.scope.names.lookup ("super" : Str)).isSome = false)
    (spc : PySem.W.specialIn K (.builtin "object.__class__") "__get__" = some (some (.builtin "getset_descriptor.__get__")))
    (tki : PySem.W.takesIn K (.builtin "object.__class__") = some true)
    (oxc_InvalidForm : oexB K C_InvalidForm = true)
    (xsa_InvalidForm : PySem.W.findIn K (.ref C_InvalidForm) "__setattr__" = some (some (.builtin "object.__setattr__")))
    (xbe_InvalidForm : PySem.W.subIn K (.ref C_InvalidForm) (.type "BaseException") = some true)
    (xty_InvalidForm : PySem.W.typeIn K (.ref C_InvalidForm) = some (.type "type"))
    (xk_InvalidForm : PySem.W.keepIn K (.ref C_InvalidForm) = true)
    (xi_InvalidForm : PySem.W.findIn K (.ref C_InvalidForm) "__init__" = some (some (.ref xf_InvalidForm)))
    (xt_InvalidForm : PySem.W.typeIn K (.ref xf_InvalidForm) = some (.type "function"))
    (XI_InvalidForm : XInit P K C_InvalidForm xf_InvalidForm "InvalidForm.__init__" st_x_InvalidForm)
    (xsu_InvalidForm : PySem.W.ks_superIn K C_InvalidForm C_InvalidForm "__init__" = some (some (.builtin "ValueError.__init__")))
    (xsv_InvalidForm : PySem.W.subIn K (.ref C_InvalidForm) (.type "ValueError") = some true)
    (xmr_InvalidForm : PySem.W.mroIn K C_InvalidForm (.ref C_InvalidForm) = some true)
    (xga_InvalidForm : PySem.W.findIn K (.ref C_InvalidForm) "__getattribute__" = some (some (.builtin "BaseException.__getattribute__")))
    (xgt_InvalidForm : PySem.W.findIn K (.ref C_InvalidForm) "__getattr__" = some none)
    (xcl_InvalidForm : PySem.W.findIn K (.ref C_InvalidForm) "__class__" = some (some (.builtin "object.__class__")))
    (xhd_InvalidForm : PySem.W.hasDictIn K C_InvalidForm = true)
    (xob_InvalidForm : PySem.W.mroIn K C_InvalidForm (.type "object") = some true)
    (xno_InvalidForm_deed : PySem.W.findIn K (.ref C_InvalidForm) "deed" = some none)
    (xno_InvalidForm_field : PySem.W.findIn K (.ref C_InvalidForm) "field" = some none)
    (xno_InvalidForm_index : PySem.W.findIn K (.ref C_InvalidForm) "index" = some none)
    (xno_InvalidForm_kind : PySem.W.findIn K (.ref C_InvalidForm) "kind" = some none)
    (xno_InvalidForm_limit : PySem.W.findIn K (.ref C_InvalidForm) "limit" = some none)
    (xno_InvalidForm_line : PySem.W.findIn K (.ref C_InvalidForm) "line" = some none)
    (xno_InvalidForm_part : PySem.W.findIn K (.ref C_InvalidForm) "part" = some none)
    (xno_InvalidForm_value : PySem.W.findIn K (.ref C_InvalidForm) "value" = some none)
    (xno_InvalidForm_word : PySem.W.findIn K (.ref C_InvalidForm) "word" = some none)
    (xno_InvalidForm_words : PySem.W.findIn K (.ref C_InvalidForm) "words" = some none)
    (oxc_InvalidDeed : oexB K C_InvalidDeed = true)
    (xsa_InvalidDeed : PySem.W.findIn K (.ref C_InvalidDeed) "__setattr__" = some (some (.builtin "object.__setattr__")))
    (xbe_InvalidDeed : PySem.W.subIn K (.ref C_InvalidDeed) (.type "BaseException") = some true)
    (xty_InvalidDeed : PySem.W.typeIn K (.ref C_InvalidDeed) = some (.type "type"))
    (xk_InvalidDeed : PySem.W.keepIn K (.ref C_InvalidDeed) = true)
    (xi_InvalidDeed : PySem.W.findIn K (.ref C_InvalidDeed) "__init__" = some (some (.ref xf_InvalidDeed)))
    (xt_InvalidDeed : PySem.W.typeIn K (.ref xf_InvalidDeed) = some (.type "function"))
    (XI_InvalidDeed : XInit P K C_InvalidDeed xf_InvalidDeed "InvalidDeed.__init__" st_x_InvalidDeed)
    (xsu_InvalidDeed : PySem.W.ks_superIn K C_InvalidDeed C_InvalidDeed "__init__" = some (some (.builtin "ValueError.__init__")))
    (xsv_InvalidDeed : PySem.W.subIn K (.ref C_InvalidDeed) (.type "ValueError") = some true)
    (xmr_InvalidDeed : PySem.W.mroIn K C_InvalidDeed (.ref C_InvalidDeed) = some true)
    (xga_InvalidDeed : PySem.W.findIn K (.ref C_InvalidDeed) "__getattribute__" = some (some (.builtin "BaseException.__getattribute__")))
    (xgt_InvalidDeed : PySem.W.findIn K (.ref C_InvalidDeed) "__getattr__" = some none)
    (xcl_InvalidDeed : PySem.W.findIn K (.ref C_InvalidDeed) "__class__" = some (some (.builtin "object.__class__")))
    (xhd_InvalidDeed : PySem.W.hasDictIn K C_InvalidDeed = true)
    (xob_InvalidDeed : PySem.W.mroIn K C_InvalidDeed (.type "object") = some true)
    (xno_InvalidDeed_deed : PySem.W.findIn K (.ref C_InvalidDeed) "deed" = some none)
    (xno_InvalidDeed_field : PySem.W.findIn K (.ref C_InvalidDeed) "field" = some none)
    (xno_InvalidDeed_index : PySem.W.findIn K (.ref C_InvalidDeed) "index" = some none)
    (xno_InvalidDeed_kind : PySem.W.findIn K (.ref C_InvalidDeed) "kind" = some none)
    (xno_InvalidDeed_limit : PySem.W.findIn K (.ref C_InvalidDeed) "limit" = some none)
    (xno_InvalidDeed_line : PySem.W.findIn K (.ref C_InvalidDeed) "line" = some none)
    (xno_InvalidDeed_part : PySem.W.findIn K (.ref C_InvalidDeed) "part" = some none)
    (xno_InvalidDeed_value : PySem.W.findIn K (.ref C_InvalidDeed) "value" = some none)
    (xno_InvalidDeed_word : PySem.W.findIn K (.ref C_InvalidDeed) "word" = some none)
    (xno_InvalidDeed_words : PySem.W.findIn K (.ref C_InvalidDeed) "words" = some none)
    (oxc_InvalidChange : oexB K C_InvalidChange = true)
    (xsa_InvalidChange : PySem.W.findIn K (.ref C_InvalidChange) "__setattr__" = some (some (.builtin "object.__setattr__")))
    (xbe_InvalidChange : PySem.W.subIn K (.ref C_InvalidChange) (.type "BaseException") = some true)
    (xty_InvalidChange : PySem.W.typeIn K (.ref C_InvalidChange) = some (.type "type"))
    (xk_InvalidChange : PySem.W.keepIn K (.ref C_InvalidChange) = true)
    (xi_InvalidChange : PySem.W.findIn K (.ref C_InvalidChange) "__init__" = some (some (.ref xf_InvalidChange)))
    (xt_InvalidChange : PySem.W.typeIn K (.ref xf_InvalidChange) = some (.type "function"))
    (XI_InvalidChange : XInit P K C_InvalidChange xf_InvalidChange "InvalidChange.__init__" st_x_InvalidChange)
    (xsu_InvalidChange : PySem.W.ks_superIn K C_InvalidChange C_InvalidChange "__init__" = some (some (.builtin "ValueError.__init__")))
    (xsv_InvalidChange : PySem.W.subIn K (.ref C_InvalidChange) (.type "ValueError") = some true)
    (xmr_InvalidChange : PySem.W.mroIn K C_InvalidChange (.ref C_InvalidChange) = some true)
    (xga_InvalidChange : PySem.W.findIn K (.ref C_InvalidChange) "__getattribute__" = some (some (.builtin "BaseException.__getattribute__")))
    (xgt_InvalidChange : PySem.W.findIn K (.ref C_InvalidChange) "__getattr__" = some none)
    (xcl_InvalidChange : PySem.W.findIn K (.ref C_InvalidChange) "__class__" = some (some (.builtin "object.__class__")))
    (xhd_InvalidChange : PySem.W.hasDictIn K C_InvalidChange = true)
    (xob_InvalidChange : PySem.W.mroIn K C_InvalidChange (.type "object") = some true)
    (xno_InvalidChange_deed : PySem.W.findIn K (.ref C_InvalidChange) "deed" = some none)
    (xno_InvalidChange_field : PySem.W.findIn K (.ref C_InvalidChange) "field" = some none)
    (xno_InvalidChange_index : PySem.W.findIn K (.ref C_InvalidChange) "index" = some none)
    (xno_InvalidChange_kind : PySem.W.findIn K (.ref C_InvalidChange) "kind" = some none)
    (xno_InvalidChange_limit : PySem.W.findIn K (.ref C_InvalidChange) "limit" = some none)
    (xno_InvalidChange_line : PySem.W.findIn K (.ref C_InvalidChange) "line" = some none)
    (xno_InvalidChange_part : PySem.W.findIn K (.ref C_InvalidChange) "part" = some none)
    (xno_InvalidChange_value : PySem.W.findIn K (.ref C_InvalidChange) "value" = some none)
    (xno_InvalidChange_word : PySem.W.findIn K (.ref C_InvalidChange) "word" = some none)
    (xno_InvalidChange_words : PySem.W.findIn K (.ref C_InvalidChange) "words" = some none)
    (oxc_InvalidBound : oexB K C_InvalidBound = true)
    (xsa_InvalidBound : PySem.W.findIn K (.ref C_InvalidBound) "__setattr__" = some (some (.builtin "object.__setattr__")))
    (xbe_InvalidBound : PySem.W.subIn K (.ref C_InvalidBound) (.type "BaseException") = some true)
    (xty_InvalidBound : PySem.W.typeIn K (.ref C_InvalidBound) = some (.type "type"))
    (xk_InvalidBound : PySem.W.keepIn K (.ref C_InvalidBound) = true)
    (xi_InvalidBound : PySem.W.findIn K (.ref C_InvalidBound) "__init__" = some (some (.ref xf_InvalidBound)))
    (xt_InvalidBound : PySem.W.typeIn K (.ref xf_InvalidBound) = some (.type "function"))
    (XI_InvalidBound : XInit P K C_InvalidBound xf_InvalidBound "InvalidBound.__init__" st_x_InvalidBound)
    (xsu_InvalidBound : PySem.W.ks_superIn K C_InvalidBound C_InvalidBound "__init__" = some (some (.builtin "ValueError.__init__")))
    (xsv_InvalidBound : PySem.W.subIn K (.ref C_InvalidBound) (.type "ValueError") = some true)
    (xmr_InvalidBound : PySem.W.mroIn K C_InvalidBound (.ref C_InvalidBound) = some true)
    (xga_InvalidBound : PySem.W.findIn K (.ref C_InvalidBound) "__getattribute__" = some (some (.builtin "BaseException.__getattribute__")))
    (xgt_InvalidBound : PySem.W.findIn K (.ref C_InvalidBound) "__getattr__" = some none)
    (xcl_InvalidBound : PySem.W.findIn K (.ref C_InvalidBound) "__class__" = some (some (.builtin "object.__class__")))
    (xhd_InvalidBound : PySem.W.hasDictIn K C_InvalidBound = true)
    (xob_InvalidBound : PySem.W.mroIn K C_InvalidBound (.type "object") = some true)
    (xno_InvalidBound_deed : PySem.W.findIn K (.ref C_InvalidBound) "deed" = some none)
    (xno_InvalidBound_field : PySem.W.findIn K (.ref C_InvalidBound) "field" = some none)
    (xno_InvalidBound_index : PySem.W.findIn K (.ref C_InvalidBound) "index" = some none)
    (xno_InvalidBound_kind : PySem.W.findIn K (.ref C_InvalidBound) "kind" = some none)
    (xno_InvalidBound_limit : PySem.W.findIn K (.ref C_InvalidBound) "limit" = some none)
    (xno_InvalidBound_line : PySem.W.findIn K (.ref C_InvalidBound) "line" = some none)
    (xno_InvalidBound_part : PySem.W.findIn K (.ref C_InvalidBound) "part" = some none)
    (xno_InvalidBound_value : PySem.W.findIn K (.ref C_InvalidBound) "value" = some none)
    (xno_InvalidBound_word : PySem.W.findIn K (.ref C_InvalidBound) "word" = some none)
    (xno_InvalidBound_words : PySem.W.findIn K (.ref C_InvalidBound) "words" = some none)
    (oxc_InvalidRule : oexB K C_InvalidRule = true)
    (xsa_InvalidRule : PySem.W.findIn K (.ref C_InvalidRule) "__setattr__" = some (some (.builtin "object.__setattr__")))
    (xbe_InvalidRule : PySem.W.subIn K (.ref C_InvalidRule) (.type "BaseException") = some true)
    (xty_InvalidRule : PySem.W.typeIn K (.ref C_InvalidRule) = some (.type "type"))
    (xk_InvalidRule : PySem.W.keepIn K (.ref C_InvalidRule) = true)
    (xi_InvalidRule : PySem.W.findIn K (.ref C_InvalidRule) "__init__" = some (some (.ref xf_InvalidRule)))
    (xt_InvalidRule : PySem.W.typeIn K (.ref xf_InvalidRule) = some (.type "function"))
    (XI_InvalidRule : XInit P K C_InvalidRule xf_InvalidRule "InvalidRule.__init__" st_x_InvalidRule)
    (xsu_InvalidRule : PySem.W.ks_superIn K C_InvalidRule C_InvalidRule "__init__" = some (some (.builtin "ValueError.__init__")))
    (xsv_InvalidRule : PySem.W.subIn K (.ref C_InvalidRule) (.type "ValueError") = some true)
    (xmr_InvalidRule : PySem.W.mroIn K C_InvalidRule (.ref C_InvalidRule) = some true)
    (xga_InvalidRule : PySem.W.findIn K (.ref C_InvalidRule) "__getattribute__" = some (some (.builtin "BaseException.__getattribute__")))
    (xgt_InvalidRule : PySem.W.findIn K (.ref C_InvalidRule) "__getattr__" = some none)
    (xcl_InvalidRule : PySem.W.findIn K (.ref C_InvalidRule) "__class__" = some (some (.builtin "object.__class__")))
    (xhd_InvalidRule : PySem.W.hasDictIn K C_InvalidRule = true)
    (xob_InvalidRule : PySem.W.mroIn K C_InvalidRule (.type "object") = some true)
    (xno_InvalidRule_deed : PySem.W.findIn K (.ref C_InvalidRule) "deed" = some none)
    (xno_InvalidRule_field : PySem.W.findIn K (.ref C_InvalidRule) "field" = some none)
    (xno_InvalidRule_index : PySem.W.findIn K (.ref C_InvalidRule) "index" = some none)
    (xno_InvalidRule_kind : PySem.W.findIn K (.ref C_InvalidRule) "kind" = some none)
    (xno_InvalidRule_limit : PySem.W.findIn K (.ref C_InvalidRule) "limit" = some none)
    (xno_InvalidRule_line : PySem.W.findIn K (.ref C_InvalidRule) "line" = some none)
    (xno_InvalidRule_part : PySem.W.findIn K (.ref C_InvalidRule) "part" = some none)
    (xno_InvalidRule_value : PySem.W.findIn K (.ref C_InvalidRule) "value" = some none)
    (xno_InvalidRule_word : PySem.W.findIn K (.ref C_InvalidRule) "word" = some none)
    (xno_InvalidRule_words : PySem.W.findIn K (.ref C_InvalidRule) "words" = some none)
    (oxc_InvalidKind : oexB K C_InvalidKind = true)
    (xsa_InvalidKind : PySem.W.findIn K (.ref C_InvalidKind) "__setattr__" = some (some (.builtin "object.__setattr__")))
    (xbe_InvalidKind : PySem.W.subIn K (.ref C_InvalidKind) (.type "BaseException") = some true)
    (xty_InvalidKind : PySem.W.typeIn K (.ref C_InvalidKind) = some (.type "type"))
    (xk_InvalidKind : PySem.W.keepIn K (.ref C_InvalidKind) = true)
    (xi_InvalidKind : PySem.W.findIn K (.ref C_InvalidKind) "__init__" = some (some (.ref xf_InvalidKind)))
    (xt_InvalidKind : PySem.W.typeIn K (.ref xf_InvalidKind) = some (.type "function"))
    (XI_InvalidKind : XInit P K C_InvalidKind xf_InvalidKind "InvalidKind.__init__" st_x_InvalidKind)
    (xsu_InvalidKind : PySem.W.ks_superIn K C_InvalidKind C_InvalidKind "__init__" = some (some (.builtin "ValueError.__init__")))
    (xsv_InvalidKind : PySem.W.subIn K (.ref C_InvalidKind) (.type "ValueError") = some true)
    (xmr_InvalidKind : PySem.W.mroIn K C_InvalidKind (.ref C_InvalidKind) = some true)
    (xga_InvalidKind : PySem.W.findIn K (.ref C_InvalidKind) "__getattribute__" = some (some (.builtin "BaseException.__getattribute__")))
    (xgt_InvalidKind : PySem.W.findIn K (.ref C_InvalidKind) "__getattr__" = some none)
    (xcl_InvalidKind : PySem.W.findIn K (.ref C_InvalidKind) "__class__" = some (some (.builtin "object.__class__")))
    (xhd_InvalidKind : PySem.W.hasDictIn K C_InvalidKind = true)
    (xob_InvalidKind : PySem.W.mroIn K C_InvalidKind (.type "object") = some true)
    (xno_InvalidKind_deed : PySem.W.findIn K (.ref C_InvalidKind) "deed" = some none)
    (xno_InvalidKind_field : PySem.W.findIn K (.ref C_InvalidKind) "field" = some none)
    (xno_InvalidKind_index : PySem.W.findIn K (.ref C_InvalidKind) "index" = some none)
    (xno_InvalidKind_kind : PySem.W.findIn K (.ref C_InvalidKind) "kind" = some none)
    (xno_InvalidKind_limit : PySem.W.findIn K (.ref C_InvalidKind) "limit" = some none)
    (xno_InvalidKind_line : PySem.W.findIn K (.ref C_InvalidKind) "line" = some none)
    (xno_InvalidKind_part : PySem.W.findIn K (.ref C_InvalidKind) "part" = some none)
    (xno_InvalidKind_value : PySem.W.findIn K (.ref C_InvalidKind) "value" = some none)
    (xno_InvalidKind_word : PySem.W.findIn K (.ref C_InvalidKind) "word" = some none)
    (xno_InvalidKind_words : PySem.W.findIn K (.ref C_InvalidKind) "words" = some none)
    (oxc_LimitExceeded : oexB K C_LimitExceeded = true)
    (xsa_LimitExceeded : PySem.W.findIn K (.ref C_LimitExceeded) "__setattr__" = some (some (.builtin "object.__setattr__")))
    (xbe_LimitExceeded : PySem.W.subIn K (.ref C_LimitExceeded) (.type "BaseException") = some true)
    (xty_LimitExceeded : PySem.W.typeIn K (.ref C_LimitExceeded) = some (.type "type"))
    (xk_LimitExceeded : PySem.W.keepIn K (.ref C_LimitExceeded) = true)
    (xi_LimitExceeded : PySem.W.findIn K (.ref C_LimitExceeded) "__init__" = some (some (.ref xf_LimitExceeded)))
    (xt_LimitExceeded : PySem.W.typeIn K (.ref xf_LimitExceeded) = some (.type "function"))
    (XI_LimitExceeded : XInit P K C_LimitExceeded xf_LimitExceeded "LimitExceeded.__init__" st_x_LimitExceeded)
    (xsu_LimitExceeded : PySem.W.ks_superIn K C_LimitExceeded C_LimitExceeded "__init__" = some (some (.builtin "ValueError.__init__")))
    (xsv_LimitExceeded : PySem.W.subIn K (.ref C_LimitExceeded) (.type "ValueError") = some true)
    (xmr_LimitExceeded : PySem.W.mroIn K C_LimitExceeded (.ref C_LimitExceeded) = some true)
    (xga_LimitExceeded : PySem.W.findIn K (.ref C_LimitExceeded) "__getattribute__" = some (some (.builtin "BaseException.__getattribute__")))
    (xgt_LimitExceeded : PySem.W.findIn K (.ref C_LimitExceeded) "__getattr__" = some none)
    (xcl_LimitExceeded : PySem.W.findIn K (.ref C_LimitExceeded) "__class__" = some (some (.builtin "object.__class__")))
    (xhd_LimitExceeded : PySem.W.hasDictIn K C_LimitExceeded = true)
    (xob_LimitExceeded : PySem.W.mroIn K C_LimitExceeded (.type "object") = some true)
    (xno_LimitExceeded_deed : PySem.W.findIn K (.ref C_LimitExceeded) "deed" = some none)
    (xno_LimitExceeded_field : PySem.W.findIn K (.ref C_LimitExceeded) "field" = some none)
    (xno_LimitExceeded_index : PySem.W.findIn K (.ref C_LimitExceeded) "index" = some none)
    (xno_LimitExceeded_kind : PySem.W.findIn K (.ref C_LimitExceeded) "kind" = some none)
    (xno_LimitExceeded_limit : PySem.W.findIn K (.ref C_LimitExceeded) "limit" = some none)
    (xno_LimitExceeded_line : PySem.W.findIn K (.ref C_LimitExceeded) "line" = some none)
    (xno_LimitExceeded_part : PySem.W.findIn K (.ref C_LimitExceeded) "part" = some none)
    (xno_LimitExceeded_value : PySem.W.findIn K (.ref C_LimitExceeded) "value" = some none)
    (xno_LimitExceeded_word : PySem.W.findIn K (.ref C_LimitExceeded) "word" = some none)
    (xno_LimitExceeded_words : PySem.W.findIn K (.ref C_LimitExceeded) "words" = some none)
    (oxc_InvalidWords : oexB K C_InvalidWords = true)
    (xsa_InvalidWords : PySem.W.findIn K (.ref C_InvalidWords) "__setattr__" = some (some (.builtin "object.__setattr__")))
    (xbe_InvalidWords : PySem.W.subIn K (.ref C_InvalidWords) (.type "BaseException") = some true)
    (xty_InvalidWords : PySem.W.typeIn K (.ref C_InvalidWords) = some (.type "type"))
    (xk_InvalidWords : PySem.W.keepIn K (.ref C_InvalidWords) = true)
    (xi_InvalidWords : PySem.W.findIn K (.ref C_InvalidWords) "__init__" = some (some (.ref xf_InvalidWords)))
    (xt_InvalidWords : PySem.W.typeIn K (.ref xf_InvalidWords) = some (.type "function"))
    (XI_InvalidWords : XInit P K C_InvalidWords xf_InvalidWords "InvalidWords.__init__" st_x_InvalidWords)
    (xsu_InvalidWords : PySem.W.ks_superIn K C_InvalidWords C_InvalidWords "__init__" = some (some (.builtin "ValueError.__init__")))
    (xsv_InvalidWords : PySem.W.subIn K (.ref C_InvalidWords) (.type "ValueError") = some true)
    (xmr_InvalidWords : PySem.W.mroIn K C_InvalidWords (.ref C_InvalidWords) = some true)
    (xga_InvalidWords : PySem.W.findIn K (.ref C_InvalidWords) "__getattribute__" = some (some (.builtin "BaseException.__getattribute__")))
    (xgt_InvalidWords : PySem.W.findIn K (.ref C_InvalidWords) "__getattr__" = some none)
    (xcl_InvalidWords : PySem.W.findIn K (.ref C_InvalidWords) "__class__" = some (some (.builtin "object.__class__")))
    (xhd_InvalidWords : PySem.W.hasDictIn K C_InvalidWords = true)
    (xob_InvalidWords : PySem.W.mroIn K C_InvalidWords (.type "object") = some true)
    (xno_InvalidWords_deed : PySem.W.findIn K (.ref C_InvalidWords) "deed" = some none)
    (xno_InvalidWords_field : PySem.W.findIn K (.ref C_InvalidWords) "field" = some none)
    (xno_InvalidWords_index : PySem.W.findIn K (.ref C_InvalidWords) "index" = some none)
    (xno_InvalidWords_kind : PySem.W.findIn K (.ref C_InvalidWords) "kind" = some none)
    (xno_InvalidWords_limit : PySem.W.findIn K (.ref C_InvalidWords) "limit" = some none)
    (xno_InvalidWords_line : PySem.W.findIn K (.ref C_InvalidWords) "line" = some none)
    (xno_InvalidWords_part : PySem.W.findIn K (.ref C_InvalidWords) "part" = some none)
    (xno_InvalidWords_value : PySem.W.findIn K (.ref C_InvalidWords) "value" = some none)
    (xno_InvalidWords_word : PySem.W.findIn K (.ref C_InvalidWords) "word" = some none)
    (xno_InvalidWords_words : PySem.W.findIn K (.ref C_InvalidWords) "words" = some none)
    (oxc_InvalidText : oexB K C_InvalidText = true)
    (xsa_InvalidText : PySem.W.findIn K (.ref C_InvalidText) "__setattr__" = some (some (.builtin "object.__setattr__")))
    (xbe_InvalidText : PySem.W.subIn K (.ref C_InvalidText) (.type "BaseException") = some true)
    (xty_InvalidText : PySem.W.typeIn K (.ref C_InvalidText) = some (.type "type"))
    (xk_InvalidText : PySem.W.keepIn K (.ref C_InvalidText) = true)
    (xi_InvalidText : PySem.W.findIn K (.ref C_InvalidText) "__init__" = some (some (.ref xf_InvalidText)))
    (xt_InvalidText : PySem.W.typeIn K (.ref xf_InvalidText) = some (.type "function"))
    (XI_InvalidText : XInit P K C_InvalidText xf_InvalidText "InvalidText.__init__" st_x_InvalidText)
    (xsu_InvalidText : PySem.W.ks_superIn K C_InvalidText C_InvalidText "__init__" = some (some (.builtin "ValueError.__init__")))
    (xsv_InvalidText : PySem.W.subIn K (.ref C_InvalidText) (.type "ValueError") = some true)
    (xmr_InvalidText : PySem.W.mroIn K C_InvalidText (.ref C_InvalidText) = some true)
    (xga_InvalidText : PySem.W.findIn K (.ref C_InvalidText) "__getattribute__" = some (some (.builtin "BaseException.__getattribute__")))
    (xgt_InvalidText : PySem.W.findIn K (.ref C_InvalidText) "__getattr__" = some none)
    (xcl_InvalidText : PySem.W.findIn K (.ref C_InvalidText) "__class__" = some (some (.builtin "object.__class__")))
    (xhd_InvalidText : PySem.W.hasDictIn K C_InvalidText = true)
    (xob_InvalidText : PySem.W.mroIn K C_InvalidText (.type "object") = some true)
    (xno_InvalidText_deed : PySem.W.findIn K (.ref C_InvalidText) "deed" = some none)
    (xno_InvalidText_field : PySem.W.findIn K (.ref C_InvalidText) "field" = some none)
    (xno_InvalidText_index : PySem.W.findIn K (.ref C_InvalidText) "index" = some none)
    (xno_InvalidText_kind : PySem.W.findIn K (.ref C_InvalidText) "kind" = some none)
    (xno_InvalidText_limit : PySem.W.findIn K (.ref C_InvalidText) "limit" = some none)
    (xno_InvalidText_line : PySem.W.findIn K (.ref C_InvalidText) "line" = some none)
    (xno_InvalidText_part : PySem.W.findIn K (.ref C_InvalidText) "part" = some none)
    (xno_InvalidText_value : PySem.W.findIn K (.ref C_InvalidText) "value" = some none)
    (xno_InvalidText_word : PySem.W.findIn K (.ref C_InvalidText) "word" = some none)
    (xno_InvalidText_words : PySem.W.findIn K (.ref C_InvalidText) "words" = some none)
    (oxc_InvalidTable : oexB K C_InvalidTable = true)
    (xsa_InvalidTable : PySem.W.findIn K (.ref C_InvalidTable) "__setattr__" = some (some (.builtin "object.__setattr__")))
    (xbe_InvalidTable : PySem.W.subIn K (.ref C_InvalidTable) (.type "BaseException") = some true)
    (xty_InvalidTable : PySem.W.typeIn K (.ref C_InvalidTable) = some (.type "type"))
    (xk_InvalidTable : PySem.W.keepIn K (.ref C_InvalidTable) = true)
    (xi_InvalidTable : PySem.W.findIn K (.ref C_InvalidTable) "__init__" = some (some (.ref xf_InvalidTable)))
    (xt_InvalidTable : PySem.W.typeIn K (.ref xf_InvalidTable) = some (.type "function"))
    (XI_InvalidTable : XInit P K C_InvalidTable xf_InvalidTable "InvalidTable.__init__" st_x_InvalidTable)
    (xsu_InvalidTable : PySem.W.ks_superIn K C_InvalidTable C_InvalidTable "__init__" = some (some (.builtin "ValueError.__init__")))
    (xsv_InvalidTable : PySem.W.subIn K (.ref C_InvalidTable) (.type "ValueError") = some true)
    (xmr_InvalidTable : PySem.W.mroIn K C_InvalidTable (.ref C_InvalidTable) = some true)
    (xga_InvalidTable : PySem.W.findIn K (.ref C_InvalidTable) "__getattribute__" = some (some (.builtin "BaseException.__getattribute__")))
    (xgt_InvalidTable : PySem.W.findIn K (.ref C_InvalidTable) "__getattr__" = some none)
    (xcl_InvalidTable : PySem.W.findIn K (.ref C_InvalidTable) "__class__" = some (some (.builtin "object.__class__")))
    (xhd_InvalidTable : PySem.W.hasDictIn K C_InvalidTable = true)
    (xob_InvalidTable : PySem.W.mroIn K C_InvalidTable (.type "object") = some true)
    (xno_InvalidTable_deed : PySem.W.findIn K (.ref C_InvalidTable) "deed" = some none)
    (xno_InvalidTable_field : PySem.W.findIn K (.ref C_InvalidTable) "field" = some none)
    (xno_InvalidTable_index : PySem.W.findIn K (.ref C_InvalidTable) "index" = some none)
    (xno_InvalidTable_kind : PySem.W.findIn K (.ref C_InvalidTable) "kind" = some none)
    (xno_InvalidTable_limit : PySem.W.findIn K (.ref C_InvalidTable) "limit" = some none)
    (xno_InvalidTable_line : PySem.W.findIn K (.ref C_InvalidTable) "line" = some none)
    (xno_InvalidTable_part : PySem.W.findIn K (.ref C_InvalidTable) "part" = some none)
    (xno_InvalidTable_value : PySem.W.findIn K (.ref C_InvalidTable) "value" = some none)
    (xno_InvalidTable_word : PySem.W.findIn K (.ref C_InvalidTable) "word" = some none)
    (xno_InvalidTable_words : PySem.W.findIn K (.ref C_InvalidTable) "words" = some none)
    (oxc_NotComparable : oexB K C_NotComparable = true)
    (xsa_NotComparable : PySem.W.findIn K (.ref C_NotComparable) "__setattr__" = some (some (.builtin "object.__setattr__")))
    (xbe_NotComparable : PySem.W.subIn K (.ref C_NotComparable) (.type "BaseException") = some true)
    (xty_NotComparable : PySem.W.typeIn K (.ref C_NotComparable) = some (.type "type"))
    (xk_NotComparable : PySem.W.keepIn K (.ref C_NotComparable) = true)
    (xi_NotComparable : PySem.W.findIn K (.ref C_NotComparable) "__init__" = some (some (.ref xf_NotComparable)))
    (xt_NotComparable : PySem.W.typeIn K (.ref xf_NotComparable) = some (.type "function"))
    (XI_NotComparable : XInit P K C_NotComparable xf_NotComparable "NotComparable.__init__" st_x_NotComparable)
    (xsu_NotComparable : PySem.W.ks_superIn K C_NotComparable C_NotComparable "__init__" = some (some (.builtin "ValueError.__init__")))
    (xsv_NotComparable : PySem.W.subIn K (.ref C_NotComparable) (.type "ValueError") = some true)
    (xmr_NotComparable : PySem.W.mroIn K C_NotComparable (.ref C_NotComparable) = some true)
    (xga_NotComparable : PySem.W.findIn K (.ref C_NotComparable) "__getattribute__" = some (some (.builtin "BaseException.__getattribute__")))
    (xgt_NotComparable : PySem.W.findIn K (.ref C_NotComparable) "__getattr__" = some none)
    (xcl_NotComparable : PySem.W.findIn K (.ref C_NotComparable) "__class__" = some (some (.builtin "object.__class__")))
    (xhd_NotComparable : PySem.W.hasDictIn K C_NotComparable = true)
    (xob_NotComparable : PySem.W.mroIn K C_NotComparable (.type "object") = some true)
    (xno_NotComparable_deed : PySem.W.findIn K (.ref C_NotComparable) "deed" = some none)
    (xno_NotComparable_field : PySem.W.findIn K (.ref C_NotComparable) "field" = some none)
    (xno_NotComparable_index : PySem.W.findIn K (.ref C_NotComparable) "index" = some none)
    (xno_NotComparable_kind : PySem.W.findIn K (.ref C_NotComparable) "kind" = some none)
    (xno_NotComparable_limit : PySem.W.findIn K (.ref C_NotComparable) "limit" = some none)
    (xno_NotComparable_line : PySem.W.findIn K (.ref C_NotComparable) "line" = some none)
    (xno_NotComparable_part : PySem.W.findIn K (.ref C_NotComparable) "part" = some none)
    (xno_NotComparable_value : PySem.W.findIn K (.ref C_NotComparable) "value" = some none)
    (xno_NotComparable_word : PySem.W.findIn K (.ref C_NotComparable) "word" = some none)
    (xno_NotComparable_words : PySem.W.findIn K (.ref C_NotComparable) "words" = some none)
    (oxc_NoFault : oexB K C_NoFault = true)
    (xsa_NoFault : PySem.W.findIn K (.ref C_NoFault) "__setattr__" = some (some (.builtin "object.__setattr__")))
    (xbe_NoFault : PySem.W.subIn K (.ref C_NoFault) (.type "BaseException") = some true)
    (xty_NoFault : PySem.W.typeIn K (.ref C_NoFault) = some (.type "type"))
    (xk_NoFault : PySem.W.keepIn K (.ref C_NoFault) = true)
    (xi_NoFault : PySem.W.findIn K (.ref C_NoFault) "__init__" = some (some (.ref xf_NoFault)))
    (xt_NoFault : PySem.W.typeIn K (.ref xf_NoFault) = some (.type "function"))
    (XI_NoFault : XInit P K C_NoFault xf_NoFault "NoFault.__init__" st_x_NoFault)
    (xsu_NoFault : PySem.W.ks_superIn K C_NoFault C_NoFault "__init__" = some (some (.builtin "ValueError.__init__")))
    (xsv_NoFault : PySem.W.subIn K (.ref C_NoFault) (.type "ValueError") = some true)
    (xmr_NoFault : PySem.W.mroIn K C_NoFault (.ref C_NoFault) = some true)
    (xga_NoFault : PySem.W.findIn K (.ref C_NoFault) "__getattribute__" = some (some (.builtin "BaseException.__getattribute__")))
    (xgt_NoFault : PySem.W.findIn K (.ref C_NoFault) "__getattr__" = some none)
    (xcl_NoFault : PySem.W.findIn K (.ref C_NoFault) "__class__" = some (some (.builtin "object.__class__")))
    (xhd_NoFault : PySem.W.hasDictIn K C_NoFault = true)
    (xob_NoFault : PySem.W.mroIn K C_NoFault (.type "object") = some true)
    (xno_NoFault_deed : PySem.W.findIn K (.ref C_NoFault) "deed" = some none)
    (xno_NoFault_field : PySem.W.findIn K (.ref C_NoFault) "field" = some none)
    (xno_NoFault_index : PySem.W.findIn K (.ref C_NoFault) "index" = some none)
    (xno_NoFault_kind : PySem.W.findIn K (.ref C_NoFault) "kind" = some none)
    (xno_NoFault_limit : PySem.W.findIn K (.ref C_NoFault) "limit" = some none)
    (xno_NoFault_line : PySem.W.findIn K (.ref C_NoFault) "line" = some none)
    (xno_NoFault_part : PySem.W.findIn K (.ref C_NoFault) "part" = some none)
    (xno_NoFault_value : PySem.W.findIn K (.ref C_NoFault) "value" = some none)
    (xno_NoFault_word : PySem.W.findIn K (.ref C_NoFault) "word" = some none)
    (xno_NoFault_words : PySem.W.findIn K (.ref C_NoFault) "words" = some none)
    (oxc_UnknownWord : oexB K C_UnknownWord = true)
    (xsa_UnknownWord : PySem.W.findIn K (.ref C_UnknownWord) "__setattr__" = some (some (.builtin "object.__setattr__")))
    (xbe_UnknownWord : PySem.W.subIn K (.ref C_UnknownWord) (.type "BaseException") = some true)
    (xty_UnknownWord : PySem.W.typeIn K (.ref C_UnknownWord) = some (.type "type"))
    (xk_UnknownWord : PySem.W.keepIn K (.ref C_UnknownWord) = true)
    (xi_UnknownWord : PySem.W.findIn K (.ref C_UnknownWord) "__init__" = some (some (.ref xf_UnknownWord)))
    (xt_UnknownWord : PySem.W.typeIn K (.ref xf_UnknownWord) = some (.type "function"))
    (XI_UnknownWord : XInit P K C_UnknownWord xf_UnknownWord "UnknownWord.__init__" st_x_UnknownWord)
    (xsu_UnknownWord : PySem.W.ks_superIn K C_UnknownWord C_UnknownWord "__init__" = some (some (.builtin "ValueError.__init__")))
    (xsv_UnknownWord : PySem.W.subIn K (.ref C_UnknownWord) (.type "ValueError") = some true)
    (xmr_UnknownWord : PySem.W.mroIn K C_UnknownWord (.ref C_UnknownWord) = some true)
    (xga_UnknownWord : PySem.W.findIn K (.ref C_UnknownWord) "__getattribute__" = some (some (.builtin "BaseException.__getattribute__")))
    (xgt_UnknownWord : PySem.W.findIn K (.ref C_UnknownWord) "__getattr__" = some none)
    (xcl_UnknownWord : PySem.W.findIn K (.ref C_UnknownWord) "__class__" = some (some (.builtin "object.__class__")))
    (xhd_UnknownWord : PySem.W.hasDictIn K C_UnknownWord = true)
    (xob_UnknownWord : PySem.W.mroIn K C_UnknownWord (.type "object") = some true)
    (xno_UnknownWord_deed : PySem.W.findIn K (.ref C_UnknownWord) "deed" = some none)
    (xno_UnknownWord_field : PySem.W.findIn K (.ref C_UnknownWord) "field" = some none)
    (xno_UnknownWord_index : PySem.W.findIn K (.ref C_UnknownWord) "index" = some none)
    (xno_UnknownWord_kind : PySem.W.findIn K (.ref C_UnknownWord) "kind" = some none)
    (xno_UnknownWord_limit : PySem.W.findIn K (.ref C_UnknownWord) "limit" = some none)
    (xno_UnknownWord_line : PySem.W.findIn K (.ref C_UnknownWord) "line" = some none)
    (xno_UnknownWord_part : PySem.W.findIn K (.ref C_UnknownWord) "part" = some none)
    (xno_UnknownWord_value : PySem.W.findIn K (.ref C_UnknownWord) "value" = some none)
    (xno_UnknownWord_word : PySem.W.findIn K (.ref C_UnknownWord) "word" = some none)
    (xno_UnknownWord_words : PySem.W.findIn K (.ref C_UnknownWord) "words" = some none)
    (oxc_UnknownField : oexB K C_UnknownField = true)
    (xsa_UnknownField : PySem.W.findIn K (.ref C_UnknownField) "__setattr__" = some (some (.builtin "object.__setattr__")))
    (xbe_UnknownField : PySem.W.subIn K (.ref C_UnknownField) (.type "BaseException") = some true)
    (xty_UnknownField : PySem.W.typeIn K (.ref C_UnknownField) = some (.type "type"))
    (xk_UnknownField : PySem.W.keepIn K (.ref C_UnknownField) = true)
    (xi_UnknownField : PySem.W.findIn K (.ref C_UnknownField) "__init__" = some (some (.ref xf_UnknownField)))
    (xt_UnknownField : PySem.W.typeIn K (.ref xf_UnknownField) = some (.type "function"))
    (XI_UnknownField : XInit P K C_UnknownField xf_UnknownField "UnknownField.__init__" st_x_UnknownField)
    (xsu_UnknownField : PySem.W.ks_superIn K C_UnknownField C_UnknownField "__init__" = some (some (.builtin "ValueError.__init__")))
    (xsv_UnknownField : PySem.W.subIn K (.ref C_UnknownField) (.type "ValueError") = some true)
    (xmr_UnknownField : PySem.W.mroIn K C_UnknownField (.ref C_UnknownField) = some true)
    (xga_UnknownField : PySem.W.findIn K (.ref C_UnknownField) "__getattribute__" = some (some (.builtin "BaseException.__getattribute__")))
    (xgt_UnknownField : PySem.W.findIn K (.ref C_UnknownField) "__getattr__" = some none)
    (xcl_UnknownField : PySem.W.findIn K (.ref C_UnknownField) "__class__" = some (some (.builtin "object.__class__")))
    (xhd_UnknownField : PySem.W.hasDictIn K C_UnknownField = true)
    (xob_UnknownField : PySem.W.mroIn K C_UnknownField (.type "object") = some true)
    (xno_UnknownField_deed : PySem.W.findIn K (.ref C_UnknownField) "deed" = some none)
    (xno_UnknownField_field : PySem.W.findIn K (.ref C_UnknownField) "field" = some none)
    (xno_UnknownField_index : PySem.W.findIn K (.ref C_UnknownField) "index" = some none)
    (xno_UnknownField_kind : PySem.W.findIn K (.ref C_UnknownField) "kind" = some none)
    (xno_UnknownField_limit : PySem.W.findIn K (.ref C_UnknownField) "limit" = some none)
    (xno_UnknownField_line : PySem.W.findIn K (.ref C_UnknownField) "line" = some none)
    (xno_UnknownField_part : PySem.W.findIn K (.ref C_UnknownField) "part" = some none)
    (xno_UnknownField_value : PySem.W.findIn K (.ref C_UnknownField) "value" = some none)
    (xno_UnknownField_word : PySem.W.findIn K (.ref C_UnknownField) "word" = some none)
    (xno_UnknownField_words : PySem.W.findIn K (.ref C_UnknownField) "words" = some none)
    (oxc_TooManyAsked : oexB K C_TooManyAsked = true)
    (xsa_TooManyAsked : PySem.W.findIn K (.ref C_TooManyAsked) "__setattr__" = some (some (.builtin "object.__setattr__")))
    (xbe_TooManyAsked : PySem.W.subIn K (.ref C_TooManyAsked) (.type "BaseException") = some true)
    (xty_TooManyAsked : PySem.W.typeIn K (.ref C_TooManyAsked) = some (.type "type"))
    (xk_TooManyAsked : PySem.W.keepIn K (.ref C_TooManyAsked) = true)
    (xi_TooManyAsked : PySem.W.findIn K (.ref C_TooManyAsked) "__init__" = some (some (.ref xf_TooManyAsked)))
    (xt_TooManyAsked : PySem.W.typeIn K (.ref xf_TooManyAsked) = some (.type "function"))
    (XI_TooManyAsked : XInit P K C_TooManyAsked xf_TooManyAsked "TooManyAsked.__init__" st_x_TooManyAsked)
    (xsu_TooManyAsked : PySem.W.ks_superIn K C_TooManyAsked C_TooManyAsked "__init__" = some (some (.builtin "ValueError.__init__")))
    (xsv_TooManyAsked : PySem.W.subIn K (.ref C_TooManyAsked) (.type "ValueError") = some true)
    (xmr_TooManyAsked : PySem.W.mroIn K C_TooManyAsked (.ref C_TooManyAsked) = some true)
    (xga_TooManyAsked : PySem.W.findIn K (.ref C_TooManyAsked) "__getattribute__" = some (some (.builtin "BaseException.__getattribute__")))
    (xgt_TooManyAsked : PySem.W.findIn K (.ref C_TooManyAsked) "__getattr__" = some none)
    (xcl_TooManyAsked : PySem.W.findIn K (.ref C_TooManyAsked) "__class__" = some (some (.builtin "object.__class__")))
    (xhd_TooManyAsked : PySem.W.hasDictIn K C_TooManyAsked = true)
    (xob_TooManyAsked : PySem.W.mroIn K C_TooManyAsked (.type "object") = some true)
    (xno_TooManyAsked_deed : PySem.W.findIn K (.ref C_TooManyAsked) "deed" = some none)
    (xno_TooManyAsked_field : PySem.W.findIn K (.ref C_TooManyAsked) "field" = some none)
    (xno_TooManyAsked_index : PySem.W.findIn K (.ref C_TooManyAsked) "index" = some none)
    (xno_TooManyAsked_kind : PySem.W.findIn K (.ref C_TooManyAsked) "kind" = some none)
    (xno_TooManyAsked_limit : PySem.W.findIn K (.ref C_TooManyAsked) "limit" = some none)
    (xno_TooManyAsked_line : PySem.W.findIn K (.ref C_TooManyAsked) "line" = some none)
    (xno_TooManyAsked_part : PySem.W.findIn K (.ref C_TooManyAsked) "part" = some none)
    (xno_TooManyAsked_value : PySem.W.findIn K (.ref C_TooManyAsked) "value" = some none)
    (xno_TooManyAsked_word : PySem.W.findIn K (.ref C_TooManyAsked) "word" = some none)
    (xno_TooManyAsked_words : PySem.W.findIn K (.ref C_TooManyAsked) "words" = some none)
    (xq_InvalidStanding : PySem.W.excIn K C_InvalidStanding veL "ValueError.__new__" = true)
    (xbe_InvalidStanding : PySem.W.subIn K (.ref C_InvalidStanding) (.type "BaseException") = some true)
    (xty_InvalidStanding : PySem.W.typeIn K (.ref C_InvalidStanding) = some (.type "type"))
    (xk_InvalidStanding : PySem.W.keepIn K (.ref C_InvalidStanding) = true)
    (xga_InvalidStanding : PySem.W.findIn K (.ref C_InvalidStanding) "__getattribute__" = some (some (.builtin "BaseException.__getattribute__")))
    (xgt_InvalidStanding : PySem.W.findIn K (.ref C_InvalidStanding) "__getattr__" = some none)
    (xcl_InvalidStanding : PySem.W.findIn K (.ref C_InvalidStanding) "__class__" = some (some (.builtin "object.__class__")))
    (xhd_InvalidStanding : PySem.W.hasDictIn K C_InvalidStanding = true)
    (xob_InvalidStanding : PySem.W.mroIn K C_InvalidStanding (.type "object") = some true)
    (xno_InvalidStanding_deed : PySem.W.findIn K (.ref C_InvalidStanding) "deed" = some none)
    (xno_InvalidStanding_field : PySem.W.findIn K (.ref C_InvalidStanding) "field" = some none)
    (xno_InvalidStanding_index : PySem.W.findIn K (.ref C_InvalidStanding) "index" = some none)
    (xno_InvalidStanding_kind : PySem.W.findIn K (.ref C_InvalidStanding) "kind" = some none)
    (xno_InvalidStanding_limit : PySem.W.findIn K (.ref C_InvalidStanding) "limit" = some none)
    (xno_InvalidStanding_line : PySem.W.findIn K (.ref C_InvalidStanding) "line" = some none)
    (xno_InvalidStanding_part : PySem.W.findIn K (.ref C_InvalidStanding) "part" = some none)
    (xno_InvalidStanding_value : PySem.W.findIn K (.ref C_InvalidStanding) "value" = some none)
    (xno_InvalidStanding_word : PySem.W.findIn K (.ref C_InvalidStanding) "word" = some none)
    (xno_InvalidStanding_words : PySem.W.findIn K (.ref C_InvalidStanding) "words" = some none)
    (xq_InvalidRules : PySem.W.excIn K C_InvalidRules veL "ValueError.__new__" = true)
    (xbe_InvalidRules : PySem.W.subIn K (.ref C_InvalidRules) (.type "BaseException") = some true)
    (xty_InvalidRules : PySem.W.typeIn K (.ref C_InvalidRules) = some (.type "type"))
    (xk_InvalidRules : PySem.W.keepIn K (.ref C_InvalidRules) = true)
    (xga_InvalidRules : PySem.W.findIn K (.ref C_InvalidRules) "__getattribute__" = some (some (.builtin "BaseException.__getattribute__")))
    (xgt_InvalidRules : PySem.W.findIn K (.ref C_InvalidRules) "__getattr__" = some none)
    (xcl_InvalidRules : PySem.W.findIn K (.ref C_InvalidRules) "__class__" = some (some (.builtin "object.__class__")))
    (xhd_InvalidRules : PySem.W.hasDictIn K C_InvalidRules = true)
    (xob_InvalidRules : PySem.W.mroIn K C_InvalidRules (.type "object") = some true)
    (xno_InvalidRules_deed : PySem.W.findIn K (.ref C_InvalidRules) "deed" = some none)
    (xno_InvalidRules_field : PySem.W.findIn K (.ref C_InvalidRules) "field" = some none)
    (xno_InvalidRules_index : PySem.W.findIn K (.ref C_InvalidRules) "index" = some none)
    (xno_InvalidRules_kind : PySem.W.findIn K (.ref C_InvalidRules) "kind" = some none)
    (xno_InvalidRules_limit : PySem.W.findIn K (.ref C_InvalidRules) "limit" = some none)
    (xno_InvalidRules_line : PySem.W.findIn K (.ref C_InvalidRules) "line" = some none)
    (xno_InvalidRules_part : PySem.W.findIn K (.ref C_InvalidRules) "part" = some none)
    (xno_InvalidRules_value : PySem.W.findIn K (.ref C_InvalidRules) "value" = some none)
    (xno_InvalidRules_word : PySem.W.findIn K (.ref C_InvalidRules) "word" = some none)
    (xno_InvalidRules_words : PySem.W.findIn K (.ref C_InvalidRules) "words" = some none)
    (xq_NothingToRedo : PySem.W.excIn K C_NothingToRedo veL "ValueError.__new__" = true)
    (xbe_NothingToRedo : PySem.W.subIn K (.ref C_NothingToRedo) (.type "BaseException") = some true)
    (xty_NothingToRedo : PySem.W.typeIn K (.ref C_NothingToRedo) = some (.type "type"))
    (xk_NothingToRedo : PySem.W.keepIn K (.ref C_NothingToRedo) = true)
    (xga_NothingToRedo : PySem.W.findIn K (.ref C_NothingToRedo) "__getattribute__" = some (some (.builtin "BaseException.__getattribute__")))
    (xgt_NothingToRedo : PySem.W.findIn K (.ref C_NothingToRedo) "__getattr__" = some none)
    (xcl_NothingToRedo : PySem.W.findIn K (.ref C_NothingToRedo) "__class__" = some (some (.builtin "object.__class__")))
    (xhd_NothingToRedo : PySem.W.hasDictIn K C_NothingToRedo = true)
    (xob_NothingToRedo : PySem.W.mroIn K C_NothingToRedo (.type "object") = some true)
    (xno_NothingToRedo_deed : PySem.W.findIn K (.ref C_NothingToRedo) "deed" = some none)
    (xno_NothingToRedo_field : PySem.W.findIn K (.ref C_NothingToRedo) "field" = some none)
    (xno_NothingToRedo_index : PySem.W.findIn K (.ref C_NothingToRedo) "index" = some none)
    (xno_NothingToRedo_kind : PySem.W.findIn K (.ref C_NothingToRedo) "kind" = some none)
    (xno_NothingToRedo_limit : PySem.W.findIn K (.ref C_NothingToRedo) "limit" = some none)
    (xno_NothingToRedo_line : PySem.W.findIn K (.ref C_NothingToRedo) "line" = some none)
    (xno_NothingToRedo_part : PySem.W.findIn K (.ref C_NothingToRedo) "part" = some none)
    (xno_NothingToRedo_value : PySem.W.findIn K (.ref C_NothingToRedo) "value" = some none)
    (xno_NothingToRedo_word : PySem.W.findIn K (.ref C_NothingToRedo) "word" = some none)
    (xno_NothingToRedo_words : PySem.W.findIn K (.ref C_NothingToRedo) "words" = some none)
    (xq_NoStanding : PySem.W.excIn K C_NoStanding veL "ValueError.__new__" = true)
    (xbe_NoStanding : PySem.W.subIn K (.ref C_NoStanding) (.type "BaseException") = some true)
    (xty_NoStanding : PySem.W.typeIn K (.ref C_NoStanding) = some (.type "type"))
    (xk_NoStanding : PySem.W.keepIn K (.ref C_NoStanding) = true)
    (xga_NoStanding : PySem.W.findIn K (.ref C_NoStanding) "__getattribute__" = some (some (.builtin "BaseException.__getattribute__")))
    (xgt_NoStanding : PySem.W.findIn K (.ref C_NoStanding) "__getattr__" = some none)
    (xcl_NoStanding : PySem.W.findIn K (.ref C_NoStanding) "__class__" = some (some (.builtin "object.__class__")))
    (xhd_NoStanding : PySem.W.hasDictIn K C_NoStanding = true)
    (xob_NoStanding : PySem.W.mroIn K C_NoStanding (.type "object") = some true)
    (xno_NoStanding_deed : PySem.W.findIn K (.ref C_NoStanding) "deed" = some none)
    (xno_NoStanding_field : PySem.W.findIn K (.ref C_NoStanding) "field" = some none)
    (xno_NoStanding_index : PySem.W.findIn K (.ref C_NoStanding) "index" = some none)
    (xno_NoStanding_kind : PySem.W.findIn K (.ref C_NoStanding) "kind" = some none)
    (xno_NoStanding_limit : PySem.W.findIn K (.ref C_NoStanding) "limit" = some none)
    (xno_NoStanding_line : PySem.W.findIn K (.ref C_NoStanding) "line" = some none)
    (xno_NoStanding_part : PySem.W.findIn K (.ref C_NoStanding) "part" = some none)
    (xno_NoStanding_value : PySem.W.findIn K (.ref C_NoStanding) "value" = some none)
    (xno_NoStanding_word : PySem.W.findIn K (.ref C_NoStanding) "word" = some none)
    (xno_NoStanding_words : PySem.W.findIn K (.ref C_NoStanding) "words" = some none)
    (xq_NothingToUndo : PySem.W.excIn K C_NothingToUndo veL "ValueError.__new__" = true)
    (xbe_NothingToUndo : PySem.W.subIn K (.ref C_NothingToUndo) (.type "BaseException") = some true)
    (xty_NothingToUndo : PySem.W.typeIn K (.ref C_NothingToUndo) = some (.type "type"))
    (xk_NothingToUndo : PySem.W.keepIn K (.ref C_NothingToUndo) = true)
    (xga_NothingToUndo : PySem.W.findIn K (.ref C_NothingToUndo) "__getattribute__" = some (some (.builtin "BaseException.__getattribute__")))
    (xgt_NothingToUndo : PySem.W.findIn K (.ref C_NothingToUndo) "__getattr__" = some none)
    (xcl_NothingToUndo : PySem.W.findIn K (.ref C_NothingToUndo) "__class__" = some (some (.builtin "object.__class__")))
    (xhd_NothingToUndo : PySem.W.hasDictIn K C_NothingToUndo = true)
    (xob_NothingToUndo : PySem.W.mroIn K C_NothingToUndo (.type "object") = some true)
    (xno_NothingToUndo_deed : PySem.W.findIn K (.ref C_NothingToUndo) "deed" = some none)
    (xno_NothingToUndo_field : PySem.W.findIn K (.ref C_NothingToUndo) "field" = some none)
    (xno_NothingToUndo_index : PySem.W.findIn K (.ref C_NothingToUndo) "index" = some none)
    (xno_NothingToUndo_kind : PySem.W.findIn K (.ref C_NothingToUndo) "kind" = some none)
    (xno_NothingToUndo_limit : PySem.W.findIn K (.ref C_NothingToUndo) "limit" = some none)
    (xno_NothingToUndo_line : PySem.W.findIn K (.ref C_NothingToUndo) "line" = some none)
    (xno_NothingToUndo_part : PySem.W.findIn K (.ref C_NothingToUndo) "part" = some none)
    (xno_NothingToUndo_value : PySem.W.findIn K (.ref C_NothingToUndo) "value" = some none)
    (xno_NothingToUndo_word : PySem.W.findIn K (.ref C_NothingToUndo) "word" = some none)
    (xno_NothingToUndo_words : PySem.W.findIn K (.ref C_NothingToUndo) "words" = some none)
    (KA : kitAllB K [("InvalidForm", ["InvalidForm", "ShownError"], C_InvalidForm), ("InvalidDeed", ["InvalidDeed", "ShownError"], C_InvalidDeed), ("InvalidChange", ["InvalidChange", "ShownError"], C_InvalidChange), ("InvalidBound", ["InvalidBound", "ShownError"], C_InvalidBound), ("InvalidRule", ["InvalidRule", "ShownError"], C_InvalidRule), ("InvalidKind", ["InvalidKind", "ShownError"], C_InvalidKind), ("LimitExceeded", ["LimitExceeded", "ShownError"], C_LimitExceeded), ("InvalidWords", ["InvalidWords", "ShownError"], C_InvalidWords), ("InvalidText", ["InvalidText", "ShownError"], C_InvalidText), ("InvalidTable", ["InvalidTable", "ShownError"], C_InvalidTable), ("NotComparable", ["NotComparable", "ShownError"], C_NotComparable), ("NoFault", ["NoFault", "ShownError"], C_NoFault), ("UnknownWord", ["UnknownWord", "ShownError"], C_UnknownWord), ("UnknownField", ["UnknownField", "ShownError"], C_UnknownField), ("TooManyAsked", ["TooManyAsked", "ShownError"], C_TooManyAsked), ("InvalidStanding", ["InvalidStanding", "ShownError"], C_InvalidStanding), ("InvalidRules", ["InvalidRules", "ShownError"], C_InvalidRules), ("NothingToRedo", ["NothingToRedo", "ShownError"], C_NothingToRedo), ("NoStanding", ["NoStanding", "ShownError"], C_NoStanding), ("NothingToUndo", ["NothingToUndo", "ShownError"], C_NothingToUndo)] [("ShownError", C_ShownError), ("InvalidDeed", C_InvalidDeed), ("InvalidChange", C_InvalidChange), ("InvalidBound", C_InvalidBound), ("InvalidRule", C_InvalidRule), ("InvalidKind", C_InvalidKind), ("InvalidForm", C_InvalidForm), ("InvalidStanding", C_InvalidStanding), ("InvalidRules", C_InvalidRules), ("InvalidWords", C_InvalidWords), ("InvalidText", C_InvalidText), ("InvalidTable", C_InvalidTable), ("NoStanding", C_NoStanding), ("NoFault", C_NoFault), ("LimitExceeded", C_LimitExceeded), ("NothingToRedo", C_NothingToRedo), ("NotComparable", C_NotComparable), ("TooManyAsked", C_TooManyAsked), ("NothingToUndo", C_NothingToUndo), ("UnknownWord", C_UnknownWord), ("UnknownField", C_UnknownField)] = true)
    (KV : kitVB K [("InvalidForm", ["InvalidForm", "ShownError"], C_InvalidForm), ("InvalidDeed", ["InvalidDeed", "ShownError"], C_InvalidDeed), ("InvalidChange", ["InvalidChange", "ShownError"], C_InvalidChange), ("InvalidBound", ["InvalidBound", "ShownError"], C_InvalidBound), ("InvalidRule", ["InvalidRule", "ShownError"], C_InvalidRule), ("InvalidKind", ["InvalidKind", "ShownError"], C_InvalidKind), ("LimitExceeded", ["LimitExceeded", "ShownError"], C_LimitExceeded), ("InvalidWords", ["InvalidWords", "ShownError"], C_InvalidWords), ("InvalidText", ["InvalidText", "ShownError"], C_InvalidText), ("InvalidTable", ["InvalidTable", "ShownError"], C_InvalidTable), ("NotComparable", ["NotComparable", "ShownError"], C_NotComparable), ("NoFault", ["NoFault", "ShownError"], C_NoFault), ("UnknownWord", ["UnknownWord", "ShownError"], C_UnknownWord), ("UnknownField", ["UnknownField", "ShownError"], C_UnknownField), ("TooManyAsked", ["TooManyAsked", "ShownError"], C_TooManyAsked), ("InvalidStanding", ["InvalidStanding", "ShownError"], C_InvalidStanding), ("InvalidRules", ["InvalidRules", "ShownError"], C_InvalidRules), ("NothingToRedo", ["NothingToRedo", "ShownError"], C_NothingToRedo), ("NoStanding", ["NoStanding", "ShownError"], C_NoStanding), ("NothingToUndo", ["NothingToUndo", "ShownError"], C_NothingToUndo)] = true)
    (z_ValueError : PySem.W.nsIn K mainGlobals "ValueError" = some none)
    (z_all : PySem.W.nsIn K mainGlobals "all" = some none)
    (z_bool : PySem.W.nsIn K mainGlobals "bool" = some none)
    (z_int : PySem.W.nsIn K mainGlobals "int" = some none)
    (z_isinstance : PySem.W.nsIn K mainGlobals "isinstance" = some none)
    (z_len : PySem.W.nsIn K mainGlobals "len" = some none)
    (z_list : PySem.W.nsIn K mainGlobals "list" = some none)
    (z_range : PySem.W.nsIn K mainGlobals "range" = some none)
    (z_str : PySem.W.nsIn K mainGlobals "str" = some none)
    (z_super : PySem.W.nsIn K mainGlobals "super" = some none)
    (z_tuple : PySem.W.nsIn K mainGlobals "tuple" = some none)
    (n : Nat) : ∃ fd : FuncData, (∀ (s : Shared) (v : Value), BindsTo s fd ⟨[v], []⟩ [("_law_script", v)]) ∧ ∀ base : Heap, K.In base → base.Ns mainGlobals mg → FnOk P w K mg base (L2N.CX P w) (3 * n) fa fd ["_law_script"] (spL K (runF n).law) := by
  obtain rfl : f_law = fa := by
    have e := hfa.symm.trans (PySem.W.mg_of X G a_law)
    cases e
    rfl
  have B__law_mix := U__law_mix.binds (ps := ["_law_value", "_law_k"]) fun _ _ _ _ _ _ us hl => match us, hl with | [_, _], _ => rfl
  have B__law_box := U__law_box.binds (ps := ["_law_script"]) fun _ _ _ _ _ _ us hl => match us, hl with | [_], _ => rfl
  have B__law_draw := U__law_draw.binds (ps := ["_law_box_here", "_law_many"]) fun _ _ _ _ _ _ us hl => match us, hl with | [_, _], _ => rfl
  have B__law_same := U__law_same.binds (ps := ["_law_told", "_law_due"]) fun _ _ _ _ _ _ us hl => match us, hl with | [_, _], _ => rfl
  have B__law_classes := U__law_classes.binds (ps := ["_law_error"]) fun _ _ _ _ _ _ us hl => match us, hl with | [_], _ => rfl
  have B__law_errors := U__law_errors.binds (ps := ["_law_one", "_law_two"]) fun _ _ _ _ _ _ us hl => match us, hl with | [_, _], _ => rfl
  have B__law_held := U__law_held.binds (ps := ["_law_found"]) fun _ _ _ _ _ _ us hl => match us, hl with | [_], _ => rfl
  have B_law := U_law.binds (ps := ["_law_script"]) fun _ _ _ _ _ _ us hl => match us, hl with | [_], _ => rfl
  have CF : ClsF K mg CS := by
    intro c fs C hm hC
    simp only [CS, List.mem_cons, List.not_mem_nil, or_false, Prod.mk.injEq] at hm
    all_goals cases hm
  obtain ⟨xcc_InvalidForm, xc_InvalidForm, xdc_InvalidForm, xpm_InvalidForm, xct_InvalidForm, xan_InvalidForm, XL_InvalidForm, XC_InvalidForm, XE_InvalidForm, XD_InvalidForm⟩ := XI_InvalidForm.ex
  obtain ⟨xcc_InvalidDeed, xc_InvalidDeed, xdc_InvalidDeed, xpm_InvalidDeed, xct_InvalidDeed, xan_InvalidDeed, XL_InvalidDeed, XC_InvalidDeed, XE_InvalidDeed, XD_InvalidDeed⟩ := XI_InvalidDeed.ex
  obtain ⟨xcc_InvalidChange, xc_InvalidChange, xdc_InvalidChange, xpm_InvalidChange, xct_InvalidChange, xan_InvalidChange, XL_InvalidChange, XC_InvalidChange, XE_InvalidChange, XD_InvalidChange⟩ := XI_InvalidChange.ex
  obtain ⟨xcc_InvalidBound, xc_InvalidBound, xdc_InvalidBound, xpm_InvalidBound, xct_InvalidBound, xan_InvalidBound, XL_InvalidBound, XC_InvalidBound, XE_InvalidBound, XD_InvalidBound⟩ := XI_InvalidBound.ex
  obtain ⟨xcc_InvalidRule, xc_InvalidRule, xdc_InvalidRule, xpm_InvalidRule, xct_InvalidRule, xan_InvalidRule, XL_InvalidRule, XC_InvalidRule, XE_InvalidRule, XD_InvalidRule⟩ := XI_InvalidRule.ex
  obtain ⟨xcc_InvalidKind, xc_InvalidKind, xdc_InvalidKind, xpm_InvalidKind, xct_InvalidKind, xan_InvalidKind, XL_InvalidKind, XC_InvalidKind, XE_InvalidKind, XD_InvalidKind⟩ := XI_InvalidKind.ex
  obtain ⟨xcc_LimitExceeded, xc_LimitExceeded, xdc_LimitExceeded, xpm_LimitExceeded, xct_LimitExceeded, xan_LimitExceeded, XL_LimitExceeded, XC_LimitExceeded, XE_LimitExceeded, XD_LimitExceeded⟩ := XI_LimitExceeded.ex
  obtain ⟨xcc_InvalidWords, xc_InvalidWords, xdc_InvalidWords, xpm_InvalidWords, xct_InvalidWords, xan_InvalidWords, XL_InvalidWords, XC_InvalidWords, XE_InvalidWords, XD_InvalidWords⟩ := XI_InvalidWords.ex
  obtain ⟨xcc_InvalidText, xc_InvalidText, xdc_InvalidText, xpm_InvalidText, xct_InvalidText, xan_InvalidText, XL_InvalidText, XC_InvalidText, XE_InvalidText, XD_InvalidText⟩ := XI_InvalidText.ex
  obtain ⟨xcc_InvalidTable, xc_InvalidTable, xdc_InvalidTable, xpm_InvalidTable, xct_InvalidTable, xan_InvalidTable, XL_InvalidTable, XC_InvalidTable, XE_InvalidTable, XD_InvalidTable⟩ := XI_InvalidTable.ex
  obtain ⟨xcc_NotComparable, xc_NotComparable, xdc_NotComparable, xpm_NotComparable, xct_NotComparable, xan_NotComparable, XL_NotComparable, XC_NotComparable, XE_NotComparable, XD_NotComparable⟩ := XI_NotComparable.ex
  obtain ⟨xcc_NoFault, xc_NoFault, xdc_NoFault, xpm_NoFault, xct_NoFault, xan_NoFault, XL_NoFault, XC_NoFault, XE_NoFault, XD_NoFault⟩ := XI_NoFault.ex
  obtain ⟨xcc_UnknownWord, xc_UnknownWord, xdc_UnknownWord, xpm_UnknownWord, xct_UnknownWord, xan_UnknownWord, XL_UnknownWord, XC_UnknownWord, XE_UnknownWord, XD_UnknownWord⟩ := XI_UnknownWord.ex
  obtain ⟨xcc_UnknownField, xc_UnknownField, xdc_UnknownField, xpm_UnknownField, xct_UnknownField, xan_UnknownField, XL_UnknownField, XC_UnknownField, XE_UnknownField, XD_UnknownField⟩ := XI_UnknownField.ex
  obtain ⟨xcc_TooManyAsked, xc_TooManyAsked, xdc_TooManyAsked, xpm_TooManyAsked, xct_TooManyAsked, xan_TooManyAsked, XL_TooManyAsked, XC_TooManyAsked, XE_TooManyAsked, XD_TooManyAsked⟩ := XI_TooManyAsked.ex
  let A : Ad := { f__law_mix := f__law_mix, d__law_mix := fd__law_mix, f__law_box := f__law_box, d__law_box := fd__law_box, f__law_draw := f__law_draw, d__law_draw := fd__law_draw, f__law_same := f__law_same, d__law_same := fd__law_same, f__law_classes := f__law_classes, d__law_classes := fd__law_classes, f__law_errors := f__law_errors, d__law_errors := fd__law_errors, f__law_held := f__law_held, d__law_held := fd__law_held, f_law := f_law, d_law := fd_law, c_ShownError := C_ShownError, c_InvalidForm := C_InvalidForm, c_InvalidRule := C_InvalidRule, c_InvalidWords := C_InvalidWords, c_InvalidStanding := C_InvalidStanding, c_InvalidDeed := C_InvalidDeed, c_InvalidTable := C_InvalidTable, c_InvalidText := C_InvalidText, c_UnknownField := C_UnknownField, c_UnknownWord := C_UnknownWord, c_TooManyAsked := C_TooManyAsked, c_NothingToUndo := C_NothingToUndo, c_NothingToRedo := C_NothingToRedo, c_InvalidBound := C_InvalidBound, c_LimitExceeded := C_LimitExceeded, c_NoStanding := C_NoStanding, c_NoFault := C_NoFault, c_InvalidKind := C_InvalidKind, c_NotComparable := C_NotComparable, c_InvalidChange := C_InvalidChange, c_InvalidRules := C_InvalidRules, xf_InvalidForm := xf_InvalidForm, xd_InvalidForm := fdE "__init__" "InvalidForm.__init__" (defArgs st_x_InvalidForm) (defBody st_x_InvalidForm) (defScope st_x_InvalidForm) xcc_InvalidForm xc_InvalidForm xdc_InvalidForm xpm_InvalidForm xct_InvalidForm xan_InvalidForm, xf_InvalidDeed := xf_InvalidDeed, xd_InvalidDeed := fdE "__init__" "InvalidDeed.__init__" (defArgs st_x_InvalidDeed) (defBody st_x_InvalidDeed) (defScope st_x_InvalidDeed) xcc_InvalidDeed xc_InvalidDeed xdc_InvalidDeed xpm_InvalidDeed xct_InvalidDeed xan_InvalidDeed, xf_InvalidChange := xf_InvalidChange, xd_InvalidChange := fdE "__init__" "InvalidChange.__init__" (defArgs st_x_InvalidChange) (defBody st_x_InvalidChange) (defScope st_x_InvalidChange) xcc_InvalidChange xc_InvalidChange xdc_InvalidChange xpm_InvalidChange xct_InvalidChange xan_InvalidChange, xf_InvalidBound := xf_InvalidBound, xd_InvalidBound := fdE "__init__" "InvalidBound.__init__" (defArgs st_x_InvalidBound) (defBody st_x_InvalidBound) (defScope st_x_InvalidBound) xcc_InvalidBound xc_InvalidBound xdc_InvalidBound xpm_InvalidBound xct_InvalidBound xan_InvalidBound, xf_InvalidRule := xf_InvalidRule, xd_InvalidRule := fdE "__init__" "InvalidRule.__init__" (defArgs st_x_InvalidRule) (defBody st_x_InvalidRule) (defScope st_x_InvalidRule) xcc_InvalidRule xc_InvalidRule xdc_InvalidRule xpm_InvalidRule xct_InvalidRule xan_InvalidRule, xf_InvalidKind := xf_InvalidKind, xd_InvalidKind := fdE "__init__" "InvalidKind.__init__" (defArgs st_x_InvalidKind) (defBody st_x_InvalidKind) (defScope st_x_InvalidKind) xcc_InvalidKind xc_InvalidKind xdc_InvalidKind xpm_InvalidKind xct_InvalidKind xan_InvalidKind, xf_LimitExceeded := xf_LimitExceeded, xd_LimitExceeded := fdE "__init__" "LimitExceeded.__init__" (defArgs st_x_LimitExceeded) (defBody st_x_LimitExceeded) (defScope st_x_LimitExceeded) xcc_LimitExceeded xc_LimitExceeded xdc_LimitExceeded xpm_LimitExceeded xct_LimitExceeded xan_LimitExceeded, xf_InvalidWords := xf_InvalidWords, xd_InvalidWords := fdE "__init__" "InvalidWords.__init__" (defArgs st_x_InvalidWords) (defBody st_x_InvalidWords) (defScope st_x_InvalidWords) xcc_InvalidWords xc_InvalidWords xdc_InvalidWords xpm_InvalidWords xct_InvalidWords xan_InvalidWords, xf_InvalidText := xf_InvalidText, xd_InvalidText := fdE "__init__" "InvalidText.__init__" (defArgs st_x_InvalidText) (defBody st_x_InvalidText) (defScope st_x_InvalidText) xcc_InvalidText xc_InvalidText xdc_InvalidText xpm_InvalidText xct_InvalidText xan_InvalidText, xf_InvalidTable := xf_InvalidTable, xd_InvalidTable := fdE "__init__" "InvalidTable.__init__" (defArgs st_x_InvalidTable) (defBody st_x_InvalidTable) (defScope st_x_InvalidTable) xcc_InvalidTable xc_InvalidTable xdc_InvalidTable xpm_InvalidTable xct_InvalidTable xan_InvalidTable, xf_NotComparable := xf_NotComparable, xd_NotComparable := fdE "__init__" "NotComparable.__init__" (defArgs st_x_NotComparable) (defBody st_x_NotComparable) (defScope st_x_NotComparable) xcc_NotComparable xc_NotComparable xdc_NotComparable xpm_NotComparable xct_NotComparable xan_NotComparable, xf_NoFault := xf_NoFault, xd_NoFault := fdE "__init__" "NoFault.__init__" (defArgs st_x_NoFault) (defBody st_x_NoFault) (defScope st_x_NoFault) xcc_NoFault xc_NoFault xdc_NoFault xpm_NoFault xct_NoFault xan_NoFault, xf_UnknownWord := xf_UnknownWord, xd_UnknownWord := fdE "__init__" "UnknownWord.__init__" (defArgs st_x_UnknownWord) (defBody st_x_UnknownWord) (defScope st_x_UnknownWord) xcc_UnknownWord xc_UnknownWord xdc_UnknownWord xpm_UnknownWord xct_UnknownWord xan_UnknownWord, xf_UnknownField := xf_UnknownField, xd_UnknownField := fdE "__init__" "UnknownField.__init__" (defArgs st_x_UnknownField) (defBody st_x_UnknownField) (defScope st_x_UnknownField) xcc_UnknownField xc_UnknownField xdc_UnknownField xpm_UnknownField xct_UnknownField xan_UnknownField, xf_TooManyAsked := xf_TooManyAsked, xd_TooManyAsked := fdE "__init__" "TooManyAsked.__init__" (defArgs st_x_TooManyAsked) (defBody st_x_TooManyAsked) (defScope st_x_TooManyAsked) xcc_TooManyAsked xc_TooManyAsked xdc_TooManyAsked xpm_TooManyAsked xct_TooManyAsked xan_TooManyAsked }
  have OX_InvalidForm : OexC K C_InvalidForm := ⟨oexB_ok oxc_InvalidForm, xsa_InvalidForm, xbe_InvalidForm, xty_InvalidForm, xk_InvalidForm⟩
  have FX_InvalidForm : ∀ base : Heap, FnOk P w K mg base (L2N.CX P w) 1 xf_InvalidForm _ ["self", "part", "field"] (spE2 C_InvalidForm "part" "field") := fun base => exc_ok2 (st := st_x_InvalidForm) ⟨OX_InvalidForm, XL_InvalidForm, XC_InvalidForm, XE_InvalidForm, xsu_InvalidForm, xsv_InvalidForm, xmr_InvalidForm, opq, tops⟩ rfl XD_InvalidForm (NdefX.nscope_by rfl) rfl rfl rfl (PySem.W.mg_none_of X G z_super) (fun L => ⟨rfl, rfl, rfl⟩) xno_InvalidForm_part xno_InvalidForm_field (fun L => rfl) (fun L => rfl)
  have OX_InvalidDeed : OexC K C_InvalidDeed := ⟨oexB_ok oxc_InvalidDeed, xsa_InvalidDeed, xbe_InvalidDeed, xty_InvalidDeed, xk_InvalidDeed⟩
  have FX_InvalidDeed : ∀ base : Heap, FnOk P w K mg base (L2N.CX P w) 1 xf_InvalidDeed _ ["self", "deed"] (spE1 C_InvalidDeed "deed") := fun base => exc_ok1 (st := st_x_InvalidDeed) ⟨OX_InvalidDeed, XL_InvalidDeed, XC_InvalidDeed, XE_InvalidDeed, xsu_InvalidDeed, xsv_InvalidDeed, xmr_InvalidDeed, opq, tops⟩ rfl XD_InvalidDeed (NdefX.nscope_by rfl) rfl rfl rfl (PySem.W.mg_none_of X G z_super) (fun L => ⟨rfl, rfl, rfl⟩) xno_InvalidDeed_deed (fun L => rfl)
  have OX_InvalidChange : OexC K C_InvalidChange := ⟨oexB_ok oxc_InvalidChange, xsa_InvalidChange, xbe_InvalidChange, xty_InvalidChange, xk_InvalidChange⟩
  have FX_InvalidChange : ∀ base : Heap, FnOk P w K mg base (L2N.CX P w) 1 xf_InvalidChange _ ["self", "index"] (spE1 C_InvalidChange "index") := fun base => exc_ok1 (st := st_x_InvalidChange) ⟨OX_InvalidChange, XL_InvalidChange, XC_InvalidChange, XE_InvalidChange, xsu_InvalidChange, xsv_InvalidChange, xmr_InvalidChange, opq, tops⟩ rfl XD_InvalidChange (NdefX.nscope_by rfl) rfl rfl rfl (PySem.W.mg_none_of X G z_super) (fun L => ⟨rfl, rfl, rfl⟩) xno_InvalidChange_index (fun L => rfl)
  have OX_InvalidBound : OexC K C_InvalidBound := ⟨oexB_ok oxc_InvalidBound, xsa_InvalidBound, xbe_InvalidBound, xty_InvalidBound, xk_InvalidBound⟩
  have FX_InvalidBound : ∀ base : Heap, FnOk P w K mg base (L2N.CX P w) 1 xf_InvalidBound _ ["self", "value"] (spE1 C_InvalidBound "value") := fun base => exc_ok1 (st := st_x_InvalidBound) ⟨OX_InvalidBound, XL_InvalidBound, XC_InvalidBound, XE_InvalidBound, xsu_InvalidBound, xsv_InvalidBound, xmr_InvalidBound, opq, tops⟩ rfl XD_InvalidBound (NdefX.nscope_by rfl) rfl rfl rfl (PySem.W.mg_none_of X G z_super) (fun L => ⟨rfl, rfl, rfl⟩) xno_InvalidBound_value (fun L => rfl)
  have OX_InvalidRule : OexC K C_InvalidRule := ⟨oexB_ok oxc_InvalidRule, xsa_InvalidRule, xbe_InvalidRule, xty_InvalidRule, xk_InvalidRule⟩
  have FX_InvalidRule : ∀ base : Heap, FnOk P w K mg base (L2N.CX P w) 1 xf_InvalidRule _ ["self", "part"] (spE1 C_InvalidRule "part") := fun base => exc_ok1 (st := st_x_InvalidRule) ⟨OX_InvalidRule, XL_InvalidRule, XC_InvalidRule, XE_InvalidRule, xsu_InvalidRule, xsv_InvalidRule, xmr_InvalidRule, opq, tops⟩ rfl XD_InvalidRule (NdefX.nscope_by rfl) rfl rfl rfl (PySem.W.mg_none_of X G z_super) (fun L => ⟨rfl, rfl, rfl⟩) xno_InvalidRule_part (fun L => rfl)
  have OX_InvalidKind : OexC K C_InvalidKind := ⟨oexB_ok oxc_InvalidKind, xsa_InvalidKind, xbe_InvalidKind, xty_InvalidKind, xk_InvalidKind⟩
  have FX_InvalidKind : ∀ base : Heap, FnOk P w K mg base (L2N.CX P w) 1 xf_InvalidKind _ ["self", "kind"] (spE1 C_InvalidKind "kind") := fun base => exc_ok1 (st := st_x_InvalidKind) ⟨OX_InvalidKind, XL_InvalidKind, XC_InvalidKind, XE_InvalidKind, xsu_InvalidKind, xsv_InvalidKind, xmr_InvalidKind, opq, tops⟩ rfl XD_InvalidKind (NdefX.nscope_by rfl) rfl rfl rfl (PySem.W.mg_none_of X G z_super) (fun L => ⟨rfl, rfl, rfl⟩) xno_InvalidKind_kind (fun L => rfl)
  have OX_LimitExceeded : OexC K C_LimitExceeded := ⟨oexB_ok oxc_LimitExceeded, xsa_LimitExceeded, xbe_LimitExceeded, xty_LimitExceeded, xk_LimitExceeded⟩
  have FX_LimitExceeded : ∀ base : Heap, FnOk P w K mg base (L2N.CX P w) 1 xf_LimitExceeded _ ["self", "limit"] (spE1 C_LimitExceeded "limit") := fun base => exc_ok1 (st := st_x_LimitExceeded) ⟨OX_LimitExceeded, XL_LimitExceeded, XC_LimitExceeded, XE_LimitExceeded, xsu_LimitExceeded, xsv_LimitExceeded, xmr_LimitExceeded, opq, tops⟩ rfl XD_LimitExceeded (NdefX.nscope_by rfl) rfl rfl rfl (PySem.W.mg_none_of X G z_super) (fun L => ⟨rfl, rfl, rfl⟩) xno_LimitExceeded_limit (fun L => rfl)
  have OX_InvalidWords : OexC K C_InvalidWords := ⟨oexB_ok oxc_InvalidWords, xsa_InvalidWords, xbe_InvalidWords, xty_InvalidWords, xk_InvalidWords⟩
  have FX_InvalidWords : ∀ base : Heap, FnOk P w K mg base (L2N.CX P w) 1 xf_InvalidWords _ ["self", "words"] (spE1 C_InvalidWords "words") := fun base => exc_ok1 (st := st_x_InvalidWords) ⟨OX_InvalidWords, XL_InvalidWords, XC_InvalidWords, XE_InvalidWords, xsu_InvalidWords, xsv_InvalidWords, xmr_InvalidWords, opq, tops⟩ rfl XD_InvalidWords (NdefX.nscope_by rfl) rfl rfl rfl (PySem.W.mg_none_of X G z_super) (fun L => ⟨rfl, rfl, rfl⟩) xno_InvalidWords_words (fun L => rfl)
  have OX_InvalidText : OexC K C_InvalidText := ⟨oexB_ok oxc_InvalidText, xsa_InvalidText, xbe_InvalidText, xty_InvalidText, xk_InvalidText⟩
  have FX_InvalidText : ∀ base : Heap, FnOk P w K mg base (L2N.CX P w) 1 xf_InvalidText _ ["self", "line"] (spE1 C_InvalidText "line") := fun base => exc_ok1 (st := st_x_InvalidText) ⟨OX_InvalidText, XL_InvalidText, XC_InvalidText, XE_InvalidText, xsu_InvalidText, xsv_InvalidText, xmr_InvalidText, opq, tops⟩ rfl XD_InvalidText (NdefX.nscope_by rfl) rfl rfl rfl (PySem.W.mg_none_of X G z_super) (fun L => ⟨rfl, rfl, rfl⟩) xno_InvalidText_line (fun L => rfl)
  have OX_InvalidTable : OexC K C_InvalidTable := ⟨oexB_ok oxc_InvalidTable, xsa_InvalidTable, xbe_InvalidTable, xty_InvalidTable, xk_InvalidTable⟩
  have FX_InvalidTable : ∀ base : Heap, FnOk P w K mg base (L2N.CX P w) 1 xf_InvalidTable _ ["self", "kind"] (spE1 C_InvalidTable "kind") := fun base => exc_ok1 (st := st_x_InvalidTable) ⟨OX_InvalidTable, XL_InvalidTable, XC_InvalidTable, XE_InvalidTable, xsu_InvalidTable, xsv_InvalidTable, xmr_InvalidTable, opq, tops⟩ rfl XD_InvalidTable (NdefX.nscope_by rfl) rfl rfl rfl (PySem.W.mg_none_of X G z_super) (fun L => ⟨rfl, rfl, rfl⟩) xno_InvalidTable_kind (fun L => rfl)
  have OX_NotComparable : OexC K C_NotComparable := ⟨oexB_ok oxc_NotComparable, xsa_NotComparable, xbe_NotComparable, xty_NotComparable, xk_NotComparable⟩
  have FX_NotComparable : ∀ base : Heap, FnOk P w K mg base (L2N.CX P w) 1 xf_NotComparable _ ["self", "part"] (spE1 C_NotComparable "part") := fun base => exc_ok1 (st := st_x_NotComparable) ⟨OX_NotComparable, XL_NotComparable, XC_NotComparable, XE_NotComparable, xsu_NotComparable, xsv_NotComparable, xmr_NotComparable, opq, tops⟩ rfl XD_NotComparable (NdefX.nscope_by rfl) rfl rfl rfl (PySem.W.mg_none_of X G z_super) (fun L => ⟨rfl, rfl, rfl⟩) xno_NotComparable_part (fun L => rfl)
  have OX_NoFault : OexC K C_NoFault := ⟨oexB_ok oxc_NoFault, xsa_NoFault, xbe_NoFault, xty_NoFault, xk_NoFault⟩
  have FX_NoFault : ∀ base : Heap, FnOk P w K mg base (L2N.CX P w) 1 xf_NoFault _ ["self", "kind", "field"] (spE2 C_NoFault "kind" "field") := fun base => exc_ok2 (st := st_x_NoFault) ⟨OX_NoFault, XL_NoFault, XC_NoFault, XE_NoFault, xsu_NoFault, xsv_NoFault, xmr_NoFault, opq, tops⟩ rfl XD_NoFault (NdefX.nscope_by rfl) rfl rfl rfl (PySem.W.mg_none_of X G z_super) (fun L => ⟨rfl, rfl, rfl⟩) xno_NoFault_kind xno_NoFault_field (fun L => rfl) (fun L => rfl)
  have OX_UnknownWord : OexC K C_UnknownWord := ⟨oexB_ok oxc_UnknownWord, xsa_UnknownWord, xbe_UnknownWord, xty_UnknownWord, xk_UnknownWord⟩
  have FX_UnknownWord : ∀ base : Heap, FnOk P w K mg base (L2N.CX P w) 1 xf_UnknownWord _ ["self", "word"] (spE1 C_UnknownWord "word") := fun base => exc_ok1 (st := st_x_UnknownWord) ⟨OX_UnknownWord, XL_UnknownWord, XC_UnknownWord, XE_UnknownWord, xsu_UnknownWord, xsv_UnknownWord, xmr_UnknownWord, opq, tops⟩ rfl XD_UnknownWord (NdefX.nscope_by rfl) rfl rfl rfl (PySem.W.mg_none_of X G z_super) (fun L => ⟨rfl, rfl, rfl⟩) xno_UnknownWord_word (fun L => rfl)
  have OX_UnknownField : OexC K C_UnknownField := ⟨oexB_ok oxc_UnknownField, xsa_UnknownField, xbe_UnknownField, xty_UnknownField, xk_UnknownField⟩
  have FX_UnknownField : ∀ base : Heap, FnOk P w K mg base (L2N.CX P w) 1 xf_UnknownField _ ["self", "field"] (spE1 C_UnknownField "field") := fun base => exc_ok1 (st := st_x_UnknownField) ⟨OX_UnknownField, XL_UnknownField, XC_UnknownField, XE_UnknownField, xsu_UnknownField, xsv_UnknownField, xmr_UnknownField, opq, tops⟩ rfl XD_UnknownField (NdefX.nscope_by rfl) rfl rfl rfl (PySem.W.mg_none_of X G z_super) (fun L => ⟨rfl, rfl, rfl⟩) xno_UnknownField_field (fun L => rfl)
  have OX_TooManyAsked : OexC K C_TooManyAsked := ⟨oexB_ok oxc_TooManyAsked, xsa_TooManyAsked, xbe_TooManyAsked, xty_TooManyAsked, xk_TooManyAsked⟩
  have FX_TooManyAsked : ∀ base : Heap, FnOk P w K mg base (L2N.CX P w) 1 xf_TooManyAsked _ ["self", "field"] (spE1 C_TooManyAsked "field") := fun base => exc_ok1 (st := st_x_TooManyAsked) ⟨OX_TooManyAsked, XL_TooManyAsked, XC_TooManyAsked, XE_TooManyAsked, xsu_TooManyAsked, xsv_TooManyAsked, xmr_TooManyAsked, opq, tops⟩ rfl XD_TooManyAsked (NdefX.nscope_by rfl) rfl rfl rfl (PySem.W.mg_none_of X G z_super) (fun L => ⟨rfl, rfl, rfl⟩) xno_TooManyAsked_field (fun L => rfl)
  have GA : GAll mg [("InvalidForm", ["InvalidForm", "ShownError"], C_InvalidForm), ("InvalidDeed", ["InvalidDeed", "ShownError"], C_InvalidDeed), ("InvalidChange", ["InvalidChange", "ShownError"], C_InvalidChange), ("InvalidBound", ["InvalidBound", "ShownError"], C_InvalidBound), ("InvalidRule", ["InvalidRule", "ShownError"], C_InvalidRule), ("InvalidKind", ["InvalidKind", "ShownError"], C_InvalidKind), ("LimitExceeded", ["LimitExceeded", "ShownError"], C_LimitExceeded), ("InvalidWords", ["InvalidWords", "ShownError"], C_InvalidWords), ("InvalidText", ["InvalidText", "ShownError"], C_InvalidText), ("InvalidTable", ["InvalidTable", "ShownError"], C_InvalidTable), ("NotComparable", ["NotComparable", "ShownError"], C_NotComparable), ("NoFault", ["NoFault", "ShownError"], C_NoFault), ("UnknownWord", ["UnknownWord", "ShownError"], C_UnknownWord), ("UnknownField", ["UnknownField", "ShownError"], C_UnknownField), ("TooManyAsked", ["TooManyAsked", "ShownError"], C_TooManyAsked), ("InvalidStanding", ["InvalidStanding", "ShownError"], C_InvalidStanding), ("InvalidRules", ["InvalidRules", "ShownError"], C_InvalidRules), ("NothingToRedo", ["NothingToRedo", "ShownError"], C_NothingToRedo), ("NoStanding", ["NoStanding", "ShownError"], C_NoStanding), ("NothingToUndo", ["NothingToUndo", "ShownError"], C_NothingToUndo)] := ⟨PySem.W.mg_of X G a_InvalidForm, PySem.W.mg_of X G a_InvalidDeed, PySem.W.mg_of X G a_InvalidChange, PySem.W.mg_of X G a_InvalidBound, PySem.W.mg_of X G a_InvalidRule, PySem.W.mg_of X G a_InvalidKind, PySem.W.mg_of X G a_LimitExceeded, PySem.W.mg_of X G a_InvalidWords, PySem.W.mg_of X G a_InvalidText, PySem.W.mg_of X G a_InvalidTable, PySem.W.mg_of X G a_NotComparable, PySem.W.mg_of X G a_NoFault, PySem.W.mg_of X G a_UnknownWord, PySem.W.mg_of X G a_UnknownField, PySem.W.mg_of X G a_TooManyAsked, PySem.W.mg_of X G a_InvalidStanding, PySem.W.mg_of X G a_InvalidRules, PySem.W.mg_of X G a_NothingToRedo, PySem.W.mg_of X G a_NoStanding, PySem.W.mg_of X G a_NothingToUndo, trivial⟩
  have tx : Txt w K mg A := { u__law_mix := U__law_mix, b__law_mix := B__law_mix, g__law_mix := PySem.W.mg_of X G a__law_mix, u__law_box := U__law_box, b__law_box := B__law_box, g__law_box := PySem.W.mg_of X G a__law_box, u__law_draw := U__law_draw, b__law_draw := B__law_draw, g__law_draw := PySem.W.mg_of X G a__law_draw, u__law_same := U__law_same, b__law_same := B__law_same, g__law_same := PySem.W.mg_of X G a__law_same, u__law_classes := U__law_classes, b__law_classes := B__law_classes, g__law_classes := PySem.W.mg_of X G a__law_classes, u__law_errors := U__law_errors, b__law_errors := B__law_errors, g__law_errors := PySem.W.mg_of X G a__law_errors, u__law_held := U__law_held, b__law_held := B__law_held, g__law_held := PySem.W.mg_of X G a__law_held, u_law := U_law, b_law := B_law, g_law := PySem.W.mg_of X G a_law, cs := CF, n_ValueError := PySem.W.mg_none_of X G z_ValueError, n_all := PySem.W.mg_none_of X G z_all, n_bool := PySem.W.mg_none_of X G z_bool, n_int := PySem.W.mg_none_of X G z_int, n_isinstance := PySem.W.mg_none_of X G z_isinstance, n_len := PySem.W.mg_none_of X G z_len, n_list := PySem.W.mg_none_of X G z_list, n_range := PySem.W.mg_none_of X G z_range, n_str := PySem.W.mg_none_of X G z_str, n_super := PySem.W.mg_none_of X G z_super, n_tuple := PySem.W.mg_none_of X G z_tuple, ox_InvalidForm := OX_InvalidForm, xi_InvalidForm := xi_InvalidForm, xt_InvalidForm := xt_InvalidForm, b_InvalidForm := bindsE fun us hl => match us, hl with | [_, _, _], _ => rfl, ox_InvalidDeed := OX_InvalidDeed, xi_InvalidDeed := xi_InvalidDeed, xt_InvalidDeed := xt_InvalidDeed, b_InvalidDeed := bindsE fun us hl => match us, hl with | [_, _], _ => rfl, ox_InvalidChange := OX_InvalidChange, xi_InvalidChange := xi_InvalidChange, xt_InvalidChange := xt_InvalidChange, b_InvalidChange := bindsE fun us hl => match us, hl with | [_, _], _ => rfl, ox_InvalidBound := OX_InvalidBound, xi_InvalidBound := xi_InvalidBound, xt_InvalidBound := xt_InvalidBound, b_InvalidBound := bindsE fun us hl => match us, hl with | [_, _], _ => rfl, ox_InvalidRule := OX_InvalidRule, xi_InvalidRule := xi_InvalidRule, xt_InvalidRule := xt_InvalidRule, b_InvalidRule := bindsE fun us hl => match us, hl with | [_, _], _ => rfl, ox_InvalidKind := OX_InvalidKind, xi_InvalidKind := xi_InvalidKind, xt_InvalidKind := xt_InvalidKind, b_InvalidKind := bindsE fun us hl => match us, hl with | [_, _], _ => rfl, ox_LimitExceeded := OX_LimitExceeded, xi_LimitExceeded := xi_LimitExceeded, xt_LimitExceeded := xt_LimitExceeded, b_LimitExceeded := bindsE fun us hl => match us, hl with | [_, _], _ => rfl, ox_InvalidWords := OX_InvalidWords, xi_InvalidWords := xi_InvalidWords, xt_InvalidWords := xt_InvalidWords, b_InvalidWords := bindsE fun us hl => match us, hl with | [_, _], _ => rfl, ox_InvalidText := OX_InvalidText, xi_InvalidText := xi_InvalidText, xt_InvalidText := xt_InvalidText, b_InvalidText := bindsE fun us hl => match us, hl with | [_, _], _ => rfl, ox_InvalidTable := OX_InvalidTable, xi_InvalidTable := xi_InvalidTable, xt_InvalidTable := xt_InvalidTable, b_InvalidTable := bindsE fun us hl => match us, hl with | [_, _], _ => rfl, ox_NotComparable := OX_NotComparable, xi_NotComparable := xi_NotComparable, xt_NotComparable := xt_NotComparable, b_NotComparable := bindsE fun us hl => match us, hl with | [_, _], _ => rfl, ox_NoFault := OX_NoFault, xi_NoFault := xi_NoFault, xt_NoFault := xt_NoFault, b_NoFault := bindsE fun us hl => match us, hl with | [_, _, _], _ => rfl, ox_UnknownWord := OX_UnknownWord, xi_UnknownWord := xi_UnknownWord, xt_UnknownWord := xt_UnknownWord, b_UnknownWord := bindsE fun us hl => match us, hl with | [_, _], _ => rfl, ox_UnknownField := OX_UnknownField, xi_UnknownField := xi_UnknownField, xt_UnknownField := xt_UnknownField, b_UnknownField := bindsE fun us hl => match us, hl with | [_, _], _ => rfl, ox_TooManyAsked := OX_TooManyAsked, xi_TooManyAsked := xi_TooManyAsked, xt_TooManyAsked := xt_TooManyAsked, b_TooManyAsked := bindsE fun us hl => match us, hl with | [_, _], _ => rfl, xq_InvalidStanding := xq_InvalidStanding, xbe_InvalidStanding := xbe_InvalidStanding, xty_InvalidStanding := xty_InvalidStanding, xk_InvalidStanding := xk_InvalidStanding, xq_InvalidRules := xq_InvalidRules, xbe_InvalidRules := xbe_InvalidRules, xty_InvalidRules := xty_InvalidRules, xk_InvalidRules := xk_InvalidRules, xq_NothingToRedo := xq_NothingToRedo, xbe_NothingToRedo := xbe_NothingToRedo, xty_NothingToRedo := xty_NothingToRedo, xk_NothingToRedo := xk_NothingToRedo, xq_NoStanding := xq_NoStanding, xbe_NoStanding := xbe_NoStanding, xty_NoStanding := xty_NoStanding, xk_NoStanding := xk_NoStanding, xq_NothingToUndo := xq_NothingToUndo, xbe_NothingToUndo := xbe_NothingToUndo, xty_NothingToUndo := xty_NothingToUndo, xk_NothingToUndo := xk_NothingToUndo, g_ShownError := PySem.W.mg_of X G a_ShownError, g_InvalidForm := PySem.W.mg_of X G a_InvalidForm, g_InvalidRule := PySem.W.mg_of X G a_InvalidRule, g_InvalidWords := PySem.W.mg_of X G a_InvalidWords, g_InvalidStanding := PySem.W.mg_of X G a_InvalidStanding, g_InvalidDeed := PySem.W.mg_of X G a_InvalidDeed, g_InvalidTable := PySem.W.mg_of X G a_InvalidTable, g_InvalidText := PySem.W.mg_of X G a_InvalidText, g_UnknownField := PySem.W.mg_of X G a_UnknownField, g_UnknownWord := PySem.W.mg_of X G a_UnknownWord, g_TooManyAsked := PySem.W.mg_of X G a_TooManyAsked, g_NothingToUndo := PySem.W.mg_of X G a_NothingToUndo, g_NothingToRedo := PySem.W.mg_of X G a_NothingToRedo, g_InvalidBound := PySem.W.mg_of X G a_InvalidBound, g_LimitExceeded := PySem.W.mg_of X G a_LimitExceeded, g_NoStanding := PySem.W.mg_of X G a_NoStanding, g_NoFault := PySem.W.mg_of X G a_NoFault, g_InvalidKind := PySem.W.mg_of X G a_InvalidKind, g_NotComparable := PySem.W.mg_of X G a_NotComparable, g_InvalidChange := PySem.W.mg_of X G a_InvalidChange, g_InvalidRules := PySem.W.mg_of X G a_InvalidRules, is_ShownError := isall_b (cs := [("InvalidForm", ["InvalidForm", "ShownError"], C_InvalidForm), ("InvalidDeed", ["InvalidDeed", "ShownError"], C_InvalidDeed), ("InvalidChange", ["InvalidChange", "ShownError"], C_InvalidChange), ("InvalidBound", ["InvalidBound", "ShownError"], C_InvalidBound), ("InvalidRule", ["InvalidRule", "ShownError"], C_InvalidRule), ("InvalidKind", ["InvalidKind", "ShownError"], C_InvalidKind), ("LimitExceeded", ["LimitExceeded", "ShownError"], C_LimitExceeded), ("InvalidWords", ["InvalidWords", "ShownError"], C_InvalidWords), ("InvalidText", ["InvalidText", "ShownError"], C_InvalidText), ("InvalidTable", ["InvalidTable", "ShownError"], C_InvalidTable), ("NotComparable", ["NotComparable", "ShownError"], C_NotComparable), ("NoFault", ["NoFault", "ShownError"], C_NoFault), ("UnknownWord", ["UnknownWord", "ShownError"], C_UnknownWord), ("UnknownField", ["UnknownField", "ShownError"], C_UnknownField), ("TooManyAsked", ["TooManyAsked", "ShownError"], C_TooManyAsked), ("InvalidStanding", ["InvalidStanding", "ShownError"], C_InvalidStanding), ("InvalidRules", ["InvalidRules", "ShownError"], C_InvalidRules), ("NothingToRedo", ["NothingToRedo", "ShownError"], C_NothingToRedo), ("NoStanding", ["NoStanding", "ShownError"], C_NoStanding), ("NothingToUndo", ["NothingToUndo", "ShownError"], C_NothingToUndo)]) rfl GA KA (List.mem_of_getElem? (i := 0) rfl), is_InvalidDeed := isall_b (cs := [("InvalidForm", ["InvalidForm", "ShownError"], C_InvalidForm), ("InvalidDeed", ["InvalidDeed", "ShownError"], C_InvalidDeed), ("InvalidChange", ["InvalidChange", "ShownError"], C_InvalidChange), ("InvalidBound", ["InvalidBound", "ShownError"], C_InvalidBound), ("InvalidRule", ["InvalidRule", "ShownError"], C_InvalidRule), ("InvalidKind", ["InvalidKind", "ShownError"], C_InvalidKind), ("LimitExceeded", ["LimitExceeded", "ShownError"], C_LimitExceeded), ("InvalidWords", ["InvalidWords", "ShownError"], C_InvalidWords), ("InvalidText", ["InvalidText", "ShownError"], C_InvalidText), ("InvalidTable", ["InvalidTable", "ShownError"], C_InvalidTable), ("NotComparable", ["NotComparable", "ShownError"], C_NotComparable), ("NoFault", ["NoFault", "ShownError"], C_NoFault), ("UnknownWord", ["UnknownWord", "ShownError"], C_UnknownWord), ("UnknownField", ["UnknownField", "ShownError"], C_UnknownField), ("TooManyAsked", ["TooManyAsked", "ShownError"], C_TooManyAsked), ("InvalidStanding", ["InvalidStanding", "ShownError"], C_InvalidStanding), ("InvalidRules", ["InvalidRules", "ShownError"], C_InvalidRules), ("NothingToRedo", ["NothingToRedo", "ShownError"], C_NothingToRedo), ("NoStanding", ["NoStanding", "ShownError"], C_NoStanding), ("NothingToUndo", ["NothingToUndo", "ShownError"], C_NothingToUndo)]) rfl GA KA (List.mem_of_getElem? (i := 1) rfl), is_InvalidChange := isall_b (cs := [("InvalidForm", ["InvalidForm", "ShownError"], C_InvalidForm), ("InvalidDeed", ["InvalidDeed", "ShownError"], C_InvalidDeed), ("InvalidChange", ["InvalidChange", "ShownError"], C_InvalidChange), ("InvalidBound", ["InvalidBound", "ShownError"], C_InvalidBound), ("InvalidRule", ["InvalidRule", "ShownError"], C_InvalidRule), ("InvalidKind", ["InvalidKind", "ShownError"], C_InvalidKind), ("LimitExceeded", ["LimitExceeded", "ShownError"], C_LimitExceeded), ("InvalidWords", ["InvalidWords", "ShownError"], C_InvalidWords), ("InvalidText", ["InvalidText", "ShownError"], C_InvalidText), ("InvalidTable", ["InvalidTable", "ShownError"], C_InvalidTable), ("NotComparable", ["NotComparable", "ShownError"], C_NotComparable), ("NoFault", ["NoFault", "ShownError"], C_NoFault), ("UnknownWord", ["UnknownWord", "ShownError"], C_UnknownWord), ("UnknownField", ["UnknownField", "ShownError"], C_UnknownField), ("TooManyAsked", ["TooManyAsked", "ShownError"], C_TooManyAsked), ("InvalidStanding", ["InvalidStanding", "ShownError"], C_InvalidStanding), ("InvalidRules", ["InvalidRules", "ShownError"], C_InvalidRules), ("NothingToRedo", ["NothingToRedo", "ShownError"], C_NothingToRedo), ("NoStanding", ["NoStanding", "ShownError"], C_NoStanding), ("NothingToUndo", ["NothingToUndo", "ShownError"], C_NothingToUndo)]) rfl GA KA (List.mem_of_getElem? (i := 2) rfl), is_InvalidBound := isall_b (cs := [("InvalidForm", ["InvalidForm", "ShownError"], C_InvalidForm), ("InvalidDeed", ["InvalidDeed", "ShownError"], C_InvalidDeed), ("InvalidChange", ["InvalidChange", "ShownError"], C_InvalidChange), ("InvalidBound", ["InvalidBound", "ShownError"], C_InvalidBound), ("InvalidRule", ["InvalidRule", "ShownError"], C_InvalidRule), ("InvalidKind", ["InvalidKind", "ShownError"], C_InvalidKind), ("LimitExceeded", ["LimitExceeded", "ShownError"], C_LimitExceeded), ("InvalidWords", ["InvalidWords", "ShownError"], C_InvalidWords), ("InvalidText", ["InvalidText", "ShownError"], C_InvalidText), ("InvalidTable", ["InvalidTable", "ShownError"], C_InvalidTable), ("NotComparable", ["NotComparable", "ShownError"], C_NotComparable), ("NoFault", ["NoFault", "ShownError"], C_NoFault), ("UnknownWord", ["UnknownWord", "ShownError"], C_UnknownWord), ("UnknownField", ["UnknownField", "ShownError"], C_UnknownField), ("TooManyAsked", ["TooManyAsked", "ShownError"], C_TooManyAsked), ("InvalidStanding", ["InvalidStanding", "ShownError"], C_InvalidStanding), ("InvalidRules", ["InvalidRules", "ShownError"], C_InvalidRules), ("NothingToRedo", ["NothingToRedo", "ShownError"], C_NothingToRedo), ("NoStanding", ["NoStanding", "ShownError"], C_NoStanding), ("NothingToUndo", ["NothingToUndo", "ShownError"], C_NothingToUndo)]) rfl GA KA (List.mem_of_getElem? (i := 3) rfl), is_InvalidRule := isall_b (cs := [("InvalidForm", ["InvalidForm", "ShownError"], C_InvalidForm), ("InvalidDeed", ["InvalidDeed", "ShownError"], C_InvalidDeed), ("InvalidChange", ["InvalidChange", "ShownError"], C_InvalidChange), ("InvalidBound", ["InvalidBound", "ShownError"], C_InvalidBound), ("InvalidRule", ["InvalidRule", "ShownError"], C_InvalidRule), ("InvalidKind", ["InvalidKind", "ShownError"], C_InvalidKind), ("LimitExceeded", ["LimitExceeded", "ShownError"], C_LimitExceeded), ("InvalidWords", ["InvalidWords", "ShownError"], C_InvalidWords), ("InvalidText", ["InvalidText", "ShownError"], C_InvalidText), ("InvalidTable", ["InvalidTable", "ShownError"], C_InvalidTable), ("NotComparable", ["NotComparable", "ShownError"], C_NotComparable), ("NoFault", ["NoFault", "ShownError"], C_NoFault), ("UnknownWord", ["UnknownWord", "ShownError"], C_UnknownWord), ("UnknownField", ["UnknownField", "ShownError"], C_UnknownField), ("TooManyAsked", ["TooManyAsked", "ShownError"], C_TooManyAsked), ("InvalidStanding", ["InvalidStanding", "ShownError"], C_InvalidStanding), ("InvalidRules", ["InvalidRules", "ShownError"], C_InvalidRules), ("NothingToRedo", ["NothingToRedo", "ShownError"], C_NothingToRedo), ("NoStanding", ["NoStanding", "ShownError"], C_NoStanding), ("NothingToUndo", ["NothingToUndo", "ShownError"], C_NothingToUndo)]) rfl GA KA (List.mem_of_getElem? (i := 4) rfl), is_InvalidKind := isall_b (cs := [("InvalidForm", ["InvalidForm", "ShownError"], C_InvalidForm), ("InvalidDeed", ["InvalidDeed", "ShownError"], C_InvalidDeed), ("InvalidChange", ["InvalidChange", "ShownError"], C_InvalidChange), ("InvalidBound", ["InvalidBound", "ShownError"], C_InvalidBound), ("InvalidRule", ["InvalidRule", "ShownError"], C_InvalidRule), ("InvalidKind", ["InvalidKind", "ShownError"], C_InvalidKind), ("LimitExceeded", ["LimitExceeded", "ShownError"], C_LimitExceeded), ("InvalidWords", ["InvalidWords", "ShownError"], C_InvalidWords), ("InvalidText", ["InvalidText", "ShownError"], C_InvalidText), ("InvalidTable", ["InvalidTable", "ShownError"], C_InvalidTable), ("NotComparable", ["NotComparable", "ShownError"], C_NotComparable), ("NoFault", ["NoFault", "ShownError"], C_NoFault), ("UnknownWord", ["UnknownWord", "ShownError"], C_UnknownWord), ("UnknownField", ["UnknownField", "ShownError"], C_UnknownField), ("TooManyAsked", ["TooManyAsked", "ShownError"], C_TooManyAsked), ("InvalidStanding", ["InvalidStanding", "ShownError"], C_InvalidStanding), ("InvalidRules", ["InvalidRules", "ShownError"], C_InvalidRules), ("NothingToRedo", ["NothingToRedo", "ShownError"], C_NothingToRedo), ("NoStanding", ["NoStanding", "ShownError"], C_NoStanding), ("NothingToUndo", ["NothingToUndo", "ShownError"], C_NothingToUndo)]) rfl GA KA (List.mem_of_getElem? (i := 5) rfl), is_InvalidForm := isall_b (cs := [("InvalidForm", ["InvalidForm", "ShownError"], C_InvalidForm), ("InvalidDeed", ["InvalidDeed", "ShownError"], C_InvalidDeed), ("InvalidChange", ["InvalidChange", "ShownError"], C_InvalidChange), ("InvalidBound", ["InvalidBound", "ShownError"], C_InvalidBound), ("InvalidRule", ["InvalidRule", "ShownError"], C_InvalidRule), ("InvalidKind", ["InvalidKind", "ShownError"], C_InvalidKind), ("LimitExceeded", ["LimitExceeded", "ShownError"], C_LimitExceeded), ("InvalidWords", ["InvalidWords", "ShownError"], C_InvalidWords), ("InvalidText", ["InvalidText", "ShownError"], C_InvalidText), ("InvalidTable", ["InvalidTable", "ShownError"], C_InvalidTable), ("NotComparable", ["NotComparable", "ShownError"], C_NotComparable), ("NoFault", ["NoFault", "ShownError"], C_NoFault), ("UnknownWord", ["UnknownWord", "ShownError"], C_UnknownWord), ("UnknownField", ["UnknownField", "ShownError"], C_UnknownField), ("TooManyAsked", ["TooManyAsked", "ShownError"], C_TooManyAsked), ("InvalidStanding", ["InvalidStanding", "ShownError"], C_InvalidStanding), ("InvalidRules", ["InvalidRules", "ShownError"], C_InvalidRules), ("NothingToRedo", ["NothingToRedo", "ShownError"], C_NothingToRedo), ("NoStanding", ["NoStanding", "ShownError"], C_NoStanding), ("NothingToUndo", ["NothingToUndo", "ShownError"], C_NothingToUndo)]) rfl GA KA (List.mem_of_getElem? (i := 6) rfl), is_InvalidStanding := isall_b (cs := [("InvalidForm", ["InvalidForm", "ShownError"], C_InvalidForm), ("InvalidDeed", ["InvalidDeed", "ShownError"], C_InvalidDeed), ("InvalidChange", ["InvalidChange", "ShownError"], C_InvalidChange), ("InvalidBound", ["InvalidBound", "ShownError"], C_InvalidBound), ("InvalidRule", ["InvalidRule", "ShownError"], C_InvalidRule), ("InvalidKind", ["InvalidKind", "ShownError"], C_InvalidKind), ("LimitExceeded", ["LimitExceeded", "ShownError"], C_LimitExceeded), ("InvalidWords", ["InvalidWords", "ShownError"], C_InvalidWords), ("InvalidText", ["InvalidText", "ShownError"], C_InvalidText), ("InvalidTable", ["InvalidTable", "ShownError"], C_InvalidTable), ("NotComparable", ["NotComparable", "ShownError"], C_NotComparable), ("NoFault", ["NoFault", "ShownError"], C_NoFault), ("UnknownWord", ["UnknownWord", "ShownError"], C_UnknownWord), ("UnknownField", ["UnknownField", "ShownError"], C_UnknownField), ("TooManyAsked", ["TooManyAsked", "ShownError"], C_TooManyAsked), ("InvalidStanding", ["InvalidStanding", "ShownError"], C_InvalidStanding), ("InvalidRules", ["InvalidRules", "ShownError"], C_InvalidRules), ("NothingToRedo", ["NothingToRedo", "ShownError"], C_NothingToRedo), ("NoStanding", ["NoStanding", "ShownError"], C_NoStanding), ("NothingToUndo", ["NothingToUndo", "ShownError"], C_NothingToUndo)]) rfl GA KA (List.mem_of_getElem? (i := 7) rfl), is_InvalidRules := isall_b (cs := [("InvalidForm", ["InvalidForm", "ShownError"], C_InvalidForm), ("InvalidDeed", ["InvalidDeed", "ShownError"], C_InvalidDeed), ("InvalidChange", ["InvalidChange", "ShownError"], C_InvalidChange), ("InvalidBound", ["InvalidBound", "ShownError"], C_InvalidBound), ("InvalidRule", ["InvalidRule", "ShownError"], C_InvalidRule), ("InvalidKind", ["InvalidKind", "ShownError"], C_InvalidKind), ("LimitExceeded", ["LimitExceeded", "ShownError"], C_LimitExceeded), ("InvalidWords", ["InvalidWords", "ShownError"], C_InvalidWords), ("InvalidText", ["InvalidText", "ShownError"], C_InvalidText), ("InvalidTable", ["InvalidTable", "ShownError"], C_InvalidTable), ("NotComparable", ["NotComparable", "ShownError"], C_NotComparable), ("NoFault", ["NoFault", "ShownError"], C_NoFault), ("UnknownWord", ["UnknownWord", "ShownError"], C_UnknownWord), ("UnknownField", ["UnknownField", "ShownError"], C_UnknownField), ("TooManyAsked", ["TooManyAsked", "ShownError"], C_TooManyAsked), ("InvalidStanding", ["InvalidStanding", "ShownError"], C_InvalidStanding), ("InvalidRules", ["InvalidRules", "ShownError"], C_InvalidRules), ("NothingToRedo", ["NothingToRedo", "ShownError"], C_NothingToRedo), ("NoStanding", ["NoStanding", "ShownError"], C_NoStanding), ("NothingToUndo", ["NothingToUndo", "ShownError"], C_NothingToUndo)]) rfl GA KA (List.mem_of_getElem? (i := 8) rfl), is_InvalidWords := isall_b (cs := [("InvalidForm", ["InvalidForm", "ShownError"], C_InvalidForm), ("InvalidDeed", ["InvalidDeed", "ShownError"], C_InvalidDeed), ("InvalidChange", ["InvalidChange", "ShownError"], C_InvalidChange), ("InvalidBound", ["InvalidBound", "ShownError"], C_InvalidBound), ("InvalidRule", ["InvalidRule", "ShownError"], C_InvalidRule), ("InvalidKind", ["InvalidKind", "ShownError"], C_InvalidKind), ("LimitExceeded", ["LimitExceeded", "ShownError"], C_LimitExceeded), ("InvalidWords", ["InvalidWords", "ShownError"], C_InvalidWords), ("InvalidText", ["InvalidText", "ShownError"], C_InvalidText), ("InvalidTable", ["InvalidTable", "ShownError"], C_InvalidTable), ("NotComparable", ["NotComparable", "ShownError"], C_NotComparable), ("NoFault", ["NoFault", "ShownError"], C_NoFault), ("UnknownWord", ["UnknownWord", "ShownError"], C_UnknownWord), ("UnknownField", ["UnknownField", "ShownError"], C_UnknownField), ("TooManyAsked", ["TooManyAsked", "ShownError"], C_TooManyAsked), ("InvalidStanding", ["InvalidStanding", "ShownError"], C_InvalidStanding), ("InvalidRules", ["InvalidRules", "ShownError"], C_InvalidRules), ("NothingToRedo", ["NothingToRedo", "ShownError"], C_NothingToRedo), ("NoStanding", ["NoStanding", "ShownError"], C_NoStanding), ("NothingToUndo", ["NothingToUndo", "ShownError"], C_NothingToUndo)]) rfl GA KA (List.mem_of_getElem? (i := 9) rfl), is_InvalidText := isall_b (cs := [("InvalidForm", ["InvalidForm", "ShownError"], C_InvalidForm), ("InvalidDeed", ["InvalidDeed", "ShownError"], C_InvalidDeed), ("InvalidChange", ["InvalidChange", "ShownError"], C_InvalidChange), ("InvalidBound", ["InvalidBound", "ShownError"], C_InvalidBound), ("InvalidRule", ["InvalidRule", "ShownError"], C_InvalidRule), ("InvalidKind", ["InvalidKind", "ShownError"], C_InvalidKind), ("LimitExceeded", ["LimitExceeded", "ShownError"], C_LimitExceeded), ("InvalidWords", ["InvalidWords", "ShownError"], C_InvalidWords), ("InvalidText", ["InvalidText", "ShownError"], C_InvalidText), ("InvalidTable", ["InvalidTable", "ShownError"], C_InvalidTable), ("NotComparable", ["NotComparable", "ShownError"], C_NotComparable), ("NoFault", ["NoFault", "ShownError"], C_NoFault), ("UnknownWord", ["UnknownWord", "ShownError"], C_UnknownWord), ("UnknownField", ["UnknownField", "ShownError"], C_UnknownField), ("TooManyAsked", ["TooManyAsked", "ShownError"], C_TooManyAsked), ("InvalidStanding", ["InvalidStanding", "ShownError"], C_InvalidStanding), ("InvalidRules", ["InvalidRules", "ShownError"], C_InvalidRules), ("NothingToRedo", ["NothingToRedo", "ShownError"], C_NothingToRedo), ("NoStanding", ["NoStanding", "ShownError"], C_NoStanding), ("NothingToUndo", ["NothingToUndo", "ShownError"], C_NothingToUndo)]) rfl GA KA (List.mem_of_getElem? (i := 10) rfl), is_InvalidTable := isall_b (cs := [("InvalidForm", ["InvalidForm", "ShownError"], C_InvalidForm), ("InvalidDeed", ["InvalidDeed", "ShownError"], C_InvalidDeed), ("InvalidChange", ["InvalidChange", "ShownError"], C_InvalidChange), ("InvalidBound", ["InvalidBound", "ShownError"], C_InvalidBound), ("InvalidRule", ["InvalidRule", "ShownError"], C_InvalidRule), ("InvalidKind", ["InvalidKind", "ShownError"], C_InvalidKind), ("LimitExceeded", ["LimitExceeded", "ShownError"], C_LimitExceeded), ("InvalidWords", ["InvalidWords", "ShownError"], C_InvalidWords), ("InvalidText", ["InvalidText", "ShownError"], C_InvalidText), ("InvalidTable", ["InvalidTable", "ShownError"], C_InvalidTable), ("NotComparable", ["NotComparable", "ShownError"], C_NotComparable), ("NoFault", ["NoFault", "ShownError"], C_NoFault), ("UnknownWord", ["UnknownWord", "ShownError"], C_UnknownWord), ("UnknownField", ["UnknownField", "ShownError"], C_UnknownField), ("TooManyAsked", ["TooManyAsked", "ShownError"], C_TooManyAsked), ("InvalidStanding", ["InvalidStanding", "ShownError"], C_InvalidStanding), ("InvalidRules", ["InvalidRules", "ShownError"], C_InvalidRules), ("NothingToRedo", ["NothingToRedo", "ShownError"], C_NothingToRedo), ("NoStanding", ["NoStanding", "ShownError"], C_NoStanding), ("NothingToUndo", ["NothingToUndo", "ShownError"], C_NothingToUndo)]) rfl GA KA (List.mem_of_getElem? (i := 11) rfl), is_NoStanding := isall_b (cs := [("InvalidForm", ["InvalidForm", "ShownError"], C_InvalidForm), ("InvalidDeed", ["InvalidDeed", "ShownError"], C_InvalidDeed), ("InvalidChange", ["InvalidChange", "ShownError"], C_InvalidChange), ("InvalidBound", ["InvalidBound", "ShownError"], C_InvalidBound), ("InvalidRule", ["InvalidRule", "ShownError"], C_InvalidRule), ("InvalidKind", ["InvalidKind", "ShownError"], C_InvalidKind), ("LimitExceeded", ["LimitExceeded", "ShownError"], C_LimitExceeded), ("InvalidWords", ["InvalidWords", "ShownError"], C_InvalidWords), ("InvalidText", ["InvalidText", "ShownError"], C_InvalidText), ("InvalidTable", ["InvalidTable", "ShownError"], C_InvalidTable), ("NotComparable", ["NotComparable", "ShownError"], C_NotComparable), ("NoFault", ["NoFault", "ShownError"], C_NoFault), ("UnknownWord", ["UnknownWord", "ShownError"], C_UnknownWord), ("UnknownField", ["UnknownField", "ShownError"], C_UnknownField), ("TooManyAsked", ["TooManyAsked", "ShownError"], C_TooManyAsked), ("InvalidStanding", ["InvalidStanding", "ShownError"], C_InvalidStanding), ("InvalidRules", ["InvalidRules", "ShownError"], C_InvalidRules), ("NothingToRedo", ["NothingToRedo", "ShownError"], C_NothingToRedo), ("NoStanding", ["NoStanding", "ShownError"], C_NoStanding), ("NothingToUndo", ["NothingToUndo", "ShownError"], C_NothingToUndo)]) rfl GA KA (List.mem_of_getElem? (i := 12) rfl), is_NoFault := isall_b (cs := [("InvalidForm", ["InvalidForm", "ShownError"], C_InvalidForm), ("InvalidDeed", ["InvalidDeed", "ShownError"], C_InvalidDeed), ("InvalidChange", ["InvalidChange", "ShownError"], C_InvalidChange), ("InvalidBound", ["InvalidBound", "ShownError"], C_InvalidBound), ("InvalidRule", ["InvalidRule", "ShownError"], C_InvalidRule), ("InvalidKind", ["InvalidKind", "ShownError"], C_InvalidKind), ("LimitExceeded", ["LimitExceeded", "ShownError"], C_LimitExceeded), ("InvalidWords", ["InvalidWords", "ShownError"], C_InvalidWords), ("InvalidText", ["InvalidText", "ShownError"], C_InvalidText), ("InvalidTable", ["InvalidTable", "ShownError"], C_InvalidTable), ("NotComparable", ["NotComparable", "ShownError"], C_NotComparable), ("NoFault", ["NoFault", "ShownError"], C_NoFault), ("UnknownWord", ["UnknownWord", "ShownError"], C_UnknownWord), ("UnknownField", ["UnknownField", "ShownError"], C_UnknownField), ("TooManyAsked", ["TooManyAsked", "ShownError"], C_TooManyAsked), ("InvalidStanding", ["InvalidStanding", "ShownError"], C_InvalidStanding), ("InvalidRules", ["InvalidRules", "ShownError"], C_InvalidRules), ("NothingToRedo", ["NothingToRedo", "ShownError"], C_NothingToRedo), ("NoStanding", ["NoStanding", "ShownError"], C_NoStanding), ("NothingToUndo", ["NothingToUndo", "ShownError"], C_NothingToUndo)]) rfl GA KA (List.mem_of_getElem? (i := 13) rfl), is_LimitExceeded := isall_b (cs := [("InvalidForm", ["InvalidForm", "ShownError"], C_InvalidForm), ("InvalidDeed", ["InvalidDeed", "ShownError"], C_InvalidDeed), ("InvalidChange", ["InvalidChange", "ShownError"], C_InvalidChange), ("InvalidBound", ["InvalidBound", "ShownError"], C_InvalidBound), ("InvalidRule", ["InvalidRule", "ShownError"], C_InvalidRule), ("InvalidKind", ["InvalidKind", "ShownError"], C_InvalidKind), ("LimitExceeded", ["LimitExceeded", "ShownError"], C_LimitExceeded), ("InvalidWords", ["InvalidWords", "ShownError"], C_InvalidWords), ("InvalidText", ["InvalidText", "ShownError"], C_InvalidText), ("InvalidTable", ["InvalidTable", "ShownError"], C_InvalidTable), ("NotComparable", ["NotComparable", "ShownError"], C_NotComparable), ("NoFault", ["NoFault", "ShownError"], C_NoFault), ("UnknownWord", ["UnknownWord", "ShownError"], C_UnknownWord), ("UnknownField", ["UnknownField", "ShownError"], C_UnknownField), ("TooManyAsked", ["TooManyAsked", "ShownError"], C_TooManyAsked), ("InvalidStanding", ["InvalidStanding", "ShownError"], C_InvalidStanding), ("InvalidRules", ["InvalidRules", "ShownError"], C_InvalidRules), ("NothingToRedo", ["NothingToRedo", "ShownError"], C_NothingToRedo), ("NoStanding", ["NoStanding", "ShownError"], C_NoStanding), ("NothingToUndo", ["NothingToUndo", "ShownError"], C_NothingToUndo)]) rfl GA KA (List.mem_of_getElem? (i := 14) rfl), is_NothingToRedo := isall_b (cs := [("InvalidForm", ["InvalidForm", "ShownError"], C_InvalidForm), ("InvalidDeed", ["InvalidDeed", "ShownError"], C_InvalidDeed), ("InvalidChange", ["InvalidChange", "ShownError"], C_InvalidChange), ("InvalidBound", ["InvalidBound", "ShownError"], C_InvalidBound), ("InvalidRule", ["InvalidRule", "ShownError"], C_InvalidRule), ("InvalidKind", ["InvalidKind", "ShownError"], C_InvalidKind), ("LimitExceeded", ["LimitExceeded", "ShownError"], C_LimitExceeded), ("InvalidWords", ["InvalidWords", "ShownError"], C_InvalidWords), ("InvalidText", ["InvalidText", "ShownError"], C_InvalidText), ("InvalidTable", ["InvalidTable", "ShownError"], C_InvalidTable), ("NotComparable", ["NotComparable", "ShownError"], C_NotComparable), ("NoFault", ["NoFault", "ShownError"], C_NoFault), ("UnknownWord", ["UnknownWord", "ShownError"], C_UnknownWord), ("UnknownField", ["UnknownField", "ShownError"], C_UnknownField), ("TooManyAsked", ["TooManyAsked", "ShownError"], C_TooManyAsked), ("InvalidStanding", ["InvalidStanding", "ShownError"], C_InvalidStanding), ("InvalidRules", ["InvalidRules", "ShownError"], C_InvalidRules), ("NothingToRedo", ["NothingToRedo", "ShownError"], C_NothingToRedo), ("NoStanding", ["NoStanding", "ShownError"], C_NoStanding), ("NothingToUndo", ["NothingToUndo", "ShownError"], C_NothingToUndo)]) rfl GA KA (List.mem_of_getElem? (i := 15) rfl), is_NotComparable := isall_b (cs := [("InvalidForm", ["InvalidForm", "ShownError"], C_InvalidForm), ("InvalidDeed", ["InvalidDeed", "ShownError"], C_InvalidDeed), ("InvalidChange", ["InvalidChange", "ShownError"], C_InvalidChange), ("InvalidBound", ["InvalidBound", "ShownError"], C_InvalidBound), ("InvalidRule", ["InvalidRule", "ShownError"], C_InvalidRule), ("InvalidKind", ["InvalidKind", "ShownError"], C_InvalidKind), ("LimitExceeded", ["LimitExceeded", "ShownError"], C_LimitExceeded), ("InvalidWords", ["InvalidWords", "ShownError"], C_InvalidWords), ("InvalidText", ["InvalidText", "ShownError"], C_InvalidText), ("InvalidTable", ["InvalidTable", "ShownError"], C_InvalidTable), ("NotComparable", ["NotComparable", "ShownError"], C_NotComparable), ("NoFault", ["NoFault", "ShownError"], C_NoFault), ("UnknownWord", ["UnknownWord", "ShownError"], C_UnknownWord), ("UnknownField", ["UnknownField", "ShownError"], C_UnknownField), ("TooManyAsked", ["TooManyAsked", "ShownError"], C_TooManyAsked), ("InvalidStanding", ["InvalidStanding", "ShownError"], C_InvalidStanding), ("InvalidRules", ["InvalidRules", "ShownError"], C_InvalidRules), ("NothingToRedo", ["NothingToRedo", "ShownError"], C_NothingToRedo), ("NoStanding", ["NoStanding", "ShownError"], C_NoStanding), ("NothingToUndo", ["NothingToUndo", "ShownError"], C_NothingToUndo)]) rfl GA KA (List.mem_of_getElem? (i := 16) rfl), is_TooManyAsked := isall_b (cs := [("InvalidForm", ["InvalidForm", "ShownError"], C_InvalidForm), ("InvalidDeed", ["InvalidDeed", "ShownError"], C_InvalidDeed), ("InvalidChange", ["InvalidChange", "ShownError"], C_InvalidChange), ("InvalidBound", ["InvalidBound", "ShownError"], C_InvalidBound), ("InvalidRule", ["InvalidRule", "ShownError"], C_InvalidRule), ("InvalidKind", ["InvalidKind", "ShownError"], C_InvalidKind), ("LimitExceeded", ["LimitExceeded", "ShownError"], C_LimitExceeded), ("InvalidWords", ["InvalidWords", "ShownError"], C_InvalidWords), ("InvalidText", ["InvalidText", "ShownError"], C_InvalidText), ("InvalidTable", ["InvalidTable", "ShownError"], C_InvalidTable), ("NotComparable", ["NotComparable", "ShownError"], C_NotComparable), ("NoFault", ["NoFault", "ShownError"], C_NoFault), ("UnknownWord", ["UnknownWord", "ShownError"], C_UnknownWord), ("UnknownField", ["UnknownField", "ShownError"], C_UnknownField), ("TooManyAsked", ["TooManyAsked", "ShownError"], C_TooManyAsked), ("InvalidStanding", ["InvalidStanding", "ShownError"], C_InvalidStanding), ("InvalidRules", ["InvalidRules", "ShownError"], C_InvalidRules), ("NothingToRedo", ["NothingToRedo", "ShownError"], C_NothingToRedo), ("NoStanding", ["NoStanding", "ShownError"], C_NoStanding), ("NothingToUndo", ["NothingToUndo", "ShownError"], C_NothingToUndo)]) rfl GA KA (List.mem_of_getElem? (i := 17) rfl), is_NothingToUndo := isall_b (cs := [("InvalidForm", ["InvalidForm", "ShownError"], C_InvalidForm), ("InvalidDeed", ["InvalidDeed", "ShownError"], C_InvalidDeed), ("InvalidChange", ["InvalidChange", "ShownError"], C_InvalidChange), ("InvalidBound", ["InvalidBound", "ShownError"], C_InvalidBound), ("InvalidRule", ["InvalidRule", "ShownError"], C_InvalidRule), ("InvalidKind", ["InvalidKind", "ShownError"], C_InvalidKind), ("LimitExceeded", ["LimitExceeded", "ShownError"], C_LimitExceeded), ("InvalidWords", ["InvalidWords", "ShownError"], C_InvalidWords), ("InvalidText", ["InvalidText", "ShownError"], C_InvalidText), ("InvalidTable", ["InvalidTable", "ShownError"], C_InvalidTable), ("NotComparable", ["NotComparable", "ShownError"], C_NotComparable), ("NoFault", ["NoFault", "ShownError"], C_NoFault), ("UnknownWord", ["UnknownWord", "ShownError"], C_UnknownWord), ("UnknownField", ["UnknownField", "ShownError"], C_UnknownField), ("TooManyAsked", ["TooManyAsked", "ShownError"], C_TooManyAsked), ("InvalidStanding", ["InvalidStanding", "ShownError"], C_InvalidStanding), ("InvalidRules", ["InvalidRules", "ShownError"], C_InvalidRules), ("NothingToRedo", ["NothingToRedo", "ShownError"], C_NothingToRedo), ("NoStanding", ["NoStanding", "ShownError"], C_NoStanding), ("NothingToUndo", ["NothingToUndo", "ShownError"], C_NothingToUndo)]) rfl GA KA (List.mem_of_getElem? (i := 18) rfl), is_UnknownWord := isall_b (cs := [("InvalidForm", ["InvalidForm", "ShownError"], C_InvalidForm), ("InvalidDeed", ["InvalidDeed", "ShownError"], C_InvalidDeed), ("InvalidChange", ["InvalidChange", "ShownError"], C_InvalidChange), ("InvalidBound", ["InvalidBound", "ShownError"], C_InvalidBound), ("InvalidRule", ["InvalidRule", "ShownError"], C_InvalidRule), ("InvalidKind", ["InvalidKind", "ShownError"], C_InvalidKind), ("LimitExceeded", ["LimitExceeded", "ShownError"], C_LimitExceeded), ("InvalidWords", ["InvalidWords", "ShownError"], C_InvalidWords), ("InvalidText", ["InvalidText", "ShownError"], C_InvalidText), ("InvalidTable", ["InvalidTable", "ShownError"], C_InvalidTable), ("NotComparable", ["NotComparable", "ShownError"], C_NotComparable), ("NoFault", ["NoFault", "ShownError"], C_NoFault), ("UnknownWord", ["UnknownWord", "ShownError"], C_UnknownWord), ("UnknownField", ["UnknownField", "ShownError"], C_UnknownField), ("TooManyAsked", ["TooManyAsked", "ShownError"], C_TooManyAsked), ("InvalidStanding", ["InvalidStanding", "ShownError"], C_InvalidStanding), ("InvalidRules", ["InvalidRules", "ShownError"], C_InvalidRules), ("NothingToRedo", ["NothingToRedo", "ShownError"], C_NothingToRedo), ("NoStanding", ["NoStanding", "ShownError"], C_NoStanding), ("NothingToUndo", ["NothingToUndo", "ShownError"], C_NothingToUndo)]) rfl GA KA (List.mem_of_getElem? (i := 19) rfl), is_UnknownField := isall_b (cs := [("InvalidForm", ["InvalidForm", "ShownError"], C_InvalidForm), ("InvalidDeed", ["InvalidDeed", "ShownError"], C_InvalidDeed), ("InvalidChange", ["InvalidChange", "ShownError"], C_InvalidChange), ("InvalidBound", ["InvalidBound", "ShownError"], C_InvalidBound), ("InvalidRule", ["InvalidRule", "ShownError"], C_InvalidRule), ("InvalidKind", ["InvalidKind", "ShownError"], C_InvalidKind), ("LimitExceeded", ["LimitExceeded", "ShownError"], C_LimitExceeded), ("InvalidWords", ["InvalidWords", "ShownError"], C_InvalidWords), ("InvalidText", ["InvalidText", "ShownError"], C_InvalidText), ("InvalidTable", ["InvalidTable", "ShownError"], C_InvalidTable), ("NotComparable", ["NotComparable", "ShownError"], C_NotComparable), ("NoFault", ["NoFault", "ShownError"], C_NoFault), ("UnknownWord", ["UnknownWord", "ShownError"], C_UnknownWord), ("UnknownField", ["UnknownField", "ShownError"], C_UnknownField), ("TooManyAsked", ["TooManyAsked", "ShownError"], C_TooManyAsked), ("InvalidStanding", ["InvalidStanding", "ShownError"], C_InvalidStanding), ("InvalidRules", ["InvalidRules", "ShownError"], C_InvalidRules), ("NothingToRedo", ["NothingToRedo", "ShownError"], C_NothingToRedo), ("NoStanding", ["NoStanding", "ShownError"], C_NoStanding), ("NothingToUndo", ["NothingToUndo", "ShownError"], C_NothingToUndo)]) rfl GA KA (List.mem_of_getElem? (i := 20) rfl), isv := isve_b (cs := [("InvalidForm", ["InvalidForm", "ShownError"], C_InvalidForm), ("InvalidDeed", ["InvalidDeed", "ShownError"], C_InvalidDeed), ("InvalidChange", ["InvalidChange", "ShownError"], C_InvalidChange), ("InvalidBound", ["InvalidBound", "ShownError"], C_InvalidBound), ("InvalidRule", ["InvalidRule", "ShownError"], C_InvalidRule), ("InvalidKind", ["InvalidKind", "ShownError"], C_InvalidKind), ("LimitExceeded", ["LimitExceeded", "ShownError"], C_LimitExceeded), ("InvalidWords", ["InvalidWords", "ShownError"], C_InvalidWords), ("InvalidText", ["InvalidText", "ShownError"], C_InvalidText), ("InvalidTable", ["InvalidTable", "ShownError"], C_InvalidTable), ("NotComparable", ["NotComparable", "ShownError"], C_NotComparable), ("NoFault", ["NoFault", "ShownError"], C_NoFault), ("UnknownWord", ["UnknownWord", "ShownError"], C_UnknownWord), ("UnknownField", ["UnknownField", "ShownError"], C_UnknownField), ("TooManyAsked", ["TooManyAsked", "ShownError"], C_TooManyAsked), ("InvalidStanding", ["InvalidStanding", "ShownError"], C_InvalidStanding), ("InvalidRules", ["InvalidRules", "ShownError"], C_InvalidRules), ("NothingToRedo", ["NothingToRedo", "ShownError"], C_NothingToRedo), ("NoStanding", ["NoStanding", "ShownError"], C_NoStanding), ("NothingToUndo", ["NothingToUndo", "ShownError"], C_NothingToUndo)]) rfl GA KV, xf := xfall_of ⟨⟨_, PySem.W.mg_of X G a_InvalidForm, ⟨xga_InvalidForm, xgt_InvalidForm, xbe_InvalidForm, xhd_InvalidForm⟩, ⟨xga_InvalidForm, xgt_InvalidForm, xbe_InvalidForm, xhd_InvalidForm, xcl_InvalidForm, spc, tki, xob_InvalidForm⟩, fun f hf => by simp only [FL, List.mem_cons, List.not_mem_nil, or_false] at hf; rcases hf with rfl | rfl | rfl | rfl | rfl | rfl | rfl | rfl | rfl | rfl <;> assumption⟩, ⟨_, PySem.W.mg_of X G a_InvalidDeed, ⟨xga_InvalidDeed, xgt_InvalidDeed, xbe_InvalidDeed, xhd_InvalidDeed⟩, ⟨xga_InvalidDeed, xgt_InvalidDeed, xbe_InvalidDeed, xhd_InvalidDeed, xcl_InvalidDeed, spc, tki, xob_InvalidDeed⟩, fun f hf => by simp only [FL, List.mem_cons, List.not_mem_nil, or_false] at hf; rcases hf with rfl | rfl | rfl | rfl | rfl | rfl | rfl | rfl | rfl | rfl <;> assumption⟩, ⟨_, PySem.W.mg_of X G a_InvalidChange, ⟨xga_InvalidChange, xgt_InvalidChange, xbe_InvalidChange, xhd_InvalidChange⟩, ⟨xga_InvalidChange, xgt_InvalidChange, xbe_InvalidChange, xhd_InvalidChange, xcl_InvalidChange, spc, tki, xob_InvalidChange⟩, fun f hf => by simp only [FL, List.mem_cons, List.not_mem_nil, or_false] at hf; rcases hf with rfl | rfl | rfl | rfl | rfl | rfl | rfl | rfl | rfl | rfl <;> assumption⟩, ⟨_, PySem.W.mg_of X G a_InvalidBound, ⟨xga_InvalidBound, xgt_InvalidBound, xbe_InvalidBound, xhd_InvalidBound⟩, ⟨xga_InvalidBound, xgt_InvalidBound, xbe_InvalidBound, xhd_InvalidBound, xcl_InvalidBound, spc, tki, xob_InvalidBound⟩, fun f hf => by simp only [FL, List.mem_cons, List.not_mem_nil, or_false] at hf; rcases hf with rfl | rfl | rfl | rfl | rfl | rfl | rfl | rfl | rfl | rfl <;> assumption⟩, ⟨_, PySem.W.mg_of X G a_InvalidRule, ⟨xga_InvalidRule, xgt_InvalidRule, xbe_InvalidRule, xhd_InvalidRule⟩, ⟨xga_InvalidRule, xgt_InvalidRule, xbe_InvalidRule, xhd_InvalidRule, xcl_InvalidRule, spc, tki, xob_InvalidRule⟩, fun f hf => by simp only [FL, List.mem_cons, List.not_mem_nil, or_false] at hf; rcases hf with rfl | rfl | rfl | rfl | rfl | rfl | rfl | rfl | rfl | rfl <;> assumption⟩, ⟨_, PySem.W.mg_of X G a_InvalidKind, ⟨xga_InvalidKind, xgt_InvalidKind, xbe_InvalidKind, xhd_InvalidKind⟩, ⟨xga_InvalidKind, xgt_InvalidKind, xbe_InvalidKind, xhd_InvalidKind, xcl_InvalidKind, spc, tki, xob_InvalidKind⟩, fun f hf => by simp only [FL, List.mem_cons, List.not_mem_nil, or_false] at hf; rcases hf with rfl | rfl | rfl | rfl | rfl | rfl | rfl | rfl | rfl | rfl <;> assumption⟩, ⟨_, PySem.W.mg_of X G a_LimitExceeded, ⟨xga_LimitExceeded, xgt_LimitExceeded, xbe_LimitExceeded, xhd_LimitExceeded⟩, ⟨xga_LimitExceeded, xgt_LimitExceeded, xbe_LimitExceeded, xhd_LimitExceeded, xcl_LimitExceeded, spc, tki, xob_LimitExceeded⟩, fun f hf => by simp only [FL, List.mem_cons, List.not_mem_nil, or_false] at hf; rcases hf with rfl | rfl | rfl | rfl | rfl | rfl | rfl | rfl | rfl | rfl <;> assumption⟩, ⟨_, PySem.W.mg_of X G a_InvalidWords, ⟨xga_InvalidWords, xgt_InvalidWords, xbe_InvalidWords, xhd_InvalidWords⟩, ⟨xga_InvalidWords, xgt_InvalidWords, xbe_InvalidWords, xhd_InvalidWords, xcl_InvalidWords, spc, tki, xob_InvalidWords⟩, fun f hf => by simp only [FL, List.mem_cons, List.not_mem_nil, or_false] at hf; rcases hf with rfl | rfl | rfl | rfl | rfl | rfl | rfl | rfl | rfl | rfl <;> assumption⟩, ⟨_, PySem.W.mg_of X G a_InvalidText, ⟨xga_InvalidText, xgt_InvalidText, xbe_InvalidText, xhd_InvalidText⟩, ⟨xga_InvalidText, xgt_InvalidText, xbe_InvalidText, xhd_InvalidText, xcl_InvalidText, spc, tki, xob_InvalidText⟩, fun f hf => by simp only [FL, List.mem_cons, List.not_mem_nil, or_false] at hf; rcases hf with rfl | rfl | rfl | rfl | rfl | rfl | rfl | rfl | rfl | rfl <;> assumption⟩, ⟨_, PySem.W.mg_of X G a_InvalidTable, ⟨xga_InvalidTable, xgt_InvalidTable, xbe_InvalidTable, xhd_InvalidTable⟩, ⟨xga_InvalidTable, xgt_InvalidTable, xbe_InvalidTable, xhd_InvalidTable, xcl_InvalidTable, spc, tki, xob_InvalidTable⟩, fun f hf => by simp only [FL, List.mem_cons, List.not_mem_nil, or_false] at hf; rcases hf with rfl | rfl | rfl | rfl | rfl | rfl | rfl | rfl | rfl | rfl <;> assumption⟩, ⟨_, PySem.W.mg_of X G a_NotComparable, ⟨xga_NotComparable, xgt_NotComparable, xbe_NotComparable, xhd_NotComparable⟩, ⟨xga_NotComparable, xgt_NotComparable, xbe_NotComparable, xhd_NotComparable, xcl_NotComparable, spc, tki, xob_NotComparable⟩, fun f hf => by simp only [FL, List.mem_cons, List.not_mem_nil, or_false] at hf; rcases hf with rfl | rfl | rfl | rfl | rfl | rfl | rfl | rfl | rfl | rfl <;> assumption⟩, ⟨_, PySem.W.mg_of X G a_NoFault, ⟨xga_NoFault, xgt_NoFault, xbe_NoFault, xhd_NoFault⟩, ⟨xga_NoFault, xgt_NoFault, xbe_NoFault, xhd_NoFault, xcl_NoFault, spc, tki, xob_NoFault⟩, fun f hf => by simp only [FL, List.mem_cons, List.not_mem_nil, or_false] at hf; rcases hf with rfl | rfl | rfl | rfl | rfl | rfl | rfl | rfl | rfl | rfl <;> assumption⟩, ⟨_, PySem.W.mg_of X G a_UnknownWord, ⟨xga_UnknownWord, xgt_UnknownWord, xbe_UnknownWord, xhd_UnknownWord⟩, ⟨xga_UnknownWord, xgt_UnknownWord, xbe_UnknownWord, xhd_UnknownWord, xcl_UnknownWord, spc, tki, xob_UnknownWord⟩, fun f hf => by simp only [FL, List.mem_cons, List.not_mem_nil, or_false] at hf; rcases hf with rfl | rfl | rfl | rfl | rfl | rfl | rfl | rfl | rfl | rfl <;> assumption⟩, ⟨_, PySem.W.mg_of X G a_UnknownField, ⟨xga_UnknownField, xgt_UnknownField, xbe_UnknownField, xhd_UnknownField⟩, ⟨xga_UnknownField, xgt_UnknownField, xbe_UnknownField, xhd_UnknownField, xcl_UnknownField, spc, tki, xob_UnknownField⟩, fun f hf => by simp only [FL, List.mem_cons, List.not_mem_nil, or_false] at hf; rcases hf with rfl | rfl | rfl | rfl | rfl | rfl | rfl | rfl | rfl | rfl <;> assumption⟩, ⟨_, PySem.W.mg_of X G a_TooManyAsked, ⟨xga_TooManyAsked, xgt_TooManyAsked, xbe_TooManyAsked, xhd_TooManyAsked⟩, ⟨xga_TooManyAsked, xgt_TooManyAsked, xbe_TooManyAsked, xhd_TooManyAsked, xcl_TooManyAsked, spc, tki, xob_TooManyAsked⟩, fun f hf => by simp only [FL, List.mem_cons, List.not_mem_nil, or_false] at hf; rcases hf with rfl | rfl | rfl | rfl | rfl | rfl | rfl | rfl | rfl | rfl <;> assumption⟩, ⟨_, PySem.W.mg_of X G a_InvalidStanding, ⟨xga_InvalidStanding, xgt_InvalidStanding, xbe_InvalidStanding, xhd_InvalidStanding⟩, ⟨xga_InvalidStanding, xgt_InvalidStanding, xbe_InvalidStanding, xhd_InvalidStanding, xcl_InvalidStanding, spc, tki, xob_InvalidStanding⟩, fun f hf => by simp only [FL, List.mem_cons, List.not_mem_nil, or_false] at hf; rcases hf with rfl | rfl | rfl | rfl | rfl | rfl | rfl | rfl | rfl | rfl <;> assumption⟩, ⟨_, PySem.W.mg_of X G a_InvalidRules, ⟨xga_InvalidRules, xgt_InvalidRules, xbe_InvalidRules, xhd_InvalidRules⟩, ⟨xga_InvalidRules, xgt_InvalidRules, xbe_InvalidRules, xhd_InvalidRules, xcl_InvalidRules, spc, tki, xob_InvalidRules⟩, fun f hf => by simp only [FL, List.mem_cons, List.not_mem_nil, or_false] at hf; rcases hf with rfl | rfl | rfl | rfl | rfl | rfl | rfl | rfl | rfl | rfl <;> assumption⟩, ⟨_, PySem.W.mg_of X G a_NothingToRedo, ⟨xga_NothingToRedo, xgt_NothingToRedo, xbe_NothingToRedo, xhd_NothingToRedo⟩, ⟨xga_NothingToRedo, xgt_NothingToRedo, xbe_NothingToRedo, xhd_NothingToRedo, xcl_NothingToRedo, spc, tki, xob_NothingToRedo⟩, fun f hf => by simp only [FL, List.mem_cons, List.not_mem_nil, or_false] at hf; rcases hf with rfl | rfl | rfl | rfl | rfl | rfl | rfl | rfl | rfl | rfl <;> assumption⟩, ⟨_, PySem.W.mg_of X G a_NoStanding, ⟨xga_NoStanding, xgt_NoStanding, xbe_NoStanding, xhd_NoStanding⟩, ⟨xga_NoStanding, xgt_NoStanding, xbe_NoStanding, xhd_NoStanding, xcl_NoStanding, spc, tki, xob_NoStanding⟩, fun f hf => by simp only [FL, List.mem_cons, List.not_mem_nil, or_false] at hf; rcases hf with rfl | rfl | rfl | rfl | rfl | rfl | rfl | rfl | rfl | rfl <;> assumption⟩, ⟨_, PySem.W.mg_of X G a_NothingToUndo, ⟨xga_NothingToUndo, xgt_NothingToUndo, xbe_NothingToUndo, xhd_NothingToUndo⟩, ⟨xga_NothingToUndo, xgt_NothingToUndo, xbe_NothingToUndo, xhd_NothingToUndo, xcl_NothingToUndo, spc, tki, xob_NothingToUndo⟩, fun f hf => by simp only [FL, List.mem_cons, List.not_mem_nil, or_false] at hf; rcases hf with rfl | rfl | rfl | rfl | rfl | rfl | rfl | rfl | rfl | rfl <;> assumption⟩, trivial⟩ }
  have ex : ∀ base : Heap, Exs P w K mg base A := fun base => ⟨FX_InvalidForm base, FX_InvalidDeed base, FX_InvalidChange base, FX_InvalidBound base, FX_InvalidRule base, FX_InvalidKind base, FX_LimitExceeded base, FX_InvalidWords base, FX_InvalidText base, FX_InvalidTable base, FX_NotComparable base, FX_NoFault base, FX_UnknownWord base, FX_UnknownField base, FX_TooManyAsked base⟩
  have hbl : ∀ (s : Shared) (v : Value), BindsTo s fd_law ⟨[v], []⟩ [("_law_script", v)] := by
    obtain ⟨_, _, _, _, _, _, _, _, _, e, _, _⟩ := U_law.ex
    subst e
    exact fun s v => .of_eq rfl
  exact ⟨_, hbl, fun base _ _ => fnL (oks_run (P := P) (w := w) (base := base) tx (ex base) n).law⟩
end LW
open PySem PySem.W PySem.Calls PyProof.Rows in
set_option maxRecDepth 100000 in
set_option maxHeartbeats 0 in
theorem PySem.Challenge.cw_wrongshown_k43_errors_apart_holds : PySem.Challenge.rw_wrongshown_k43_errors_apart.Holds := by
  w_on; o_law
  refine HandSHeadRun.head_any (r := OpenLaw.row PySem.Challenge.rw_wrongshown_k43_errors_apart) (q := view (OpenLaw.row PySem.Challenge.rw_wrongshown_k43_errors_apart).prog [30]) (H := LW.hkZ) (ob := LW.obZ) (M := 20000) (loose := LW.namesZ) (d := HandSHeadRun.topDef (OpenLaw.row PySem.Challenge.rw_wrongshown_k43_errors_apart).prog 30) (kwd := []) LW.obZ_eq
    (by kernel_rfl) (fun s => by kernel_rfl) LW.runZ (by kernel_rfl) (by kernel_rfl) (by kernel_rfl) (by rfl) (by first | assumption | decide +kernel) (by decide +kernel) ⟨rfl, rfl, rfl, rfl, rfl, by decide +kernel⟩ ?hw ?hc
  case hw => w_witness2
  case hc =>
    refine W3.walk3E (l := PySem.Challenge.rw_wrongshown_k43_errors_apart) (k := 3 * LW.fuel) (x := "_law_script") (f := (LW.runF LW.fuel).law) rfl (by kernel_rfl) ⟨rfl, by decide, by decide⟩ LW.law_true ?F
    intro w mg fa h Y G hmg0
    obtain ⟨K, KX, c⟩ := Y
    have hmg : mg ("law" : PySem.Str) = some (.ref fa) := by
      have e : (HandSHeadRun.topDef (OpenLaw.row PySem.Challenge.rw_wrongshown_k43_errors_apart).prog 30).name = ("law" : PySem.Str) := by kernel_rfl
      rw [← e]
      exact hmg0
    obtain ⟨fd__law_mix, V__law_mix⟩ := c.t.d.def_ 0 (d := LW.dz__law_mix) rfl
    have U__law_mix : L2.Fun K "_law_mix" "_law_mix" LW.st__law_mix (He.fAd K ("_law_mix", none)) fd__law_mix := W3.funOfD V__law_mix
    obtain ⟨fd__law_box, V__law_box⟩ := c.t.d.def_ 1 (d := LW.dz__law_box) rfl
    have U__law_box : L2.Fun K "_law_box" "_law_box" LW.st__law_box (He.fAd K ("_law_box", none)) fd__law_box := W3.funOfD V__law_box
    obtain ⟨fd__law_draw, V__law_draw⟩ := c.t.d.def_ 2 (d := LW.dz__law_draw) rfl
    have U__law_draw : L2.Fun K "_law_draw" "_law_draw" LW.st__law_draw (He.fAd K ("_law_draw", none)) fd__law_draw := W3.funOfD V__law_draw
    obtain ⟨fd__law_same, V__law_same⟩ := c.t.d.def_ 3 (d := LW.dz__law_same) rfl
    have U__law_same : L2.Fun K "_law_same" "_law_same" LW.st__law_same (He.fAd K ("_law_same", none)) fd__law_same := W3.funOfD V__law_same
    obtain ⟨fd__law_classes, V__law_classes⟩ := c.t.d.def_ 4 (d := LW.dz__law_classes) rfl
    have U__law_classes : L2.Fun K "_law_classes" "_law_classes" LW.st__law_classes (He.fAd K ("_law_classes", none)) fd__law_classes := W3.funOfD V__law_classes
    obtain ⟨fd__law_errors, V__law_errors⟩ := c.t.d.def_ 5 (d := LW.dz__law_errors) rfl
    have U__law_errors : L2.Fun K "_law_errors" "_law_errors" LW.st__law_errors (He.fAd K ("_law_errors", none)) fd__law_errors := W3.funOfD V__law_errors
    obtain ⟨fd__law_held, V__law_held⟩ := c.t.d.def_ 6 (d := LW.dz__law_held) rfl
    have U__law_held : L2.Fun K "_law_held" "_law_held" LW.st__law_held (He.fAd K ("_law_held", none)) fd__law_held := W3.funOfD V__law_held
    obtain ⟨fd_law, V_law⟩ := c.t.d.def_ 7 (d := LW.dz_law) rfl
    have U_law : L2.Fun K "law" "law" LW.st_law (He.fAd K ("law", none)) fd_law := W3.funOfD V_law
    obtain ⟨fd, hb, hF⟩ := LW.all_mk (P := (PySem.Challenge.rw_wrongshown_k43_errors_apart).prog) (w := w) KX G hmg (f__law_mix := (He.fAd K ("_law_mix", none))) (f__law_box := (He.fAd K ("_law_box", none))) (f__law_draw := (He.fAd K ("_law_draw", none))) (f__law_same := (He.fAd K ("_law_same", none))) (f__law_classes := (He.fAd K ("_law_classes", none))) (f__law_errors := (He.fAd K ("_law_errors", none))) (f__law_held := (He.fAd K ("_law_held", none))) (f_law := (He.fAd K ("law", none))) (C_ShownError := (He.ga K "ShownError")) (C_InvalidForm := (He.ga K "InvalidForm")) (C_InvalidRule := (He.ga K "InvalidRule")) (C_InvalidWords := (He.ga K "InvalidWords")) (C_InvalidStanding := (He.ga K "InvalidStanding")) (C_InvalidDeed := (He.ga K "InvalidDeed")) (C_InvalidTable := (He.ga K "InvalidTable")) (C_InvalidText := (He.ga K "InvalidText")) (C_UnknownField := (He.ga K "UnknownField")) (C_UnknownWord := (He.ga K "UnknownWord")) (C_TooManyAsked := (He.ga K "TooManyAsked")) (C_NothingToUndo := (He.ga K "NothingToUndo")) (C_NothingToRedo := (He.ga K "NothingToRedo")) (C_InvalidBound := (He.ga K "InvalidBound")) (C_LimitExceeded := (He.ga K "LimitExceeded")) (C_NoStanding := (He.ga K "NoStanding")) (C_NoFault := (He.ga K "NoFault")) (C_InvalidKind := (He.ga K "InvalidKind")) (C_NotComparable := (He.ga K "NotComparable")) (C_InvalidChange := (He.ga K "InvalidChange")) (C_InvalidRules := (He.ga K "InvalidRules")) (xf_InvalidForm := (He.ma K (He.ga K "InvalidForm") "__init__")) (xf_InvalidDeed := (He.ma K (He.ga K "InvalidDeed") "__init__")) (xf_InvalidChange := (He.ma K (He.ga K "InvalidChange") "__init__")) (xf_InvalidBound := (He.ma K (He.ga K "InvalidBound") "__init__")) (xf_InvalidRule := (He.ma K (He.ga K "InvalidRule") "__init__")) (xf_InvalidKind := (He.ma K (He.ga K "InvalidKind") "__init__")) (xf_LimitExceeded := (He.ma K (He.ga K "LimitExceeded") "__init__")) (xf_InvalidWords := (He.ma K (He.ga K "InvalidWords") "__init__")) (xf_InvalidText := (He.ma K (He.ga K "InvalidText") "__init__")) (xf_InvalidTable := (He.ma K (He.ga K "InvalidTable") "__init__")) (xf_NotComparable := (He.ma K (He.ga K "NotComparable") "__init__")) (xf_NoFault := (He.ma K (He.ga K "NoFault") "__init__")) (xf_UnknownWord := (He.ma K (He.ga K "UnknownWord") "__init__")) (xf_UnknownField := (He.ma K (He.ga K "UnknownField") "__init__")) (xf_TooManyAsked := (He.ma K (He.ga K "TooManyAsked") "__init__"))
      (c.o 15 rfl)
      U__law_mix
      (c.o 16 rfl)
      U__law_box
      (c.o 17 rfl)
      U__law_draw
      (c.o 18 rfl)
      U__law_same
      (c.o 19 rfl)
      U__law_classes
      (c.o 20 rfl)
      U__law_errors
      (c.o 21 rfl)
      U__law_held
      (c.o 22 rfl)
      U_law
      (c.o 23 rfl)
      (c.o 24 rfl)
      (c.o 25 rfl)
      (c.o 26 rfl)
      (c.o 27 rfl)
      (c.o 28 rfl)
      (c.o 29 rfl)
      (c.o 30 rfl)
      (c.o 31 rfl)
      (c.o 32 rfl)
      (c.o 33 rfl)
      (c.o 34 rfl)
      (c.o 35 rfl)
      (c.o 36 rfl)
      (c.o 37 rfl)
      (c.o 38 rfl)
      (c.o 39 rfl)
      (c.o 40 rfl)
      (c.o 41 rfl)
      (c.o 42 rfl)
      (c.o 43 rfl)
      (c.o 44 rfl)
      (by decide +kernel)
      (c.o 45 rfl)
      (c.o 46 rfl)
      (c.o 47 rfl)
      (c.o 48 rfl)
      (c.o 49 rfl)
      (c.o 50 rfl)
      (c.o 51 rfl)
      (c.o 52 rfl)
      (c.o 53 rfl)
      (W3.xinit_of (c.x 0 (f := LW.xz_InvalidForm) (e := W3.xeV "InvalidForm.__init__" LW.st_x_InvalidForm) rfl rfl) (c.b 0 (b := LW.bz_0) rfl))
      (c.o 54 rfl)
      (c.o 55 rfl)
      (c.o 56 rfl)
      (c.o 57 rfl)
      (c.o 58 rfl)
      (c.o 59 rfl)
      (c.o 60 rfl)
      (c.o 61 rfl)
      (c.o 62 rfl)
      (c.o 63 rfl)
      (c.o 64 rfl)
      (c.o 65 rfl)
      (c.o 66 rfl)
      (c.o 67 rfl)
      (c.o 68 rfl)
      (c.o 69 rfl)
      (c.o 70 rfl)
      (c.o 71 rfl)
      (c.o 72 rfl)
      (c.o 73 rfl)
      (c.o 74 rfl)
      (c.o 75 rfl)
      (c.o 76 rfl)
      (c.o 77 rfl)
      (c.o 78 rfl)
      (W3.xinit_of (c.x 1 (f := LW.xz_InvalidDeed) (e := W3.xeV "InvalidDeed.__init__" LW.st_x_InvalidDeed) rfl rfl) (c.b 1 (b := LW.bz_1) rfl))
      (c.o 79 rfl)
      (c.o 80 rfl)
      (c.o 81 rfl)
      (c.o 82 rfl)
      (c.o 83 rfl)
      (c.o 84 rfl)
      (c.o 85 rfl)
      (c.o 86 rfl)
      (c.o 87 rfl)
      (c.o 88 rfl)
      (c.o 89 rfl)
      (c.o 90 rfl)
      (c.o 91 rfl)
      (c.o 92 rfl)
      (c.o 93 rfl)
      (c.o 94 rfl)
      (c.o 95 rfl)
      (c.o 96 rfl)
      (c.o 97 rfl)
      (c.o 98 rfl)
      (c.o 99 rfl)
      (c.o 100 rfl)
      (c.o 101 rfl)
      (c.o 102 rfl)
      (c.o 103 rfl)
      (W3.xinit_of (c.x 2 (f := LW.xz_InvalidChange) (e := W3.xeV "InvalidChange.__init__" LW.st_x_InvalidChange) rfl rfl) (c.b 2 (b := LW.bz_2) rfl))
      (c.o 104 rfl)
      (c.o 105 rfl)
      (c.o 106 rfl)
      (c.o 107 rfl)
      (c.o 108 rfl)
      (c.o 109 rfl)
      (c.o 110 rfl)
      (c.o 111 rfl)
      (c.o 112 rfl)
      (c.o 113 rfl)
      (c.o 114 rfl)
      (c.o 115 rfl)
      (c.o 116 rfl)
      (c.o 117 rfl)
      (c.o 118 rfl)
      (c.o 119 rfl)
      (c.o 120 rfl)
      (c.o 121 rfl)
      (c.o 122 rfl)
      (c.o 123 rfl)
      (c.o 124 rfl)
      (c.o 125 rfl)
      (c.o 126 rfl)
      (c.o 127 rfl)
      (c.o 128 rfl)
      (W3.xinit_of (c.x 3 (f := LW.xz_InvalidBound) (e := W3.xeV "InvalidBound.__init__" LW.st_x_InvalidBound) rfl rfl) (c.b 3 (b := LW.bz_3) rfl))
      (c.o 129 rfl)
      (c.o 130 rfl)
      (c.o 131 rfl)
      (c.o 132 rfl)
      (c.o 133 rfl)
      (c.o 134 rfl)
      (c.o 135 rfl)
      (c.o 136 rfl)
      (c.o 137 rfl)
      (c.o 138 rfl)
      (c.o 139 rfl)
      (c.o 140 rfl)
      (c.o 141 rfl)
      (c.o 142 rfl)
      (c.o 143 rfl)
      (c.o 144 rfl)
      (c.o 145 rfl)
      (c.o 146 rfl)
      (c.o 147 rfl)
      (c.o 148 rfl)
      (c.o 149 rfl)
      (c.o 150 rfl)
      (c.o 151 rfl)
      (c.o 152 rfl)
      (c.o 153 rfl)
      (W3.xinit_of (c.x 4 (f := LW.xz_InvalidRule) (e := W3.xeV "InvalidRule.__init__" LW.st_x_InvalidRule) rfl rfl) (c.b 4 (b := LW.bz_4) rfl))
      (c.o 154 rfl)
      (c.o 155 rfl)
      (c.o 156 rfl)
      (c.o 157 rfl)
      (c.o 158 rfl)
      (c.o 159 rfl)
      (c.o 160 rfl)
      (c.o 161 rfl)
      (c.o 162 rfl)
      (c.o 163 rfl)
      (c.o 164 rfl)
      (c.o 165 rfl)
      (c.o 166 rfl)
      (c.o 167 rfl)
      (c.o 168 rfl)
      (c.o 169 rfl)
      (c.o 170 rfl)
      (c.o 171 rfl)
      (c.o 172 rfl)
      (c.o 173 rfl)
      (c.o 174 rfl)
      (c.o 175 rfl)
      (c.o 176 rfl)
      (c.o 177 rfl)
      (c.o 178 rfl)
      (W3.xinit_of (c.x 5 (f := LW.xz_InvalidKind) (e := W3.xeV "InvalidKind.__init__" LW.st_x_InvalidKind) rfl rfl) (c.b 5 (b := LW.bz_5) rfl))
      (c.o 179 rfl)
      (c.o 180 rfl)
      (c.o 181 rfl)
      (c.o 182 rfl)
      (c.o 183 rfl)
      (c.o 184 rfl)
      (c.o 185 rfl)
      (c.o 186 rfl)
      (c.o 187 rfl)
      (c.o 188 rfl)
      (c.o 189 rfl)
      (c.o 190 rfl)
      (c.o 191 rfl)
      (c.o 192 rfl)
      (c.o 193 rfl)
      (c.o 194 rfl)
      (c.o 195 rfl)
      (c.o 196 rfl)
      (c.o 197 rfl)
      (c.o 198 rfl)
      (c.o 199 rfl)
      (c.o 200 rfl)
      (c.o 201 rfl)
      (c.o 202 rfl)
      (c.o 203 rfl)
      (W3.xinit_of (c.x 6 (f := LW.xz_LimitExceeded) (e := W3.xeV "LimitExceeded.__init__" LW.st_x_LimitExceeded) rfl rfl) (c.b 6 (b := LW.bz_6) rfl))
      (c.o 204 rfl)
      (c.o 205 rfl)
      (c.o 206 rfl)
      (c.o 207 rfl)
      (c.o 208 rfl)
      (c.o 209 rfl)
      (c.o 210 rfl)
      (c.o 211 rfl)
      (c.o 212 rfl)
      (c.o 213 rfl)
      (c.o 214 rfl)
      (c.o 215 rfl)
      (c.o 216 rfl)
      (c.o 217 rfl)
      (c.o 218 rfl)
      (c.o 219 rfl)
      (c.o 220 rfl)
      (c.o 221 rfl)
      (c.o 222 rfl)
      (c.o 223 rfl)
      (c.o 224 rfl)
      (c.o 225 rfl)
      (c.o 226 rfl)
      (c.o 227 rfl)
      (c.o 228 rfl)
      (W3.xinit_of (c.x 7 (f := LW.xz_InvalidWords) (e := W3.xeV "InvalidWords.__init__" LW.st_x_InvalidWords) rfl rfl) (c.b 7 (b := LW.bz_7) rfl))
      (c.o 229 rfl)
      (c.o 230 rfl)
      (c.o 231 rfl)
      (c.o 232 rfl)
      (c.o 233 rfl)
      (c.o 234 rfl)
      (c.o 235 rfl)
      (c.o 236 rfl)
      (c.o 237 rfl)
      (c.o 238 rfl)
      (c.o 239 rfl)
      (c.o 240 rfl)
      (c.o 241 rfl)
      (c.o 242 rfl)
      (c.o 243 rfl)
      (c.o 244 rfl)
      (c.o 245 rfl)
      (c.o 246 rfl)
      (c.o 247 rfl)
      (c.o 248 rfl)
      (c.o 249 rfl)
      (c.o 250 rfl)
      (c.o 251 rfl)
      (c.o 252 rfl)
      (c.o 253 rfl)
      (W3.xinit_of (c.x 8 (f := LW.xz_InvalidText) (e := W3.xeV "InvalidText.__init__" LW.st_x_InvalidText) rfl rfl) (c.b 8 (b := LW.bz_8) rfl))
      (c.o 254 rfl)
      (c.o 255 rfl)
      (c.o 256 rfl)
      (c.o 257 rfl)
      (c.o 258 rfl)
      (c.o 259 rfl)
      (c.o 260 rfl)
      (c.o 261 rfl)
      (c.o 262 rfl)
      (c.o 263 rfl)
      (c.o 264 rfl)
      (c.o 265 rfl)
      (c.o 266 rfl)
      (c.o 267 rfl)
      (c.o 268 rfl)
      (c.o 269 rfl)
      (c.o 270 rfl)
      (c.o 271 rfl)
      (c.o 272 rfl)
      (c.o 273 rfl)
      (c.o 274 rfl)
      (c.o 275 rfl)
      (c.o 276 rfl)
      (c.o 277 rfl)
      (c.o 278 rfl)
      (W3.xinit_of (c.x 9 (f := LW.xz_InvalidTable) (e := W3.xeV "InvalidTable.__init__" LW.st_x_InvalidTable) rfl rfl) (c.b 9 (b := LW.bz_9) rfl))
      (c.o 279 rfl)
      (c.o 280 rfl)
      (c.o 281 rfl)
      (c.o 282 rfl)
      (c.o 283 rfl)
      (c.o 284 rfl)
      (c.o 285 rfl)
      (c.o 286 rfl)
      (c.o 287 rfl)
      (c.o 288 rfl)
      (c.o 289 rfl)
      (c.o 290 rfl)
      (c.o 291 rfl)
      (c.o 292 rfl)
      (c.o 293 rfl)
      (c.o 294 rfl)
      (c.o 295 rfl)
      (c.o 296 rfl)
      (c.o 297 rfl)
      (c.o 298 rfl)
      (c.o 299 rfl)
      (c.o 300 rfl)
      (c.o 301 rfl)
      (c.o 302 rfl)
      (c.o 303 rfl)
      (W3.xinit_of (c.x 10 (f := LW.xz_NotComparable) (e := W3.xeV "NotComparable.__init__" LW.st_x_NotComparable) rfl rfl) (c.b 10 (b := LW.bz_10) rfl))
      (c.o 304 rfl)
      (c.o 305 rfl)
      (c.o 306 rfl)
      (c.o 307 rfl)
      (c.o 308 rfl)
      (c.o 309 rfl)
      (c.o 310 rfl)
      (c.o 311 rfl)
      (c.o 312 rfl)
      (c.o 313 rfl)
      (c.o 314 rfl)
      (c.o 315 rfl)
      (c.o 316 rfl)
      (c.o 317 rfl)
      (c.o 318 rfl)
      (c.o 319 rfl)
      (c.o 320 rfl)
      (c.o 321 rfl)
      (c.o 322 rfl)
      (c.o 323 rfl)
      (c.o 324 rfl)
      (c.o 325 rfl)
      (c.o 326 rfl)
      (c.o 327 rfl)
      (c.o 328 rfl)
      (W3.xinit_of (c.x 11 (f := LW.xz_NoFault) (e := W3.xeV "NoFault.__init__" LW.st_x_NoFault) rfl rfl) (c.b 11 (b := LW.bz_11) rfl))
      (c.o 329 rfl)
      (c.o 330 rfl)
      (c.o 331 rfl)
      (c.o 332 rfl)
      (c.o 333 rfl)
      (c.o 334 rfl)
      (c.o 335 rfl)
      (c.o 336 rfl)
      (c.o 337 rfl)
      (c.o 338 rfl)
      (c.o 339 rfl)
      (c.o 340 rfl)
      (c.o 341 rfl)
      (c.o 342 rfl)
      (c.o 343 rfl)
      (c.o 344 rfl)
      (c.o 345 rfl)
      (c.o 346 rfl)
      (c.o 347 rfl)
      (c.o 348 rfl)
      (c.o 349 rfl)
      (c.o 350 rfl)
      (c.o 351 rfl)
      (c.o 352 rfl)
      (c.o 353 rfl)
      (W3.xinit_of (c.x 12 (f := LW.xz_UnknownWord) (e := W3.xeV "UnknownWord.__init__" LW.st_x_UnknownWord) rfl rfl) (c.b 12 (b := LW.bz_12) rfl))
      (c.o 354 rfl)
      (c.o 355 rfl)
      (c.o 356 rfl)
      (c.o 357 rfl)
      (c.o 358 rfl)
      (c.o 359 rfl)
      (c.o 360 rfl)
      (c.o 361 rfl)
      (c.o 362 rfl)
      (c.o 363 rfl)
      (c.o 364 rfl)
      (c.o 365 rfl)
      (c.o 366 rfl)
      (c.o 367 rfl)
      (c.o 368 rfl)
      (c.o 369 rfl)
      (c.o 370 rfl)
      (c.o 371 rfl)
      (c.o 372 rfl)
      (c.o 373 rfl)
      (c.o 374 rfl)
      (c.o 375 rfl)
      (c.o 376 rfl)
      (c.o 377 rfl)
      (c.o 378 rfl)
      (W3.xinit_of (c.x 13 (f := LW.xz_UnknownField) (e := W3.xeV "UnknownField.__init__" LW.st_x_UnknownField) rfl rfl) (c.b 13 (b := LW.bz_13) rfl))
      (c.o 379 rfl)
      (c.o 380 rfl)
      (c.o 381 rfl)
      (c.o 382 rfl)
      (c.o 383 rfl)
      (c.o 384 rfl)
      (c.o 385 rfl)
      (c.o 386 rfl)
      (c.o 387 rfl)
      (c.o 388 rfl)
      (c.o 389 rfl)
      (c.o 390 rfl)
      (c.o 391 rfl)
      (c.o 392 rfl)
      (c.o 393 rfl)
      (c.o 394 rfl)
      (c.o 395 rfl)
      (c.o 396 rfl)
      (c.o 397 rfl)
      (c.o 398 rfl)
      (c.o 399 rfl)
      (c.o 400 rfl)
      (c.o 401 rfl)
      (c.o 402 rfl)
      (c.o 403 rfl)
      (W3.xinit_of (c.x 14 (f := LW.xz_TooManyAsked) (e := W3.xeV "TooManyAsked.__init__" LW.st_x_TooManyAsked) rfl rfl) (c.b 14 (b := LW.bz_14) rfl))
      (c.o 404 rfl)
      (c.o 405 rfl)
      (c.o 406 rfl)
      (c.o 407 rfl)
      (c.o 408 rfl)
      (c.o 409 rfl)
      (c.o 410 rfl)
      (c.o 411 rfl)
      (c.o 412 rfl)
      (c.o 413 rfl)
      (c.o 414 rfl)
      (c.o 415 rfl)
      (c.o 416 rfl)
      (c.o 417 rfl)
      (c.o 418 rfl)
      (c.o 419 rfl)
      (c.o 420 rfl)
      (c.o 421 rfl)
      (c.o 422 rfl)
      (c.o 423 rfl)
      (c.o 424 rfl)
      (c.o 425 rfl)
      (c.o 426 rfl)
      (c.o 427 rfl)
      (c.o 428 rfl)
      (c.o 429 rfl)
      (c.o 430 rfl)
      (c.o 431 rfl)
      (c.o 432 rfl)
      (c.o 433 rfl)
      (c.o 434 rfl)
      (c.o 435 rfl)
      (c.o 436 rfl)
      (c.o 437 rfl)
      (c.o 438 rfl)
      (c.o 439 rfl)
      (c.o 440 rfl)
      (c.o 441 rfl)
      (c.o 442 rfl)
      (c.o 443 rfl)
      (c.o 444 rfl)
      (c.o 445 rfl)
      (c.o 446 rfl)
      (c.o 447 rfl)
      (c.o 448 rfl)
      (c.o 449 rfl)
      (c.o 450 rfl)
      (c.o 451 rfl)
      (c.o 452 rfl)
      (c.o 453 rfl)
      (c.o 454 rfl)
      (c.o 455 rfl)
      (c.o 456 rfl)
      (c.o 457 rfl)
      (c.o 458 rfl)
      (c.o 459 rfl)
      (c.o 460 rfl)
      (c.o 461 rfl)
      (c.o 462 rfl)
      (c.o 463 rfl)
      (c.o 464 rfl)
      (c.o 465 rfl)
      (c.o 466 rfl)
      (c.o 467 rfl)
      (c.o 468 rfl)
      (c.o 469 rfl)
      (c.o 470 rfl)
      (c.o 471 rfl)
      (c.o 472 rfl)
      (c.o 473 rfl)
      (c.o 474 rfl)
      (c.o 475 rfl)
      (c.o 476 rfl)
      (c.o 477 rfl)
      (c.o 478 rfl)
      (c.o 479 rfl)
      (c.o 480 rfl)
      (c.o 481 rfl)
      (c.o 482 rfl)
      (c.o 483 rfl)
      (c.o 484 rfl)
      (c.o 485 rfl)
      (c.o 486 rfl)
      (c.o 487 rfl)
      (c.o 488 rfl)
      (c.o 489 rfl)
      (c.o 490 rfl)
      (c.o 491 rfl)
      (c.o 492 rfl)
      (c.o 493 rfl)
      (c.o 494 rfl)
      (c.o 495 rfl)
      (c.o 496 rfl)
      (c.o 497 rfl)
      (c.o 498 rfl)
      (c.o 499 rfl)
      (c.o 500 rfl)
      (c.o 501 rfl)
      (c.o 502 rfl)
      (c.o 503 rfl)
      (c.o 504 rfl)
      (c.o 505 rfl)
      (c.o 506 rfl)
      (c.o 507 rfl)
      (c.o 508 rfl)
      (c.o 509 rfl)
      (c.o 510 rfl)
      (c.o 511 rfl)
      (c.o 512 rfl)
      (c.o 513 rfl)
      (c.o 514 rfl)
      (c.o 515 rfl)
      (c.o 516 rfl)
      (c.o 517 rfl)
      (c.o 518 rfl)
      (c.o 519 rfl)
      (c.o 520 rfl)
      (c.o 521 rfl)
      (c.o 522 rfl)
      (c.o 523 rfl)
      (c.o 524 rfl)
      (c.o 525 rfl)
      (c.o 526 rfl)
      (c.o 527 rfl)
      (c.o 528 rfl)
      (c.o 529 rfl)
      LW.fuel
    exact ⟨K, fd, KX, hb, hF⟩
end
