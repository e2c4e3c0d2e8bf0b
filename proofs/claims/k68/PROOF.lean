import PyProof.Rows.All
import Wide.All
import OpenK.AllK
import Wide.FinOn
import HandS.Base
import HandS.Exc
import HandS.Words
import KE.KExcPX
import HandS.Head0
import HandS.Head1
import HandS.Head2
import HandS.HeadEnd
import HandS.HeadHook1
import HandS.HeadHook2
import HandS.HeadHook3
import HandS.ForMost
import HandS.ForExc
import KE.KeyNested
import KE.KDictKeyed
import HandS.TupAny
import HandS.TupMul
import HandS.Deep
import HandS.IsInst
import HandS.Style
import HandS.Iter
import HandS.Defaults
import HandS.SetBool
import HandS.SetKeys
import HandS.SetFor
import HandS.MakeKwOnly
import KE.GoesEnum
import HandS.Zip
import HandS.Nested
import HandS.ExcInit
import HandS.ExcSuper
import HandS.TryMany
import KE.KExcSuper
import HandS.ExcField
import HandS.ExcIs
import HandS.DictComp
import HandS.TryOnly
import PyProof.SeqIndex
import PyProof.P3In
import HandS.TupSets
import KE.SortData
import HandS.More
import HandS.Dict
import HandS.Zip0
import KE.KDictZip
import HandS.Property
import HandS.NamedTupGet
import HandS.SlotsOwn
import KE.KOpsOwn
import HandS.OwnEq
import HandS.Text
import PyProof.InstNe
import HandS.Rev
import HandS.Star
import KE.LtSeq
import HandS.TupLen
import HandS.Conv
import HandS.ListItems
import KE.KDictList
import KE.KDictDisplayH
import HandS.Strs
import PyProof.ListTruth
import KE.KCallOwn
import PyProof.Conv_bool
import HandS.Small
import PySem.Challenge.RW_wrongshown_k68_verdict_operators
set_option Elab.async false
set_option linter.all false
set_option maxRecDepth 100000
set_option maxHeartbeats 1000000
set_option autoImplicit false
section
namespace W3
open PySem PySem.Spec PyProof.Rows
open L2
def oexB (K : PySem.W.Frag) (C : Addr) : Bool := match K.lookup C with
  | some ⟨.type t, _, .cls cd, sl⟩ => decide (t = "type") && (match cd.mro, sl.toList with
    | .ref C' :: bm, [_, _, _, _, some (.builtin n), _] => decide (C' = C) && (decide (n = "ValueError.__new__") && (!cd.hasDel && (cd.hasDict && PySem.HandSPX.refsVE bm)))
    | _, _ => false)
  | _ => false
abbrev FnE : Type := Option (Str × Str × Arguments × FuncBody × Scope × Addr × List Str × Value × Value × Addr)
def fnE (K : PySem.W.Frag) (f : Addr) : FnE := match K.lookup f with
  | some ⟨_, _, .func fd, _⟩ => some (fd.name, fd.qualname, fd.params, fd.body, fd.scope, fd.globals, fd.closure.map Prod.fst, fd.defaults, fd.kwdefaults, fd.builtins)
  | _ => none
def xeV (qual : Str) (st : Stmt) : FnE := some ("__init__", qual, defArgs st, .stmts (defBody st), defScope st, mainGlobals, ["__class__"], .none, .none, builtinsNs)
def cellB (K : PySem.W.Frag) (cc C : Addr) : Bool := match K.lookup cc with
  | some ⟨_, _, .cell (some (.ref D)), _⟩ => decide (D = C)
  | _ => false
def fileB (K : PySem.W.Frag) (c : Addr) (file : Str) : Bool := match K.lookup c with
  | some ⟨_, _, .fields vs, _⟩ => (match (vs[2]? : Option Value) with
    | some (Value.str g _) => file == g
    | _ => false)
  | _ => false
def initB (K : PySem.W.Frag) (C f : Addr) (file qual : Str) : Bool := match K.lookup f with
  | some ⟨_, _, .func fd, _⟩ => (match fd.closure, fd.code with
    | [(_, cc)], .ref c => cellB K cc C && (fileB K c file && PySem.W.codeIn K (.ref c) qual)
    | _, _ => false)
  | _ => false
def strsA : List Str → List Value → Bool
  | [], [] => true
  | s :: ss, .str t _ :: vs => decide (s = t) && strsA ss vs
  | _, _ => false
def strsB (K : PySem.W.Frag) (a : Addr) (ss : List Str) : Bool := match K.lookup a with
  | some ⟨.type t, none, .seq its _, _⟩ => decide (t = "tuple") && (decide (its.size ≤ sizeLine) && strsA ss its.toList)
  | _ => false
def refsZ (o : Obj) : List Addr := match o.data with
  | .dict es _ => es.toList.flatMap fun e => He.refV e.val
  | .func fd => He.refV fd.code ++ (He.refV fd.kwdefaults ++ fd.closure.map Prod.snd)
  | .cls cd => cd.ns :: cd.mro.flatMap He.refV
  | _ => []
def growZ (g : Addr → Option Obj) (as : List Addr) : List Addr := as.flatMap fun a => match g a with
  | some o => refsZ o
  | none => []
def as0 : List Addr := [mainGlobals, cStatics]
def as1 (g : Addr → Option Obj) (gl : List Str) : List Addr := gl.map (He.ga (He.frG g as0))
def as2 (g : Addr → Option Obj) (gl : List Str) : List Addr := as0 ++ (as1 g gl ++ growZ g (as1 g gl))
def as3 (g : Addr → Option Obj) (gl : List Str) (ms : List (Str × Str)) : List Addr := ms.map fun p => He.ma (He.frG g (as2 g gl)) (He.ga (He.frG g (as2 g gl)) p.1) p.2
def propZ (g : Addr → Option Obj) (as : List Addr) : List Addr := as.flatMap fun a => match g a with
  | some ⟨.type n, _, .fields vs, _⟩ => if n == "property" then vs.toList.flatMap He.refV else []
  | _ => []
def as4 (g : Addr → Option Obj) (gl : List Str) (ms : List (Str × Str)) : List Addr := propZ g (as3 g gl ms)
def asZ (g : Addr → Option Obj) (gl : List Str) (ms : List (Str × Str)) : List Addr := as2 g gl ++ (as3 g gl ms ++ (growZ g (as3 g gl ms) ++ (as4 g gl ms ++ growZ g (as4 g gl ms))))
def frZ (g : Addr → Option Obj) (gl : List Str) (ms : List (Str × Str)) : PySem.W.Frag := He.frG g (asZ g gl ms)
abbrev AlZ : Type := He.AlT × (List FnE × Bool)
def obsZ (fn : List He.DefD) (ts : List He.Tab) (xs : List (PySem.W.Frag → Addr)) (bs : List (PySem.W.Frag → Bool)) (K : PySem.W.Frag) : AlZ := (He.obsT [] fn ts K, (xs.map fun f => fnE K (f K), bs.all fun b => b K))
def valZ (fn : List He.DefD) (ts : List He.Tab) (es : List FnE) (w : World) : AlZ := (He.valT fn ts w, (es, true))
def SaysZ (fn : List He.DefD) (ts : List He.Tab) (xs : List (PySem.W.Frag → Addr)) (es : List FnE) (bs : List (PySem.W.Frag → Bool)) (w : World) (K : PySem.W.Frag) : Prop := obsZ fn ts xs bs K = valZ fn ts es w
def hookZ (gl : List Str) (ms : List (Str × Str)) (fn : List He.DefD) (ts : List He.Tab) (xs : List (PySem.W.Frag → Addr)) (es : List FnE) (bs : List (PySem.W.Frag → Bool)) : PySem.W.Hook where
  α := AlZ
  obs := fun s => obsZ fn ts xs bs (frZ s.heap.get? gl ms)
  val := fun w => valZ fn ts es w
  says := fun w h => ∃ K : PySem.W.Frag, K.In h ∧ SaysZ fn ts xs es bs w K
  of := fun _ _ e => ⟨_, He.frG_in, e⟩
  keeps := fun _ _ _ ⟨K, hK, c⟩ k => ⟨K, PySem.W.Frag.In.keeps hK k, c⟩
theorem obsZ_eq {gl : List Str} {ms : List (Str × Str)} {fn : List He.DefD} {ts : List He.Tab} {xs : List (PySem.W.Frag → Addr)} {es : List FnE} {bs : List (PySem.W.Frag → Bool)} {g : Addr → Option Obj} {s : Shared} (h : ∀ a, g a = s.heap.get? a) : obsZ fn ts xs bs (frZ g gl ms) = (hookZ gl ms fn ts xs es bs).obs s := by
  have e : g = s.heap.get? := funext h
  rw [e] <;> rfl
end W3
end

section
namespace LW
open PySem PySem.Spec PyProof.Rows
open L2 W3
def topS (i : Nat) : Stmt := PySem.Challenge.pw_wrongshown_k68_verdict_operators.main.body.getD i (.Pass ⟨0, 0, 0, 0⟩)
abbrev st_check_kind : Stmt := (topS 6)
abbrev st_Verdict_init : Stmt := (inClass (topS 8) 0)
abbrev st_Verdict_pairs : Stmt := (inClass (topS 8) 1)
abbrev st_Verdict___or__ : Stmt := (inClass (topS 8) 4)
abbrev st_Verdict___and__ : Stmt := (inClass (topS 8) 5)
abbrev st_Verdict___sub__ : Stmt := (inClass (topS 8) 6)
abbrev st_Verdict___xor__ : Stmt := (inClass (topS 8) 7)
abbrev st_Verdict___eq__ : Stmt := (inClass (topS 8) 8)
abbrev st_Verdict___len__ : Stmt := (inClass (topS 8) 9)
abbrev st_Verdict___contains__ : Stmt := (inClass (topS 8) 10)
abbrev st_Verdict___bool__ : Stmt := (inClass (topS 8) 11)
abbrev st__law_same : Stmt := (topS 10)
abbrev st__law_pair : Stmt := (topS 11)
abbrev st__law_rows : Stmt := (topS 12)
abbrev st__law_holds : Stmt := (topS 13)
abbrev st__law_is_kept : Stmt := (topS 14)
abbrev st_law : Stmt := (topS 15)
abbrev st_x_InvalidKind : Stmt := (inClass (topS 3) 0)
def glZ : List Str := (["check_kind", "_law_same", "_law_pair", "_law_rows", "_law_holds", "_law_is_kept", "law", "ShownError", "InvalidKind", "Verdict", "KINDS"] : List (Str))
def msZ : List (Str × Str) := ([("Verdict", "__init__"), ("Verdict", "pairs"), ("Verdict", "__or__"), ("Verdict", "__and__"), ("Verdict", "__sub__"), ("Verdict", "__xor__"), ("Verdict", "__eq__"), ("Verdict", "__len__"), ("Verdict", "__contains__"), ("Verdict", "__bool__"), ("InvalidKind", "__init__")] : List (Str × Str))
def dz_check_kind : He.DefD := ⟨("check_kind", none), "check_kind", "check_kind", defArgs st_check_kind, defBody st_check_kind, defScope st_check_kind, [], []⟩
def dz_Verdict_init : He.DefD := ⟨("Verdict", some "__init__"), "__init__", "Verdict.__init__", defArgs st_Verdict_init, defBody st_Verdict_init, defScope st_Verdict_init, [], []⟩
def dz_Verdict_pairs : He.DefD := ⟨("Verdict", some "pairs"), "pairs", "Verdict.pairs", defArgs st_Verdict_pairs, defBody st_Verdict_pairs, defScope st_Verdict_pairs, [], []⟩
def dz_Verdict___or__ : He.DefD := ⟨("Verdict", some "__or__"), "__or__", "Verdict.__or__", defArgs st_Verdict___or__, defBody st_Verdict___or__, defScope st_Verdict___or__, [], []⟩
def dz_Verdict___and__ : He.DefD := ⟨("Verdict", some "__and__"), "__and__", "Verdict.__and__", defArgs st_Verdict___and__, defBody st_Verdict___and__, defScope st_Verdict___and__, [], []⟩
def dz_Verdict___sub__ : He.DefD := ⟨("Verdict", some "__sub__"), "__sub__", "Verdict.__sub__", defArgs st_Verdict___sub__, defBody st_Verdict___sub__, defScope st_Verdict___sub__, [], []⟩
def dz_Verdict___xor__ : He.DefD := ⟨("Verdict", some "__xor__"), "__xor__", "Verdict.__xor__", defArgs st_Verdict___xor__, defBody st_Verdict___xor__, defScope st_Verdict___xor__, [], []⟩
def dz_Verdict___eq__ : He.DefD := ⟨("Verdict", some "__eq__"), "__eq__", "Verdict.__eq__", defArgs st_Verdict___eq__, defBody st_Verdict___eq__, defScope st_Verdict___eq__, [], []⟩
def dz_Verdict___len__ : He.DefD := ⟨("Verdict", some "__len__"), "__len__", "Verdict.__len__", defArgs st_Verdict___len__, defBody st_Verdict___len__, defScope st_Verdict___len__, [], []⟩
def dz_Verdict___contains__ : He.DefD := ⟨("Verdict", some "__contains__"), "__contains__", "Verdict.__contains__", defArgs st_Verdict___contains__, defBody st_Verdict___contains__, defScope st_Verdict___contains__, [], []⟩
def dz_Verdict___bool__ : He.DefD := ⟨("Verdict", some "__bool__"), "__bool__", "Verdict.__bool__", defArgs st_Verdict___bool__, defBody st_Verdict___bool__, defScope st_Verdict___bool__, [], []⟩
def dz__law_same : He.DefD := ⟨("_law_same", none), "_law_same", "_law_same", defArgs st__law_same, defBody st__law_same, defScope st__law_same, [], []⟩
def dz__law_pair : He.DefD := ⟨("_law_pair", none), "_law_pair", "_law_pair", defArgs st__law_pair, defBody st__law_pair, defScope st__law_pair, [], []⟩
def dz__law_rows : He.DefD := ⟨("_law_rows", none), "_law_rows", "_law_rows", defArgs st__law_rows, defBody st__law_rows, defScope st__law_rows, [], []⟩
def dz__law_holds : He.DefD := ⟨("_law_holds", none), "_law_holds", "_law_holds", defArgs st__law_holds, defBody st__law_holds, defScope st__law_holds, [], []⟩
def dz__law_is_kept : He.DefD := ⟨("_law_is_kept", none), "_law_is_kept", "_law_is_kept", defArgs st__law_is_kept, defBody st__law_is_kept, defScope st__law_is_kept, [], []⟩
def dz_law : He.DefD := ⟨("law", none), "law", "law", defArgs st_law, defBody st_law, defScope st_law, [], []⟩
def fnZ : List He.DefD := ([dz_check_kind, dz_Verdict_init, dz_Verdict_pairs, dz_Verdict___or__, dz_Verdict___and__, dz_Verdict___sub__, dz_Verdict___xor__, dz_Verdict___eq__, dz_Verdict___len__, dz_Verdict___contains__, dz_Verdict___bool__, dz__law_same, dz__law_pair, dz__law_rows, dz__law_holds, dz__law_is_kept, dz_law] : List (He.DefD))
def tsZ : List He.Tab := []
def xz_InvalidKind : PySem.W.Frag → Addr := fun K => (He.ma K (He.ga K "InvalidKind") "__init__")
def xsZ : List (PySem.W.Frag → Addr) := [xz_InvalidKind]
def esZ : List FnE := [xeV "InvalidKind.__init__" st_x_InvalidKind]
def bz_0 : PySem.W.Frag → Bool := fun K => strsB K (He.ga K "KINDS") (["unshown", "stale", "elder", "sent", "early", "stuck", "full"] : List Str)
def bz_1 : PySem.W.Frag → Bool := fun K => initB K (He.ga K "InvalidKind") (He.ma K (He.ga K "InvalidKind") "__init__") (PySem.Challenge.rw_wrongshown_k68_verdict_operators).prog.main.file "InvalidKind.__init__"
def bz_2 : PySem.W.Frag → Bool := fun K => decide (PySem.W.nsIn K mainGlobals "Verdict" = some (some (.ref (He.ga K "Verdict"))))
def bz_3 : PySem.W.Frag → Bool := fun K => decide (PySem.W.plainGet K (He.ga K "Verdict") Str.empty = true)
def bz_4 : PySem.W.Frag → Bool := fun K => decide (PySem.W.hasDictIn K (He.ga K "Verdict") = true)
def bz_5 : PySem.W.Frag → Bool := fun K => decide (PySem.W.plainOver K (He.ga K "Verdict") = true)
def bz_6 : PySem.W.Frag → Bool := fun K => decide (PySem.W.findIn K (.ref (He.ga K "Verdict")) "__setattr__" = some (some (.builtin "object.__setattr__")))
def bz_7 : PySem.W.Frag → Bool := fun K => decide (PySem.W.makesIn K (He.ga K "Verdict") = true)
def bz_8 : PySem.W.Frag → Bool := fun K => decide (PySem.W.keepIn K (.ref (He.ga K "Verdict")) = true)
def bz_9 : PySem.W.Frag → Bool := fun K => decide (PySem.W.findIn K (.ref (He.ga K "Verdict")) "rows" = some none)
def bz_10 : PySem.W.Frag → Bool := fun K => decide (PySem.W.nsIn K mainGlobals "check_kind" = some (some (.ref (He.fAd K ("check_kind", none)))))
def bz_11 : PySem.W.Frag → Bool := fun K => decide (PySem.W.findIn K (.ref (He.ga K "Verdict")) "__init__" = some (some (.ref (He.fAd K ("Verdict", some "__init__")))))
def bz_12 : PySem.W.Frag → Bool := fun K => decide (PySem.W.isFn K (.ref (He.fAd K ("Verdict", some "__init__"))) = true)
def bz_13 : PySem.W.Frag → Bool := fun K => decide (PySem.W.findIn K (.ref (He.ga K "Verdict")) "pairs" = some (some (.ref (He.fAd K ("Verdict", some "pairs")))))
def bz_14 : PySem.W.Frag → Bool := fun K => decide (PySem.W.isFn K (.ref (He.fAd K ("Verdict", some "pairs"))) = true)
def bz_15 : PySem.W.Frag → Bool := fun K => decide (PySem.W.findIn K (.ref (He.ga K "Verdict")) "__or__" = some (some (.ref (He.fAd K ("Verdict", some "__or__")))))
def bz_16 : PySem.W.Frag → Bool := fun K => decide (PySem.W.isFn K (.ref (He.fAd K ("Verdict", some "__or__"))) = true)
def bz_17 : PySem.W.Frag → Bool := fun K => decide (PySem.W.findIn K (.ref (He.ga K "Verdict")) "__and__" = some (some (.ref (He.fAd K ("Verdict", some "__and__")))))
def bz_18 : PySem.W.Frag → Bool := fun K => decide (PySem.W.isFn K (.ref (He.fAd K ("Verdict", some "__and__"))) = true)
def bz_19 : PySem.W.Frag → Bool := fun K => decide (PySem.W.findIn K (.ref (He.ga K "Verdict")) "__sub__" = some (some (.ref (He.fAd K ("Verdict", some "__sub__")))))
def bz_20 : PySem.W.Frag → Bool := fun K => decide (PySem.W.isFn K (.ref (He.fAd K ("Verdict", some "__sub__"))) = true)
def bz_21 : PySem.W.Frag → Bool := fun K => decide (PySem.W.findIn K (.ref (He.ga K "Verdict")) "__xor__" = some (some (.ref (He.fAd K ("Verdict", some "__xor__")))))
def bz_22 : PySem.W.Frag → Bool := fun K => decide (PySem.W.isFn K (.ref (He.fAd K ("Verdict", some "__xor__"))) = true)
def bz_23 : PySem.W.Frag → Bool := fun K => decide (PySem.W.findIn K (.ref (He.ga K "Verdict")) "__eq__" = some (some (.ref (He.fAd K ("Verdict", some "__eq__")))))
def bz_24 : PySem.W.Frag → Bool := fun K => decide (PySem.W.isFn K (.ref (He.fAd K ("Verdict", some "__eq__"))) = true)
def bz_25 : PySem.W.Frag → Bool := fun K => decide (PySem.W.findIn K (.ref (He.ga K "Verdict")) "__len__" = some (some (.ref (He.fAd K ("Verdict", some "__len__")))))
def bz_26 : PySem.W.Frag → Bool := fun K => decide (PySem.W.isFn K (.ref (He.fAd K ("Verdict", some "__len__"))) = true)
def bz_27 : PySem.W.Frag → Bool := fun K => decide (PySem.W.findIn K (.ref (He.ga K "Verdict")) "__contains__" = some (some (.ref (He.fAd K ("Verdict", some "__contains__")))))
def bz_28 : PySem.W.Frag → Bool := fun K => decide (PySem.W.isFn K (.ref (He.fAd K ("Verdict", some "__contains__"))) = true)
def bz_29 : PySem.W.Frag → Bool := fun K => decide (PySem.W.findIn K (.ref (He.ga K "Verdict")) "__bool__" = some (some (.ref (He.fAd K ("Verdict", some "__bool__")))))
def bz_30 : PySem.W.Frag → Bool := fun K => decide (PySem.W.isFn K (.ref (He.fAd K ("Verdict", some "__bool__"))) = true)
def bz_31 : PySem.W.Frag → Bool := fun K => decide (PySem.W.nsIn K mainGlobals "_law_same" = some (some (.ref (He.fAd K ("_law_same", none)))))
def bz_32 : PySem.W.Frag → Bool := fun K => decide (PySem.W.nsIn K mainGlobals "_law_pair" = some (some (.ref (He.fAd K ("_law_pair", none)))))
def bz_33 : PySem.W.Frag → Bool := fun K => decide (PySem.W.nsIn K mainGlobals "_law_rows" = some (some (.ref (He.fAd K ("_law_rows", none)))))
def bz_34 : PySem.W.Frag → Bool := fun K => decide (PySem.W.nsIn K mainGlobals "_law_holds" = some (some (.ref (He.fAd K ("_law_holds", none)))))
def bz_35 : PySem.W.Frag → Bool := fun K => decide (PySem.W.nsIn K mainGlobals "_law_is_kept" = some (some (.ref (He.fAd K ("_law_is_kept", none)))))
def bz_36 : PySem.W.Frag → Bool := fun K => decide (PySem.W.nsIn K mainGlobals "law" = some (some (.ref (He.fAd K ("law", none)))))
def bz_37 : PySem.W.Frag → Bool := fun K => decide (PySem.W.nsIn K mainGlobals "InvalidKind" = some (some (.ref (He.ga K "InvalidKind"))))
def bz_38 : PySem.W.Frag → Bool := fun K => decide (PySem.W.findIn K (.ref (He.ga K "Verdict")) "__class__" = some (some (.builtin "object.__class__")))
def bz_39 : PySem.W.Frag → Bool := fun K => decide (PySem.W.mroIn K (He.ga K "Verdict") (.type "object") = some true)
def bz_40 : PySem.W.Frag → Bool := fun K => decide (PySem.W.selfFirst K (He.ga K "Verdict") = true)
def bz_41 : PySem.W.Frag → Bool := fun K => decide (((PySem.W.clsIn K (He.ga K "Verdict")).any fun cd => cd.mro == [.ref (He.ga K "Verdict"), .type "object"]) = true)
def bz_42 : PySem.W.Frag → Bool := fun K => decide (PySem.W.findIn K (.ref (He.ga K "Verdict")) "__iand__" = some none)
def bz_43 : PySem.W.Frag → Bool := fun K => decide (PySem.W.findIn K (.ref (He.ga K "Verdict")) "__ior__" = some none)
def bz_44 : PySem.W.Frag → Bool := fun K => decide (PySem.W.findIn K (.ref (He.ga K "Verdict")) "__isub__" = some none)
def bz_45 : PySem.W.Frag → Bool := fun K => decide (PySem.W.findIn K (.ref (He.ga K "Verdict")) "__ixor__" = some none)
def bz_46 : PySem.W.Frag → Bool := fun K => decide (PySem.W.findIn K (.type "object") "__iand__" = some none)
def bz_47 : PySem.W.Frag → Bool := fun K => decide (PySem.W.findIn K (.type "object") "__ior__" = some none)
def bz_48 : PySem.W.Frag → Bool := fun K => decide (PySem.W.findIn K (.type "object") "__isub__" = some none)
def bz_49 : PySem.W.Frag → Bool := fun K => decide (PySem.W.findIn K (.type "object") "__ixor__" = some none)
def bz_50 : PySem.W.Frag → Bool := fun K => decide (PySem.W.nsIn K cStatics "thirdparty.any" = some none)
def bz_51 : PySem.W.Frag → Bool := fun K => decide (PySem.W.specialIn K (.builtin "object.__class__") "__get__" = some (some (.builtin "getset_descriptor.__get__")))
def bz_52 : PySem.W.Frag → Bool := fun K => decide (PySem.W.takesIn K (.builtin "object.__class__") = some true)
def bz_53 : PySem.W.Frag → Bool := fun K => decide (oexB K (He.ga K "InvalidKind") = true)
def bz_54 : PySem.W.Frag → Bool := fun K => decide (PySem.W.findIn K (.ref (He.ga K "InvalidKind")) "__setattr__" = some (some (.builtin "object.__setattr__")))
def bz_55 : PySem.W.Frag → Bool := fun K => decide (PySem.W.subIn K (.ref (He.ga K "InvalidKind")) (.type "BaseException") = some true)
def bz_56 : PySem.W.Frag → Bool := fun K => decide (PySem.W.typeIn K (.ref (He.ga K "InvalidKind")) = some (.type "type"))
def bz_57 : PySem.W.Frag → Bool := fun K => decide (PySem.W.keepIn K (.ref (He.ga K "InvalidKind")) = true)
def bz_58 : PySem.W.Frag → Bool := fun K => decide (PySem.W.findIn K (.ref (He.ga K "InvalidKind")) "__init__" = some (some (.ref (He.ma K (He.ga K "InvalidKind") "__init__"))))
def bz_59 : PySem.W.Frag → Bool := fun K => decide (PySem.W.typeIn K (.ref (He.ma K (He.ga K "InvalidKind") "__init__")) = some (.type "function"))
def bz_60 : PySem.W.Frag → Bool := fun K => decide (PySem.W.ks_superIn K (He.ga K "InvalidKind") (He.ga K "InvalidKind") "__init__" = some (some (.builtin "ValueError.__init__")))
def bz_61 : PySem.W.Frag → Bool := fun K => decide (PySem.W.subIn K (.ref (He.ga K "InvalidKind")) (.type "ValueError") = some true)
def bz_62 : PySem.W.Frag → Bool := fun K => decide (PySem.W.mroIn K (He.ga K "InvalidKind") (.ref (He.ga K "InvalidKind")) = some true)
def bz_63 : PySem.W.Frag → Bool := fun K => decide (PySem.W.findIn K (.ref (He.ga K "InvalidKind")) "__getattribute__" = some (some (.builtin "BaseException.__getattribute__")))
def bz_64 : PySem.W.Frag → Bool := fun K => decide (PySem.W.findIn K (.ref (He.ga K "InvalidKind")) "__getattr__" = some none)
def bz_65 : PySem.W.Frag → Bool := fun K => decide (PySem.W.findIn K (.ref (He.ga K "InvalidKind")) "__class__" = some (some (.builtin "object.__class__")))
def bz_66 : PySem.W.Frag → Bool := fun K => decide (PySem.W.hasDictIn K (He.ga K "InvalidKind") = true)
def bz_67 : PySem.W.Frag → Bool := fun K => decide (PySem.W.mroIn K (He.ga K "InvalidKind") (.type "object") = some true)
def bz_68 : PySem.W.Frag → Bool := fun K => decide (PySem.W.findIn K (.ref (He.ga K "InvalidKind")) "kind" = some none)
def bz_69 : PySem.W.Frag → Bool := fun K => decide (PySem.W.nsIn K mainGlobals "KINDS" = some (some (.ref (He.ga K "KINDS"))))
def bz_70 : PySem.W.Frag → Bool := fun K => decide (PySem.W.nsIn K mainGlobals "bool" = some none)
def bz_71 : PySem.W.Frag → Bool := fun K => decide (PySem.W.nsIn K mainGlobals "int" = some none)
def bz_72 : PySem.W.Frag → Bool := fun K => decide (PySem.W.nsIn K mainGlobals "isinstance" = some none)
def bz_73 : PySem.W.Frag → Bool := fun K => decide (PySem.W.nsIn K mainGlobals "len" = some none)
def bz_74 : PySem.W.Frag → Bool := fun K => decide (PySem.W.nsIn K mainGlobals "list" = some none)
def bz_75 : PySem.W.Frag → Bool := fun K => decide (PySem.W.nsIn K mainGlobals "min" = some none)
def bz_76 : PySem.W.Frag → Bool := fun K => decide (PySem.W.nsIn K mainGlobals "range" = some none)
def bz_77 : PySem.W.Frag → Bool := fun K => decide (PySem.W.nsIn K mainGlobals "sorted" = some none)
def bz_78 : PySem.W.Frag → Bool := fun K => decide (PySem.W.nsIn K mainGlobals "super" = some none)
def bz_79 : PySem.W.Frag → Bool := fun K => decide (PySem.W.nsIn K mainGlobals "tuple" = some none)
def bsZ : List (PySem.W.Frag → Bool) := ([bz_0, bz_1, bz_2, bz_3, bz_4, bz_5, bz_6, bz_7, bz_8, bz_9, bz_10, bz_11, bz_12, bz_13, bz_14, bz_15, bz_16, bz_17, bz_18, bz_19, bz_20, bz_21, bz_22, bz_23, bz_24, bz_25, bz_26, bz_27, bz_28, bz_29] : List (PySem.W.Frag → Bool)) ++ ([bz_30, bz_31, bz_32, bz_33, bz_34, bz_35, bz_36, bz_37, bz_38, bz_39, bz_40, bz_41, bz_42, bz_43, bz_44, bz_45, bz_46, bz_47, bz_48, bz_49, bz_50, bz_51, bz_52, bz_53, bz_54, bz_55, bz_56, bz_57, bz_58, bz_59] : List (PySem.W.Frag → Bool)) ++ ([bz_60, bz_61, bz_62, bz_63, bz_64, bz_65, bz_66, bz_67, bz_68, bz_69, bz_70, bz_71, bz_72, bz_73, bz_74, bz_75, bz_76, bz_77, bz_78, bz_79] : List (PySem.W.Frag → Bool))
abbrev RZ : PySem.W.OpenRow := PySem.W.OpenLaw.row PySem.Challenge.rw_wrongshown_k68_verdict_operators
abbrev qZ : Program := PySem.W.view RZ.prog [15]
def namesZ : List Str := (["_wall", "__name__", "ShownError", "InvalidKind", "KINDS", "__name__", "check_kind", "__name__", "Verdict", "__name__", "_law_same", "_law_pair", "_law_rows", "_law_holds", "_law_is_kept"] : List (Str))
abbrev hkZ : PySem.W.Hook := hookZ glZ msZ fnZ tsZ xsZ esZ bsZ
def obZ (s : PySem.W.SharedT) : AlZ := obsZ fnZ tsZ xsZ bsZ (frZ (HandSHeadRun.getT s) glZ msZ)
theorem obZ_eq (s : PySem.W.SharedT) : obZ s = hkZ.obs s.abs := obsZ_eq (HandSHeadRun.getT_eq s)
open PyProof.Rows PySem.W in
set_option maxHeartbeats 0 in
theorem runZ1 (w : World) : HandSHeadRun.RunEq RZ qZ hkZ obZ 20000 namesZ (w.withFollow "special-get-raises" false) := by
  intro os
  kernel_rfl
open PyProof.Rows PySem.W in
set_option maxHeartbeats 0 in
theorem runZ2 (w : World) : HandSHeadRun.RunEq RZ qZ hkZ obZ 20000 namesZ (w.withFollow "special-get-raises" true) := by
  intro os
  kernel_rfl
open PyProof.Rows PySem.W in
theorem runZ (w : World) : HandSHeadRun.RunEq RZ qZ hkZ obZ 20000 namesZ w := byRow2 "special-get-raises" (P := fun w => HandSHeadRun.RunEq RZ qZ hkZ obZ 20000 namesZ w) runZ1 runZ2 w
end LW
end

section
namespace W3
open PySem
inductive T where
  | non | bl (b : Bool) | int (i : Int) | str (s : Str) | tup (ts : List T) | ref (l : Nat) | fl (ts : List T) | cls (c : Str)
inductive Ob where
  | lst (ts : List T) | dic (kvs : List (T × T)) | dtk (kvs : List (T × T)) | ins (c : Str) (fs : List (Str × T))
abbrev Hh := List Ob
inductive Res (α : Type) where
  | ok (a : α) (h : Hh) | exc (c : Str) (fs : List (Str × T)) (h : Hh) | stk
def Res.bind {α β : Type} (r : Res α) (f : α → Hh → Res β) : Res β :=
  match r with
  | .ok a h => f a h
  | .exc c fs h => .exc c fs h
  | .stk => .stk
@[simp] theorem Res.bind_ok {α β : Type} (a : α) (h : Hh) (f : α → Hh → Res β) : (Res.ok a h).bind f = f a h := Eq.trans rfl rfl
@[simp] theorem Res.bind_exc {α β : Type} (c : Str) (fs : List (Str × T)) (h : Hh) (f : α → Hh → Res β) : (Res.exc c fs h : Res α).bind f = .exc c fs h := Eq.trans rfl rfl
@[simp] theorem Res.bind_stk {α β : Type} (f : α → Hh → Res β) : (Res.stk : Res α).bind f = .stk := Eq.trans rfl rfl
abbrev St3 := List (Option T)
abbrev SE := St3 → Hh → Res T
abbrev ST := St3 → Hh → Res Bool
abbrev SA := St3 → Hh → Res (List T)
def sVar (i : Nat) : SE := fun σ h => match σ[i]? with | some (some t) => .ok t h | _ => .stk
def sC (t : T) : SE := fun _ h => .ok t h
def s1 (f : T → Hh → Res T) (a : SE) : SE := fun σ h => (a σ h).bind fun x h1 => f x h1
def s2 (f : T → T → Hh → Res T) (a b : SE) : SE := fun σ h => (a σ h).bind fun x h1 => (b σ h1).bind fun y h2 => f x y h2
def sT (a : SE) : ST := fun σ h => (a σ h).bind fun x h1 => match x with | .bl b => .ok b h1 | _ => .stk
def stAnd (a b : ST) : ST := fun σ h => (a σ h).bind fun x h1 => if x = true then b σ h1 else .ok false h1
def stOr (a b : ST) : ST := fun σ h => (a σ h).bind fun x h1 => if x = true then .ok true h1 else b σ h1
def stNot (a : ST) : ST := fun σ h => (a σ h).bind fun x h1 => .ok (!x) h1
def sB (a : ST) : SE := fun σ h => (a σ h).bind fun x h1 => .ok (.bl x) h1
def sIf (c : ST) (a b : SE) : SE := fun σ h => (c σ h).bind fun x h1 => if x = true then a σ h1 else b σ h1
def sChain (f g : T → T → Hh → Res T) (a b c : SE) : SE := fun σ h => (a σ h).bind fun x h1 => (b σ h1).bind fun y h2 => (f x y h2).bind fun z h3 => match z with
  | .bl k => if k = true then (c σ h3).bind fun w h4 => g y w h4 else .ok (.bl false) h3
  | _ => .stk
def saNil : SA := fun _ h => .ok [] h
def saCons (a : SE) (r : SA) : SA := fun σ h => (a σ h).bind fun x h1 => (r σ h1).bind fun xs h2 => .ok (x :: xs) h2
def sTup (a : SA) : SE := fun σ h => (a σ h).bind fun xs h1 => if xs.length ≤ sizeLine then .ok (.tup xs) h1 else .stk
def alloc (o : Ob) (h : Hh) : Res T := .ok (.ref h.length) (h ++ [o])
def sLst (a : SA) : SE := fun σ h => (a σ h).bind fun xs h1 => if xs.length ≤ sizeLine then alloc (.lst xs) h1 else .stk
def sCl (f : List T → Hh → Res T) (a : SA) : SE := fun σ h => (a σ h).bind fun xs h1 => f xs h1
def sMt (f : T → List T → Hh → Res T) (o : SE) (a : SA) : SE := fun σ h => (o σ h).bind fun x h1 => (a σ h1).bind fun xs h2 => f x xs h2
def lstAt (h : Hh) (l : Nat) : Option (List T) := match h[l]? with | some (.lst ts) => some ts | _ => none
def insAt (h : Hh) (l : Nat) : Option (Str × List (Str × T)) := match h[l]? with | some (.ins c fs) => some (c, fs) | _ => none
def oAdd (x y : T) (h : Hh) : Res T :=
  match x, y with
  | .int i, .int j => .ok (.int (i + j)) h
  | .str i, .str j => if i.length + j.length ≤ sizeLine then .ok (.str (i ++ j)) h else .stk
  | .tup xs, .tup ys => if xs.length + ys.length ≤ sizeLine then .ok (.tup (xs ++ ys)) h else .stk
  | .ref l, .ref b => match lstAt h l, lstAt h b with
    | some xs, some zs => if xs.length + zs.length ≤ sizeLine then alloc (.lst (xs ++ zs)) h else .stk
    | _, _ => .stk
  | _, _ => .stk
def oSub (x y : T) (h : Hh) : Res T :=
  match x, y with
  | .int i, .int j => .ok (.int (i - j)) h
  | _, _ => .stk
def MulOk (i j : Int) : Prop := (-(2 ^ 64) < i ∧ i < 2 ^ 64) ∨ (-(2 ^ 64) < j ∧ j < 2 ^ 64)
def PowOk (i j : Int) : Prop := 0 ≤ j ∧ j ≤ 1000000 ∧ i.natAbs < 2 ^ 64
open Classical in
noncomputable def oMul (x y : T) (h : Hh) : Res T :=
  match x, y with
  | .int i, .int j => if MulOk i j then .ok (.int (i * j)) h else .stk
  | _, _ => .stk
def oMod (x y : T) (h : Hh) : Res T :=
  match x, y with
  | .int i, .int j => if 0 < j then .ok (.int (i % j)) h else .stk
  | _, _ => .stk
def oDiv (x y : T) (h : Hh) : Res T :=
  match x, y with
  | .int i, .int j => if 0 < j ∧ j < 1073741824 then .ok (.int (i / j)) h else .stk
  | _, _ => .stk
open Classical in
noncomputable def oPow (x y : T) (h : Hh) : Res T :=
  match x, y with
  | .int i, .int j => if PowOk i j then .ok (.int (i ^ j.toNat)) h else .stk
  | _, _ => .stk
def oNeg (x : T) (h : Hh) : Res T := match x with | .int i => .ok (.int (-i)) h | _ => .stk
def oLt (x y : T) (h : Hh) : Res T := match x, y with | .int i, .int j => .ok (.bl (decide (i < j))) h | _, _ => .stk
def oLe (x y : T) (h : Hh) : Res T := match x, y with | .int i, .int j => .ok (.bl (decide (i ≤ j))) h | _, _ => .stk
def oGt (x y : T) (h : Hh) : Res T := match x, y with | .int i, .int j => .ok (.bl (decide (j < i))) h | _, _ => .stk
def oGe (x y : T) (h : Hh) : Res T := match x, y with | .int i, .int j => .ok (.bl (decide (j ≤ i))) h | _, _ => .stk
def isNonT : T → Bool | .non => true | _ => false
def oIs (x y : T) (h : Hh) : Res T :=
  match y with
  | .non => .ok (.bl (isNonT x)) h
  | .bl b => match x with | .bl a => .ok (.bl (decide (a = b))) h | _ => .stk
  | _ => .stk
def oIsNot (x y : T) (h : Hh) : Res T :=
  match y with
  | .non => .ok (.bl (!isNonT x)) h
  | .bl b => match x with | .bl a => .ok (.bl (!decide (a = b))) h | _ => .stk
  | _ => .stk
def optL {α : Type} (f : T → Option α) : List T → Option (List α)
  | [] => some []
  | t :: ts => match f t, optL f ts with | some d, some ds => some (d :: ds) | _, _ => none
def toD (h : Hh) : Nat → T → Option PyData
  | 0 => fun _ => none
  | n + 1 => fun t => match t with
    | .non => some .none
    | .bl b => some (.bool b)
    | .int i => some (.int i)
    | .str s => some (.str s)
    | .tup ts => (optL (toD h n) ts).map .tuple
    | .fl ts => (optL (toD h n) ts).map .list
    | .ref l => match h[l]? with | some (.lst ts) => (optL (toD h n) ts).map .list | _ => none
    | .cls _ => none
def oEq (x y : T) (h : Hh) : Res T := match toD h 24 x, toD h 24 y with | some d, some e => .ok (.bl (PyData.eqv d e)) h | _, _ => .stk
def oNe (x y : T) (h : Hh) : Res T := match toD h 24 x, toD h 24 y with | some d, some e => .ok (.bl (!PyData.eqv d e)) h | _, _ => .stk
def inT (x y : T) (h : Hh) : Option Bool :=
  match x, y with
  | .str i, .str j => some (!(Builtin.Str.occurrences j i 0 j.length 1).isEmpty)
  | x, y => match toD h 24 x, toD h 24 y with
    | some d, some (.list ds) => some (ds.any fun z => PyData.eqv z d)
    | some d, some (.tuple ds) => some (ds.any fun z => PyData.eqv z d)
    | _, _ => none
def oIn (x y : T) (h : Hh) : Res T := match inT x y h with | some b => .ok (.bl b) h | none => .stk
def oNotIn (x y : T) (h : Hh) : Res T := match inT x y h with | some b => .ok (.bl (!b)) h | none => .stk
def oIx (x y : T) (h : Hh) : Res T :=
  match y with
  | .int i => match x with
    | .tup ts => match L2.atI ts i with | some t => .ok t h | none => .stk
    | .fl ts => match L2.atI ts i with | some t => .ok t h | none => .stk
    | .ref l => match lstAt h l with
      | some ts => match L2.atI ts i with | some t => .ok t h | none => .stk
      | none => .stk
    | .str z => if z.length ≤ sizeLine then (match L2.atI z.cps.toList i with | some c => .ok (.str ⟨#[c]⟩) h | none => .stk) else .stk
    | _ => .stk
  | _ => .stk
def cutT {α : Type} (xs : List α) (lo hi : Option Int) : List α := (xs.drop (HT.sIx xs.length 0 lo)).take (HT.sIx xs.length xs.length hi - HT.sIx xs.length 0 lo)
abbrev SO := St3 → Hh → Res (Option Int)
def soNone : SO := fun _ h => .ok none h
def soSome (a : SE) : SO := fun σ h => (a σ h).bind fun x h1 => match x with | .int i => .ok (some i) h1 | _ => .stk
def oSl (x : T) (lo hi : Option Int) (h : Hh) : Res T :=
  match x with
  | .tup ts => .ok (.tup (cutT ts lo hi)) h
  | .fl ts => alloc (.lst (cutT ts lo hi)) h
  | .ref l => match lstAt h l with | some ts => alloc (.lst (cutT ts lo hi)) h | none => .stk
  | .str z => if z.length ≤ sizeLine then .ok (.str (L2.cutS z lo hi)) h else .stk
  | _ => .stk
def sSl (a : SE) (lo hi : SO) : SE := fun σ h => (a σ h).bind fun x h1 => (lo σ h1).bind fun l h2 => (hi σ h2).bind fun u h3 => oSl x l u h3
def putT (f : Str) (v : T) : List (Str × T) → List (Str × T)
  | [] => [(f, v)]
  | (g, w) :: r => if g = f then (g, v) :: r else (g, w) :: putT f v r
def bLen (xs : List T) (h : Hh) : Res T :=
  match xs with
  | [.tup ts] => .ok (.int ts.length) h
  | [.fl ts] => .ok (.int ts.length) h
  | [.str z] => if z.length ≤ sizeLine then .ok (.int z.length) h else .stk
  | [.ref l] => match lstAt h l with | some ts => .ok (.int ts.length) h | none => .stk
  | _ => .stk
def bInt (xs : List T) (h : Hh) : Res T :=
  match xs with
  | [.int i] => .ok (.int i) h
  | _ => .stk
def blsOf : List T → Option (List Bool)
  | [] => some []
  | .bl b :: r => (blsOf r).map (b :: ·)
  | _ => none
def bAll (ts : List T) (h : Hh) : Res T := match blsOf ts with | some bs => .ok (.bl (bs.all id)) h | none => .stk
def bAny (ts : List T) (h : Hh) : Res T := match blsOf ts with | some bs => .ok (.bl (bs.any id)) h | none => .stk
def bTup (ts : List T) (h : Hh) : Res T := .ok (.tup ts) h
def bTuple (xs : List T) (h : Hh) : Res T :=
  match xs with
  | [.tup ts] => .ok (.tup ts) h
  | [.fl ts] => .ok (.tup ts) h
  | [.ref l] => match lstAt h l with | some ts => .ok (.tup ts) h | none => .stk
  | _ => .stk
def bList (xs : List T) (h : Hh) : Res T :=
  match xs with
  | [.tup ts] => alloc (.lst ts) h
  | [.fl ts] => alloc (.lst ts) h
  | [.ref l] => match lstAt h l with | some ts => alloc (.lst ts) h | none => .stk
  | _ => .stk
inductive Kd where | int | bool | str | tuple | list | dict
  deriving DecidableEq
def isK (k : Kd) (x : T) (h : Hh) : Option Bool :=
  match x with
  | .non => some false
  | .bl _ => some (k == .bool || k == .int)
  | .int _ => some (k == .int)
  | .str _ => some (k == .str)
  | .tup _ => some (k == .tuple)
  | .fl _ => some (k == .list)
  | .ref l => match h[l]? with
    | some (.lst _) => some (k == .list)
    | some (.dic _) => some (k == .dict)
    | some (.ins _ _) => none
    | some (.dtk _) => none
    | none => none
  | .cls _ => none
def oIsK (k : Kd) (x : T) (h : Hh) : Res T := match isK k x h with | some b => .ok (.bl b) h | none => .stk
def mAppend (x : T) (vs : List T) (h : Hh) : Res T :=
  match x, vs with
  | .ref l, [y] => match lstAt h l with
    | some ts => if ts.length < sizeLine then .ok .non (h.set l (.lst (ts ++ [y]))) else .stk
    | none => .stk
  | _, _ => .stk
def mClear (x : T) (vs : List T) (h : Hh) : Res T :=
  match x, vs with
  | .ref l, [] => match lstAt h l with
    | some _ => .ok .non (h.set l (.lst []))
    | none => .stk
  | _, _ => .stk
def mExtend (x : T) (vs : List T) (h : Hh) : Res T :=
  match x, vs with
  | .ref l, [.ref b] => match lstAt h l, lstAt h b with
    | some ts, some zs => if ts.length + zs.length ≤ sizeLine then .ok .non (h.set l (.lst (ts ++ zs))) else .stk
    | _, _ => .stk
  | _, _ => .stk
def isL (x : T) (h : Hh) : Bool := match x with | .ref l => (lstAt h l).isSome | .fl _ => true | _ => false
def sMtL (f : T → List T → Hh → Res T) (o : SE) (a : SA) : SE := fun σ h => (o σ h).bind fun x h1 => if isL x h1 = true then (a σ h1).bind fun xs h2 => f x xs h2 else .stk
def arN (n : Nat) (f : List T → Hh → Res T) (xs : List T) (h : Hh) : Res T := if xs.length = n then f xs h else .stk
def sMeth (c m : Str) (n : Nat) (f : List T → Hh → Res T) (o : SE) (a : SA) : SE := fun σ h => (o σ h).bind fun x h1 => match x with
  | .ref l => match insAt h1 l with
    | some (d, fs) => if d = c ∧ fs.lookup m = none then (a σ h1).bind fun xs h2 => arN n f (x :: xs) h2 else .stk
    | none => .stk
  | _ => .stk
def weave {α : Type} : List Bool → List α → List α → List α
  | [], _, _ => []
  | true :: r, ds, z :: zs => z :: weave r ds zs
  | true :: _, _, [] => []
  | false :: r, d :: ds, zs => d :: weave r ds zs
  | false :: _, [], _ => []
def sClK (n q : Nat) (pat : List Bool) (ds : List T) (f : List T → Hh → Res T) (a kw : SA) : SE := fun σ h => (a σ h).bind fun xs h1 => (kw σ h1).bind fun zs h2 => if xs.length = n ∧ zs.length = q then f (xs ++ weave pat ds zs) h2 else .stk
inductive Src where
  | its (ts : List T) | live (l : Nat) | z2 (l1 l2 : Nat) | z3 (l1 l2 l3 : Nat)
abbrev SI := St3 → Hh → Res Src
def Src.len (s : Src) (h : Hh) : Nat :=
  match s with
  | .its ts => ts.length
  | .live l => match lstAt h l with | some ts => ts.length | none => 0
  | .z2 l _ => match lstAt h l with | some ts => ts.length | none => 0
  | .z3 l _ _ => match lstAt h l with | some ts => ts.length | none => 0
def Src.at (s : Src) (h : Hh) (i : Nat) : Option (Option T) :=
  match s with
  | .its ts => some ts[i]?
  | .live l => match lstAt h l with | some ts => some ts[i]? | none => none
  | .z2 l1 l2 => (match lstAt h l1, lstAt h l2 with
    | some t1, some t2 => (match t1[i]?, t2[i]? with
      | some x1, some x2 => some (some (.tup [x1, x2]))
      | none, _ => some none
      | _, _ => none)
    | _, _ => none)
  | .z3 l1 l2 l3 => (match lstAt h l1, lstAt h l2, lstAt h l3 with
    | some t1, some t2, some t3 => (match t1[i]?, t2[i]?, t3[i]? with
      | some x1, some x2, some x3 => some (some (.tup [x1, x2, x3]))
      | none, _, _ => some none
      | _, _, _ => none)
    | _, _, _ => none)
def srcOf (x : T) (h : Hh) : Res Src :=
  match x with
  | .tup ts => .ok (.its ts) h
  | .fl ts => .ok (.its ts) h
  | .str z => .ok (.its (z.cps.toList.map fun c => .str ⟨#[c]⟩)) h
  | .ref l => match lstAt h l with | some _ => .ok (.live l) h | none => .stk
  | _ => .stk
def siE (a : SE) : SI := fun σ h => (a σ h).bind fun x h1 => srcOf x h1
def rangeT (lo : Int) : Nat → List T
  | 0 => []
  | n + 1 => .int lo :: rangeT (lo + 1) n
def RngOk (j : Int) : Prop := -(2 ^ 62) ≤ j ∧ j < 2 ^ 62
open Classical in
noncomputable def rngOf (xs : List T) (h1 : Hh) : Res Src := match xs with
  | [.int j] => if RngOk j then .ok (.its (rangeT 0 j.toNat)) h1 else .stk
  | _ => .stk
noncomputable def siRange1 (a : SA) : SI := fun σ h => (a σ h).bind rngOf
abbrev SG := T → St3 → Option St3
def sgName (i : Nat) : SG := fun t σ => some (σ.set i (some t))
abbrev SGs := List T → St3 → Option St3
def sgsNil : SGs := fun ts σ => match ts with | [] => some σ | _ => none
def sgsCons (g : SG) (r : SGs) : SGs := fun ts σ => match ts with
  | t :: more => match g t σ with | some σ1 => r more σ1 | none => none
  | [] => none
def sgTup (n : Nat) (g : SGs) : SG := fun t σ => match t with
  | .tup ts => if ts.length = n then g ts σ else none
  | _ => none
def wipeT (σ : St3) : List Nat → St3
  | [] => σ
  | v :: vs => (wipeT σ vs).set v none
def lcRun (s : Src) (g : SG) (tt : ST) (te : SE) (σ : St3) : Nat → Nat → List T → Hh → Res (List T)
  | k, i, acc, h => match s.at h i with
    | none => .stk
    | some none => .ok acc h
    | some (some x) => match k with
      | 0 => .stk
      | k + 1 => match g x σ with
        | none => .stk
        | some σ1 => match tt σ1 h with
          | .ok b h1 => if b = true then (match te σ1 h1 with
              | .ok t h2 => if acc.length < sizeLine then lcRun s g tt te σ k (i + 1) (acc ++ [t]) h2 else .stk
              | _ => .stk) else lcRun s g tt te σ k (i + 1) acc h1
          | _ => .stk
def stYes : ST := fun _ h => .ok true h
def saLc (si : SI) (g : SG) (tt : ST) (te : SE) (vs : List Nat) : SA := fun σ h => (si σ h).bind fun s h1 => lcRun s g tt te (wipeT σ vs) (s.len h1) 0 [] h1
def sLc (a : SA) : SE := fun σ h => (a σ h).bind fun xs h1 => alloc (.lst xs) h1
def sOver (f : List T → Hh → Res T) (a : SA) : SE := fun σ h => (a σ h).bind fun xs h1 => f xs h1
inductive Flo where
  | nx (σ : St3) (h : Hh) | rt (t : T) (h : Hh) | bk (σ : St3) (h : Hh) | ct (σ : St3) (h : Hh) | exc (c : Str) (fs : List (Str × T)) (σ : St3) (h : Hh) | stk
abbrev SS := St3 → Hh → Flo
def Flo.seq (r : Flo) (k : SS) : Flo := match r with | .nx σ h => k σ h | r => r
@[simp] theorem Flo.seq_nx (σ : St3) (h : Hh) (k : SS) : (Flo.nx σ h).seq k = k σ h := Eq.trans rfl rfl
@[simp] theorem Flo.seq_rt (t : T) (h : Hh) (k : SS) : (Flo.rt t h).seq k = .rt t h := Eq.trans rfl rfl
def Res.flo {α : Type} (r : Res α) (σ : St3) (k : α → Hh → Flo) : Flo := match r with | .ok a h => k a h | .exc c fs h => .exc c fs σ h | .stk => .stk
@[simp] theorem Res.flo_ok {α : Type} (a : α) (h : Hh) (σ : St3) (k : α → Hh → Flo) : (Res.ok a h).flo σ k = k a h := Eq.trans rfl rfl
def ssNil : SS := fun σ h => .nx σ h
def ssCons (a b : SS) : SS := fun σ h => (a σ h).seq b
def ssIf (c : ST) (a b : SS) : SS := fun σ h => (c σ h).flo σ fun x h1 => if x = true then a σ h1 else b σ h1
def ssRet (a : SE) : SS := fun σ h => (a σ h).flo σ fun x h1 => .rt x h1
def ssRetN : SS := fun _ h => .rt .non h
def ssExpr (a : SE) : SS := fun σ h => (a σ h).flo σ fun _ h1 => .nx σ h1
def ssAsg (a : SE) (g : SG) : SS := fun σ h => (a σ h).flo σ fun x h1 => match g x σ with | some σ1 => .nx σ1 h1 | none => .stk
def ssFldC (cs : List (Str × List Str)) (o v : SE) (f : Str) : SS := fun σ h => (v σ h).flo σ fun y h1 => (o σ h1).flo σ fun x h2 => match x with
  | .ref l => match insAt h2 l with
    | some (c, fs) => match cs.lookup c with
      | some as => if as.contains f && decide (fs.length < 1000) then .nx σ (h2.set l (.ins c (putT f y fs))) else .stk
      | none => .stk
    | none => .stk
  | _ => .stk
def ssSub (o i v : SE) : SS := fun σ h => (v σ h).flo σ fun y h1 => (o σ h1).flo σ fun x h2 => (i σ h2).flo σ fun k h3 => match x, k with
  | .ref l, .int n => match lstAt h3 l with
    | some ts => match L2.ixN ts.length n with | some j => .nx σ (h3.set l (.lst (ts.set j y))) | none => .stk
    | none => .stk
  | _, _ => .stk
def ssBreak : SS := fun σ h => .bk σ h
def ssCont : SS := fun σ h => .ct σ h
def forRun (s : Src) (g : SG) (b : SS) : Nat → Nat → St3 → Hh → Flo
  | k, i, σ, h => match s.at h i with
    | none => .stk
    | some none => .nx σ h
    | some (some x) => match k with
      | 0 => .stk
      | k + 1 => match g x σ with
        | none => .stk
        | some σ1 => match b σ1 h with
          | .nx σ2 h2 => forRun s g b k (i + 1) σ2 h2
          | .ct σ2 h2 => forRun s g b k (i + 1) σ2 h2
          | .bk σ2 h2 => .nx σ2 h2
          | r => r
def ssFor (si : SI) (g : SG) (b : SS) : SS := fun σ h => (si σ h).flo σ fun s h1 => forRun s g b (s.len h1) 0 σ h1
def startT (n : Nat) (ts : List T) : St3 := ts.map some ++ List.replicate (n - ts.length) none
def defRun (n : Nat) (b : SS) (ts : List T) (h : Hh) : Res T := match b (startT n ts) h with
  | .nx _ h1 => .ok .non h1
  | .rt t h1 => .ok t h1
  | .exc c fs _ h1 => .exc c fs h1
  | _ => .stk
def bMake (c : Str) (n : Nat) (f : List T → Hh → Res T) (xs : List T) (h : Hh) : Res T :=
  (arN n f (.ref h.length :: xs) (h ++ [.ins c []])).bind fun t h1 => match t with | .non => .ok (.ref h.length) h1 | _ => .stk
end W3
end

section
namespace W3
open PySem L2
def SqF (K : PySem.W.Frag) (H : Hp) (a : Addr) (xs : List V) : Prop :=
  (∃ o, H a = some (.frz o (.lst xs))) ∨
    ∃ (o : Obj) (its : Array Value) (n : Nat), K.lookup a = some o ∧ o.cls = .type "list" ∧ o.dict = none ∧ o.data = .seq its n ∧ its.size ≤ sizeLine ∧ Vals xs its.toList
theorem SqF.sq {K : PySem.W.Frag} {H : Hp} {a : Addr} {xs : List V} (h : SqF K H a xs) : SqL K H a xs := by
  rcases h with ⟨o, h⟩ | h
  · exact .inl (.inr ⟨o, h⟩)
  · exact .inr h
def SqN (K : PySem.W.Frag) (H : Hp) (a : Addr) (xs : List V) : Prop :=
  (∃ o, H a = some (.frz o (.tup xs)) ∧ o.dict = none) ∨
    ∃ (o : Obj) (its : Array Value) (n : Nat), K.lookup a = some o ∧ o.cls = .type "tuple" ∧ o.dict = none ∧ o.data = .seq its n ∧ its.size ≤ sizeLine ∧ Vals xs its.toList
theorem SqN.t {K : PySem.W.Frag} {H : Hp} {a : Addr} {xs : List V} (h : SqN K H a xs) : SqT K H a xs := by
  rcases h with ⟨o, h, _⟩ | ⟨o, its, n, h1, h2, _, h3⟩
  · exact .inl (.inr ⟨o, h⟩)
  · exact .inr ⟨o, its, n, h1, h2, h3⟩
instance {K : PySem.W.Frag} {H : Hp} {a : Addr} {xs : List V} : Coe (SqN K H a xs) (SqT K H a xs) := ⟨SqN.t⟩
abbrev Mp := Nat → Option Addr
mutual
inductive RT (K : PySem.W.Frag) (mg : Str → Option Value) (m : Mp) (H : Hp) : T → V → Prop
  | non : RT K mg m H .non .non
  | bl (b : Bool) : RT K mg m H (.bl b) (.bl b)
  | int (i : Int) : RT K mg m H (.int i) (.int i)
  | str {x : Str} : PyData.strOk x = true → RT K mg m H (.str x) (.str x)
  | tup {a : Addr} {vs : List V} {ts : List T} : SqN K H a vs → RTs K mg m H ts vs → RT K mg m H (.tup ts) (.ref a)
  | fl {a : Addr} {vs : List V} {ts : List T} : SqF K H a vs → RTs K mg m H ts vs → RT K mg m H (.fl ts) (.ref a)
  | ref {l : Nat} {a : Addr} : m l = some a → RT K mg m H (.ref l) (.ref a)
  | cls {c : Str} {C : Addr} : mg c = some (.ref C) → RT K mg m H (.cls c) (.ref C)
inductive RTs (K : PySem.W.Frag) (mg : Str → Option Value) (m : Mp) (H : Hp) : List T → List V → Prop
  | nil : RTs K mg m H [] []
  | cons {t : T} {ts : List T} {v : V} {vs : List V} : RT K mg m H t v → RTs K mg m H ts vs → RTs K mg m H (t :: ts) (v :: vs)
end
inductive RF (K : PySem.W.Frag) (mg : Str → Option Value) (m : Mp) (H : Hp) : List (Str × T) → List (Str × V) → Prop
  | nil : RF K mg m H [] []
  | cons {f : Str} {t : T} {v : V} {fs : List (Str × T)} {fv : List (Str × V)} : RT K mg m H t v → RF K mg m H fs fv → RF K mg m H ((f, t) :: fs) ((f, v) :: fv)
inductive RK (K : PySem.W.Frag) (mg : Str → Option Value) (m : Mp) (H : Hp) : List (T × T) → List (Key × V) → Prop
  | nil : RK K mg m H [] []
  | cons {f : Str} {t : T} {v : V} {fs : List (T × T)} {fv : List (Key × V)} : RT K mg m H t v → RK K mg m H fs fv → RK K mg m H ((.str f, t) :: fs) ((.inr f, v) :: fv)
  | consI {i : Int} {t : T} {v : V} {fs : List (T × T)} {fv : List (Key × V)} : RT K mg m H t v → RK K mg m H fs fv → RK K mg m H ((.int i, t) :: fs) ((.inl i, v) :: fv)
mutual
def nkT : T → Option NestedKey
  | .non => some .none
  | .bl b => some (.num (if b = true then 1 else 0))
  | .int i => some (.num i)
  | .str x => some (.text x)
  | .tup ts => (nkTs ts).map .tup
  | _ => none
def nkTs : List T → Option (List NestedKey)
  | [] => some []
  | t :: ts => match nkT t, nkTs ts with
    | some k, some ks => some (k :: ks)
    | _, _ => none
end
inductive RN (K : PySem.W.Frag) (mg : Str → Option Value) (m : Mp) (H : Hp) : List (T × T) → List (NestedKey × Addr × V) → Prop
  | nil : RN K mg m H [] []
  | cons {t u : T} {k : NestedKey} {a : Addr} {v : V} {fs : List (T × T)} {es : List (NestedKey × Addr × V)} : nkT t = some k → k.depth ≤ 8 → RT K mg m H t (.ref a) → RT K mg m H u v → RN K mg m H fs es → RN K mg m H ((t, u) :: fs) ((k, a, v) :: es)
def DtkO (wd : World) (a : Addr) (es : List (NestedKey × Addr × V)) : HO := .ext fun h => ∃ vs : List (NestedKey × Addr × Value), Paired (fun (p : NestedKey × Addr × V) (q : NestedKey × Addr × Value) => p.1 = q.1 ∧ p.2.1 = q.2.1 ∧ RelV p.2.2 q.2.2) es vs ∧
  ∃ o xs ep, h.get? a = some o ∧ o.ExactDict ∧ o.data = .dict xs ep ∧ xs.toList = vs.map (fun x => (⟨x.1.hash wd, .ref x.2.1, x.2.2⟩ : DictEntry)) ∧ (vs.map (·.1)).Nodup
structure Ext (m : Mp) (H : Hp) (m' : Mp) (H' : Hp) : Prop where
  mono : ∀ l a, m l = some a → m' l = some a
  fresh : ∀ l a, m' l = some a → m l = some a ∨ H a = none
  live : ∀ a o, H a = some o → ∃ o', H' a = some o'
  keep : ∀ a o, H a = some o → (∀ l, m l ≠ some a) → H' a = some o
  tups : ∀ a vs, H a = some (.tup vs) → H' a = some (.tup vs)
  frzs : ∀ a o u, H a = some (.frz o u) → H' a = some (.frz o u)
  xds : ∀ a fs, H a = some (.xd fs) → H' a = some (.xd fs)
theorem Ext.refl (m : Mp) (H : Hp) : Ext m H m H := ⟨fun _ _ e => e, fun _ _ e => .inl e, fun _ o e => ⟨o, e⟩, fun _ _ e _ => e, fun _ _ e => e, fun _ _ _ e => e, fun _ _ e => e⟩
theorem Ext.trans {m1 m2 m3 : Mp} {H1 H2 H3 : Hp} (a : Ext m1 H1 m2 H2) (b : Ext m2 H2 m3 H3) : Ext m1 H1 m3 H3 where
  mono := fun l x e => b.mono l x (a.mono l x e)
  fresh := fun l x e => by
    rcases b.fresh l x e with q | q
    · exact a.fresh l x q
    · cases hx : H1 x with
      | none => exact .inr rfl
      | some o =>
        obtain ⟨o', e'⟩ := a.live x o hx
        rw [q] at e'
        cases e'
  live := fun x o e => by
    obtain ⟨o', e'⟩ := a.live x o e
    exact b.live x o' e'
  keep := fun x o e n => b.keep x o (a.keep x o e n) fun l q => by
    rcases a.fresh l x q with z | z
    · exact n l z
    · rw [e] at z
      cases z
  tups := fun x vs e => b.tups x vs (a.tups x vs e)
  frzs := fun x o u e => b.frzs x o u (a.frzs x o u e)
  xds := fun x fs e => b.xds x fs (a.xds x fs e)
section
variable {K : PySem.W.Frag} {mg : Str → Option Value} {wd : World} {m m' : Mp} {H H' : Hp}
structure Tr (m : Mp) (H : Hp) (m' : Mp) (H' : Hp) : Prop where
  mono : ∀ l a, m l = some a → m' l = some a
  tups : ∀ a vs, H a = some (.tup vs) → H' a = some (.tup vs)
  frzs : ∀ a o u, H a = some (.frz o u) → H' a = some (.frz o u)
theorem Ext.tr (E : Ext m H m' H') : Tr m H m' H' := ⟨E.mono, E.tups, E.frzs⟩
theorem Tr.trans {m2 : Mp} {H2 : Hp} (a : Tr m H m' H') (b : Tr m' H' m2 H2) : Tr m H m2 H2 := ⟨fun l x e => b.mono l x (a.mono l x e), fun x vs e => b.tups x vs (a.tups x vs e), fun x o u e => b.frzs x o u (a.frzs x o u e)⟩
theorem Tr.refl : Tr m H m H := ⟨fun _ _ e => e, fun _ _ e => e, fun _ _ _ e => e⟩
theorem SqT.tr (E : Tr m H m' H') {a : Addr} {vs : List V} (h : SqT K H a vs) : SqT K H' a vs := by
  rcases h with h | h
  · rcases h with h | ⟨o, h⟩
    · exact .inl (.inl (E.tups a vs h))
    · exact .inl (.inr ⟨o, E.frzs a o _ h⟩)
  · exact .inr h
theorem SqN.tr (E : Tr m H m' H') {a : Addr} {vs : List V} (h : SqN K H a vs) : SqN K H' a vs := by
  rcases h with ⟨o, h, d⟩ | h
  · exact .inl ⟨o, E.frzs a o _ h, d⟩
  · exact .inr h
theorem SqF.tr (E : Tr m H m' H') {a : Addr} {vs : List V} (h : SqF K H a vs) : SqF K H' a vs := by
  rcases h with ⟨o, h⟩ | h
  · exact .inl ⟨o, E.frzs a o _ h⟩
  · exact .inr h
mutual
theorem RT.tr (E : Tr m H m' H') : ∀ {t : T} {v : V}, RT K mg m H t v → RT K mg m' H' t v
  | _, _, .non => .non
  | _, _, .bl b => .bl b
  | _, _, .int i => .int i
  | _, _, .str h => .str h
  | _, _, .tup h r => .tup (SqN.tr E h) (RTs.tr E r)
  | _, _, .fl h r => .fl (SqF.tr E h) (RTs.tr E r)
  | _, _, .ref h => .ref (E.mono _ _ h)
  | _, _, .cls h => .cls h
theorem RTs.tr (E : Tr m H m' H') : ∀ {ts : List T} {vs : List V}, RTs K mg m H ts vs → RTs K mg m' H' ts vs
  | _, _, .nil => .nil
  | _, _, .cons r q => .cons (RT.tr E r) (RTs.tr E q)
end
theorem RF.tr (E : Tr m H m' H') {fs : List (Str × T)} {fv : List (Str × V)} (r : RF K mg m H fs fv) : RF K mg m' H' fs fv := by
  induction r with
  | nil => exact .nil
  | cons r _ ih => exact .cons (r.tr E) ih
theorem RK.tr (E : Tr m H m' H') {fs : List (T × T)} {fv : List (Key × V)} (r : RK K mg m H fs fv) : RK K mg m' H' fs fv := by
  induction r with
  | nil => exact .nil
  | cons r _ ih => exact .cons (r.tr E) ih
  | consI r _ ih => exact .consI (r.tr E) ih
theorem RN.tr (E : Tr m H m' H') {fs : List (T × T)} {es : List (NestedKey × Addr × V)} (r : RN K mg m H fs es) : RN K mg m' H' fs es := by
  induction r with
  | nil => exact .nil
  | cons h1 h2 r1 r2 _ ih => exact .cons h1 h2 (r1.tr E) (r2.tr E) ih
theorem SqT.ext (E : Ext m H m' H') {a : Addr} {vs : List V} (h : SqT K H a vs) : SqT K H' a vs := SqT.tr E.tr h
theorem SqF.ext (E : Ext m H m' H') {a : Addr} {vs : List V} (h : SqF K H a vs) : SqF K H' a vs := SqF.tr E.tr h
theorem RT.ext (E : Ext m H m' H') {t : T} {v : V} (r : RT K mg m H t v) : RT K mg m' H' t v := r.tr E.tr
theorem RTs.ext (E : Ext m H m' H') {ts : List T} {vs : List V} (r : RTs K mg m H ts vs) : RTs K mg m' H' ts vs := r.tr E.tr
theorem RF.ext (E : Ext m H m' H') {fs : List (Str × T)} {fv : List (Str × V)} (r : RF K mg m H fs fv) : RF K mg m' H' fs fv := r.tr E.tr
theorem RTs.length : ∀ {ts : List T} {vs : List V}, RTs K mg m H ts vs → ts.length = vs.length
  | _, _, .nil => rfl
  | _, _, .cons _ q => by rw [List.length_cons, List.length_cons, q.length]
theorem RTs.get : ∀ {ts : List T} {vs : List V} {i : Nat} {t : T}, RTs K mg m H ts vs → ts[i]? = some t → ∃ v, vs[i]? = some v ∧ RT K mg m H t v
  | _, _, _, _, .nil, e => by simp at e
  | _, _, 0, _, .cons r _, e => by simp at e; subst e; exact ⟨_, rfl, r⟩
  | _, _, i + 1, t, .cons _ q, e => by
    obtain ⟨v, h1, h2⟩ := RTs.get (i := i) (t := t) q (by simpa using e)
    exact ⟨v, by simpa using h1, h2⟩
theorem RTs.append : ∀ {ts us : List T} {vs ws : List V}, RTs K mg m H ts vs → RTs K mg m H us ws → RTs K mg m H (ts ++ us) (vs ++ ws)
  | _, _, _, _, .nil, s => s
  | _, _, _, _, .cons r q, s => .cons r (RTs.append q s)
theorem RTs.take : ∀ {ts : List T} {vs : List V} (n : Nat), RTs K mg m H ts vs → RTs K mg m H (ts.take n) (vs.take n)
  | _, _, 0, _ => .nil
  | _, _, _ + 1, .nil => .nil
  | _, _, n + 1, .cons r q => .cons r (RTs.take n q)
theorem RTs.drop : ∀ {ts : List T} {vs : List V} (n : Nat), RTs K mg m H ts vs → RTs K mg m H (ts.drop n) (vs.drop n)
  | _, _, 0, r => r
  | _, _, _ + 1, .nil => .nil
  | _, _, n + 1, .cons _ q => RTs.drop n q
theorem RTs.set : ∀ {ts : List T} {vs : List V} (i : Nat) {t : T} {v : V}, RTs K mg m H ts vs → RT K mg m H t v → RTs K mg m H (ts.set i t) (vs.set i v)
  | _, _, _, _, _, .nil, _ => .nil
  | _, _, 0, _, _, .cons _ q, r => .cons r q
  | _, _, i + 1, _, _, .cons p q, r => .cons p (RTs.set i q r)
theorem RF.lookup {fs : List (Str × T)} {fv : List (Str × V)} (r : RF K mg m H fs fv) {f : Str} {t : T} (e : fs.lookup f = some t) : ∃ v, fv.lookup f = some v ∧ RT K mg m H t v := by
  induction r with
  | nil => simp [List.lookup] at e
  | @cons g u v fs fv r _ ih =>
    simp only [List.lookup] at e ⊢
    split at e
    · cases e; exact ⟨v, rfl, r⟩
    · exact ih e
theorem RF.length {fs : List (Str × T)} {fv : List (Str × V)} (r : RF K mg m H fs fv) : fs.length = fv.length := by
  induction r with
  | nil => rfl
  | cons _ _ ih => simp [ih]
theorem RF.put {fs : List (Str × T)} {fv : List (Str × V)} (r : RF K mg m H fs fv) {f : Str} {t : T} {v : V} (q : RT K mg m H t v) : RF K mg m H (putT f t fs) (putF f v fv) := by
  induction r with
  | nil => exact .cons q .nil
  | @cons g u w fs fv r rr ih =>
    unfold putT putF
    by_cases e : g = f
    · rw [if_pos e, if_pos e]; exact .cons q rr
    · rw [if_neg e, if_neg e]; exact .cons r ih
end
section
variable (K : PySem.W.Frag) (mg : Str → Option Value) (wd : World)
def OR (m : Mp) (H : Hp) (a : Addr) : Ob → Prop
  | .lst ts => ∃ vs, H a = some (.lst vs) ∧ RTs K mg m H ts vs
  | .dic kvs => ∃ ks, H a = some (.dK ks) ∧ RK K mg m H kvs ks
  | .dtk kvs => ∃ es, H a = some (DtkO wd a es) ∧ RN K mg m H kvs es ∧ (a == sysModules) = false
  | .ins c fs => ∃ C dx fv, mg c = some (.ref C) ∧ H a = some (.ins C dx fv) ∧ RF K mg m H fs fv
structure HR (m : Mp) (h : Hh) (H : Hp) : Prop where
  dom : ∀ l a, m l = some a → l < h.length
  inj : ∀ l l' a, m l = some a → m l' = some a → l = l'
  ob : ∀ l o, h[l]? = some o → ∃ a, m l = some a ∧ OR K mg wd m H a o
end
section
variable {K : PySem.W.Frag} {mg : Str → Option Value} {wd : World} {m : Mp} {H : Hp} {h : Hh}
theorem OR.some {a : Addr} {o : Ob} (r : OR K mg wd m H a o) : ∃ u, H a = some u ∧ (∀ vs, u ≠ .tup vs) ∧ (∀ ob w, u ≠ .frz ob w) ∧ (∀ fs, u ≠ .xd fs) ∧ ∀ b, u ≠ .own b := by
  cases o with
  | lst ts =>
    obtain ⟨vs, e, _⟩ := r
    exact ⟨_, e, fun _ z => (by cases z), fun _ _ z => (by cases z), fun _ z => (by cases z), fun _ z => by cases z⟩
  | dic _ =>
    obtain ⟨_, e, _⟩ := r
    exact ⟨_, e, fun _ z => (by cases z), fun _ _ z => (by cases z), fun _ z => (by cases z), fun _ z => by cases z⟩
  | dtk _ =>
    obtain ⟨_, e, _⟩ := r
    exact ⟨_, e, fun _ z => (by cases z), fun _ _ z => (by cases z), fun _ z => (by cases z), fun _ z => by cases z⟩
  | ins c fs =>
    obtain ⟨C, dx, fv, _, e, _⟩ := r
    exact ⟨_, e, fun _ z => (by cases z), fun _ _ z => (by cases z), fun _ z => (by cases z), fun _ z => by cases z⟩
theorem HR.tracked (R : HR K mg wd m h H) {l : Nat} {a : Addr} (e : m l = some a) : ∃ u, H a = some u ∧ (∀ vs, u ≠ .tup vs) ∧ (∀ ob w, u ≠ .frz ob w) ∧ (∀ fs, u ≠ .xd fs) ∧ ∀ b, u ≠ .own b := by
  have hl := R.dom l a e
  obtain ⟨a', e', r⟩ := R.ob l h[l] (by simp [hl])
  rw [e] at e'; cases e'
  exact r.some
theorem Ext.garbage (R : HR K mg wd m h H) {p : Addr} {o : HO} (hp : H p = none) : Ext m H m (upd H p o) where
  mono := fun _ _ e => e
  fresh := fun _ _ e => .inl e
  live := fun a u e => ⟨u, by rw [upd_ne (ne_of_none e hp)]; exact e⟩
  keep := fun a u e _ => by rw [upd_ne (ne_of_none e hp)]; exact e
  tups := fun a u e => by rw [upd_ne (ne_of_none e hp)]; exact e
  frzs := fun a u w e => by rw [upd_ne (ne_of_none e hp)]; exact e
  xds := fun a u e => by rw [upd_ne (ne_of_none e hp)]; exact e
theorem OR.moveT {m' : Mp} {H' : Hp} (E : Tr m H m' H') {a : Addr} {o : Ob} (r : OR K mg wd m H a o) (ha : H' a = H a) : OR K mg wd m' H' a o := by
  cases o with
  | lst ts =>
    obtain ⟨vs, e, r⟩ := r
    exact ⟨vs, ha.trans e, r.tr E⟩
  | dic _ =>
    obtain ⟨z, e, r⟩ := r
    exact ⟨z, ha.trans e, r.tr E⟩
  | dtk _ =>
    obtain ⟨z, e, r, q⟩ := r
    exact ⟨z, ha.trans e, r.tr E, q⟩
  | ins c fs =>
    obtain ⟨C, dx, fv, g, e, r⟩ := r
    exact ⟨C, dx, fv, g, ha.trans e, r.tr E⟩
theorem OR.move {m' : Mp} {H' : Hp} (E : Ext m H m' H') {a : Addr} {o : Ob} (r : OR K mg wd m H a o) (ha : H' a = H a) : OR K mg wd m' H' a o := by
  cases o with
  | lst ts =>
    obtain ⟨vs, e, r⟩ := r
    exact ⟨vs, ha.trans e, r.ext E⟩
  | dic _ =>
    obtain ⟨z, e, r⟩ := r
    exact ⟨z, ha.trans e, r.tr E.tr⟩
  | dtk _ =>
    obtain ⟨z, e, r, q⟩ := r
    exact ⟨z, ha.trans e, r.tr E.tr, q⟩
  | ins c fs =>
    obtain ⟨C, dx, fv, g, e, r⟩ := r
    exact ⟨C, dx, fv, g, ha.trans e, r.ext E⟩
theorem HR.garbage (R : HR K mg wd m h H) {p : Addr} {o : HO} (hp : H p = none) : HR K mg wd m h (upd H p o) where
  dom := R.dom
  inj := R.inj
  ob := fun l u e => by
    obtain ⟨a, e1, r⟩ := R.ob l u e
    obtain ⟨w, hw, _⟩ := r.some
    exact ⟨a, e1, r.move (Ext.garbage R hp) (upd_ne (ne_of_none hw hp))⟩
def Mp.put (m : Mp) (l : Nat) (p : Addr) : Mp := fun k => if k = l then some p else m k
theorem Mp.put_same {l : Nat} {p : Addr} : m.put l p l = some p := by unfold Mp.put; rw [if_pos rfl]
theorem Mp.put_ne {l k : Nat} {p : Addr} (e : k ≠ l) : m.put l p k = m k := by unfold Mp.put; rw [if_neg e]
theorem Ext.alloc (R : HR K mg wd m h H) {p : Addr} {o : HO} (hp : H p = none) : Ext m H (m.put h.length p) (upd H p o) where
  mono := fun l a e => by rw [Mp.put_ne (Nat.ne_of_lt (R.dom l a e))]; exact e
  fresh := fun l a e => by
    by_cases hl : l = h.length
    · subst hl; rw [Mp.put_same] at e; cases e; exact .inr hp
    · rw [Mp.put_ne hl] at e; exact .inl e
  live := (Ext.garbage R hp).live
  keep := (Ext.garbage R hp).keep
  tups := (Ext.garbage R hp).tups
  frzs := (Ext.garbage R hp).frzs
  xds := (Ext.garbage R hp).xds
theorem HR.alloc (R : HR K mg wd m h H) {p : Addr} {o : HO} {u : Ob} (hp : H p = none) (new : OR K mg wd (m.put h.length p) (upd H p o) p u) : HR K mg wd (m.put h.length p) (h ++ [u]) (upd H p o) where
  dom := fun l a e => by
    rw [List.length_append, List.length_singleton]
    by_cases hl : l = h.length
    · omega
    · rw [Mp.put_ne hl] at e; have := R.dom l a e; omega
  inj := fun l l' a e e' => by
    by_cases hl : l = h.length
    · by_cases hl' : l' = h.length
      · rw [hl, hl']
      · rw [hl, Mp.put_same] at e; cases e
        rw [Mp.put_ne hl'] at e'
        obtain ⟨w, hw, _⟩ := R.tracked e'
        rw [hp] at hw; cases hw
    · by_cases hl' : l' = h.length
      · rw [hl', Mp.put_same] at e'; cases e'
        rw [Mp.put_ne hl] at e
        obtain ⟨w, hw, _⟩ := R.tracked e
        rw [hp] at hw; cases hw
      · rw [Mp.put_ne hl] at e; rw [Mp.put_ne hl'] at e'
        exact R.inj l l' a e e'
  ob := fun l w e => by
    by_cases hl : l < h.length
    · rw [List.getElem?_append_left hl] at e
      obtain ⟨a, e1, r⟩ := R.ob l w e
      obtain ⟨z, hz, _⟩ := r.some
      exact ⟨a, (Ext.alloc (o := o) R hp).mono l a e1, r.move (Ext.alloc R hp) (upd_ne (ne_of_none hz hp))⟩
    · have : l = h.length := by
        have := (List.getElem?_eq_some_iff.mp e).1
        rw [List.length_append, List.length_singleton] at this
        omega
      subst this
      simp at e
      subst e
      exact ⟨p, Mp.put_same, new⟩
theorem Ext.write (R : HR K mg wd m h H) {l : Nat} {a : Addr} {o : HO} (e : m l = some a) : Ext m H m (upd H a o) := by
  obtain ⟨u, hu, n1, n2, n3, n4⟩ := R.tracked e
  have ne : ∀ b w, H b = some w → b = a → w = u := fun b w q z => by subst z; rw [hu] at q; exact (Option.some.inj q).symm
  refine ⟨fun _ _ e => e, fun _ _ e => .inl e, fun b w q => ?_, fun b w q n => ?_, fun b vs q => ?_, fun b w v q => ?_, fun b fs q => ?_⟩
  · by_cases hb : b = a
    · exact ⟨o, by rw [hb]; exact upd_same⟩
    · exact ⟨w, by rw [upd_ne hb]; exact q⟩
  · rw [upd_ne (fun z => n l (by rw [z]; exact e))]; exact q
  · rw [upd_ne (fun z => n1 vs (ne b _ q z).symm)]; exact q
  · rw [upd_ne (fun z => n2 w v (ne b _ q z).symm)]; exact q
  · rw [upd_ne (fun z => n3 fs (ne b _ q z).symm)]; exact q
theorem HR.write (R : HR K mg wd m h H) {l : Nat} {a : Addr} {o : HO} {u : Ob} (e : m l = some a) (new : OR K mg wd m (upd H a o) a u) : HR K mg wd m (h.set l u) (upd H a o) where
  dom := fun k b q => by rw [List.length_set]; exact R.dom k b q
  inj := R.inj
  ob := fun k w q => by
    by_cases hk : l = k
    · subst hk
      rw [List.getElem?_set_self (R.dom l a e)] at q
      cases q
      exact ⟨a, e, new⟩
    · rw [List.getElem?_set_ne hk] at q
      obtain ⟨b, e1, r⟩ := R.ob k w q
      have hb : b ≠ a := fun z => hk (R.inj l k a e (z ▸ e1))
      exact ⟨b, e1, r.move (Ext.write R e) (upd_ne hb)⟩
theorem Tr.out {D : Addr} {vs ws : List V} (e : H D = some (.lst vs)) : Tr m H m (upd H D (.lst ws)) :=
  ⟨fun _ _ q => q, fun a us q => by rw [upd_ne (ne_of q e (by intro z; cases z))]; exact q, fun a o u q => by rw [upd_ne (ne_of q e (by intro z; cases z))]; exact q⟩
theorem HR.out (R : HR K mg wd m h H) {D : Addr} {vs ws : List V} (e : H D = some (.lst vs)) (n : ∀ l, m l ≠ some D) : HR K mg wd m h (upd H D (.lst ws)) where
  dom := R.dom
  inj := R.inj
  ob := fun l u q => by
    obtain ⟨a, e1, r⟩ := R.ob l u q
    exact ⟨a, e1, r.moveT (Tr.out e) (upd_ne (fun z => n l (by rw [← z]; exact e1)))⟩
theorem Ext.out {m0 : Mp} {H0 : Hp} (E : Ext m0 H0 m H) {D : Addr} {o : HO} (hD : H0 D = none) : Ext m0 H0 m (upd H D o) where
  mono := E.mono
  fresh := E.fresh
  live := fun a u e => by
    obtain ⟨w, q⟩ := E.live a u e
    exact ⟨w, by rw [upd_ne (ne_of_none e hD)]; exact q⟩
  keep := fun a u e n => by rw [upd_ne (ne_of_none e hD)]; exact E.keep a u e n
  tups := fun a u e => by rw [upd_ne (ne_of_none e hD)]; exact E.tups a u e
  frzs := fun a u w e => by rw [upd_ne (ne_of_none e hD)]; exact E.frzs a u w e
  xds := fun a u e => by rw [upd_ne (ne_of_none e hD)]; exact E.xds a u e
theorem HR.lst (R : HR K mg wd m h H) {l : Nat} {a : Addr} {ts : List T} (e : m l = some a) (hl : lstAt h l = some ts) : ∃ vs, H a = some (.lst vs) ∧ RTs K mg m H ts vs := by
  unfold lstAt at hl
  split at hl
  · cases hl
    rename_i q
    obtain ⟨b, e1, r⟩ := R.ob l _ q
    rw [e] at e1; cases e1
    exact r
  · cases hl
theorem HR.ins (R : HR K mg wd m h H) {l : Nat} {a : Addr} {c : Str} {fs : List (Str × T)} (e : m l = some a) (hl : insAt h l = some (c, fs)) : ∃ C dx fv, mg c = some (.ref C) ∧ H a = some (.ins C dx fv) ∧ RF K mg m H fs fv := by
  unfold insAt at hl
  split at hl
  · cases hl
    rename_i q
    obtain ⟨b, e1, r⟩ := R.ob l _ q
    rw [e] at e1; cases e1
    exact r
  · cases hl
end
structure Pq where
  p : Mp → Hp → Prop
  st : ∀ {m H m' H'}, Ext m H m' H' → p m H → p m' H'
def PqT : Pq := ⟨fun _ _ => True, fun _ _ => trivial⟩
section
variable (K : PySem.W.Frag) (mg : Str → Option Value) (wd : World)
def XR (m : Mp) (H : Hp) (c : Str) (fs : List (Str × T)) (cls : Value) (d : Option Addr) : Prop :=
  mg c = some cls ∧ ((fs = [] ∧ d = none) ∨ ∃ dd fv, d = some dd ∧ H dd = some (.xd fv) ∧ RF K mg m H fs fv)
def SR (m : Mp) (H : Hp) (σ : St3) (σV : St) : Prop := σ.length = σV.length ∧ ∀ (i : Nat) (t : T), σ[i]? = some (some t) → ∃ v : V, σV[i]? = some (some v) ∧ RT K mg m H t v
structure At (P : Pq) (m : Mp) (H : Hp) (σV : St) (σ : St3) (h : Hh) : Prop where
  sr : SR K mg m H σ σV
  hr : HR K mg wd m h H
  pr : P.p m H
def Out {α β : Type} (rel : Mp → Hp → α → β → Prop) (W : WX) (σV : St) (Q : β → Hp → Prop) (m : Mp) (H : Hp) : Res α → Prop
  | .ok a h' => ∀ b m' H', Ext m H m' H' → rel m' H' a b → HR K mg wd m' h' H' → Q b H'
  | .exc c fs h' => ∀ cls d m' H', Ext m H m' H' → XR K mg m' H' c fs cls d → HR K mg wd m' h' H' → W cls d σV H'
  | .stk => False
def tG {α β : Type} (rel : Mp → Hp → α → β → Prop) (P : Pq) (W : WX) (se : St3 → Hh → Res α) : St → Hp → (β → Hp → Prop) → Prop := fun σV H Q =>
  ∃ m h σ, At K mg wd P m H σV σ h ∧ Out K mg wd rel W σV Q m H (se σ h)
abbrev tI (P : Pq) (W : WX) (se : SE) : TE := tG K mg wd (RT K mg) P W se
abbrev tTst (P : Pq) (W : WX) (se : ST) : TT := tG K mg wd (fun _ _ a b => a = b) P W se
abbrev tAr (P : Pq) (W : WX) (se : SA) : TA := tG K mg wd (RTs K mg) P W se
end
section
variable {K : PySem.W.Frag} {mg : Str → Option Value} {wd : World} {m m' : Mp} {H H' : Hp} {h : Hh} {P : Pq} {W : WX} {σV : St} {σ : St3}
theorem SR.ext (E : Ext m H m' H') (r : SR K mg m H σ σV) : SR K mg m' H' σ σV := ⟨r.1, fun i t e => by
  obtain ⟨v, q, z⟩ := r.2 i t e
  exact ⟨v, q, z.ext E⟩⟩
theorem At.ext (E : Ext m H m' H') (a : At K mg wd P m H σV σ h) {h' : Hh} (R : HR K mg wd m' h' H') : At K mg wd P m' H' σV σ h' := ⟨a.sr.ext E, R, P.st E a.pr⟩
theorem Out.ext {α β : Type} {rel : Mp → Hp → α → β → Prop} {Q : β → Hp → Prop} {r : Res α} (E : Ext m H m' H') (o : Out K mg wd rel W σV Q m H r) : Out K mg wd rel W σV Q m' H' r := by
  cases r with
  | ok a h' => exact fun b m2 H2 E2 => o b m2 H2 (E.trans E2)
  | exc c fs h' => exact fun cls d m2 H2 E2 => o cls d m2 H2 (E.trans E2)
  | stk => exact o
theorem Out.mono {α β : Type} {rel : Mp → Hp → α → β → Prop} {Q Q' : β → Hp → Prop} {r : Res α} (hq : ∀ b H, Q b H → Q' b H) (o : Out K mg wd rel W σV Q m H r) : Out K mg wd rel W σV Q' m H r := by
  cases r with
  | ok a h' => exact fun b m2 H2 E r R => hq _ _ (o b m2 H2 E r R)
  | exc c fs h' => exact o
  | stk => exact o
theorem Out.bind {α β γ δ : Type} {rel : Mp → Hp → γ → δ → Prop} {rel1 : Mp → Hp → α → β → Prop} {Q : δ → Hp → Prop} {r : Res α} {f : α → Hh → Res γ} (o : Out K mg wd rel W σV Q m H (r.bind f)) :
    Out K mg wd rel1 W σV (fun b H1 => ∃ m1 h1 a, Ext m H m1 H1 ∧ rel1 m1 H1 a b ∧ HR K mg wd m1 h1 H1 ∧ Out K mg wd rel W σV Q m1 H1 (f a h1)) m H r := by
  cases r with
  | ok a h' => exact fun b m1 H1 E q R => ⟨m1, h', a, E, q, R, o.ext E⟩
  | exc c fs h' => exact o
  | stk => exact o
theorem tG.mono {α β : Type} {rel : Mp → Hp → α → β → Prop} {se : St3 → Hh → Res α} {Q Q' : β → Hp → Prop} (hq : ∀ b H, Q b H → Q' b H) (t : tG K mg wd rel P W se σV H Q) : tG K mg wd rel P W se σV H Q' := by
  obtain ⟨m, h, σ, a, o⟩ := t
  exact ⟨m, h, σ, a, o.mono hq⟩
theorem At.first {α β γ δ : Type} {rel : Mp → Hp → γ → δ → Prop} {rel1 : Mp → Hp → α → β → Prop} {Q : δ → Hp → Prop} {se : St3 → Hh → Res α} {f : α → Hh → Res γ} {Q1 : β → Hp → Prop} (A : At K mg wd P m H σV σ h) (o : Out K mg wd rel W σV Q m H ((se σ h).bind f))
    (k : ∀ m1 h1 a b H1, Ext m H m1 H1 → rel1 m1 H1 a b → At K mg wd P m1 H1 σV σ h1 → Out K mg wd rel W σV Q m1 H1 (f a h1) → Q1 b H1) : tG K mg wd rel1 P W se σV H Q1 := by
  refine ⟨m, h, σ, A, (Out.bind (rel1 := rel1) o).mono fun b H1 ⟨m1, h1, a, E, r, R, o1⟩ => k m1 h1 a b H1 E r (A.ext E R) o1⟩
theorem PE.imp {X : Cx} {e : Expr} {t t' : TE} (h : PE X e t) (k : ∀ σ H Q, t' σ H Q → t σ H Q) : PE X e t' := ⟨fun pins s σ H Q I hw => h.run pins s σ H Q I (k _ _ _ hw)⟩
theorem PT.imp {X : Cx} {e : Expr} {t t' : TT} (h : PT X e t) (k : ∀ σ H Q, t' σ H Q → t σ H Q) : PT X e t' := ⟨fun pins s σ H Q I hw => h.run pins s σ H Q I (k _ _ _ hw)⟩
theorem PW.imp {X : Cx} {e : Expr} {t t' : TT} (h : PW X e t) (k : ∀ σ H Q, t' σ H Q → t σ H Q) : PW X e t' := ⟨fun wh pins s σ H Q I hw => h.run wh pins s σ H Q I (k _ _ _ hw)⟩
theorem PA.imp {X : Cx} {e : List Expr} {t t' : TA} (h : PA X e t) (k : ∀ σ H Q, t' σ H Q → t σ H Q) : PA X e t' := ⟨fun pos pins s σ H Q I hw => h.run pos pins s σ H Q I (k _ _ _ hw)⟩
theorem PS.imp {X : Cx} {e : Stmt} {t t' : TS} (h : PS X e t) (k : ∀ D σ H, t' D σ H → t D σ H) : PS X e t' := ⟨fun pins s σ H D I hw => h.run pins s σ H D I (k _ _ _ hw)⟩
theorem PSs.imp {X : Cx} {e : List Stmt} {t t' : TS} (h : PSs X e t) (k : ∀ D σ H, t' D σ H → t D σ H) : PSs X e t' := ⟨fun pins s σ H D I hw => h.run pins s σ H D I (k _ _ _ hw)⟩
end
end W3
end

section
namespace W3
open PySem PySem.Spec PyProof.Rows
open L2
abbrev QN (Q : VK) (H : Hp) (xs : List V) : Prop := ∀ p ob, H p = none → ob.dict = none → Q (.ref p) (upd H p (.frz ob (.tup xs)))
section
variable {X : Cx} {pins : List (Addr × Obj)} {σ : L2.St} {H : Hp} {s : Shared} {Q : VK}
theorem ep_tup (I : L2.Inv X pins σ H s) {its : List Value} {xs : List V} (r : Vals xs its) (hz : xs.length ≤ sizeLine) (q : QN Q H xs) :
    EP X pins σ Q (.ref s.heap.objs.size) { s with heap := s.heap.push { cls := .type "tuple", data := .seq its.toArray } } :=
  ⟨.ref s.heap.objs.size, _, I.laid (t' := s.toks) (o := .frz { cls := .type "tuple", data := .seq its.toArray } (.tup xs)) (fun _ _ w => Heap.get?_push_of_some _ w) (Nat.le_refl _) ⟨Heap.get?_push_size _ rfl, hz, its, r, IsTup.new _ _⟩, rfl, q _ _ (I.hok.fresh (Nat.le_refl _)) rfl⟩
end
section
variable {X : Cx} {es : List Expr} {t : TA} {pos : Pos}
def tTupN (t : TA) : TE := fun σ H Q => t σ H fun xs H1 => xs.length ≤ sizeLine ∧ QN Q H1 xs
theorem pe_tupN {k} (h : PA X es t) : PE X (.Tuple es k pos) (tTupN t) := ⟨fun pins s σ H Q I hq =>
  wpAny_Tuple_spliced (thn (h.run pos pins s σ H _ I hq) fun us s1 ⟨xs, H1, I1, r, z, q⟩ => ⟨r.length ▸ z, ep_tup I1 r z q⟩)⟩
theorem sl_tupN : SlR X (fun x lo hi H Q => ∃ a xs, x = .ref a ∧ SqT X.K H a xs ∧ (HT.sIx xs.length 0 lo = 0 ∧ HT.sIx xs.length xs.length hi = xs.length → Q (.ref a) H) ∧
    (¬ (HT.sIx xs.length 0 lo = 0 ∧ HT.sIx xs.length xs.length hi = xs.length) → QN Q H (cutV xs lo hi))) := by
  intro pins s σ H x v vl vu lo hi sl Q I rx hs pl pu h
  obtain ⟨a, xs, rfl, hx, q1, q2⟩ := h
  cases rx
  obtain ⟨its, r, ht, hz⟩ := I.tuple hx
  have ln : its.toArray.size = xs.length := by rw [List.size_toArray]; exact r.length.symm
  refine ⟨"tuple", _, PyProof.Rows.slot_tuple_getitem.lookup, ht.typeIs, ?_⟩
  by_cases hw : HT.sIx xs.length 0 lo = 0 ∧ HT.sIx xs.length xs.length hi = xs.length
  · exact getItem_tuple_whole ht hs pl pu (by rw [ln]; exact hw) ⟨.ref a, _, I, rfl, q1 hw⟩
  · refine HT.getItem_tuple_cut ht hs pl pu (by rw [ln]; exact hw) ?_ (by rw [ln]; exact hz)
    rw [ln]
    exact ep_tup I ((r.drop (HT.sIx xs.length 0 lo)).take (HT.sIx xs.length xs.length hi - HT.sIx xs.length 0 lo)) (Nat.le_trans (cutV_length xs lo hi) hz) (q2 hw)
theorem op_catN : OpR X (binaryOp .Add) (fun x y H Q => ∃ a b xs ys, x = .ref a ∧ y = .ref b ∧ SqT X.K H a xs ∧ SqT X.K H b ys ∧ xs.length + ys.length ≤ sizeLine ∧
    (xs = [] → Q (.ref b) H) ∧ (xs ≠ [] → ys = [] → Q (.ref a) H) ∧ (xs ≠ [] → ys ≠ [] → QN Q H (xs ++ ys))) := by
  intro pins s σ H x y v u Q I rx ry h
  obtain ⟨a, b, xs, ys, rfl, rfl, ha, hb, hz, q0, q1, q2⟩ := h
  cases rx
  cases ry
  obtain ⟨its, r1, p1, _⟩ := I.tuple ha
  obtain ⟨its2, r2, p2, _⟩ := I.tuple hb
  by_cases hx : xs = []
  · subst hx
    cases r1
    exact cat_tup0 p1 p2 ⟨.ref b, _, I, rfl, q0 rfl⟩
  · exact HT.cat_tup p1 p2 (fun z => hx (r1.nil_iff.mp z)) (fun z => ⟨.ref a, _, I, rfl, q1 hx (r2.nil_iff.mp z)⟩) (fun z => ep_tup I (r1.append r2) (by rw [List.length_append]; exact hz) (q2 hx fun w => z (r2.nil_iff.mpr w))) (by rw [← r1.length, ← r2.length]; exact hz)
end
end W3
end

section
namespace W3
open PySem PySem.Spec PyProof.Rows
open L2
abbrev DE (X : Cx) (P : Pq) (W : WX) (e : Expr) (se : SE) : Prop := PE X e (tI X.K X.mg X.w P W se)
abbrev DT (X : Cx) (P : Pq) (W : WX) (e : Expr) (se : ST) : Prop := PT X e (tTst X.K X.mg X.w P W se)
abbrev DW (X : Cx) (P : Pq) (W : WX) (e : Expr) (se : ST) : Prop := PW X e (tTst X.K X.mg X.w P W se)
abbrev DA (X : Cx) (P : Pq) (W : WX) (es : List Expr) (se : SA) : Prop := PA X es (tAr X.K X.mg X.w P W se)
def OutP (K : PySem.W.Frag) (mg : Str → Option Value) (wd : World) (Q : VK) (m : Mp) (H : Hp) : Res T → Prop
  | .ok t h' => ∀ v m' H', Ext m H m' H' → RT K mg m' H' t v → HR K mg wd m' h' H' → Q v H'
  | _ => False
def NoX2 (f : T → T → Hh → Res T) : Prop := ∀ x y h c fs h', f x y h ≠ .exc c fs h'
def NoX1 (f : T → Hh → Res T) : Prop := ∀ x h c fs h', f x h ≠ .exc c fs h'
def NoXL (f : List T → Hh → Res T) : Prop := ∀ x h c fs h', f x h ≠ .exc c fs h'
theorem Out.outP {K : PySem.W.Frag} {mg : Str → Option Value} {wd : World} {W : WX} {σV : L2.St} {Q : VK} {m : Mp} {H : Hp} {r : Res T} (o : Out K mg wd (RT K mg) W σV Q m H r) (n : ∀ c fs h', r ≠ .exc c fs h') : OutP K mg wd Q m H r := by
  cases r with
  | ok t h' => exact o
  | exc c fs h' => exact absurd rfl (n c fs h')
  | stk => exact o
def rP2 (K : PySem.W.Frag) (mg : Str → Option Value) (wd : World) (f : T → T → Hh → Res T) : R2 := fun x y H Q => ∃ m h tx ty, RT K mg m H tx x ∧ RT K mg m H ty y ∧ HR K mg wd m h H ∧ OutP K mg wd Q m H (f tx ty h)
def rP1 (K : PySem.W.Frag) (mg : Str → Option Value) (wd : World) (f : T → Hh → Res T) : V → Hp → VK → Prop := fun x H Q => ∃ m h tx, RT K mg m H tx x ∧ HR K mg wd m h H ∧ OutP K mg wd Q m H (f tx h)
def rPL (K : PySem.W.Frag) (mg : Str → Option Value) (wd : World) (f : List T → Hh → Res T) : List V → Hp → VK → Prop := fun xs H Q => ∃ m h ts, RTs K mg m H ts xs ∧ HR K mg wd m h H ∧ OutP K mg wd Q m H (f ts h)
section
variable {X : Cx} {P : Pq} {W : WX} {a b c : Expr} {sa sb sc : SE} {pos : Pos}
theorem de_var {i : Nat} {x : Str} (hN : X.N[i]? = some x) (hv : Vis X.env.scope x) (hd : (x == ("__debug__" : Str)) = false := by decide) (hcd : (x == ("__classdict__" : Str)) = false := by decide) : DE X P W (.Name x pos) (sVar i) :=
  PE.imp (pe_var hN hv hd hcd) fun σV H Q ⟨m, h, σ, A, o⟩ => by
    unfold sVar at o
    split at o
    · rename_i t e
      obtain ⟨v, ev, r⟩ := A.sr.2 i t e
      exact ⟨v, ev, o v m H (Ext.refl _ _) r A.hr⟩
    · exact False.elim o
theorem de_c {t : T} {v : V} (h : PE X a (tC v)) (r : ∀ m H, RT X.K X.mg m H t v) : DE X P W a (sC t) :=
  PE.imp h fun σV H Q ⟨m, h, σ, A, o⟩ => o v m H (Ext.refl _ _) (r _ _) A.hr
theorem de_int {i j} : DE X P W (.Constant (.int i) j pos) (sC (.int i)) := de_c pe_int fun _ _ => .int i
theorem de_bl {i j} : DE X P W (.Constant (.bool i) j pos) (sC (.bl i)) := de_c pe_bl fun _ _ => .bl i
theorem de_str {x : Str} {j} (h : PyData.strOk x = true := by decide +kernel) : DE X P W (.Constant (.str x) j pos) (sC (.str x)) := de_c pe_str fun _ _ => .str h
theorem de_glob {x : Str} {t : T} {v : V} {u : Value} (hg : Gl X x) (hm : X.mg x = some u) (r : RelV v u) (rt : ∀ m H, RT X.K X.mg m H t v) (hd : (x == ("__debug__" : Str)) = false := by decide) : DE X P W (.Name x pos) (sC t) :=
  de_c (pe_glob hg hm r hd) rt
theorem two {f : T → T → Hh → Res T} (hf : NoX2 f) {σV : L2.St} {H : Hp} {Q : VK} (h : tI X.K X.mg X.w P W (s2 f sa sb) σV H Q) :
    tI X.K X.mg X.w P W sa σV H fun x H1 => tI X.K X.mg X.w P W sb σV H1 fun y H2 => rP2 X.K X.mg X.w f x y H2 Q := by
  obtain ⟨m, h, σ, A, o⟩ := h
  refine A.first (rel1 := RT X.K X.mg) o fun m1 h1 t1 x H1 E1 r1 A1 o1 => ?_
  refine A1.first (rel1 := RT X.K X.mg) o1 fun m2 h2 t2 y H2 E2 r2 A2 o2 => ?_
  exact ⟨m2, h2, t1, t2, r1.ext E2, r2, A2.hr, o2.outP (hf t1 t2 h2)⟩
theorem one {f : T → Hh → Res T} (hf : NoX1 f) {σV : L2.St} {H : Hp} {Q : VK} (h : tI X.K X.mg X.w P W (s1 f sa) σV H Q) :
    tI X.K X.mg X.w P W sa σV H fun x H1 => rP1 X.K X.mg X.w f x H1 Q := by
  obtain ⟨m, h, σ, A, o⟩ := h
  refine A.first (rel1 := RT X.K X.mg) o fun m1 h1 t1 x H1 E1 r1 A1 o1 => ?_
  exact ⟨m1, h1, t1, r1, A1.hr, o1.outP (hf t1 h1)⟩
theorem de_op {op : Operator} {f : T → T → Hh → Res T} (ho : OpR X (binaryOp op) (rP2 X.K X.mg X.w f)) (hf : NoX2 f) (ha : DE X P W a sa) (hb : DE X P W b sb) : DE X P W (.BinOp a op b pos) (s2 f sa sb) :=
  PE.imp (pe_op ho ha hb) fun σV H Q h => two hf h
theorem de_cmp {op : CmpOp} {f : T → T → Hh → Res T} (ho : OpR X (compareOp op) (rP2 X.K X.mg X.w f)) (hf : NoX2 f) (ha : DE X P W a sa) (hb : DE X P W b sb) (hm : behindInMarks op b = false) : DE X P W (.Compare a [op] [b] pos) (s2 f sa sb) :=
  PE.imp (pe_cmpR ho ha hb hm) fun σV H Q h => two hf h
theorem dt_cmp {op : CmpOp} {f : T → T → Hh → Res T} (ho : OpR X (compareOp op) (rP2 X.K X.mg X.w f)) (hf : NoX2 f) (ha : DE X P W a sa) (hb : DE X P W b sb) (hm : behindInMarks op b = false) : DT X P W (.Compare a [op] [b] pos) (sT (s2 f sa sb)) :=
  PT.imp (pt_cmpR ho ha hb hm) fun σV H Q ⟨m, h, σ, A, o⟩ => by
    refine two hf (A.first (rel1 := RT X.K X.mg) o fun m1 h1 t x H1 E1 r A1 o1 => ?_)
    cases r with
    | bl k => exact ⟨k, rfl, o1 k m1 H1 (Ext.refl _ _) rfl A1.hr⟩
    | _ => exact False.elim o1
theorem nx_add : NoX2 oAdd := fun x y h c fs h' e => by
  unfold oAdd alloc at e
  (repeat' split at e) <;> cases e
theorem nx_mod : NoX2 oMod := fun x y h c fs h' e => by unfold oMod at e; (repeat' split at e) <;> cases e
theorem nx_div : NoX2 oDiv := fun x y h c fs h' e => by unfold oDiv at e; (repeat' split at e) <;> cases e
theorem nx_gt : NoX2 oGt := fun x y h c fs h' e => by unfold oGt at e; (repeat' split at e) <;> cases e
theorem nx_eq : NoX2 oEq := fun x y h c fs h' e => by unfold oEq at e; (repeat' split at e) <;> cases e
theorem nx_ne : NoX2 oNe := fun x y h c fs h' e => by unfold oNe at e; (repeat' split at e) <;> cases e
theorem nx_in : NoX2 oIn := fun x y h c fs h' e => by unfold oIn at e; (repeat' split at e) <;> cases e
theorem nx_notin : NoX2 oNotIn := fun x y h c fs h' e => by unfold oNotIn at e; (repeat' split at e) <;> cases e
theorem nx_ix : NoX2 oIx := fun x y h c fs h' e => by unfold oIx at e; (repeat' split at e) <;> cases e
theorem os_int {sem : Value → Value → Sem Value} {C : Int → Int → Prop} {g : Int → Int → V} {gt : Int → Int → T} {f : T → T → Hh → Res T} (ho : OpR X sem (rI C g)) (hg : ∀ i j m H, RT X.K X.mg m H (gt i j) (g i j))
    (hf : ∀ x y h t h', f x y h = .ok t h' → ∃ i j, x = .int i ∧ y = .int j ∧ C i j ∧ t = gt i j ∧ h' = h) : OpR X sem (rP2 X.K X.mg X.w f) := by
  intro pins s σ H x y v u Q I rx ry ⟨m, h, tx, ty, r1, r2, R, o⟩
  cases e : f tx ty h with
  | ok t h' =>
    rw [e] at o
    obtain ⟨i, j, rfl, rfl, hc, rfl, rfl⟩ := hf _ _ _ _ _ e
    cases r1
    cases r2
    exact ho pins s σ H _ _ v u Q I rx ry ⟨i, j, rfl, rfl, hc, o _ m H (Ext.refl _ _) (hg i j m H) R⟩
  | exc c fs h' => rw [e] at o; exact False.elim o
  | stk => rw [e] at o; exact False.elim o
theorem rI_of0 {sem : Value → Value → Sem Value} {g : Int → Int → V} (ho : OpR X sem (rI0 g)) : OpR X sem (rI (fun _ _ => True) g) := by
  intro pins s σ H x y v u Q I rx ry ⟨i, j, e1, e2, _, q⟩
  exact ho pins s σ H x y v u Q I rx ry ⟨i, j, e1, e2, q⟩
theorem os_mod : OpR X (binaryOp .Mod) (rP2 X.K X.mg X.w oMod) := os_int (gt := fun i j => .int (i % j)) op_mod (fun _ _ _ _ => .int _) fun x y h t h' e => by
  unfold oMod at e; split at e
  · split at e
    · rename_i hc; cases e; exact ⟨_, _, rfl, rfl, hc, rfl, rfl⟩
    · cases e
  · cases e
theorem os_div : OpR X (binaryOp .FloorDiv) (rP2 X.K X.mg X.w oDiv) := os_int (gt := fun i j => .int (i / j)) op_fdiv (fun _ _ _ _ => .int _) fun x y h t h' e => by
  unfold oDiv at e; split at e
  · split at e
    · rename_i hc; cases e; exact ⟨_, _, rfl, rfl, hc, rfl, rfl⟩
    · cases e
  · cases e
theorem os_gt : OpR X (compareOp .Gt) (rP2 X.K X.mg X.w oGt) := os_int (gt := fun i j => .bl (decide (j < i))) (rI_of0 op_gt) (fun _ _ _ _ => .bl _) fun x y h t h' e => by
  unfold oGt at e; split at e
  · cases e; exact ⟨_, _, rfl, rfl, trivial, rfl, rfl⟩
  · cases e
theorem OutP.newTup {K : PySem.W.Frag} {mg : Str → Option Value} {wd : World} {Q : VK} {m : Mp} {H : Hp} {h : Hh} {ts : List T} {vs : List V} (R : HR K mg wd m h H) (r : RTs K mg m H ts vs) (o : OutP K mg wd Q m H (.ok (.tup ts) h)) {p : Addr} {ob : Obj} (hp : H p = none) (hd : ob.dict = none) : Q (.ref p) (upd H p (.frz ob (.tup vs))) :=
  o _ m _ (Ext.garbage R hp) (.tup (.inl ⟨ob, upd_same, hd⟩) (r.ext (Ext.garbage R hp))) (R.garbage hp)
theorem OutP.newLst {K : PySem.W.Frag} {mg : Str → Option Value} {wd : World} {Q : VK} {m : Mp} {H : Hp} {h : Hh} {ts : List T} {vs : List V} (R : HR K mg wd m h H) (r : RTs K mg m H ts vs) (o : OutP K mg wd Q m H (alloc (.lst ts) h)) {p : Addr} (hp : H p = none) : Q (.ref p) (upd H p (.lst vs)) :=
  o _ _ _ (Ext.alloc R hp) (.ref Mp.put_same) (R.alloc hp ⟨vs, upd_same, r.ext (Ext.alloc R hp)⟩)
theorem strOk_append {x y : Str} (hx : PyData.strOk x = true) (hy : PyData.strOk y = true) : PyData.strOk (x ++ y) = true := by
  unfold PyData.strOk at *
  show (x.cps ++ y.cps).all _ = true
  rw [Array.all_append, hx, hy]; rfl
theorem os_add : OpR X (binaryOp .Add) (rP2 X.K X.mg X.w oAdd) := by
  intro pins s σ H x y v u Q I rx ry ⟨m, h, tx, ty, r1, r2, R, o⟩
  cases r1 with
  | int i =>
    cases r2 with
    | int j => exact op_add pins s σ H _ _ v u Q I rx ry ⟨i, j, rfl, rfl, o _ m H (Ext.refl _ _) (.int _) R⟩
    | _ => exact False.elim o
  | str hi =>
    cases r2 with
    | str hj =>
      rename_i i j
      have o' : OutP X.K X.mg X.w Q m H (if i.length + j.length ≤ sizeLine then .ok (.str (i ++ j)) h else .stk) := o
      split at o'
      · rename_i hz; exact op_add_str pins s σ H _ _ v u Q I rx ry ⟨_, _, rfl, rfl, hz, o' _ m H (Ext.refl _ _) (.str (strOk_append hi hj)) R⟩
      · exact False.elim o'
    | _ => exact False.elim o
  | tup ha r =>
    cases r2 with
    | tup hb q =>
      rename_i a vs xs b ws ys
      have o' : OutP X.K X.mg X.w Q m H (if xs.length + ys.length ≤ sizeLine then .ok (.tup (xs ++ ys)) h else .stk) := o
      split at o'
      · rename_i hz
        rw [r.length, q.length] at hz
        refine op_catN pins s σ H _ _ v u Q I rx ry ⟨_, _, _, _, rfl, rfl, ha, hb, hz, fun e => ?_, fun e1 e2 => ?_, fun e1 e2 p ob hp hd => ?_⟩
        · subst e; cases r; exact o' _ m H (Ext.refl _ _) (.tup hb q) R
        · subst e2; cases q; rw [List.append_nil] at o'; exact o' _ m H (Ext.refl _ _) (.tup ha r) R
        · exact OutP.newTup R (r.append q) o' hp hd
      · exact False.elim o'
    | _ => exact False.elim o
  | ref e1 =>
    cases r2 with
    | ref e2 =>
      rename_i l a k b
      have o' : OutP X.K X.mg X.w Q m H (match lstAt h l, lstAt h k with
        | some xs, some zs => if xs.length + zs.length ≤ sizeLine then alloc (.lst (xs ++ zs)) h else .stk
        | _, _ => .stk) := o
      split at o'
      · rename_i xs zs q1 q2
        split at o'
        · rename_i hz
          obtain ⟨vs, g1, r1⟩ := R.lst e1 q1
          obtain ⟨ws, g2, r2⟩ := R.lst e2 q2
          rw [r1.length, r2.length] at hz
          exact op_cat pins s σ H _ _ v u Q I rx ry ⟨_, _, _, _, rfl, rfl, g1, g2, hz, fun p hp => OutP.newLst R (r1.append r2) o' hp⟩
        · exact False.elim o'
      · exact False.elim o'
    | _ => exact False.elim o
  | _ => exact False.elim o
end
end W3
end

section
namespace W3
open PySem PySem.Spec PyProof.Rows
open L2
section
variable {K : PySem.W.Frag} {mg : Str → Option Value} {wd : World} {m : Mp} {H : Hp} {h : Hh}
theorem optL_dp {n : Nat} {f : T → Option PyData} (hf : ∀ t v d, RT K mg m H t v → f t = some d → Dp K H v d ∧ d.canLay0 = true ∧ d.depth ≤ n) :
    ∀ {ts : List T} {vs : List V} {ds : List PyData}, RTs K mg m H ts vs → optL f ts = some ds → DpAll K H vs ds ∧ PyData.canLayAll0 ds = true ∧ PyData.depthAll ds ≤ n
  | _, _, _, .nil, e => by cases e; exact ⟨.nil, by simp [PyData.canLayAll0], by simp [PyData.depthAll]⟩
  | _, _, _, .cons (t := t) (ts := ts) r q, e => by
    unfold optL at e
    cases h1 : f t with
    | none => rw [h1] at e; simp at e
    | some d =>
      cases h2 : optL f ts with
      | none => rw [h1, h2] at e; simp at e
      | some ds =>
        rw [h1, h2] at e
        cases e
        obtain ⟨a1, a2, a3⟩ := hf _ _ _ r h1
        obtain ⟨b1, b2, b3⟩ := optL_dp hf q h2
        refine ⟨.cons a1 b1, by simp [PyData.canLayAll0, a2, b2], ?_⟩
        simp only [PyData.depthAll]
        omega
theorem toD_dp (R : HR K mg wd m h H) : ∀ (n : Nat) (t : T) (v : V) (d : PyData), RT K mg m H t v → toD h n t = some d → Dp K H v d ∧ d.canLay0 = true ∧ d.depth ≤ n
  | 0, _, _, _, _, e => by simp [toD] at e
  | n + 1, _, _, d, r, e => by
    have ih := toD_dp R n
    cases r with
    | non => cases e; exact ⟨.non, by simp [PyData.canLay0], by simp [PyData.depth]⟩
    | bl b => cases e; exact ⟨.bl b, by simp [PyData.canLay0], by simp [PyData.depth]⟩
    | int b => cases e; exact ⟨.int b, by simp [PyData.canLay0], by simp [PyData.depth]⟩
    | str b => cases e; exact ⟨.str _, by simpa [PyData.canLay0] using b, by simp [PyData.depth]⟩
    | @tup a vs ts hq rr =>
      have e' : (optL (toD h n) ts).map PyData.tuple = some d := e
      cases q : optL (toD h n) ts with
      | none => rw [q] at e'; cases e'
      | some ds =>
        rw [q] at e'; cases e'
        obtain ⟨b1, b2, b3⟩ := optL_dp ih rr q
        exact ⟨.tup hq b1, by simpa [PyData.canLay0] using b2, by simp only [PyData.depth]; omega⟩
    | @fl a vs ts hq rr =>
      have e' : (optL (toD h n) ts).map PyData.list = some d := e
      cases q : optL (toD h n) ts with
      | none => rw [q] at e'; cases e'
      | some ds =>
        rw [q] at e'; cases e'
        obtain ⟨b1, b2, b3⟩ := optL_dp ih rr q
        exact ⟨.lst hq.sq b1, by simpa [PyData.canLay0] using b2, by simp only [PyData.depth]; omega⟩
    | @ref l a hq =>
      have e' : (match h[l]? with | some (.lst ts) => (optL (toD h n) ts).map PyData.list | _ => none) = some d := e
      split at e'
      · rename_i ts hl
        obtain ⟨vs, g, rr⟩ := R.lst hq (show lstAt h l = some ts by unfold lstAt; rw [hl])
        cases q : optL (toD h n) ts with
        | none => rw [q] at e'; cases e'
        | some ds =>
          rw [q] at e'; cases e'
          obtain ⟨b1, b2, b3⟩ := optL_dp ih rr q
          exact ⟨.lst (SqL.of g) b1, by simpa [PyData.canLay0] using b2, by simp only [PyData.depth]; omega⟩
      · cases e'
    | cls hq => cases e
theorem toD_shaped (R : HR K mg wd m h H) {t : T} {v : V} {d : PyData} (r : RT K mg m H t v) (e : toD h 24 t = some d) : Dp K H v d ∧ SeqAt.shaped d = true := by
  obtain ⟨a, b, c⟩ := toD_dp R 24 t v d r e
  refine ⟨a, ?_⟩
  unfold SeqAt.shaped
  rw [b, decide_eq_true (by omega : d.depth ≤ 64)]
  rfl
end
section
variable {X : Cx} {P : Pq} {W : WX} {a b c : Expr} {sa sb sc : SE} {pos : Pos} {es : List Expr} {ar : SA} {ta tb : ST} {rest : List Expr}
theorem os_eq (hu : X.A.units + 65 < cLine) : OpR X (compareOp .Eq) (rP2 X.K X.mg X.w oEq) := by
  intro pins s σ H x y v u Q I rx ry ⟨m, h, tx, ty, r1, r2, R, o⟩
  unfold oEq at o
  split at o
  · rename_i d e q1 q2
    obtain ⟨d1, s1⟩ := toD_shaped R r1 q1
    obtain ⟨d2, s2⟩ := toD_shaped R r2 q2
    exact op_eqD (by omega) pins s σ H x y v u Q I rx ry ⟨d, e, d1, d2, s1, s2, o _ m H (Ext.refl _ _) (.bl _) R⟩
  · exact False.elim o
theorem os_ne (hu : X.A.units + 65 < cLine) : OpR X (compareOp .NotEq) (rP2 X.K X.mg X.w oNe) := by
  intro pins s σ H x y v u Q I rx ry ⟨m, h, tx, ty, r1, r2, R, o⟩
  unfold oNe at o
  split at o
  · rename_i d e q1 q2
    obtain ⟨d1, s1⟩ := toD_shaped R r1 q1
    obtain ⟨d2, s2⟩ := toD_shaped R r2 q2
    exact op_neD (by omega) pins s σ H x y v u Q I rx ry ⟨d, e, d1, d2, s1, s2, o _ m H (Ext.refl _ _) (.bl _) R⟩
  · exact False.elim o
theorem in_run (hu : X.A.units + 65 < cLine) {pins : List (Addr × Obj)} {s : Shared} {σ : L2.St} {H : Hp} {x y : V} {v u : Value} {m : Mp} {h : Hh} {tx ty : T} {k : Bool} (I : L2.Inv X pins σ H s) (rx : RelV x v) (ry : RelV y u) (r1 : RT X.K X.mg m H tx x)
    (r2 : RT X.K X.mg m H ty y) (R : HR X.K X.mg X.w m h H) (e : inT tx ty h = some k) {Q : Value → Shared → Prop} (q : Q (.bool k) s) : wpAny (model X.prog X.w) X.A (compareOp .In v u) Q X.xe s := by
  have deep : (match toD h 24 tx, toD h 24 ty with
    | some d, some (.list ds) => some (ds.any fun z => PyData.eqv z d)
    | some d, some (.tuple ds) => some (ds.any fun z => PyData.eqv z d)
    | _, _ => none) = some k → wpAny (model X.prog X.w) X.A (compareOp .In v u) Q X.xe s := by
    intro e
    split at e
    · rename_i d ds q1 q2
      cases e
      obtain ⟨d1, s1⟩ := toD_shaped R r1 q1
      obtain ⟨d2, s2⟩ := toD_shaped R r2 q2
      obtain ⟨as, p1⟩ := Dp.reads I d x v d1 rx
      obtain ⟨bs, p2⟩ := Dp.reads I (.list ds) y u d2 ry
      exact SeqAt.in_list_reads p2 p1 (SeqAt.canLay_of_shaped s2) (SeqAt.canLay_of_shaped s1) (room_in_shaped s1 hu) q
    · rename_i d ds q1 q2
      cases e
      obtain ⟨d1, s1⟩ := toD_shaped R r1 q1
      obtain ⟨d2, s2⟩ := toD_shaped R r2 q2
      obtain ⟨as, p1⟩ := Dp.reads I d x v d1 rx
      obtain ⟨bs, p2⟩ := Dp.reads I (.tuple ds) y u d2 ry
      exact SeqAt.in_tuple_reads p2 p1 (SeqAt.canLay_of_shaped s2) (SeqAt.canLay_of_shaped s1) (room_in_shaped s1 hu) q
    · cases e
  cases r1 with
  | str h1 =>
    cases r2 with
    | str h2 =>
      cases e
      obtain ⟨t, rfl⟩ := rx
      obtain ⟨t', rfl⟩ := ry
      exact in_str q
    | _ => exact deep e
  | _ => exact deep e
theorem os_in (hu : X.A.units + 65 < cLine) : OpR X (compareOp .In) (rP2 X.K X.mg X.w oIn) := by
  intro pins s σ H x y v u Q I rx ry ⟨m, h, tx, ty, r1, r2, R, o⟩
  unfold oIn at o
  split at o
  · rename_i k q
    exact in_run hu I rx ry r1 r2 R q ⟨.bl k, H, I, rfl, o _ m H (Ext.refl _ _) (.bl _) R⟩
  · exact False.elim o
theorem notin_run (hu : X.A.units + 65 < cLine) {pins : List (Addr × Obj)} {s : Shared} {σ : L2.St} {H : Hp} {x y : V} {v u : Value} {m : Mp} {h : Hh} {tx ty : T} {k : Bool} (I : L2.Inv X pins σ H s) (rx : RelV x v) (ry : RelV y u) (r1 : RT X.K X.mg m H tx x)
    (r2 : RT X.K X.mg m H ty y) (R : HR X.K X.mg X.w m h H) (e : inT tx ty h = some k) {Q : Value → Shared → Prop} (q : Q (.bool (!k)) s) : wpAny (model X.prog X.w) X.A (compareOp .NotIn v u) Q X.xe s := by
  have deep : (match toD h 24 tx, toD h 24 ty with
    | some d, some (.list ds) => some (ds.any fun z => PyData.eqv z d)
    | some d, some (.tuple ds) => some (ds.any fun z => PyData.eqv z d)
    | _, _ => none) = some k → wpAny (model X.prog X.w) X.A (compareOp .NotIn v u) Q X.xe s := by
    intro e
    split at e
    · rename_i d ds q1 q2
      cases e
      obtain ⟨d1, s1⟩ := toD_shaped R r1 q1
      obtain ⟨d2, s2⟩ := toD_shaped R r2 q2
      obtain ⟨as, p1⟩ := Dp.reads I d x v d1 rx
      obtain ⟨bs, p2⟩ := Dp.reads I (.list ds) y u d2 ry
      exact SeqAt.notIn_list_reads p2 p1 (SeqAt.canLay_of_shaped s2) (SeqAt.canLay_of_shaped s1) (room_in_shaped s1 hu) q
    · rename_i d ds q1 q2
      cases e
      obtain ⟨d1, s1⟩ := toD_shaped R r1 q1
      obtain ⟨d2, s2⟩ := toD_shaped R r2 q2
      obtain ⟨as, p1⟩ := Dp.reads I d x v d1 rx
      obtain ⟨bs, p2⟩ := Dp.reads I (.tuple ds) y u d2 ry
      exact SeqAt.notIn_tuple_reads p2 p1 (SeqAt.canLay_of_shaped s2) (SeqAt.canLay_of_shaped s1) (room_in_shaped s1 hu) q
    · cases e
  cases r1 with
  | str h1 =>
    cases r2 with
    | str h2 =>
      cases e
      obtain ⟨t, rfl⟩ := rx
      obtain ⟨t', rfl⟩ := ry
      exact notIn_str q
    | _ => exact deep e
  | _ => exact deep e
theorem os_notin (hu : X.A.units + 65 < cLine) : OpR X (compareOp .NotIn) (rP2 X.K X.mg X.w oNotIn) := by
  intro pins s σ H x y v u Q I rx ry ⟨m, h, tx, ty, r1, r2, R, o⟩
  unfold oNotIn at o
  split at o
  · rename_i k q
    exact notin_run hu I rx ry r1 r2 R q ⟨.bl (!k), H, I, rfl, o _ m H (Ext.refl _ _) (.bl _) R⟩
  · exact False.elim o
theorem nx_isnot : NoX2 oIsNot := fun x y h c fs h' e => by unfold oIsNot at e; (repeat' split at e) <;> cases e
theorem isNon_iff {m : Mp} {H : Hp} {t : T} {v : V} (r : RT X.K X.mg m H t v) : decide (v = .non) = isNonT t := by
  cases r <;> first | rfl | simp [isNonT]
theorem os_isnot : OpR X (compareOp .IsNot) (rP2 X.K X.mg X.w oIsNot) := by
  intro pins s σ H x y v u Q I rx ry ⟨m, h, tx, ty, r1, r2, R, o⟩
  cases r2 with
  | non =>
    have o' : OutP X.K X.mg X.w Q m H (.ok (.bl (!isNonT tx)) h) := o
    refine op_notN pins s σ H x _ v u Q I rx ry ⟨rfl, ?_⟩
    rw [isNon_iff r1]
    exact o' _ m H (Ext.refl _ _) (.bl _) R
  | bl k =>
    cases r1 with
    | bl j => exact op_notBl pins s σ H _ _ v u Q I rx ry ⟨j, k, rfl, rfl, o _ m H (Ext.refl _ _) (.bl _) R⟩
    | _ => exact False.elim o
  | _ => exact False.elim o
theorem dt_val (ha : DE X P W a sa) (he : ∀ whole, isTrue a X.env whole = (do let v ← whole; standAt a.pos; holding [v] (truthy v)) := by intro _; rfl) : DT X P W a (sT sa) :=
  PT.imp (pt_val ha he) fun σV H Q ⟨m, h, σ, A, o⟩ => by
    refine A.first (rel1 := RT X.K X.mg) o fun m1 h1 t x H1 E1 r A1 o1 => ?_
    cases r with
    | bl k => exact ⟨k, rfl, o1 k m1 H1 (Ext.refl _ _) rfl A1.hr⟩
    | _ => exact False.elim o1
theorem tt_or {σV : L2.St} {H : Hp} {Q : Bool → Hp → Prop} (h : tTst X.K X.mg X.w P W (stOr ta tb) σV H Q) : tOr (tTst X.K X.mg X.w P W ta) (tTst X.K X.mg X.w P W tb) σV H Q := by
  obtain ⟨m, h, σ, A, o⟩ := h
  refine A.first (rel1 := fun _ _ a b => a = b) o fun m1 h1 t x H1 E1 r A1 o1 => ?_
  subst r
  cases t with
  | true => rw [if_pos rfl]; rw [if_pos rfl] at o1; exact o1 _ m1 H1 (Ext.refl _ _) rfl A1.hr
  | false => rw [if_neg Bool.false_ne_true]; rw [if_neg Bool.false_ne_true] at o1; exact ⟨m1, h1, σ, A1, o1⟩
theorem dw_or1 (ha : DT X P W a ta) : DW X P W (.BoolOp .Or [a] pos) ta := pw_or1 ha
theorem dw_or (ha : DT X P W a ta) (hb : DW X P W (.BoolOp .Or (b :: rest) pos) tb) : DW X P W (.BoolOp .Or (a :: b :: rest) pos) (stOr ta tb) := PW.imp (pw_or ha hb) fun _ _ _ h => tt_or h
theorem dt_w {e : Expr} (h : DW X P W e ta) : DT X P W e ta := h.pt
theorem dt_not (ha : DT X P W a ta) : DT X P W (.UnaryOp .Not a pos) (stNot ta) := PT.imp (pt_not ha) fun σV H Q ⟨m, h, σ, A, o⟩ => by
  refine A.first (rel1 := fun _ _ a b => a = b) o fun m1 h1 t x H1 E1 r A1 o1 => ?_
  subst r
  exact o1 _ m1 H1 (Ext.refl _ _) rfl A1.hr
theorem de_and1 (ha : DE X P W a sa) : DE X P W (.BoolOp .And [a] pos) sa := pe_one ha
theorem de_and (ha : DE X P W a sa) (hb : DE X P W (.BoolOp .And (b :: rest) pos) sb) : DE X P W (.BoolOp .And (a :: b :: rest) pos) (sIf (sT sa) sb (sC (.bl false))) :=
  PE.imp (pe_and ha hb) fun σV H Q ⟨m, h, σ, A, o⟩ => by
    have o' : Out X.K X.mg X.w (RT X.K X.mg) W σV Q m H ((sa σ h).bind fun t h1 => match t with | .bl k => (if k = true then sb σ h1 else .ok (.bl false) h1) | _ => .stk) := by
      have e : sIf (sT sa) sb (sC (.bl false)) σ h = ((sa σ h).bind fun t h1 => match t with | .bl k => (if k = true then sb σ h1 else .ok (.bl false) h1) | _ => .stk) := by
        unfold sIf sT sC
        cases sa σ h with
        | ok t h1 => cases t <;> rfl
        | exc c fs h1 => rfl
        | stk => rfl
      rw [e] at o; exact o
    refine A.first (rel1 := RT X.K X.mg) o' fun m1 h1 t x H1 E1 r A1 o1 => ?_
    cases r with
    | bl k =>
      refine ⟨k, rfl, ?_⟩
      cases k with
      | true => exact ⟨m1, h1, σ, A1, o1⟩
      | false => exact o1 _ m1 H1 (Ext.refl _ _) (.bl _) A1.hr
    | _ => exact False.elim o1
theorem da_nil : DA X P W [] saNil := PA.imp pa_nil fun σV H Q ⟨m, h, σ, A, o⟩ => o [] m H (Ext.refl _ _) .nil A.hr
theorem da_cons (ha : DE X P W a sa) (hr : DA X P W es ar) (hs : starEach (a :: es) X.env = (false, eval a X.env) :: starEach es X.env := by rfl) : DA X P W (a :: es) (saCons sa ar) :=
  PA.imp (pa_cons ha hr hs) fun σV H Q ⟨m, h, σ, A, o⟩ => by
    refine A.first (rel1 := RT X.K X.mg) o fun m1 h1 t1 x H1 E1 r1 A1 o1 => ?_
    refine A1.first (rel1 := RTs X.K X.mg) o1 fun m2 h2 t2 y H2 E2 r2 A2 o2 => ?_
    exact o2 _ m2 H2 (Ext.refl _ _) (.cons (r1.ext E2) r2) A2.hr
theorem de_tup {x1} (h : DA X P W es ar) : DE X P W (.Tuple es x1 pos) (sTup ar) := PE.imp (pe_tupN h) fun σV H Q ⟨m, h, σ, A, o⟩ => by
  refine A.first (rel1 := RTs X.K X.mg) o fun m1 h1 t1 x H1 E1 r1 A1 o1 => ?_
  split at o1
  · rename_i hz
    refine ⟨by rw [← r1.length]; exact hz, fun p ob hp hd => ?_⟩
    exact OutP.newTup A1.hr r1 (o1.outP (fun _ _ _ z => by cases z)) hp hd
  · exact False.elim o1
theorem de_lst (h : DA X P W es ar) : DE X P W (.List es pos) (sLst ar) := PE.imp (pe_lst h) fun σV H Q ⟨m, h, σ, A, o⟩ => by
  refine A.first (rel1 := RTs X.K X.mg) o fun m1 h1 t1 x H1 E1 r1 A1 o1 => ?_
  split at o1
  · rename_i hz
    refine ⟨by rw [← r1.length]; exact hz, fun p hp => ?_⟩
    exact OutP.newLst A1.hr r1 (o1.outP (fun _ _ _ z => by cases z)) hp
  · exact False.elim o1
end
end W3
end

section
namespace W3
open PySem PySem.Spec PyProof.Rows
open L2
section
variable {X : Cx} {P : Pq} {W : WX} {a b c : Expr} {sa sb sc : SE} {pos p2 : Pos} {es : List Expr} {ar : SA} {ta tb : ST} {rest : List Expr}
theorem RTs.atI {m : Mp} {H : Hp} {ts : List T} {vs : List V} (r : RTs X.K X.mg m H ts vs) {i : Int} {t : T} (e : L2.atI ts i = some t) : ∃ v, L2.atI vs i = some v ∧ RT X.K X.mg m H t v := by
  unfold L2.atI at e ⊢
  rw [← r.length]
  cases q : ixN ts.length i with
  | none => rw [q] at e; cases e
  | some j =>
    rw [q] at e
    exact r.get (show ts[j]? = some t from e)
theorem strOk_one {c : Nat} {z : Str} (hz : PyData.strOk z = true) {i : Int} (e : L2.atI z.cps.toList i = some c) : PyData.strOk ⟨#[c]⟩ = true := by
  obtain ⟨j, _, h, _⟩ := atI_get e
  have hm : c ∈ z.cps.toList := List.mem_of_getElem? h
  unfold PyData.strOk at *
  rw [← Array.all_toList, List.all_eq_true] at hz
  have := hz c hm
  simpa using this
theorem ixs : IxR X (rP2 X.K X.mg X.w oIx) := by
  intro value slice pins s σ H x y v u Q I rx ry ⟨m, h, tx, ty, r1, r2, R, o⟩ hs
  cases r2 with
  | int i =>
    cases r1 with
    | @tup a vs ts hq r =>
      have o' : OutP X.K X.mg X.w Q m H (match L2.atI ts i with | some t => .ok t h | none => .stk) := o
      split at o'
      · rename_i t e
        obtain ⟨w, e2, rw⟩ := r.atI e
        exact ix_tup value slice pins s σ H _ _ v u Q I rx ry ⟨_, _, i, w, rfl, rfl, hq, e2, o' _ m H (Ext.refl _ _) rw R⟩ hs
      · exact False.elim o'
    | @fl a vs ts hq r =>
      have o' : OutP X.K X.mg X.w Q m H (match L2.atI ts i with | some t => .ok t h | none => .stk) := o
      split at o'
      · rename_i t e
        obtain ⟨w, e2, rw⟩ := r.atI e
        exact ix_list value slice pins s σ H _ _ v u Q I rx ry ⟨_, _, i, w, rfl, rfl, hq.sq, e2, o' _ m H (Ext.refl _ _) rw R⟩ hs
      · exact False.elim o'
    | @ref l a e1 =>
      have o' : OutP X.K X.mg X.w Q m H (match lstAt h l with
        | some ts => (match L2.atI ts i with | some t => .ok t h | none => .stk)
        | none => .stk) := o
      split at o'
      · rename_i ts q1
        obtain ⟨vs, g1, r1⟩ := R.lst e1 q1
        split at o'
        · rename_i t e
          obtain ⟨w, e2, rw⟩ := r1.atI e
          exact ix_list value slice pins s σ H _ _ v u Q I rx ry ⟨_, _, i, w, rfl, rfl, SqL.of g1, e2, o' _ m H (Ext.refl _ _) rw R⟩ hs
        · exact False.elim o'
      · exact False.elim o'
    | @str z hz =>
      have o' : OutP X.K X.mg X.w Q m H (if z.length ≤ sizeLine then (match L2.atI z.cps.toList i with | some c => .ok (.str ⟨#[c]⟩) h | none => .stk) else .stk) := o
      split at o'
      · rename_i hl
        split at o'
        · rename_i c e
          exact ix_str value slice pins s σ H _ _ v u Q I rx ry ⟨z, i, c, rfl, rfl, hl, e, o' _ m H (Ext.refl _ _) (.str (strOk_one hz e)) R⟩ hs
        · exact False.elim o'
      · exact False.elim o'
    | _ => exact False.elim o
  | _ => cases r1 <;> exact False.elim o
theorem de_ix (ha : DE X P W a sa) (hb : DE X P W b sb) (hs : PlainIx b := by intro _ _; rfl) : DE X P W (.Subscript a b pos) (s2 oIx sa sb) :=
  PE.imp (pe_ix ixs ha hb hs) fun σV H Q h => two nx_ix h
theorem RTs.cut {m : Mp} {H : Hp} {ts : List T} {vs : List V} (r : RTs X.K X.mg m H ts vs) (lo hi : Option Int) : RTs X.K X.mg m H (cutT ts lo hi) (cutV vs lo hi) := by
  unfold cutT cutV
  rw [← r.length]
  exact (r.drop _).take _
abbrev DO (X : Cx) (P : Pq) (W : WX) (e : Option Expr) (se : SO) : Prop := PO X e (tG X.K X.mg X.w (fun _ _ a b => a = b) P W se)
theorem PO.imp {e : Option Expr} {t t' : TO} (h : PO X e t) (k : ∀ σ H Q, t' σ H Q → t σ H Q) : PO X e t' := ⟨fun pins s σ H Q I hw => h.run pins s σ H Q I (k _ _ _ hw)⟩
theorem do_none : DO X P W none soNone := PO.imp po_none fun σV H Q ⟨m, h, σ, A, o⟩ => o none m H (Ext.refl _ _) rfl A.hr
theorem do_some (h : DE X P W a sa) : DO X P W (some a) (soSome sa) := PO.imp (po_some h) fun σV H Q ⟨m, h, σ, A, o⟩ => by
  refine A.first (rel1 := RT X.K X.mg) o fun m1 h1 t x H1 E1 r A1 o1 => ?_
  cases r with
  | int i => exact ⟨i, rfl, o1 (some i) m1 H1 (Ext.refl _ _) rfl A1.hr⟩
  | _ => exact False.elim o1
def rPS (K : PySem.W.Frag) (mg : Str → Option Value) (wd : World) : V → Option Int → Option Int → Hp → VK → Prop := fun x lo hi H Q => ∃ m h t, RT K mg m H t x ∧ HR K mg wd m h H ∧ OutP K mg wd Q m H (oSl t lo hi h)
theorem strOk_cut {z : Str} (hz : PyData.strOk z = true) (lo hi : Option Int) : PyData.strOk (L2.cutS z lo hi) = true := by
  unfold PyData.strOk at hz ⊢
  rw [Array.all_eq_true_iff_forall_mem] at hz ⊢
  intro c hc
  refine hz c ?_
  unfold L2.cutS at hc
  have := List.mem_of_mem_drop (List.mem_of_mem_take (List.mem_toArray.mp hc))
  exact Array.mem_toList_iff.mp this
theorem sls : SlR X (rPS X.K X.mg X.w) := by
  intro pins s σ H x v vl vu lo hi sl Q I rx hs pl pu ⟨m, h, t, r, R, o⟩
  cases r with
  | @tup a vs ts hq r =>
    refine sl_tupN pins s σ H _ v vl vu lo hi sl Q I rx hs pl pu ⟨a, vs, rfl, hq, fun ⟨e1, e2⟩ => ?_, fun _ p ob hp hd => ?_⟩
    · have hc : cutV vs lo hi = vs := by
        unfold cutV; rw [e1, e2]; simp
      have hr := r.cut lo hi
      rw [hc] at hr
      exact o _ m H (Ext.refl _ _) (.tup hq hr) R
    · exact OutP.newTup R (r.cut lo hi) o hp hd
  | @fl a vs ts hq r => exact sl_list pins s σ H _ v vl vu lo hi sl Q I rx hs pl pu ⟨a, vs, rfl, hq.sq, fun p hp => OutP.newLst R (r.cut lo hi) o hp⟩
  | @ref l a e1 =>
    have o' : OutP X.K X.mg X.w Q m H (match lstAt h l with | some ts => alloc (.lst (cutT ts lo hi)) h | none => .stk) := o
    split at o'
    · rename_i ts q1
      obtain ⟨vs, g1, r1⟩ := R.lst e1 q1
      exact sl_list pins s σ H _ v vl vu lo hi sl Q I rx hs pl pu ⟨a, vs, rfl, SqL.of g1, fun p hp => OutP.newLst R (r1.cut lo hi) o' hp⟩
    · exact False.elim o'
  | @str z hz =>
    have o' : OutP X.K X.mg X.w Q m H (if z.length ≤ sizeLine then .ok (.str (L2.cutS z lo hi)) h else .stk) := o
    split at o'
    · rename_i hl
      exact sl_str pins s σ H _ v vl vu lo hi sl Q I rx hs pl pu ⟨z, rfl, hl, o' _ m H (Ext.refl _ _) (.str (strOk_cut hz lo hi)) R⟩
    · exact False.elim o'
  | _ => exact False.elim o
theorem nx_sl (t : T) (lo hi : Option Int) (h : Hh) : ∀ c fs h', oSl t lo hi h ≠ .exc c fs h' := fun c fs h' e => by unfold oSl alloc at e; (repeat' split at e) <;> cases e
theorem de_sl {lo hi : Option Expr} {sl sh : SO} (ha : DE X P W a sa) (hl : DO X P W lo sl) (hh : DO X P W hi sh) : DE X P W (.Subscript a (.Slice lo hi none p2) pos) (sSl sa sl sh) :=
  PE.imp (pe_slice sls ha hl hh) fun σV H Q ⟨m, h, σ, A, o⟩ => by
    refine A.first (rel1 := RT X.K X.mg) o fun m1 h1 t x H1 E1 r A1 o1 => ?_
    refine A1.first (rel1 := fun _ _ a b => a = b) o1 fun m2 h2 l l' H2 E2 r2 A2 o2 => ?_
    refine A2.first (rel1 := fun _ _ a b => a = b) o2 fun m3 h3 u u' H3 E3 r3 A3 o3 => ?_
    subst r2; subst r3
    exact ⟨m3, h3, t, (r.ext E2).ext E3, A3.hr, o3.outP (nx_sl _ _ _ _)⟩
def ClsF (K : PySem.W.Frag) (mg : Str → Option Value) (cs : List (Str × List Str)) : Prop := ∀ c fs C, (c, fs) ∈ cs → mg c = some (.ref C) → Cls K C ∧ ∀ f ∈ fs, NoAttr K C f
def oFldC (cs : List (Str × List Str)) (f : Str) (x : T) (h : Hh) : Res T :=
  match x with
  | .ref l => match insAt h l with
    | some (c, fs) => match cs.lookup c with
      | some as => if as.contains f then (match fs.lookup f with | some t => .ok t h | none => .stk) else .stk
      | none => .stk
    | none => .stk
  | _ => .stk
theorem mem_of_lookup {α : Type} : ∀ {l : List (Str × α)} {c : Str} {x : α}, l.lookup c = some x → (c, x) ∈ l
  | [], _, _, e => by simp [List.lookup] at e
  | (d, y) :: r, c, x, e => by
    unfold List.lookup at e
    split at e
    · rename_i q
      have : c = d := by simpa using q
      subst this; cases e; exact List.mem_cons_self
    · exact List.mem_cons_of_mem _ (mem_of_lookup e)
theorem nx_fld (cs : List (Str × List Str)) (f : Str) : NoX1 (oFldC cs f) := fun x h c fs h' e => by unfold oFldC at e; (repeat' split at e) <;> cases e
theorem de_fld {cs : List (Str × List Str)} {f : Str} (C : ClsF X.K X.mg cs) (ha : DE X P W a sa) (hb : attributeBase a f X.env (eval a X.env) = eval a X.env := by rfl) : DE X P W (.Attribute a f pos) (s1 (oFldC cs f) sa) :=
  PE.imp (pe_fld ha hb) fun σV H Q h => by
    refine tG.mono (fun x H1 hq => ?_) (one (nx_fld cs f) h)
    obtain ⟨m, h, t, r, R, o⟩ := hq
    cases r with
    | @ref l a e1 =>
      have o' : OutP X.K X.mg X.w Q m H1 (match insAt h l with
        | some (c, fs) => (match cs.lookup c with
          | some as => if as.contains f then (match fs.lookup f with | some t => .ok t h | none => .stk) else .stk
          | none => .stk)
        | none => .stk) := o
      split at o'
      · rename_i c fs q1
        obtain ⟨Ca, dx, fv, g1, g2, rf⟩ := R.ins e1 q1
        split at o'
        · rename_i as q2
          split at o'
          · rename_i hc
            split at o'
            · rename_i t q3
              obtain ⟨v, e3, rv⟩ := rf.lookup q3
              obtain ⟨k1, k2⟩ := C c as Ca (mem_of_lookup q2) g1
              exact ⟨a, Ca, dx, fv, v, rfl, g2, k1, k2 f (by simpa using hc), e3, o' _ m H1 (Ext.refl _ _) rv R⟩
            · exact False.elim o'
          · exact False.elim o'
        · exact False.elim o'
      · exact False.elim o'
    | _ => exact False.elim o
theorem args_of {f : List T → Hh → Res T} (hf : NoXL f) {σV : L2.St} {H : Hp} {Q : VK} (h : tI X.K X.mg X.w P W (sCl f ar) σV H Q) : tAr X.K X.mg X.w P W ar σV H fun xs H1 => rPL X.K X.mg X.w f xs H1 Q := by
  obtain ⟨m, h, σ, A, o⟩ := h
  refine A.first (rel1 := RTs X.K X.mg) o fun m1 h1 t1 x H1 E1 r1 A1 o1 => ?_
  exact ⟨m1, h1, t1, r1, A1.hr, o1.outP (hf _ _)⟩
theorem de_callB {id : String} {x : Str} {p : Pos} {f : List T → Hh → Res T} (hc : CallR X (.builtin id) (rPL X.K X.mg X.w f)) (hf : NoXL f) (hg : Gl X x) (hm : X.mg x = none) (hv : bootBuiltins x = some (.builtin id)) (ha : DA X P W (a :: es) ar) (hn : x ≠ "__name__" := by decide) (hdb : (x == ("__debug__" : Str)) = false := by decide)
    (he : starEach (a :: es) X.env = (false, eval a X.env) :: starEach es X.env := by rfl) (hpl : (backTo pos (starEach es X.env)).any (·.1) = false := by rfl) : DE X P W (.Call (.Name x p) (a :: es) [] pos) (sCl f ar) :=
  PE.imp (pe_callB hc hg hm hv ha hn hdb he hpl) fun σV H Q h => args_of hf h
theorem de_callTy {T' : String} {x : Str} {p : Pos} {f : List T → Hh → Res T} (hc : CallR X (.type T') (rPL X.K X.mg X.w f)) (hf : NoXL f) (hg : Gl X x) (hm : X.mg x = none) (hv : bootBuiltins x = some (.type T')) (ha : DA X P W (a :: es) ar) (hn : x ≠ "__name__" := by decide) (hdb : (x == ("__debug__" : Str)) = false := by decide)
    (he : starEach (a :: es) X.env = (false, eval a X.env) :: starEach es X.env := by rfl) (hpl : (backTo pos (starEach es X.env)).any (·.1) = false := by rfl) : DE X P W (.Call (.Name x p) (a :: es) [] pos) (sCl f ar) :=
  PE.imp (pe_callTy hc hg hm hv ha hn hdb he hpl) fun σV H Q h => args_of hf h
theorem nx_len : NoXL bLen := fun x h c fs h' e => by unfold bLen at e; (repeat' split at e) <;> cases e
theorem nx_bint : NoXL bInt := fun x h c fs h' e => by unfold bInt at e; (repeat' split at e) <;> cases e
theorem nx_list : NoXL bList := fun x h c fs h' e => by unfold bList alloc at e; (repeat' split at e) <;> cases e
theorem RTs.one {m : Mp} {H : Hp} {t : T} {vs : List V} (r : RTs X.K X.mg m H [t] vs) : ∃ v, vs = [v] ∧ RT X.K X.mg m H t v := by
  cases r with
  | cons r q => cases q; exact ⟨_, rfl, r⟩
theorem cs_len : CallR X (.builtin "len") (rPL X.K X.mg X.w bLen) := by
  intro pins s σ H xs us Q I ru ⟨m, h, ts, r, R, o⟩
  unfold bLen at o
  split at o
  · obtain ⟨v, rfl, r1⟩ := r.one
    cases r1 with
    | tup hq r2 => exact call_len_seq pins s σ H _ us Q I ru ⟨_, _, rfl, .inr hq, by rw [← r2.length]; exact o _ m H (Ext.refl _ _) (.int _) R⟩
  · obtain ⟨v, rfl, r1⟩ := r.one
    cases r1 with
    | fl hq r2 => exact call_len_seq pins s σ H _ us Q I ru ⟨_, _, rfl, .inl hq.sq, by rw [← r2.length]; exact o _ m H (Ext.refl _ _) (.int _) R⟩
  · obtain ⟨v, rfl, r1⟩ := r.one
    split at o
    · rename_i hz
      cases r1 with
      | str hq => exact call_len_str pins s σ H _ us Q I ru ⟨_, rfl, hz, o _ m H (Ext.refl _ _) (.int _) R⟩
    · exact False.elim o
  · obtain ⟨v, rfl, r1⟩ := r.one
    split at o
    · rename_i ts q1
      cases r1 with
      | ref e1 =>
        obtain ⟨vs, g1, r2⟩ := R.lst e1 q1
        exact call_len_seq pins s σ H _ us Q I ru ⟨_, _, rfl, .inl (SqL.of g1), by rw [← r2.length]; exact o _ m H (Ext.refl _ _) (.int _) R⟩
    · exact False.elim o
  · exact False.elim o
theorem cs_int : CallR X (.type "int") (rPL X.K X.mg X.w bInt) := by
  intro pins s σ H xs us Q I ru ⟨m, h, ts, r, R, o⟩
  unfold bInt at o
  split at o
  · obtain ⟨v, rfl, r1⟩ := r.one
    cases r1 with
    | int i => exact call_int1 pins s σ H _ us Q I ru (.inl ⟨_, rfl, o _ m H (Ext.refl _ _) (.int _) R⟩)
  · exact False.elim o
theorem cs_list : CallR X (.type "list") (rPL X.K X.mg X.w bList) := by
  intro pins s σ H xs us Q I ru ⟨m, h, ts, r, R, o⟩
  unfold bList at o
  split at o
  · obtain ⟨v, rfl, r1⟩ := r.one
    cases r1 with
    | tup hq r2 => exact call_list_of pins s σ H _ us Q I ru ⟨_, _, rfl, .inr hq, fun p hp => OutP.newLst R r2 o hp⟩
  · obtain ⟨v, rfl, r1⟩ := r.one
    cases r1 with
    | fl hq r2 => exact call_list_of pins s σ H _ us Q I ru ⟨_, _, rfl, .inl hq.sq, fun p hp => OutP.newLst R r2 o hp⟩
  · obtain ⟨v, rfl, r1⟩ := r.one
    split at o
    · rename_i ts q1
      cases r1 with
      | ref e1 =>
        obtain ⟨vs, g1, r2⟩ := R.lst e1 q1
        exact call_list_of pins s σ H _ us Q I ru ⟨_, _, rfl, .inl (SqL.of g1), fun p hp => OutP.newLst R r2 o hp⟩
    · exact False.elim o
  · exact False.elim o
end
end W3
end

section
namespace W3
open PySem PySem.Spec PyProof.Rows
open L2
structure SrcJ (K : PySem.W.Frag) (mg : Str → Option Value) (wd : World) (m : Mp) (H : Hp) (s : Src) (J : It) : Prop where
  go : ∀ m' h' H' i x, Tr m H m' H' → HR K mg wd m' h' H' → s.at h' i = some (some x) → J.go i H' ∧ ∀ y H2, J.yld i H' y H2 → Ext m' H' m' H2 ∧ HR K mg wd m' h' H2 ∧ RT K mg m' H2 x y
  stop : ∀ m' h' H' i, Tr m H m' H' → HR K mg wd m' h' H' → s.at h' i = some none → J.stop i H'
theorem SrcJ.ext {K : PySem.W.Frag} {mg : Str → Option Value} {wd : World} {m m1 : Mp} {H H1 : Hp} {s : Src} {J : It} (S : SrcJ K mg wd m H s J) (E : Ext m H m1 H1) : SrcJ K mg wd m1 H1 s J :=
  ⟨fun m' h' H' i x E' => S.go m' h' H' i x (E.tr.trans E'), fun m' h' H' i E' => S.stop m' h' H' i (E.tr.trans E')⟩
section
variable {K : PySem.W.Frag} {mg : Str → Option Value} {wd : World} {m : Mp} {H : Hp}
theorem srcj_tup {a : Addr} {vs : List V} {ts : List T} (hq : SqT K H a vs) (r : RTs K mg m H ts vs) : SrcJ K mg wd m H (.its ts) (Itt K a) where
  go := fun m' h' H' i x E R e => by
    have e' : ts[i]? = some x := Option.some.inj e
    obtain ⟨v, ev, rv⟩ := r.get e'
    refine ⟨⟨vs, v, SqT.tr E hq, ev⟩, fun y H2 ⟨e1, e2⟩ => ?_⟩
    subst e1
    have := e2 vs (SqT.tr E hq)
    rw [ev] at this; cases this
    exact ⟨Ext.refl _ _, R, rv.tr E⟩
  stop := fun m' h' H' i E R e => by
    have e' : ts[i]? = none := Option.some.inj e
    refine ⟨vs, SqT.tr E hq, ?_⟩
    rw [← r.length]
    exact List.getElem?_eq_none_iff.mp e'
theorem srcj_fl {a : Addr} {vs : List V} {ts : List T} (hq : SqF K H a vs) (r : RTs K mg m H ts vs) : SrcJ K mg wd m H (.its ts) (Itl K a) where
  go := fun m' h' H' i x E R e => by
    have e' : ts[i]? = some x := Option.some.inj e
    obtain ⟨v, ev, rv⟩ := r.get e'
    refine ⟨⟨vs, v, (SqF.tr E hq).sq, ev⟩, fun y H2 ⟨e1, e2⟩ => ?_⟩
    subst e1
    have := e2 vs (SqF.tr E hq).sq
    rw [ev] at this; cases this
    exact ⟨Ext.refl _ _, R, rv.tr E⟩
  stop := fun m' h' H' i E R e => by
    have e' : ts[i]? = none := Option.some.inj e
    refine ⟨vs, (SqF.tr E hq).sq, ?_⟩
    rw [← r.length]
    exact List.getElem?_eq_none_iff.mp e'
theorem srcj_live {l : Nat} {a : Addr} (hl : m l = some a) : SrcJ K mg wd m H (.live l) (Itl K a) where
  go := fun m' h' H' i x E R e => by
    have e' : (match lstAt h' l with | some ts => some ts[i]? | none => none) = some (some x) := e
    split at e'
    · rename_i ts q
      have e2 : ts[i]? = some x := Option.some.inj e'
      obtain ⟨vs, g, r⟩ := R.lst (E.mono _ _ hl) q
      obtain ⟨v, ev, rv⟩ := r.get e2
      refine ⟨⟨vs, v, SqL.of g, ev⟩, fun y H2 ⟨e1, e2⟩ => ?_⟩
      subst e1
      have := e2 vs (SqL.of g)
      rw [ev] at this; cases this
      exact ⟨Ext.refl _ _, R, rv⟩
    · cases e'
  stop := fun m' h' H' i E R e => by
    have e' : (match lstAt h' l with | some ts => some ts[i]? | none => none) = some none := e
    split at e'
    · rename_i ts q
      have e2 : ts[i]? = none := Option.some.inj e'
      obtain ⟨vs, g, r⟩ := R.lst (E.mono _ _ hl) q
      refine ⟨vs, SqL.of g, ?_⟩
      rw [← r.length]
      exact List.getElem?_eq_none_iff.mp e2
    · cases e'
theorem rangeT_get : ∀ (n : Nat) (lo : Int) (i : Nat), (rangeT lo n)[i]? = if i < n then some (.int (lo + i)) else none
  | 0, lo, i => by simp [rangeT]
  | n + 1, lo, 0 => by simp [rangeT]
  | n + 1, lo, i + 1 => by
    show (rangeT (lo + 1) n)[i]? = _
    rw [rangeT_get n (lo + 1) i]
    by_cases h : i < n
    · rw [if_pos h, if_pos (by omega)]
      congr 2
      push_cast
      omega
    · rw [if_neg h, if_neg (by omega)]
theorem srcj_range (lo : Int) (n : Nat) : SrcJ K mg wd m H (.its (rangeT lo n)) (Itr lo n) where
  go := fun m' h' H' i x E R e => by
    have e' : (rangeT lo n)[i]? = some x := Option.some.inj e
    rw [rangeT_get] at e'
    split at e'
    · rename_i hi
      cases e'
      refine ⟨hi, fun y H2 ⟨e1, e2⟩ => ?_⟩
      subst e1; subst e2
      exact ⟨Ext.refl _ _, R, .int _⟩
    · cases e'
  stop := fun m' h' H' i E R e => by
    have e' : (rangeT lo n)[i]? = none := Option.some.inj e
    rw [rangeT_get] at e'
    split at e'
    · cases e'
    · rename_i hi
      exact Nat.le_of_not_lt hi
theorem srcj_str {z : Str} (hz : PyData.strOk z = true) : SrcJ K mg wd m H (.its (z.cps.toList.map fun c => .str ⟨#[c]⟩)) (Its z) where
  go := fun m' h' H' i x E R e => by
    have e' : (z.cps.toList.map fun c => T.str ⟨#[c]⟩)[i]? = some x := Option.some.inj e
    rw [List.getElem?_map] at e'
    cases q : z.cps.toList[i]? with
    | none => rw [q] at e'; cases e'
    | some c =>
      rw [q] at e'
      have e2 : T.str ⟨#[c]⟩ = x := Option.some.inj e'
      subst e2
      have hi : i < z.cps.size := by
        have := (List.getElem?_eq_some_iff.mp q).1
        simpa using this
      refine ⟨hi, fun y H2 ⟨e1, c', e3, e4⟩ => ?_⟩
      subst e1; subst e4
      have e5 : z.cps[i]? = some c := by rw [← Array.getElem?_toList]; exact q
      rw [e5] at e3; cases e3
      refine ⟨Ext.refl _ _, R, .str ?_⟩
      unfold PyData.strOk at *
      rw [← Array.all_toList, List.all_eq_true] at hz
      have := hz c (List.mem_of_getElem? q)
      simpa using this
  stop := fun m' h' H' i E R e => by
    have e' : (z.cps.toList.map fun c => T.str ⟨#[c]⟩)[i]? = none := Option.some.inj e
    have := List.getElem?_eq_none_iff.mp e'
    show z.cps.size ≤ i
    simpa using this
end
abbrev DI (X : Cx) (P : Pq) (W : WX) (tg iter : Expr) (si : SI) : Prop := PI X tg iter (tG X.K X.mg X.w (SrcJ X.K X.mg X.w) P W si)
section
variable {X : Cx} {P : Pq} {W : WX} {a b c tg iter : Expr} {sa sb sc : SE} {pos : Pos} {es : List Expr} {ar : SA} {si : SI} {ta tb : ST} {rest : List Expr}
theorem PI.imp {tg iter : Expr} {t t' : TI} (h : PI X tg iter t) (k : ∀ σ H R, t' σ H R → t σ H R) : PI X tg iter t' := ⟨fun pins s σ H R I hw => h.run pins s σ H R I (k _ _ _ hw)⟩
theorem iList_and {tl : TE} (hl : PE X iter tl) : PI X tg iter (fun σ H R => tl σ H fun x H1 => (∃ a, x = .ref a ∧ (∃ xs, SqL X.K H1 a xs) ∧ R (Itl X.K a) H1) ∨ (∃ a, x = .ref a ∧ (∃ xs, SqT X.K H1 a xs) ∧ R (Itt X.K a) H1) ∨ ∃ z, x = .str z ∧ R (Its z) H1) := by
  refine ⟨fun pins s σ H R I h => ?_⟩
  refine thn (hl.run pins s σ H _ I h) fun v s1 ⟨x, H1, I1, r1, q1⟩ => ?_
  rcases q1 with ⟨a, e, ⟨xs, hq⟩, q⟩ | ⟨a, e, ⟨xs, hq⟩, q⟩ | ⟨z, e, q⟩
  · subst e
    cases r1
    obtain ⟨its, rv, p, hz⟩ := I1.list hq
    refine wpAny_pyIter_list p.isList ?_
    refine ⟨s1.heap.objs.size, [s1.heap.objs.size], _, _, H1, rfl, I1.kept (t' := s1.toks) fun b o e => Heap.get?_push_of_some _ e, turn_list a _, ⟨_, Heap.get?_push_size _ rfl, rfl, rfl⟩, fun b hb => ?_, q⟩
    have e : b = s1.heap.objs.size := by simpa using hb
    subst e
    exact I1.fpOk (Nat.le_refl _) (I1.hok.fresh (Nat.le_refl _))
  · subst e
    cases r1
    obtain ⟨its, rv, p, hz⟩ := I1.tuple hq
    refine wpAny_pyIter_tuple (show s1.heap.IsTuple a its.toArray from p) ?_
    refine ⟨s1.heap.objs.size, [s1.heap.objs.size], _, _, H1, rfl, I1.kept (t' := s1.toks) fun b o e => Heap.get?_push_of_some _ e, turn_tuple a _, ⟨_, Heap.get?_push_size _ rfl, rfl, rfl⟩, fun b hb => ?_, q⟩
    have e : b = s1.heap.objs.size := by simpa using hb
    subst e
    exact I1.fpOk (Nat.le_refl _) (I1.hok.fresh (Nat.le_refl _))
  · subst e
    obtain ⟨t, rfl⟩ := r1
    cases ha : z.cps.all (· < 128)
    · exact wpAny_pyIter_wide ha (pi_one (tk := s1.toks) I1 _ (turn_str _ z t "str_iterator" (.inr rfl)) ⟨_, Heap.get?_push_size _ rfl, rfl, rfl⟩ q)
    · exact wpAny_pyIter_ascii ha (pi_one (tk := s1.toks) I1 _ (turn_str _ z t "str_ascii_iterator" (.inl rfl)) ⟨_, Heap.get?_push_size _ rfl, rfl, rfl⟩ q)
theorem di_e (ha : DE X P W iter sa) : DI X P W tg iter (siE sa) := PI.imp (iList_and ha) fun σV H R ⟨m, h, σ, A, o⟩ => by
  refine A.first (rel1 := RT X.K X.mg) o fun m1 h1 t x H1 E1 r A1 o1 => ?_
  cases r with
  | @tup a vs ts hq r => exact .inr (.inl ⟨a, rfl, ⟨vs, hq⟩, o1 _ m1 H1 (Ext.refl _ _) (srcj_tup hq r) A1.hr⟩)
  | @fl a vs ts hq r => exact .inl ⟨a, rfl, ⟨vs, hq.sq⟩, o1 _ m1 H1 (Ext.refl _ _) (srcj_fl hq r) A1.hr⟩
  | @str z hz => exact .inr (.inr ⟨z, rfl, o1 _ m1 H1 (Ext.refl _ _) (srcj_str hz) A1.hr⟩)
  | @ref l a e1 =>
    have o' : Out X.K X.mg X.w (SrcJ X.K X.mg X.w) W σV R m1 H1 (match lstAt h1 l with | some _ => .ok (.live l) h1 | none => .stk) := o1
    split at o'
    · rename_i ts q1
      obtain ⟨vs, g1, r1⟩ := A1.hr.lst e1 q1
      exact .inl ⟨a, rfl, ⟨vs, SqL.of g1⟩, o' _ m1 H1 (Ext.refl _ _) (srcj_live e1) A1.hr⟩
    · exact False.elim o'
  | _ => exact False.elim o1
theorem di_range1 {p : Pos} (hg : Gl X "range") (hm : X.mg "range" = none) (ha : DA X P W [a] ar) (hs : starEach [a] X.env = [(false, eval a X.env)] := by rfl) : DI X P W tg (.Call (.Name "range" p) [a] [] pos) (siRange1 ar) :=
  PI.imp (pi_range1 hg hm ha hs) fun σV H R ⟨m, h, σ, A, o⟩ => by
    refine A.first (rel1 := RTs X.K X.mg) o fun m1 h1 ts x H1 E1 r A1 o1 => ?_
    unfold rngOf at o1
    split at o1
    · obtain ⟨v, rfl, r1⟩ := r.one
      cases r1 with
      | int _ =>
        rename_i j
        split at o1
        · rename_i hj
          exact ⟨j, rfl, hj.1, hj.2, o1 _ m1 H1 (Ext.refl _ _) (srcj_range 0 j.toNat) A1.hr⟩
        · exact False.elim o1
    · exact False.elim o1
def Only3 (is : List Nat) (σV σV' : L2.St) : Prop := σV'.length = σV.length ∧ ∀ j, j ∉ is → σV'[j]? = σV[j]?
def tTg (K : PySem.W.Frag) (mg : Str → Option Value) (wd : World) (P : Pq) (is : List Nat) (g : SG) : TG := fun v σV H Q => ∃ m h σ t, At K mg wd P m H σV σ h ∧ RT K mg m H t v ∧
  (match g t σ with | some σ' => ∀ σV', SR K mg m H σ' σV' → Only3 is σV σV' → Q σV' H | none => False)
abbrev DG (X : Cx) (P : Pq) (tg : Expr) (is : List Nat) (g : SG) : Prop := PG X tg (tTg X.K X.mg X.w P is g)
theorem PG.imp {tg : Expr} {t t' : TG} (h : PG X tg t) (k : ∀ v σ H Q, t' v σ H Q → t v σ H Q) : PG X tg t' := ⟨fun pins s σ H v u Q I r hw => h.run pins s σ H v u Q I r (k _ _ _ _ hw)⟩
theorem PGs.imp {tg : List Expr} {t t' : TGs} (h : PGs X tg t) (k : ∀ v σ H Q, t' v σ H Q → t v σ H Q) : PGs X tg t' := ⟨fun pins s σ H v u Q I r hw => h.run pins s σ H v u Q I r (k _ _ _ _ hw)⟩
theorem SR.set {m : Mp} {H : Hp} {σ : St3} {σV : L2.St} (r : SR X.K X.mg m H σ σV) {t : T} {v : V} (q : RT X.K X.mg m H t v) (i : Nat) : SR X.K X.mg m H (σ.set i (some t)) (σV.set i (some v)) := by
  refine ⟨by rw [List.length_set, List.length_set]; exact r.1, fun j u e => ?_⟩
  by_cases hj : i = j
  · subst hj
    by_cases hi : i < σ.length
    · rw [List.getElem?_set_self hi] at e
      cases e
      exact ⟨v, by rw [List.getElem?_set_self (by rw [← r.1]; exact hi)], q⟩
    · rw [List.getElem?_eq_none (by rw [List.length_set]; omega)] at e
      cases e
  · rw [List.getElem?_set_ne hj] at e
    obtain ⟨w, e2, q2⟩ := r.2 j u e
    exact ⟨w, by rw [List.getElem?_set_ne hj]; exact e2, q2⟩
theorem dg_name {i : Nat} {x : Str} (hN : X.N.Nodup) (hi : X.N[i]? = some x) (hx : Loc X.env.scope x) (hf : X.fn x = true ∨ X.env.scope.names.lookup x = some .local := by first | exact .inl rfl | exact .inr rfl | assumption) : DG X P (.Name x pos) [i] (sgName i) :=
  PG.imp (pg_name hN hi hx hf) fun v σV H Q ⟨m, h, σ, t, A, r, q⟩ => by
    refine q (σV.set i (some v)) (A.sr.set r i) ⟨List.length_set, fun j hj => ?_⟩
    rw [List.getElem?_set_ne (fun e => hj (by simp [e]))]
def relL (K : PySem.W.Frag) (mg : Str → Option Value) (H0 : Hp) (m : Mp) (H : Hp) (ts : List T) (v : V) : Prop :=
  ∃ D vs, v = .ref D ∧ H0 D = none ∧ H D = some (.lst vs) ∧ RTs K mg m H ts vs ∧ ∀ l, m l ≠ some D
def tL (K : PySem.W.Frag) (mg : Str → Option Value) (wd : World) (P : Pq) (W : WX) (sa : SA) : TE := fun σV H Q => tG K mg wd (relL K mg H) P W sa σV H Q
abbrev DL (X : Cx) (P : Pq) (W : WX) (e : Expr) (sa : SA) : Prop := PE X e (tL X.K X.mg X.w P W sa)
abbrev DTs (X : Cx) (P : Pq) (W : WX) (es : List Expr) (se : ST) : Prop := PTs X es (tTst X.K X.mg X.w P W se)
theorem PTs.imp {es : List Expr} {t t' : TT} (h : PTs X es t) (k : ∀ σ H Q, t' σ H Q → t σ H Q) : PTs X es t' := ⟨fun pins s σ H Q I hw => h.run pins s σ H Q I (k _ _ _ hw)⟩
theorem dts_nil : DTs X P W [] stYes := PTs.imp pts_nil fun σV H Q ⟨m, h, σ, A, o⟩ => o true m H (Ext.refl _ _) rfl A.hr
theorem dts_one (h : DT X P W c ta) : DTs X P W [c] ta := pts_one h
def WF : WX := fun _ _ _ _ => False
theorem SR.wipe {m : Mp} {H : Hp} {σ : St3} {σV : L2.St} (r : SR X.K X.mg m H σ σV) : ∀ vs : List Nat, SR X.K X.mg m H (wipeT σ vs) (L2.wipe σV vs)
  | [] => r
  | v :: vs => by
    have ih := SR.wipe r vs
    refine ⟨by unfold wipeT L2.wipe; rw [List.length_set, List.length_set]; exact ih.1, fun j u e => ?_⟩
    unfold wipeT at e
    unfold L2.wipe
    by_cases hj : v = j
    · subst hj
      by_cases hi : v < (wipeT σ vs).length
      · rw [List.getElem?_set_self hi] at e; cases e
      · rw [List.getElem?_eq_none (by rw [List.length_set]; omega)] at e; cases e
    · rw [List.getElem?_set_ne hj] at e ⊢
      exact ih.2 j u e
theorem wipe_get (σV : L2.St) : ∀ (vs : List Nat) (j : Nat), (L2.wipe σV vs)[j]? = if j ∈ vs ∧ j < σV.length then some none else σV[j]?
  | [], j => by simp [L2.wipe]
  | v :: vs, j => by
    unfold L2.wipe
    by_cases hj : v = j
    · subst hj
      by_cases hi : v < σV.length
      · rw [List.getElem?_set_self (by rw [wipe_length]; exact hi), if_pos ⟨List.mem_cons_self, hi⟩]
      · rw [List.getElem?_eq_none (by rw [List.length_set, wipe_length]; omega), if_neg (fun z => hi z.2), List.getElem?_eq_none (by omega)]
    · rw [List.getElem?_set_ne hj, wipe_get σV vs j]
      have : (j ∈ v :: vs ∧ j < σV.length) ↔ (j ∈ vs ∧ j < σV.length) := by
        simp only [List.mem_cons]
        constructor
        · rintro ⟨z | z, w⟩
          · exact absurd z.symm hj
          · exact ⟨z, w⟩
        · rintro ⟨z, w⟩; exact ⟨.inr z, w⟩
      by_cases hh : j ∈ vs ∧ j < σV.length
      · rw [if_pos hh, if_pos (this.mpr hh)]
      · rw [if_neg hh, if_neg (fun z => hh (this.mp z))]
theorem wipe_only {is vs : List Nat} {σV σV' : L2.St} (hs : ∀ i ∈ is, i ∈ vs) (o : Only3 is (L2.wipe σV vs) σV') : L2.wipe σV' vs = L2.wipe σV vs := by
  apply List.ext_getElem?
  intro j
  rw [wipe_get, wipe_get]
  have hl : σV'.length = σV.length := by rw [o.1, wipe_length]
  by_cases hj : j ∈ vs ∧ j < σV.length
  · rw [if_pos (by rw [hl]; exact hj), if_pos hj]
  · rw [if_neg (by rw [hl]; exact hj), if_neg hj]
    by_cases hj2 : j ∈ vs
    · have : ¬ j < σV.length := fun z => hj ⟨hj2, z⟩
      rw [List.getElem?_eq_none (by omega), List.getElem?_eq_none (by omega)]
    · rw [o.2 j (fun z => hj2 (hs j z)), wipe_get, if_neg (fun z => hj2 z.1)]
theorem lc_read {is vs : List Nat} {g : SG} {tt : ST} {te : SE} (his : ∀ i ∈ is, i ∈ vs) {σV : L2.St} {H : Hp} {Q : VK} (h : tL X.K X.mg X.w P W (saLc si g tt te vs) σV H Q) :
    tLc (tG X.K X.mg X.w (SrcJ X.K X.mg X.w) P W si) (tTg X.K X.mg X.w P is g) (tTst X.K X.mg X.w P WF tt) (tI X.K X.mg X.w P WF te) vs σV H Q := by
  obtain ⟨m, h, σ, A, o⟩ := h
  refine A.first (rel1 := SrcJ X.K X.mg X.w) o fun m1 h1 s J H1 E1 S A1 o1 D hD => ?_
  have hD0 : H D = none := by
    cases q : H D with
    | none => rfl
    | some u =>
      obtain ⟨w, e⟩ := E1.live D u q
      rw [hD] at e; cases e
  refine ⟨fun i k H' => ∃ m' h' acc accV, Ext m1 H1 m' H' ∧ HR X.K X.mg X.w m' h' H' ∧ H' D = some (.lst accV) ∧ RTs X.K X.mg m' H' acc accV ∧ (∀ l, m' l ≠ some D) ∧
    Out X.K X.mg X.w (relL X.K X.mg H) W σV Q m1 H1 (lcRun s g tt te (wipeT σ vs) k i acc h'), ⟨s.len h1, m1, h1, [], [], Ext.garbage A1.hr hD, A1.hr.garbage hD, upd_same, .nil, fun l e => ?_, o1⟩, ?_⟩
  · obtain ⟨u, e2, _⟩ := A1.hr.tracked e
    rw [hD] at e2; cases e2
  rintro i k H' ⟨m', h', acc, accV, E', R', hDl, racc, nD, o'⟩
  unfold lcRun at o'
  cases es : s.at h' i with
  | none => rw [es] at o'; exact False.elim o'
  | some ox =>
    cases ox with
    | none =>
      rw [es] at o'
      exact .inl ⟨S.stop m' h' H' i E'.tr R' es, o' _ m' H' E' ⟨D, accV, rfl, hD0, hDl, racc, nD⟩ R'⟩
    | some x =>
      rw [es] at o'
      cases k with
      | zero => exact False.elim o'
      | succ k =>
        obtain ⟨jg, jy⟩ := S.go m' h' H' i x E'.tr R' es
        refine .inr ⟨jg, _, fun H'' q => ⟨k, Nat.lt_succ_self k, q⟩, fun y H2 hy => ?_⟩
        obtain ⟨E2, R2, rx⟩ := jy y H2 hy
        have A2 : At X.K X.mg X.w P m' H2 (L2.wipe σV vs) (wipeT σ vs) h' := ⟨((A1.sr.ext (E'.trans E2)).wipe vs), R2, P.st (E'.trans E2) A1.pr⟩
        refine ⟨m', h', wipeT σ vs, x, A2, rx, ?_⟩
        have keepD : ∀ {m3 H3}, Ext m' H2 m3 H3 → H3 D = some (.lst accV) ∧ ∀ l, m3 l ≠ some D := fun {m3 H3} E3 => by
          have d2 : H2 D = some (.lst accV) := E2.keep D _ hDl nD
          refine ⟨E3.keep D _ d2 nD, fun l e => ?_⟩
          rcases E3.fresh l D e with z | z
          · exact nD l z
          · rw [d2] at z; cases z
        dsimp only at o'
        cases eg : g x (wipeT σ vs) with
        | none => rw [eg] at o'; exact False.elim o'
        | some σ1 =>
          rw [eg] at o'
          intro σV1 s1 only
          refine ⟨wipe_only his only, m', h', σ1, ⟨s1, R2, A2.pr⟩, ?_⟩
          dsimp only at o'
          cases et : tt σ1 h' with
          | exc c fs h3 => rw [et] at o'; exact False.elim o'
          | stk => rw [et] at o'; exact False.elim o'
          | ok b h3 =>
            rw [et] at o'
            dsimp only at o'
            intro b' m3 H3 E3 eb R3
            subst eb
            cases b with
            | false =>
              rw [if_neg Bool.false_ne_true] at o' ⊢
              obtain ⟨d3, n3⟩ := keepD E3
              exact ⟨m3, h3, acc, accV, (E'.trans E2).trans E3, R3, d3, (racc.ext E2).ext E3, n3, o'⟩
            | true =>
              rw [if_pos rfl] at o' ⊢
              refine ⟨m3, h3, σ1, ⟨s1.ext E3, R3, P.st E3 A2.pr⟩, ?_⟩
              cases ee : te σ1 h3 with
              | exc c fs h4 => rw [ee] at o'; exact False.elim o'
              | stk => rw [ee] at o'; exact False.elim o'
              | ok t h4 =>
                rw [ee] at o'
                dsimp only at o'
                intro y' m4 H4 E4 rt R4
                obtain ⟨d4, n4⟩ := keepD (E3.trans E4)
                split at o'
                · rename_i hz
                  refine ⟨accV, d4, by rw [← racc.length]; exact hz, m4, h4, acc ++ [t], accV ++ [y'], ?_, R4.out d4 n4, upd_same, ?_, n4, o'⟩
                  · exact Ext.out (((E'.trans E2).trans E3).trans E4) hD
                  · have r4 := (((racc.ext E2).ext E3).ext E4).append (.cons rt .nil)
                    exact r4.tr (Tr.out d4)
                · exact False.elim o'
theorem dl_lc {elt : Expr} {ifs : List Expr} {scope : Scope} {own : List (Str × Nat)} {is : List Nat} {g : SG} {tt : ST} {te : SE} (hc : X.calm = true) (hN : X.N.Nodup) (hi : DI X P W tg iter si) (ok : BlkOk X.N X.env.scope scope own)
    (hg : ∀ (s : Shared) (H : Hp) (C : Addr) (cl : List (Str × Addr)) (fp : List Addr), DG (X.blk s H scope (compEnvC scope cl C X.env) fp) P tg is g)
    (ht : ∀ (s : Shared) (H : Hp) (C : Addr) (cl : List (Str × Addr)) (fp : List Addr), DTs (X.blk s H scope (compEnvC scope cl C X.env) fp) P WF ifs tt)
    (he : ∀ (s : Shared) (H : Hp) (C : Addr) (cl : List (Str × Addr)) (fp : List Addr), DE (X.blk s H scope (compEnvC scope cl C X.env) fp) P WF elt te)
    (his : ∀ i ∈ is, i ∈ own.map (·.2) := by decide) (hs : ∀ x, foldedSetIterable iter X.env x = pure x := by intro _; rfl) :
    DL X P W (.ListComp elt [⟨tg, iter, ifs, 0⟩] scope pos) (saLc si g tt te (own.map (·.2))) := by
  exact PE.imp (pe_lc (own := own) (wi := tG X.K X.mg X.w (SrcJ X.K X.mg X.w) P W si) (g := tTg X.K X.mg X.w P is g) (tt := tTst X.K X.mg X.w P WF tt) (te := tI X.K X.mg X.w P WF te) hc hN hi ok hg ht he hs) fun σV H Q h => lc_read his h
theorem lc_keep {sa : SA} {σV : L2.St} {H : Hp} {Q : VK} (h : tI X.K X.mg X.w P W (sLc sa) σV H Q) : tL X.K X.mg X.w P W sa σV H Q := by
  obtain ⟨m, h, σ, A, o⟩ := h
  refine ⟨m, h, σ, A, ?_⟩
  unfold sLc at o
  cases e : sa σ h with
  | exc c fs h1 => rw [e] at o; exact o
  | stk => rw [e] at o; exact o
  | ok ts h1 =>
    rw [e] at o
    rintro v m1 H1 E1 ⟨D, vs, rfl, hD, d1, r1, n1⟩ R1
    have o' : Out X.K X.mg X.w (RT X.K X.mg) W σV Q m H (alloc (.lst ts) h1) := o
    have hne : ∀ l a, m1 l = some a → l ≠ h1.length := fun l a e => Nat.ne_of_lt (R1.dom l a e)
    have E2 : Ext m H (m1.put h1.length D) H1 := ⟨fun l a e => by rw [Mp.put_ne (hne l a (E1.mono l a e))]; exact E1.mono l a e, fun l a e => by
        by_cases hl : l = h1.length
        · subst hl; rw [Mp.put_same] at e; cases e; exact .inr hD
        · rw [Mp.put_ne hl] at e; exact E1.fresh l a e, E1.live, E1.keep, E1.tups, E1.frzs, E1.xds⟩
    have T2 : Tr m1 H1 (m1.put h1.length D) H1 := ⟨fun l a e => by rw [Mp.put_ne (hne l a e)]; exact e, fun _ _ q => q, fun _ _ _ q => q⟩
    refine o' _ (m1.put h1.length D) H1 E2 (.ref Mp.put_same) ⟨fun l a e => ?_, fun l l' a e e' => ?_, fun l u q => ?_⟩
    · rw [List.length_append, List.length_singleton]
      by_cases hl : l = h1.length
      · omega
      · rw [Mp.put_ne hl] at e; have := R1.dom l a e; omega
    · by_cases hl : l = h1.length
      · by_cases hl' : l' = h1.length
        · rw [hl, hl']
        · rw [hl, Mp.put_same] at e; cases e
          rw [Mp.put_ne hl'] at e'
          exact absurd e' (n1 l')
      · by_cases hl' : l' = h1.length
        · rw [hl', Mp.put_same] at e'; cases e'
          rw [Mp.put_ne hl] at e
          exact absurd e (n1 l)
        · rw [Mp.put_ne hl] at e; rw [Mp.put_ne hl'] at e'
          exact R1.inj l l' a e e'
    · by_cases hl : l < h1.length
      · rw [List.getElem?_append_left hl] at q
        obtain ⟨a, e1, r⟩ := R1.ob l u q
        exact ⟨a, T2.mono l a e1, r.moveT T2 rfl⟩
      · have : l = h1.length := by
          have := (List.getElem?_eq_some_iff.mp q).1
          rw [List.length_append, List.length_singleton] at this
          omega
        subst this
        simp at q
        subst q
        exact ⟨D, Mp.put_same, vs, d1, r1.tr T2⟩
theorem de_lc {e : Expr} {sa : SA} (h : DL X P W e sa) : DE X P W e (sLc sa) := PE.imp h fun σV H Q h => lc_keep h
end
end W3
end

section
namespace W3
open PySem PySem.Spec PyProof.Rows
open L2
section
variable (K : PySem.W.Frag) (mg : Str → Option Value) (wd : World)
def OutS (W : WX) (D : Ends) (m : Mp) (H : Hp) : Flo → Prop
  | .nx σ' h' => ∀ σV' m' H', Ext m H m' H' → SR K mg m' H' σ' σV' → HR K mg wd m' h' H' → D.nx σV' H'
  | .rt t h' => ∀ v m' H', Ext m H m' H' → RT K mg m' H' t v → HR K mg wd m' h' H' → D.rt v H'
  | .bk σ' h' => ∀ σV' m' H', Ext m H m' H' → SR K mg m' H' σ' σV' → HR K mg wd m' h' H' → D.bk σV' H'
  | .ct σ' h' => ∀ σV' m' H', Ext m H m' H' → SR K mg m' H' σ' σV' → HR K mg wd m' h' H' → D.ct σV' H'
  | .exc c fs σ' h' => ∀ cls d σV' m' H', Ext m H m' H' → SR K mg m' H' σ' σV' → XR K mg m' H' c fs cls d → HR K mg wd m' h' H' → W cls d σV' H'
  | .stk => False
def tS (P : Pq) (W : WX) (ss : SS) : TS := fun D σV H => ∃ m h σ, At K mg wd P m H σV σ h ∧ OutS K mg wd W D m H (ss σ h)
end
abbrev DS (X : Cx) (P : Pq) (W : WX) (st : Stmt) (ss : SS) : Prop := PS X st (tS X.K X.mg X.w P W ss)
abbrev DSs (X : Cx) (P : Pq) (W : WX) (st : List Stmt) (ss : SS) : Prop := PSs X st (tS X.K X.mg X.w P W ss)
section
variable {K : PySem.W.Frag} {mg : Str → Option Value} {wd : World} {m m' : Mp} {H H' : Hp} {h : Hh} {P : Pq} {W : WX} {σV : L2.St} {σ : St3} {D : Ends}
theorem OutS.ext {r : Flo} (E : Ext m H m' H') (o : OutS K mg wd W D m H r) : OutS K mg wd W D m' H' r := by
  cases r with
  | nx σ h => exact fun v m2 H2 E2 => o v m2 H2 (E.trans E2)
  | rt σ h => exact fun v m2 H2 E2 => o v m2 H2 (E.trans E2)
  | bk σ h => exact fun v m2 H2 E2 => o v m2 H2 (E.trans E2)
  | ct σ h => exact fun v m2 H2 E2 => o v m2 H2 (E.trans E2)
  | exc c fs σ h => exact fun c d v m2 H2 E2 => o c d v m2 H2 (E.trans E2)
  | stk => exact o
theorem At.flo {α β : Type} {rel1 : Mp → Hp → α → β → Prop} {se : St3 → Hh → Res α} {k : α → Hh → Flo} {Q1 : β → Hp → Prop} (A : At K mg wd P m H σV σ h) (o : OutS K mg wd W D m H ((se σ h).flo σ k))
    (q : ∀ m1 h1 a b H1, Ext m H m1 H1 → rel1 m1 H1 a b → At K mg wd P m1 H1 σV σ h1 → OutS K mg wd W D m1 H1 (k a h1) → Q1 b H1) : tG K mg wd rel1 P W se σV H Q1 := by
  refine ⟨m, h, σ, A, ?_⟩
  cases e : se σ h with
  | ok a h1 =>
    rw [e] at o
    exact fun b m1 H1 E1 r1 R1 => q m1 h1 a b H1 E1 r1 (A.ext E1 R1) (OutS.ext E1 o)
  | exc c fs h1 =>
    rw [e] at o
    exact fun cls d m1 H1 E1 x R1 => o cls d σV m1 H1 E1 (A.sr.ext E1) x R1
  | stk => rw [e] at o; exact o
end
section
variable {X : Cx} {P : Pq} {W : WX} {a b c tg iter : Expr} {sa sb sc : SE} {pos pos' : Pos} {es : List Expr} {ar : SA} {si : SI} {ta tb : ST} {st : Stmt} {rest body : List Stmt} {x1 x2 : SS}
theorem ds_nil : DSs X P W [] ssNil := PSs.imp pss_nil fun D σV H ⟨m, h, σ, A, o⟩ => o σV m H (Ext.refl _ _) A.sr A.hr
theorem ds_cons (h1 : DS X P W st x1) (h2 : DSs X P W rest x2) : DSs X P W (st :: rest) (ssCons x1 x2) := PSs.imp (pss_cons h1 h2) fun D σV H ⟨m, h, σ, A, o⟩ => by
  refine ⟨m, h, σ, A, ?_⟩
  have o' : OutS X.K X.mg X.w W D m H ((x1 σ h).seq x2) := o
  cases e : x1 σ h with
  | nx σ1 h1 =>
    rw [e] at o'
    exact fun σV1 m1 H1 E1 s1 R1 => ⟨m1, h1, σ1, ⟨s1, R1, P.st E1 A.pr⟩, OutS.ext E1 o'⟩
  | rt t h1 => rw [e] at o'; exact o'
  | bk σ1 h1 => rw [e] at o'; exact o'
  | ct σ1 h1 => rw [e] at o'; exact o'
  | exc c fs σ1 h1 => rw [e] at o'; exact o'
  | stk => rw [e] at o'; exact o'
theorem ds_if {p q : List Stmt} (hc : DT X P W c ta) (ha : DSs X P W p x1) (hb : DSs X P W q x2) : DS X P W (.If c p q pos) (ssIf ta x1 x2) := PS.imp (ps_if hc ha hb) fun D σV H ⟨m, h, σ, A, o⟩ => by
  refine A.flo (rel1 := fun _ _ a b => a = b) o fun m1 h1 t x H1 E1 r A1 o1 => ?_
  subst r
  cases t with
  | true => exact ⟨m1, h1, σ, A1, o1⟩
  | false => exact ⟨m1, h1, σ, A1, o1⟩
theorem ds_ret (ha : DE X P W a sa) : DS X P W (.Return (some a) pos) (ssRet sa) := PS.imp (ps_ret ha) fun D σV H ⟨m, h, σ, A, o⟩ => by
  refine A.flo (rel1 := RT X.K X.mg) o fun m1 h1 t x H1 E1 r A1 o1 => ?_
  exact o1 x m1 H1 (Ext.refl _ _) r A1.hr
theorem ds_expr (ha : DE X P W a sa) (hs : swapsWith a none pos.line X.env = pure false := by rfl) : DS X P W (.Expr a pos) (ssExpr sa) := PS.imp (ps_expr ha hs) fun D σV H ⟨m, h, σ, A, o⟩ => by
  refine A.flo (rel1 := RT X.K X.mg) o fun m1 h1 t x H1 E1 r A1 o1 => ?_
  exact o1 σV m1 H1 (Ext.refl _ _) A1.sr A1.hr
theorem ds_set {i : Nat} {x : Str} (hN : X.N.Nodup) (hi : X.N[i]? = some x) (hx : Loc X.env.scope x) (ha : DE X P W a sa) (hs : swapsWith a (some (.Name x pos')) pos.line X.env = pure false := by rfl) (hf : X.fn x = true ∨ X.env.scope.names.lookup x = some .local := by first | exact .inl rfl | exact .inr rfl | assumption) :
    DS X P W (.Assign [.Name x pos'] a pos) (ssAsg sa (sgName i)) := PS.imp (ps_set hN hi hx ha hs hf) fun D σV H ⟨m, h, σ, A, o⟩ => by
  refine A.flo (rel1 := RT X.K X.mg) o fun m1 h1 t x H1 E1 r A1 o1 => ?_
  exact o1 _ m1 H1 (Ext.refl _ _) (A1.sr.set r i) A1.hr
theorem ds_setLc {i : Nat} {y : Str} {py : Pos} {elt : Expr} {ifs : List Expr} {scope : Scope} {own : List (Str × Nat)} {spos : Pos} {is : List Nat} {g : SG} {tt : ST} {te : SE} (hc : X.calm = true) (hN : X.N.Nodup) (hy : X.N[i]? = some y) (hyl : X.env.scope.names.lookup y = some .local)
    (hsw : swapsWith (.ListComp elt [⟨tg, iter, ifs, 0⟩] scope pos) (some (.Name y py)) spos.line X.env = pure true) (hi : DI X P W tg iter si) (ok : BlkOk X.N X.env.scope scope own)
    (hg : ∀ (s : Shared) (H : Hp) (C : Addr) (cl : List (Str × Addr)) (fp : List Addr), DG (X.blk s H scope (compEnvC scope cl C X.env) fp) P tg is g)
    (ht : ∀ (s : Shared) (H : Hp) (C : Addr) (cl : List (Str × Addr)) (fp : List Addr), DTs (X.blk s H scope (compEnvC scope cl C X.env) fp) P WF ifs tt)
    (he : ∀ (s : Shared) (H : Hp) (C : Addr) (cl : List (Str × Addr)) (fp : List Addr), DE (X.blk s H scope (compEnvC scope cl C X.env) fp) P WF elt te)
    (his : ∀ i ∈ is, i ∈ own.map (·.2) := by decide) (hs : ∀ x, foldedSetIterable iter X.env x = pure x := by intro _; rfl) :
    DS X P W (.Assign [.Name y py] (.ListComp elt [⟨tg, iter, ifs, 0⟩] scope pos) spos) (ssAsg (sLc (saLc si g tt te (own.map (·.2)))) (sgName i)) := by
  refine PS.imp (ps_setLc (own := own) (i := i) (wi := tG X.K X.mg X.w (SrcJ X.K X.mg X.w) P W si) (g := tTg X.K X.mg X.w P is g) (tt := tTst X.K X.mg X.w P WF tt) (te := tI X.K X.mg X.w P WF te) hc hN hy hyl hsw hi ok hg ht he hs) fun D σV H h => ?_
  refine lc_read his (lc_keep ?_)
  obtain ⟨m, h, σ, A, o⟩ := h
  refine A.flo (rel1 := RT X.K X.mg) o fun m1 h1 t x H1 E1 r A1 o1 => ?_
  exact o1 _ m1 H1 (Ext.refl _ _) (A1.sr.set r i) A1.hr
theorem ds_fld {o v : Expr} {so sv : SE} {f : Str} {cs : List (Str × List Str)} (C : ClsF X.K X.mg cs) (ho : DE X P W o so) (hv : DE X P W v sv) (hs : swapsWith v (some (.Attribute o f pos')) pos.line X.env = pure false := by rfl) :
    DS X P W (.Assign [.Attribute o f pos'] v pos) (ssFldC cs so sv f) := PS.imp (ps_fld ho hv hs) fun D σV H ⟨m, h, σ, A, o⟩ => by
  refine A.flo (rel1 := RT X.K X.mg) o fun m1 h1 t1 y H1 E1 r1 A1 o1 => ?_
  refine A1.flo (rel1 := RT X.K X.mg) o1 fun m2 h2 t2 x H2 E2 r2 A2 o2 => ?_
  cases r2 with
  | @ref l a e1 =>
    have o' : OutS X.K X.mg X.w W D m2 H2 (match insAt h2 l with
      | some (c, fs) => (match cs.lookup c with
        | some as => if as.contains f && decide (fs.length < 1000) then .nx σ (h2.set l (.ins c (putT f t1 fs))) else .stk
        | none => .stk)
      | none => .stk) := o2
    split at o'
    · rename_i c fs q1
      obtain ⟨Ca, dx, fv, g1, g2, rf⟩ := A2.hr.ins e1 q1
      split at o'
      · rename_i as q2
        split at o'
        · rename_i hc
          rw [Bool.and_eq_true, decide_eq_true_eq] at hc
          obtain ⟨k1, k2⟩ := C c as Ca (mem_of_lookup q2) g1
          refine ⟨a, Ca, dx, fv, rfl, g2, k1, k2 f (by simpa using hc.1), by rw [← rf.length]; exact hc.2, ?_⟩
          have Ew : Ext m2 H2 m2 (upd H2 a (.ins Ca dx (putF f y fv))) := Ext.write A2.hr e1
          refine o' σV m2 _ Ew (A2.sr.ext Ew) (A2.hr.write e1 ⟨Ca, dx, _, g1, upd_same, ?_⟩)
          exact (rf.put (r1.ext E2)).ext Ew
        · exact False.elim o'
      · exact False.elim o'
    · exact False.elim o'
  | _ => exact False.elim o2
end
end W3
end

section
namespace W3
open PySem PySem.Spec PyProof.Rows
open L2
section
variable {X : Cx} {P : Pq} {W : WX} {a b c tg iter : Expr} {sa sb sc : SE} {pos pos' : Pos} {es : List Expr} {ar : SA} {si : SI} {ta tb : ST} {st : Stmt} {rest body : List Stmt} {x1 x2 : SS}
theorem ds_for {is : List Nat} {g : SG} (hp : PassesOwn (model X.prog X.w) X.A X.env X.xe) (hc : X.calm = true) (hi : DI X P W tg iter si) (hg : DG X P tg is g) (hb : DSs X P W body x1)
    (hs : ∀ x, foldedSetIterable iter X.env x = pure x := by intro _; rfl) : DS X P W (.For tg iter body [] pos) (ssFor si g x1) := PS.imp (ps_for hp hc hi hg hb hs) fun D σV H ⟨m, h, σ, A, o⟩ => by
  refine A.flo (rel1 := SrcJ X.K X.mg X.w) o fun m1 h1 s J H1 E1 S A1 o1 => ?_
  refine ⟨fun i k σV' H' => ∃ m' h' σ', Ext m1 H1 m' H' ∧ At X.K X.mg X.w P m' H' σV' σ' h' ∧ OutS X.K X.mg X.w W D m1 H1 (forRun s g x1 k i σ' h'), ⟨s.len h1, m1, h1, σ, Ext.refl _ _, A1, o1⟩, ?_⟩
  rintro i k σV' H' ⟨m', h', σ', E', A', o'⟩
  unfold forRun at o'
  cases es : s.at h' i with
  | none => rw [es] at o'; exact False.elim o'
  | some ox =>
    cases ox with
    | none =>
      rw [es] at o'
      exact .inl ⟨S.stop m' h' H' i E'.tr A'.hr es, o' σV' m' H' E' A'.sr A'.hr⟩
    | some x =>
      rw [es] at o'
      cases k with
      | zero => exact False.elim o'
      | succ k =>
        obtain ⟨jg, jy⟩ := S.go m' h' H' i x E'.tr A'.hr es
        refine .inr ⟨jg, _, fun σV2 H'' q => ⟨k, Nat.lt_succ_self k, q⟩, fun y H2 hy => ?_⟩
        obtain ⟨E2, R2, rx⟩ := jy y H2 hy
        have A2 : At X.K X.mg X.w P m' H2 σV' σ' h' := A'.ext E2 R2
        refine ⟨m', h', σ', x, A2, rx, ?_⟩
        dsimp only at o'
        cases eg : g x σ' with
        | none => rw [eg] at o'; exact False.elim o'
        | some σ1 =>
          rw [eg] at o'
          intro σV1 s1 _
          refine ⟨m', h', σ1, ⟨s1, R2, A2.pr⟩, ?_⟩
          dsimp only at o'
          have up : ∀ {r : Flo}, OutS X.K X.mg X.w W D m1 H1 r → OutS X.K X.mg X.w W D m' H2 r := fun q => OutS.ext (E'.trans E2) q
          cases eb : x1 σ1 h' with
          | nx σ2 h2 =>
            rw [eb] at o'
            exact fun σV3 m3 H3 E3 s3 R3 => ⟨m3, h2, σ2, (E'.trans E2).trans E3, ⟨s3, R3, P.st E3 A2.pr⟩, o'⟩
          | ct σ2 h2 =>
            rw [eb] at o'
            exact fun σV3 m3 H3 E3 s3 R3 => ⟨m3, h2, σ2, (E'.trans E2).trans E3, ⟨s3, R3, P.st E3 A2.pr⟩, o'⟩
          | bk σ2 h2 => rw [eb] at o'; exact up o'
          | rt t h2 => rw [eb] at o'; exact up (r := .rt t h2) o'
          | exc c fs σ2 h2 => rw [eb] at o'; exact up (r := .exc c fs σ2 h2) o'
          | stk => rw [eb] at o'; exact o'
end
end W3
end

section
namespace W3
open PySem PySem.Spec PyProof.Rows
open L2
section
variable {X : Cx} {P : Pq} {W : WX} {a b c o e : Expr} {sa sb sc so : SE} {pos pos' apos cpos p : Pos} {es : List Expr} {ar : SA}
def spT (K : PySem.W.Frag) (mg : Str → Option Value) (wd : World) (n : Nat) (f : List T → Hh → Res T) : Sp := fun vs H Q E => vs.length = n ∧ ∃ m h ts, RTs K mg m H ts vs ∧ HR K mg wd m h H ∧
  (match f ts h with
    | .ok t h' => ∀ v m' H', Ext m H m' H' → RT K mg m' H' t v → HR K mg wd m' h' H' → Q v H'
    | .exc c fs h' => ∀ cls d m' H', Ext m H m' H' → XR K mg m' H' c fs cls d → HR K mg wd m' h' H' → E cls d H'
    | .stk => False)
theorem SR.start {K : PySem.W.Frag} {mg : Str → Option Value} {m : Mp} {H : Hp} {ts : List T} {vs : List V} (N : List Str) (r : RTs K mg m H ts vs) : SR K mg m H (startT N.length ts) (L2.start N vs) := by
  unfold startT L2.start
  rw [r.length]
  refine ⟨by rw [List.length_append, List.length_append, List.length_map, List.length_map, List.length_replicate, List.length_replicate, r.length], fun i t e => ?_⟩
  by_cases hi : i < vs.length
  · have hi' : i < ts.length := by rw [r.length]; exact hi
    rw [List.getElem?_append_left (by rw [List.length_map]; exact hi'), List.getElem?_map] at e
    cases q : ts[i]? with
    | none => rw [q] at e; cases e
    | some u =>
      rw [q] at e
      have e2 : u = t := Option.some.inj (Option.some.inj e)
      subst e2
      obtain ⟨v, q2, rv⟩ := r.get q
      exact ⟨v, by rw [List.getElem?_append_left (by rw [List.length_map]; exact hi), List.getElem?_map, q2]; rfl, rv⟩
  · rw [List.getElem?_append_right (by rw [List.length_map, r.length]; omega), List.getElem?_replicate] at e
    split at e
    · cases e
    · cases e
abbrev cxD (P : Program) (w : World) (K : PySem.W.Frag) (mg : Str → Option Value) (base : Heap) (N : List Str) (qual : Str) (sc : Scope) (f : Addr) (cdv : Value) (A : Around) (outer : List Env) (s : Shared) (H : Hp) (E : XK) : Cx :=
  cxOf (L2.CX P w) P w K mg base N qual sc f cdv A outer s H E
abbrev wD (E : XK) : WX := fun cls d _ H => E cls d H
theorem def_read {K : PySem.W.Frag} {mg : Str → Option Value} {wd : World} {N ps : List Str} {ss : SS} {vs : List V} {H : Hp} {Q : VK} {E : XK} (h : spT K mg wd ps.length (defRun N.length ss) vs H Q E) : tS K mg wd PqT (wD E) ss { nx := fun _ H' => Q .non H', rt := Q } (L2.start N vs) H := by
  obtain ⟨_, m, h, ts, r, R, o⟩ := h
  refine ⟨m, h, startT N.length ts, ⟨SR.start N r, R, trivial⟩, ?_⟩
  unfold defRun at o
  cases e : ss (startT N.length ts) h with
  | nx σ1 h1 => rw [e] at o; exact fun σV' m' H' E' _ R' => o .non m' H' E' .non R'
  | rt t h1 => rw [e] at o; exact o
  | exc c fs σ1 h1 => rw [e] at o; exact fun cls d _ m' H' E' _ x R' => o cls d m' H' E' x R'
  | bk σ1 h1 => rw [e] at o; exact False.elim o
  | ct σ1 h1 => rw [e] at o; exact False.elim o
  | stk => rw [e] at o; exact False.elim o
theorem fn_T {P : Program} {w : World} {K : PySem.W.Frag} {mg : Str → Option Value} {base : Heap} {x qual : Str} {st : Stmt} {f : Addr} {fd : FuncData} {N ps : List Str} {k : Nat} {ss : SS} (F : Fun K x qual st f fd) (S : FnScope N ps (defScope st))
    (hbody : ∀ (cdv : Value) (A : Around) (outer : List Env) (s : Shared) (H : Hp) (E : XK), Room k (cxD P w K mg base N qual (defScope st) f cdv A outer s H E).A → Takes (cxD P w K mg base N qual (defScope st) f cdv A outer s H E) (wD E) →
      PassesOwn (model P w) (cxD P w K mg base N qual (defScope st) f cdv A outer s H E).A (cxD P w K mg base N qual (defScope st) f cdv A outer s H E).env (cxD P w K mg base N qual (defScope st) f cdv A outer s H E).xe →
      DSs (cxD P w K mg base N qual (defScope st) f cdv A outer s H E) PqT (wD E) (defBody st) ss) : FnOk P w K mg base (L2.CX P w) (k + 1) f fd ps (spT K mg w ps.length (defRun N.length ss)) :=
  F.okX S (fun vs H Q E h => h.1) fun cdv A outer s H vs Q E hr h => ⟨_, hbody cdv A outer s H E hr (takes_of rfl rfl rfl rfl) (passes_of rfl), def_read h⟩
theorem de_call {x : Str} {k : Nat} {f : Addr} {fd : FuncData} {ps : List Str} {ff : List T → Hh → Res T} (F : FnOk X.prog X.w X.K X.mg X.base (L2.CX X.prog X.w) k f fd ps (spT X.K X.mg X.w ps.length ff)) (hr : Room k X.A) (hg : Gl X x) (hm : X.mg x = some (.ref f))
    (hk : PySem.W.keepIn X.K (.ref f) = true) (hb : Binds X.K fd ps []) (tk : Takes X W) (ha : DA X P W (a :: es) ar) (hdb : (x == ("__debug__" : Str)) = false := by decide)
    (he : starEach (a :: es) X.env = (false, eval a X.env) :: starEach es X.env := by rfl) (hpl : (backTo pos (starEach es X.env)).any (·.1) = false := by rfl) :
    DE X P W (.Call (.Name x p) (a :: es) [] pos) (sCl (arN ps.length ff) ar) :=
  PE.imp (pe_callS F hr hg hm hk hb (fun σ => passAt tk σ) ha hdb he hpl) fun σV H Q ⟨m, h, σ, A, o⟩ => by
    refine A.first (rel1 := RTs X.K X.mg) o fun m1 h1 ts xs H1 E1 r A1 o1 => ?_
    unfold arN at o1
    split at o1
    · rename_i hl
      refine ⟨by rw [← r.length]; exact hl, m1, h1, ts, r, A1.hr, ?_⟩
      cases e : ff ts h1 with
      | ok t h2 => rw [e] at o1; exact o1
      | exc c fs h2 => rw [e] at o1; exact o1
      | stk => rw [e] at o1; exact o1
    · exact False.elim o1
theorem call_end {pins : List (Addr × Obj)} {σ : L2.St} {H : Hp} {s s' : Shared} {Q : VK} {r : Result} (I : L2.Inv X pins σ H s) (tk : Takes X W)
    (hq : CR (L2.CX X.prog X.w) X.stack X.prog X.w H s Q (WE W σ) r s') : match r with | .ok (.ret u) => EP X pins σ Q u s' | .error e => X.xe e s' | .ok _ => False := by
  cases r with
  | error e => exact passAt tk σ pins H s e s' I hq
  | ok fl =>
    cases fl with
    | ret u => exact I.after hq
    | next => exact hq
    | brk => exact hq
    | cont => exact hq
theorem spT_of {m : Mp} {H : Hp} {h : Hh} {σV : L2.St} {Q : VK} {ff : List T → Hh → Res T} {ts : List T} {vs : List V} {n : Nat} (hl : vs.length = n) (r : RTs X.K X.mg m H ts vs) (R : HR X.K X.mg X.w m h H)
    (o : Out X.K X.mg X.w (RT X.K X.mg) W σV Q m H (ff ts h)) : spT X.K X.mg X.w n ff vs H Q (WE W σV) := by
  refine ⟨hl, m, h, ts, r, R, ?_⟩
  cases e : ff ts h with
  | ok t h2 => rw [e] at o; exact o
  | exc c fs h2 => rw [e] at o; exact o
  | stk => rw [e] at o; exact o
theorem RTs.weave {K : PySem.W.Frag} {mg : Str → Option Value} {m : Mp} {H : Hp} : ∀ (pat : List Bool) {ds zs : List T} {dv zv : List V}, RTs K mg m H ds dv → RTs K mg m H zs zv → RTs K mg m H (weave pat ds zs) (weave pat dv zv)
  | [], _, _, _, _, _, _ => .nil
  | true :: r, _, _, _, _, d, .cons q z => .cons q (RTs.weave r d z)
  | true :: _, _, _, _, _, _, .nil => .nil
  | false :: r, _, _, _, _, .cons q d, z => .cons q (RTs.weave r d z)
  | false :: _, _, _, _, _, .nil, _ => .nil
theorem Vals.weave : ∀ (pat : List Bool) {ds zs : List V} {dv zv : List Value}, Vals ds dv → Vals zs zv → Vals (W3.weave pat ds zs) (W3.weave pat dv zv)
  | [], _, _, _, _, _, _ => .nil
  | true :: r, _, _, _, _, d, .cons q z => .cons q (Vals.weave r d z)
  | true :: _, _, _, _, _, _, .nil => .nil
  | false :: r, _, _, _, _, .cons q d, z => .cons q (Vals.weave r d z)
  | false :: _, _, _, _, _, .nil, _ => .nil
theorem PK.imp {kws : List Keyword} {t t' : TA} (h : PK X kws t) (k : ∀ σ H Q, t' σ H Q → t σ H Q) : PK X kws t' := ⟨fun pos pins s σ H Q I hw => h.run pos pins s σ H Q I (k _ _ _ hw)⟩
end
end W3
end

section
namespace W3
open PySem PySem.Spec PyProof.Rows
open L2
section
variable {X : Cx} {P : Pq} {W : WX} {a b c o e : Expr} {sa sb sc so : SE} {pos pos' apos cpos p : Pos} {es : List Expr} {ar : SA}
theorem make_read {m : Mp} {H : Hp} {h : Hh} {σV : L2.St} {Q : VK} {ff : List T → Hh → Res T} {ts : List T} {vs : List V} {n : Nat} {cn : Str} {C : Addr} (hC : X.mg cn = some (.ref C)) (r : RTs X.K X.mg m H ts vs) (R : HR X.K X.mg X.w m h H)
    (o : Out X.K X.mg X.w (RT X.K X.mg) W σV Q m H (bMake cn n ff ts h)) {x dx : Addr} (nx : H x = none) (nd : H dx = none) (ne : dx ≠ x) :
    spT X.K X.mg X.w n ff (.ref x :: vs) (upd (upd H dx (.own x)) x (.ins C dx [])) (fun v H2 => v = .non ∧ Q (.ref x) H2) (WE W σV) := by
  have R1 : HR X.K X.mg X.w m h (upd H dx (.own x)) := R.garbage nd
  have nx1 : upd H dx (.own x) x = none := by rw [upd_ne ne.symm]; exact nx
  have E1 : Ext m H m (upd H dx (.own x)) := Ext.garbage R nd
  have E2 : Ext m (upd H dx (.own x)) (m.put h.length x) (upd (upd H dx (.own x)) x (.ins C dx [])) := Ext.alloc R1 nx1
  have R2 : HR X.K X.mg X.w (m.put h.length x) (h ++ [.ins cn []]) (upd (upd H dx (.own x)) x (.ins C dx [])) := R1.alloc nx1 ⟨C, dx, [], hC, upd_same, .nil⟩
  have E12 := E1.trans E2
  unfold bMake arN at o
  by_cases hl : (T.ref h.length :: ts).length = n
  · rw [if_pos hl] at o
    have r2 : RTs X.K X.mg (m.put h.length x) (upd (upd H dx (.own x)) x (.ins C dx [])) (.ref h.length :: ts) (.ref x :: vs) := .cons (.ref Mp.put_same) (r.ext E12)
    refine ⟨by rw [← r2.length]; exact hl, m.put h.length x, h ++ [.ins cn []], .ref h.length :: ts, r2, R2, ?_⟩
    cases e : ff (.ref h.length :: ts) (h ++ [.ins cn []]) with
    | stk => rw [e] at o; exact o
    | exc c fs h2 => rw [e] at o; exact fun cls d m' H' E' xr R' => o cls d m' H' (E12.trans E') xr R'
    | ok t h2 =>
      rw [e] at o
      intro v m' H' E' rv R'
      cases rv with
      | non => exact ⟨rfl, o (.ref x) m' H' (E12.trans E') (.ref (E'.mono _ _ Mp.put_same)) R'⟩
      | _ => exact False.elim o
  · rw [if_neg hl] at o; exact False.elim o
theorem de_make {x : Str} {k : Nat} {f C : Addr} {fd : FuncData} {ps : List Str} {ff : List T → Hh → Res T} (M : Mk X.K C f) (F : FnOk X.prog X.w X.K X.mg X.base (L2.CX X.prog X.w) k f fd ps (spT X.K X.mg X.w ps.length ff)) (hr : Room (k + 1) X.A) (hg : Gl X x)
    (hm : X.mg x = some (.ref C)) (hb : Binds X.K fd ps []) (tk : Takes X W) (ha : DA X P W (a :: es) ar) (hdb : (x == ("__debug__" : Str)) = false := by decide)
    (he : starEach (a :: es) X.env = (false, eval a X.env) :: starEach es X.env := by rfl) (hpl : (backTo pos (starEach es X.env)).any (·.1) = false := by rfl) :
    DE X P W (.Call (.Name x p) (a :: es) [] pos) (sCl (bMake x ps.length ff) ar) := by
  refine ⟨fun pins s σV H Q I ⟨m, h, σ, A, o⟩ => ?_⟩
  refine wpAny_Call_Name_kw (ld_glob I hg hm ?_ hdb)
  have first := A.first (rel1 := RTs X.K X.mg) o fun m1 h1 ts vs H1 E1 r1 A1 o1 =>
    (⟨m1, h1, ts, r1, A1, o1⟩ : ∃ m1 h1 ts, RTs X.K X.mg m1 H1 ts vs ∧ At X.K X.mg X.w P m1 H1 σV σ h1 ∧ Out X.K X.mg X.w (RT X.K X.mg) W σV Q m1 H1 (bMake x ps.length ff ts h1))
  refine PySem.W.callWith_K (h₀ := X.base) I.ok.mod.kin M.kp (thn (ha.run pos pins s σV H _ I first) fun us s1 ⟨vs, H1, I1, r, m1, h1, ts, r1, A1, o1⟩ => ⟨I1.kIn, ?_⟩) he hpl
  have hq := make_read hm r1 A1.hr o1 (I1.hok.fresh (Nat.le_succ _)) (I1.hok.fresh (Nat.le_refl _)) (Nat.ne_of_lt (Nat.lt_succ_self s1.heap.objs.size))
  have I2 := Inv.made (C := C) I1
  have r2 : Vals (V.ref (s1.heap.objs.size + 1) :: vs) (Value.ref (s1.heap.objs.size + 1) :: us) := .cons rfl r
  have hl2 : (Value.ref (s1.heap.objs.size + 1) :: us).length = ps.length := by rw [← r2.length]; exact hq.1
  have bt := hb _ (Value.ref (s1.heap.objs.size + 1) :: us) I2.kIn (by rw [List.append_nil]; exact hl2)
  rw [List.append_nil] at bt
  refine wpAny_call (make_map (f := f) I1.kIn M.makes M.init (beq_iff_eq.mp M.fn) (codeAny_mono (F.run _ X.stack _ _ ⟨Value.ref (s1.heap.objs.size + 1) :: us, []⟩ (Value.ref (s1.heap.objs.size + 1) :: us) _ _ (WE W σV) (hr.make C us [])
    (I2.env0.make C us []) bt r2 hq) fun res s' hq' => ?_))
  have fin := call_end I2 tk hq'
  cases res with
  | error e => exact fin
  | ok fl =>
    cases fl with
    | ret u =>
      obtain ⟨v, H', I3, rv, ev, q3⟩ := fin
      subst ev
      exact ⟨rv, ⟨V.ref (s1.heap.objs.size + 1), H', I3, rfl, q3⟩⟩
    | next => exact fin
    | brk => exact fin
    | cont => exact fin
def bMakeK (c : Str) (q n : Nat) (pat : List Bool) (ds : List T) (f : List T → Hh → Res T) (a kw : SA) : SE := fun σ h => (a σ h).bind fun xs h1 => (kw σ h1).bind fun zs h2 => if xs.length = n ∧ zs.length = q then bMake c (n + 1 + pat.length) f (xs ++ weave pat ds zs) h2 else .stk
end
end W3
end

section
namespace W3
open PySem PySem.Spec PyProof.Rows
open L2
def Kd.nm : Kd → String
  | .int => "int" | .bool => "bool" | .str => "str" | .tuple => "tuple" | .list => "list" | .dict => "dict"
section
variable {X : Cx} {P : Pq} {W : WX} {a b c o e : Expr} {sa sb sc so : SE} {pos pos' apos cpos p p2 : Pos} {es : List Expr} {ar : SA}
theorem ty_of {m : Mp} {H : Hp} {h : Hh} {t : T} {v : V} {k : Kd} {r : Bool} (R : HR X.K X.mg X.w m h H) (q : RT X.K X.mg m H t v) (e : isK k t h = some r) : ∃ n : String, TyX X.K H v (.type n) ∧ kitB n k.nm = some r := by
  cases q with
  | non => exact ⟨_, .base .non, by cases e; cases k <;> decide +kernel⟩
  | bl b => exact ⟨_, .base (.bl b), by cases e; cases k <;> decide +kernel⟩
  | int b => exact ⟨_, .base (.int b), by cases e; cases k <;> decide +kernel⟩
  | str b => exact ⟨_, .base (.str _), by cases e; cases k <;> decide +kernel⟩
  | @tup a vs ts hq _ =>
    refine ⟨"tuple", ?_, by cases e; cases k <;> decide +kernel⟩
    rcases hq with ⟨ob, z, _⟩ | ⟨ob, its, n, hk, hc, _⟩
    · exact .fTuple z
    · exact .kTuple hk hc
  | @fl a vs ts hq _ =>
    refine ⟨"list", ?_, by cases e; cases k <;> decide +kernel⟩
    rcases hq with ⟨ob, z⟩ | ⟨ob, its, n, hk, hc, _⟩
    · exact .base (.frz z)
    · exact .kList hk hc
  | @ref l a e1 =>
    have e' : (match h[l]? with
      | some (.lst _) => some (k == .list)
      | some (.dic _) => some (k == .dict)
      | some (.ins _ _) => none
      | some (.dtk _) => none
      | none => none) = some r := e
    split at e'
    · rename_i ts q1
      obtain ⟨b, e2, vs, g, _⟩ := R.ob l _ q1
      rw [e1] at e2; cases e2
      exact ⟨"list", .base (.lst g), by cases e'; cases k <;> decide +kernel⟩
    · rename_i ts q1
      obtain ⟨b, e2, _, g, _⟩ := R.ob l _ q1
      rw [e1] at e2; cases e2
      exact ⟨"dict", .base (.dK g), by cases e'; cases k <;> decide +kernel⟩
    · cases e'
    · cases e'
    · cases e'
  | cls _ => cases e
theorem nx_isk (k : Kd) : NoX1 (oIsK k) := fun x h c fs h' e => by unfold oIsK at e; (repeat' split at e) <;> cases e
theorem de_isk (k : Kd) {x : Str} (hx : bootBuiltins x = some (.type k.nm)) (hg : Gl X "isinstance") (hm : X.mg "isinstance" = none) (hgx : Gl X x) (hmx : X.mg x = none) (ha : DE X P W a sa) (hn : x ≠ "__name__" := by decide) (hdx : (x == ("__debug__" : Str)) = false := by decide)
    (he : starEach [a, .Name x p2] X.env = (false, eval a X.env) :: starEach [.Name x p2] X.env := by rfl) (hpl : (backTo pos (starEach [.Name x p2] X.env)).any (·.1) = false := by rfl) (hs2 : starEach [.Name x p2] X.env = (false, eval (.Name x p2) X.env) :: starEach [] X.env := by rfl) :
    DE X P W (.Call (.Name "isinstance" p) [a, .Name x p2] [] pos) (s1 (oIsK k) sa) :=
  PE.imp (pe_callB call_isi hg hm boot_isinstance (pa_cons ha (pa_cons (pe_bltn (v := .ty k.nm) hgx hmx hx rfl hn hdx) pa_nil hs2) he) (by decide) (by decide) he hpl) fun σV H Q h => by
    refine tG.mono (fun v H1 hq => ?_) (one (nx_isk k) h)
    obtain ⟨m, h, t, r, R, o⟩ := hq
    unfold oIsK at o
    split at o
    · rename_i b e
      obtain ⟨n, ty, kb⟩ := ty_of R r e
      exact ⟨v, .ty k.nm, .type n, .type k.nm, b, rfl, .ty _, ty, kit_ty kb, o _ m H1 (Ext.refl _ _) (.bl _) R⟩
    · exact False.elim o
def sDic0 : SE := fun _ h => alloc (.dic []) h
theorem de_meth {m : Str} {cn : Str} {C f : Addr} {k : Nat} {fd : FuncData} {ps : List Str} {ff : List T → Hh → Res T} {pl : Sem Bool} (hC : X.mg cn = some (.ref C)) (cc : Cls X.K C) (hm : Meth X.K C m f)
    (F : FnOk X.prog X.w X.K X.mg X.base (L2.CX X.prog X.w) k f fd ps (spT X.K X.mg X.w ps.length ff)) (hr : Room k X.A) (hb : Binds X.K fd ps []) (tk : Takes X W) (ho : DE X P W o so) (ha : DA X P W (e :: es) ar)
    (hst : starEach (e :: es) X.env = (false, eval e X.env) :: starEach es X.env := by rfl) (hpl : (backTo pos (starEach es X.env)).any (·.1) = false := by rfl)
    (ht : eval (.Call (.Attribute o m apos) (e :: es) [] pos) X.env = (do
      let ov ← eval o X.env
      standAt apos.atName
      let (f, first) ← holding [ov] (getMethod ov m pl)
      callWith pos f first (backTo pos (starEach (e :: es) X.env)) (backToKw pos (keywordEach [] X.env))) := by rfl) :
    DE X P W (.Call (.Attribute o m apos) (e :: es) [] pos) (sMeth cn m ps.length ff so ar) := by
  refine ⟨fun pins s σV H Q I ⟨m0, h, σ, A, o0⟩ => ?_⟩
  have first := A.first (rel1 := RT X.K X.mg) o0 fun m1 h1 t v H1 E1 r1 A1 o1 =>
    (⟨m1, h1, t, r1, A1, o1⟩ : ∃ m1 h1 t, RT X.K X.mg m1 H1 t v ∧ At X.K X.mg X.w P m1 H1 σV σ h1 ∧ Out X.K X.mg X.w (RT X.K X.mg) W σV Q m1 H1 (match t with
      | .ref l => (match insAt h1 l with
        | some (d, fs) => if d = cn ∧ fs.lookup m = none then (ar σ h1).bind fun xs h2 => arN ps.length ff (t :: xs) h2 else .stk
        | none => .stk)
      | _ => .stk))
  refine PySem.W.methodCall_KW (pl := pl) (thn (ho.run pins s σV H _ I first) fun u s1 ⟨v, H1, I1, rv, m1, h1, t, r1, A1, o1⟩ => ?_) ht
  cases r1 with
  | @ref l a e1 =>
    dsimp only at o1
    split at o1
    · rename_i d fs q1
      split at o1
      · rename_i hd
        obtain ⟨hd1, hd2⟩ := hd
        subst hd1
        obtain ⟨Ca, dx, fv, g1, g2, rf⟩ := A1.hr.ins e1 q1
        rw [hC] at g1; cases g1
        obtain rfl : u = Value.ref a := rv
        have hno : fv.lookup m = none := by
          cases z : fv.lookup m with
          | none => rfl
          | some w =>
            exfalso
            have back : ∀ {fs : List (Str × T)} {fv : List (Str × V)} {w : V}, RF X.K X.mg m1 H1 fs fv → fv.lookup m = some w → fs.lookup m ≠ none := by
              intro fs fv w r
              induction r with
              | nil => intro q; simp [List.lookup] at q
              | @cons g t v fs fv _ _ ih =>
                intro q
                simp only [List.lookup] at q ⊢
                split at q
                · simp
                · exact ih q
            exact back rf z hd2
        refine getmeth_ok I1 g2 cc hm hno ?_
        have second := A1.first (rel1 := RTs X.K X.mg) o1 fun m2 h2 ts vs H2 E2 r2 A2 o2 =>
          (⟨m2, h2, ts, .ref (E2.mono _ _ e1), r2, A2, o2⟩ : ∃ m2 h2 ts, RT X.K X.mg m2 H2 (.ref l) (.ref a) ∧ RTs X.K X.mg m2 H2 ts vs ∧ At X.K X.mg X.w P m2 H2 σV σ h2 ∧ Out X.K X.mg X.w (RT X.K X.mg) W σV Q m2 H2 (arN ps.length ff (.ref l :: ts) h2))
        refine PySem.W.callWith_K (first := [.ref a]) (h₀ := X.base) I.ok.mod.kin hm.kp (thn (ha.run pos pins s1 σV H1 _ I1 second) fun us s2 ⟨vs, H2, I2, r, m2, h2, ts, ra, r2, A2, o2⟩ => ⟨I2.kIn, ?_⟩) hst hpl
        unfold arN at o2
        split at o2
        · rename_i hl
          exact run_fnS (us := .ref a :: us) (vs := .ref a :: vs) F hr hb (passAt tk σV) I2 (.cons rfl r) (spT_of (by rw [← hl, List.length_cons, List.length_cons, r2.length]) (.cons ra r2) A2.hr o2)
        · exact False.elim o2
      · exact False.elim o1
    · exact False.elim o1
  | _ => exact False.elim o1
theorem de_meth0 {m : Str} {cn : Str} {C f : Addr} {k : Nat} {fd : FuncData} {ps : List Str} {ff : List T → Hh → Res T} {pl : Sem Bool} (hC : X.mg cn = some (.ref C)) (cc : Cls X.K C) (hm : Meth X.K C m f)
    (F : FnOk X.prog X.w X.K X.mg X.base (L2.CX X.prog X.w) k f fd ps (spT X.K X.mg X.w ps.length ff)) (hr : Room k X.A) (hb : Binds X.K fd ps []) (tk : Takes X W) (ho : DE X P W o so)
    (ht : eval (.Call (.Attribute o m apos) [] [] pos) X.env = (do
      let ov ← eval o X.env
      standAt apos.atName
      let (f, first) ← holding [ov] (getMethod ov m pl)
      callWith pos f first (backTo pos (starEach [] X.env)) (backToKw pos (keywordEach [] X.env))) := by rfl) :
    DE X P W (.Call (.Attribute o m apos) [] [] pos) (sMeth cn m ps.length ff so saNil) := by
  refine ⟨fun pins s σV H Q I ⟨m0, h, σ, A, o0⟩ => ?_⟩
  have first := A.first (rel1 := RT X.K X.mg) o0 fun m1 h1 t v H1 E1 r1 A1 o1 =>
    (⟨m1, h1, t, r1, A1, o1⟩ : ∃ m1 h1 t, RT X.K X.mg m1 H1 t v ∧ At X.K X.mg X.w P m1 H1 σV σ h1 ∧ Out X.K X.mg X.w (RT X.K X.mg) W σV Q m1 H1 (match t with
      | .ref l => (match insAt h1 l with
        | some (d, fs) => if d = cn ∧ fs.lookup m = none then (saNil σ h1).bind fun xs h2 => arN ps.length ff (t :: xs) h2 else .stk
        | none => .stk)
      | _ => .stk))
  refine PySem.W.methodCall_KW (pl := pl) (thn (ho.run pins s σV H _ I first) fun u s1 ⟨v, H1, I1, rv, m1, h1, t, r1, A1, o1⟩ => ?_) ht
  cases r1 with
  | @ref l a e1 =>
    dsimp only at o1
    split at o1
    · rename_i d fs q1
      split at o1
      · rename_i hd
        obtain ⟨hd1, hd2⟩ := hd
        subst hd1
        obtain ⟨Ca, dx, fv, g1, g2, rf⟩ := A1.hr.ins e1 q1
        rw [hC] at g1; cases g1
        obtain rfl : u = Value.ref a := rv
        have hno : fv.lookup m = none := by
          cases z : fv.lookup m with
          | none => rfl
          | some w =>
            exfalso
            have back : ∀ {fs : List (Str × T)} {fv : List (Str × V)} {w : V}, RF X.K X.mg m1 H1 fs fv → fv.lookup m = some w → fs.lookup m ≠ none := by
              intro fs fv w r
              induction r with
              | nil => intro q; simp [List.lookup] at q
              | @cons g t v fs fv _ _ ih =>
                intro q
                simp only [List.lookup] at q ⊢
                split at q
                · simp
                · exact ih q
            exact back rf z hd2
        refine getmeth_ok I1 g2 cc hm hno ?_
        have o2 : Out X.K X.mg X.w (RT X.K X.mg) W σV Q m1 H1 (arN ps.length ff [.ref l] h1) := o1
        unfold arN at o2
        split at o2
        · rename_i hl
          exact PySem.W.callWith_K0 (first := [.ref a]) I1.kIn hm.kp (run_fnS (us := [.ref a]) (vs := [.ref a]) F hr hb (passAt tk σV) I1 (.cons rfl .nil) (spT_of hl (.cons (.ref e1) .nil) A1.hr o2))
        · exact False.elim o2
      · exact False.elim o1
    · exact False.elim o1
  | _ => exact False.elim o1
end
end W3
end

section
namespace W3
open PySem PySem.Spec PyProof.Rows
open L2
instance decMemK (k : Key) (l : List Key) : Decidable (k ∈ l) := decidable_of_iff (l.any (fun j => decide (j = k)) = true) (by simp [List.any_eq_true])
section
variable {X : Cx}
end
end W3
end

section
namespace W3
open PySem PySem.Spec PyProof.Rows
open L2
section
variable {P : Program} {w : World} {A : Around} {E : Value → Shared → Prop} {s : Shared}
abbrev KeysAre (P : Program) (w : World) (ks : List Key) (vs : List Value) : Prop := Paired (fun k v => RelV (kV k) v) ks vs
theorem KeysAre.get {ks : List Key} {vs : List Value} (r : KeysAre P w ks vs) : ∀ {i : Nat} {v : Value}, vs[i]? = some v → ∃ k, ks[i]? = some k ∧ RelV (kV k) v := by
  induction r with
  | nil => intro i v e; simp at e
  | cons r _ ih =>
    intro i v e
    cases i with
    | zero => simp at e; subst e; exact ⟨_, rfl, r⟩
    | succ i => exact ih (by simpa using e)
end
end W3
end

section
namespace W3
open PySem PySem.Spec PyProof.Rows
open L2
section
variable {X : Cx} {P : Pq} {W : WX} {a b c o e tg iter : Expr} {sa sb sc so : SE} {pos pos' apos cpos p p2 q2 : Pos} {es : List Expr} {ar : SA} {si : SI}
theorem lcRun_pre {s : Src} {g : SG} {tt : ST} {te : SE} {σ : St3} : ∀ (k i : Nat) (acc : List T) (h : Hh) (ts : List T) (h' : Hh), lcRun s g tt te σ k i acc h = .ok ts h' → ∃ r, ts = acc ++ r := by
  intro k
  induction k with
  | zero =>
    intro i acc h ts h' e
    unfold lcRun at e
    split at e
    · cases e
    · cases e; exact ⟨[], by simp⟩
    · cases e
  | succ k ih =>
    intro i acc h ts h' e
    unfold lcRun at e
    split at e
    · cases e
    · cases e; exact ⟨[], by simp⟩
    · dsimp only at e
      split at e
      · cases e
      · split at e
        · split at e
          · split at e
            · split at e
              · obtain ⟨r, e2⟩ := ih _ _ _ _ _ e
                rename_i t _ _ _
                exact ⟨t :: r, by rw [e2]; simp⟩
              · cases e
            · cases e
          · exact ih _ _ _ _ _ e
        · cases e
theorem lcRun_nx {s : Src} {g : SG} {tt : ST} {te : SE} {σ : St3} : ∀ (k i : Nat) (acc : List T) (h : Hh) (c : Str) (fs : List (Str × T)) (h' : Hh), lcRun s g tt te σ k i acc h ≠ .exc c fs h' := by
  intro k
  induction k with
  | zero =>
    intro i acc h c fs h' e
    unfold lcRun at e
    split at e <;> cases e
  | succ k ih =>
    intro i acc h c fs h' e
    unfold lcRun at e
    split at e
    · cases e
    · cases e
    · dsimp only at e
      split at e
      · cases e
      · split at e
        · split at e
          · split at e
            · split at e
              · exact ih _ _ _ _ _ _ e
              · cases e
            · cases e
          · exact ih _ _ _ _ _ _ e
        · cases e
end
end W3
end

section
namespace W3
open PySem PySem.Spec PyProof.Rows
open L2
theorem hu65 {k : Nat} {A : Around} (hr : Room k A) : A.units + 65 < cLine := by have := hr.un; omega
section
variable {X : Cx} {P : Pq} {W : WX} {a b c o e : Expr} {sa sb sc so : SE} {pos pos' : Pos} {st : Stmt}
theorem dv (i : Nat) {x : Str} (hN : X.N[i]? = some x := by rfl) (hv : Vis X.env.scope x := by first | exact Or.inl rfl | exact Or.inr (Or.inl rfl) | exact Or.inr (Or.inr rfl)) (hd : (x == ("__debug__" : Str)) = false := by decide) (hcd : (x == ("__classdict__" : Str)) = false := by decide) :
    DE X P W (.Name x pos) (sVar i) := de_var hN hv hd hcd
def ssStk : SS := fun _ _ => .stk
end
theorem sqF_of {K : PySem.W.Frag} {H : Hp} {a : Addr} {xs : List V} (hO : Only H) (h : SqL K H a xs) : SqF K H a xs := by
  rcases h with (h | ⟨o, h⟩) | h
  · rcases hO a with z | ⟨o, ys, z⟩
    · rw [z] at h; cases h
    · rw [z] at h; cases h
  · exact .inl ⟨o, h⟩
  · exact .inr h
theorem rts_ints {K : PySem.W.Frag} {mg : Str → Option Value} {m : Mp} {H : Hp} : ∀ ns : List Int, RTs K mg m H (ns.map T.int) (ns.map V.int)
  | [] => .nil
  | n :: ns => .cons (.int n) (rts_ints ns)
theorem sp_law {K : PySem.W.Frag} {mg : Str → Option Value} {wd : World} {f : List T → Hh → Res T} (hf : ∀ ns : List Int, ns.length ≤ 63 → ∃ h', f [.fl (ns.map T.int)] [] = .ok (.bl true) h') {H : Hp} {a : Addr} {ns : List Int} (hl : ns.length ≤ 63) (hO : Only H)
    (hS : SqL K H a (ns.map V.int)) : spT K mg wd 1 f [.ref a] H (fun v _ => v = .bl true) fun _ _ _ => False := by
  refine ⟨rfl, fun _ => none, [], [.fl (ns.map T.int)], .cons (.fl (sqF_of hO hS) (rts_ints ns)) .nil, ⟨fun l a e => (by cases e), fun l l' a e => (by cases e), fun l o e => by simp at e⟩, ?_⟩
  obtain ⟨h', e⟩ := hf ns hl
  rw [e]
  intro v m' H' _ r _
  cases r
  rfl
end W3
namespace W3
open PySem PySem.Spec PyProof.Rows
open L2
def spL (K : PySem.W.Frag) (f : List T → Hh → Res T) : Sp := fun vs H Q E => ∀ mg wd, spT K mg wd 1 f vs H Q E
theorem fnL {P : Program} {w : World} {K : PySem.W.Frag} {mg : Str → Option Value} {base : Heap} {CX : CXT} {k : Nat} {fa : Addr} {fd : FuncData} {ps : List Str} {f : List T → Hh → Res T} (F : FnOk P w K mg base CX k fa fd ps (spT K mg w 1 f)) : FnOk P w K mg base CX k fa fd ps (spL K f) :=
  F.imp fun _ _ _ _ h => h mg w
end W3
namespace W3
open PySem PySem.Spec PyProof.Rows
open L2
end W3
end

section
namespace W3
open PySem PySem.Spec PyProof.Rows
open L2
def lc2Run (s : Src) (g : SG) (tt : ST) (si1 : SI) (g1 : SG) (tt1 : ST) (te : SE) (vs1 : List Nat) (σ : St3) : Nat → Nat → List T → Hh → Res (List T)
  | k, i, acc, h => match s.at h i with
    | none => .stk
    | some none => .ok acc h
    | some (some x) => match k with
      | 0 => .stk
      | k + 1 => match g x σ with
        | none => .stk
        | some σ1 => match tt σ1 h with
          | .ok b h1 => if b = true then (match si1 σ1 h1 with
              | .ok s1 h2 => (match lcRun s1 g1 tt1 te (wipeT σ1 vs1) (s1.len h2) 0 acc h2 with
                | .ok acc' h3 => lc2Run s g tt si1 g1 tt1 te vs1 σ k (i + 1) acc' h3
                | _ => .stk)
              | _ => .stk) else lc2Run s g tt si1 g1 tt1 te vs1 σ k (i + 1) acc h1
          | _ => .stk
def saLc2 (si : SI) (g : SG) (tt : ST) (si1 : SI) (g1 : SG) (tt1 : ST) (te : SE) (vs vs1 : List Nat) : SA := fun σ h => (si σ h).bind fun s h1 => lc2Run s g tt si1 g1 tt1 te vs1 (wipeT σ vs) (s.len h1) 0 [] h1
section
variable {X : Cx} {P : Pq} {W : WX} {a b c tg iter tg1 iter1 : Expr} {sa sb sc : SE} {pos : Pos} {es : List Expr} {ar : SA} {si si1 : SI} {ta tb : ST} {rest : List Expr}
theorem SR.tr' {m m' : Mp} {H H' : Hp} {σ : St3} {σV : L2.St} (r : SR X.K X.mg m H σ σV) (E : Tr m H m' H') : SR X.K X.mg m' H' σ σV := ⟨r.1, fun i t e => by
  obtain ⟨v, q, z⟩ := r.2 i t e
  exact ⟨v, q, z.tr E⟩⟩
theorem lc2_read {is is1 vs vs1 : List Nat} {g g1 : SG} {tt tt1 : ST} {te : SE} (his : ∀ i ∈ is, i ∈ vs) (his1 : ∀ i ∈ is1, i ∈ vs1) {σV : L2.St} {H : Hp} {Q : VK} (h : tL X.K X.mg X.w P W (saLc2 si g tt si1 g1 tt1 te vs vs1) σV H Q) :
    tLc2 (tG X.K X.mg X.w (SrcJ X.K X.mg X.w) P W si) (tTg X.K X.mg X.w P is g) (tTst X.K X.mg X.w P WF tt) (tG X.K X.mg X.w (SrcJ X.K X.mg X.w) P WF si1) (tTg X.K X.mg X.w P is1 g1) (tTst X.K X.mg X.w P WF tt1) (tI X.K X.mg X.w P WF te) vs vs1 σV H Q := by
  obtain ⟨m, h, σ, A, o⟩ := h
  refine A.first (rel1 := SrcJ X.K X.mg X.w) o fun m1 h1 s J H1 E1 S A1 o1 D hD => ?_
  have hD0 : H D = none := by
    cases q : H D with
    | none => rfl
    | some u =>
      obtain ⟨w, e⟩ := E1.live D u q
      rw [hD] at e; cases e
  refine ⟨fun i k H' => ∃ m' h' acc accV, Ext m1 H1 m' H' ∧ HR X.K X.mg X.w m' h' H' ∧ H' D = some (.lst accV) ∧ RTs X.K X.mg m' H' acc accV ∧ (∀ l, m' l ≠ some D) ∧
    Out X.K X.mg X.w (relL X.K X.mg H) W σV Q m1 H1 (lc2Run s g tt si1 g1 tt1 te vs1 (wipeT σ vs) k i acc h'), ⟨s.len h1, m1, h1, [], [], Ext.garbage A1.hr hD, A1.hr.garbage hD, upd_same, .nil, fun l e => ?_, o1⟩, ?_⟩
  · obtain ⟨u, e2, _⟩ := A1.hr.tracked e
    rw [hD] at e2; cases e2
  rintro i k H' ⟨m', h', acc, accV, E', R', hDl, racc, nD, o'⟩
  unfold lc2Run at o'
  cases es : s.at h' i with
  | none => rw [es] at o'; exact False.elim o'
  | some ox =>
    cases ox with
    | none =>
      rw [es] at o'
      exact .inl ⟨S.stop m' h' H' i E'.tr R' es, o' _ m' H' E' ⟨D, accV, rfl, hD0, hDl, racc, nD⟩ R'⟩
    | some x =>
      rw [es] at o'
      cases k with
      | zero => exact False.elim o'
      | succ k =>
        obtain ⟨jg, jy⟩ := S.go m' h' H' i x E'.tr R' es
        refine .inr ⟨jg, _, fun H'' q => ⟨k, Nat.lt_succ_self k, q⟩, fun y H2 hy => ?_⟩
        obtain ⟨E2, R2, rx⟩ := jy y H2 hy
        have A2 : At X.K X.mg X.w P m' H2 (L2.wipe σV vs) (wipeT σ vs) h' := ⟨((A1.sr.ext (E'.trans E2)).wipe vs), R2, P.st (E'.trans E2) A1.pr⟩
        refine ⟨m', h', wipeT σ vs, x, A2, rx, ?_⟩
        have keepD : ∀ {m3 H3}, Ext m' H2 m3 H3 → H3 D = some (.lst accV) ∧ ∀ l, m3 l ≠ some D := fun {m3 H3} E3 => by
          have d2 : H2 D = some (.lst accV) := E2.keep D _ hDl nD
          refine ⟨E3.keep D _ d2 nD, fun l e => ?_⟩
          rcases E3.fresh l D e with z | z
          · exact nD l z
          · rw [d2] at z; cases z
        dsimp only at o'
        cases eg : g x (wipeT σ vs) with
        | none => rw [eg] at o'; exact False.elim o'
        | some σ1 =>
          rw [eg] at o'
          intro σV1 s1 only
          refine ⟨wipe_only his only, m', h', σ1, ⟨s1, R2, A2.pr⟩, ?_⟩
          dsimp only at o'
          cases et : tt σ1 h' with
          | exc c fs h3 => rw [et] at o'; exact False.elim o'
          | stk => rw [et] at o'; exact False.elim o'
          | ok b h3 =>
            rw [et] at o'
            dsimp only at o'
            intro b' m3 H3 E3 eb R3
            subst eb
            cases b with
            | false =>
              rw [if_neg Bool.false_ne_true] at o' ⊢
              obtain ⟨d3, n3⟩ := keepD E3
              exact ⟨m3, h3, acc, accV, (E'.trans E2).trans E3, R3, d3, (racc.ext E2).ext E3, n3, o'⟩
            | true =>
              rw [if_pos rfl] at o' ⊢
              have A3 : At X.K X.mg X.w P m3 H3 σV1 σ1 h3 := ⟨s1.ext E3, R3, P.st E3 A2.pr⟩
              refine ⟨m3, h3, σ1, A3, ?_⟩
              cases ei : si1 σ1 h3 with
              | exc c fs h4 => rw [ei] at o'; exact False.elim o'
              | stk => rw [ei] at o'; exact False.elim o'
              | ok sr1 h4 =>
                rw [ei] at o'
                dsimp only at o'
                intro J1 m4 H4 E4 S1 R4
                obtain ⟨d4, n4⟩ := keepD (E3.trans E4)
                have A4 : At X.K X.mg X.w P m4 H4 σV1 σ1 h4 := A3.ext E4 R4
                have E14 : Ext m1 H1 m4 H4 := ((E'.trans E2).trans E3).trans E4
                refine ⟨fun j kk H' => ∃ m' h' acc accV, Ext m1 H1 m' H' ∧ Tr m4 H4 m' H' ∧ HR X.K X.mg X.w m' h' H' ∧ H' D = some (.lst accV) ∧ RTs X.K X.mg m' H' acc accV ∧ (∀ l, m' l ≠ some D) ∧
                  Out X.K X.mg X.w (relL X.K X.mg H) W σV Q m1 H1 (match lcRun sr1 g1 tt1 te (wipeT σ1 vs1) kk j acc h' with
                    | .ok acc' h3 => lc2Run s g tt si1 g1 tt1 te vs1 (wipeT σ vs) k (i + 1) acc' h3
                    | _ => .stk), ⟨sr1.len h4, m4, h4, acc, accV, E14, Tr.refl, R4, d4, ((racc.ext E2).ext E3).ext E4, n4, o'⟩, ?_⟩
                rintro j kk H5 ⟨m5, h5, acc5, accV5, E5, T5, R5, d5, racc5, n5, o5⟩
                unfold lcRun at o5
                cases es1 : sr1.at h5 j with
                | none => rw [es1] at o5; exact False.elim o5
                | some ox1 =>
                  cases ox1 with
                  | none =>
                    rw [es1] at o5
                    exact .inl ⟨S1.stop m5 h5 H5 j T5 R5 es1, m5, h5, acc5, accV5, E5, R5, d5, racc5, n5, o5⟩
                  | some x1 =>
                    rw [es1] at o5
                    cases kk with
                    | zero => exact False.elim o5
                    | succ kk =>
                      obtain ⟨jg1, jy1⟩ := S1.go m5 h5 H5 j x1 T5 R5 es1
                      refine .inr ⟨jg1, _, fun H'' q => ⟨kk, Nat.lt_succ_self kk, q⟩, fun y1 H6 hy1 => ?_⟩
                      obtain ⟨E6, R6, rx1⟩ := jy1 y1 H6 hy1
                      have sr6 : SR X.K X.mg m5 H6 σ1 σV1 := (A4.sr.tr' T5).ext E6
                      have A6 : At X.K X.mg X.w P m5 H6 (L2.wipe σV1 vs1) (wipeT σ1 vs1) h5 := ⟨sr6.wipe vs1, R6, P.st (E5.trans E6) A1.pr⟩
                      refine ⟨m5, h5, wipeT σ1 vs1, x1, A6, rx1, ?_⟩
                      have keep5 : ∀ {m7 H7}, Ext m5 H6 m7 H7 → H7 D = some (.lst accV5) ∧ ∀ l, m7 l ≠ some D := fun {m7 H7} E7 => by
                        have d6 : H6 D = some (.lst accV5) := E6.keep D _ d5 n5
                        refine ⟨E7.keep D _ d6 n5, fun l e => ?_⟩
                        rcases E7.fresh l D e with z | z
                        · exact n5 l z
                        · rw [d6] at z; cases z
                      dsimp only at o5
                      cases eg1 : g1 x1 (wipeT σ1 vs1) with
                      | none => rw [eg1] at o5; exact False.elim o5
                      | some σ2 =>
                        rw [eg1] at o5
                        intro σV2 s2 only1
                        refine ⟨wipe_only his1 only1, m5, h5, σ2, ⟨s2, R6, A6.pr⟩, ?_⟩
                        dsimp only at o5
                        cases et1 : tt1 σ2 h5 with
                        | exc c fs h7 => rw [et1] at o5; exact False.elim o5
                        | stk => rw [et1] at o5; exact False.elim o5
                        | ok b h7 =>
                          rw [et1] at o5
                          dsimp only at o5
                          intro b' m7 H7 E7 eb R7
                          subst eb
                          cases b with
                          | false =>
                            rw [if_neg Bool.false_ne_true] at o5 ⊢
                            obtain ⟨d7, n7⟩ := keep5 E7
                            exact ⟨m7, h7, acc5, accV5, (E5.trans E6).trans E7, (T5.trans E6.tr).trans E7.tr, R7, d7, (racc5.ext E6).ext E7, n7, o5⟩
                          | true =>
                            rw [if_pos rfl] at o5 ⊢
                            refine ⟨m7, h7, σ2, ⟨s2.ext E7, R7, P.st E7 A6.pr⟩, ?_⟩
                            cases ee : te σ2 h7 with
                            | exc c fs h8 => rw [ee] at o5; exact False.elim o5
                            | stk => rw [ee] at o5; exact False.elim o5
                            | ok t h8 =>
                              rw [ee] at o5
                              dsimp only at o5
                              intro y' m8 H8 E8 rt R8
                              obtain ⟨d8, n8⟩ := keep5 (E7.trans E8)
                              by_cases hz : acc5.length < sizeLine
                              · rw [if_pos hz] at o5
                                refine ⟨accV5, d8, by rw [← racc5.length]; exact hz, m8, h8, acc5 ++ [t], accV5 ++ [y'], ?_, ?_, R8.out d8 n8, upd_same, ?_, n8, o5⟩
                                · exact Ext.out (((E5.trans E6).trans E7).trans E8) hD
                                · exact ((((T5.trans E6.tr).trans E7.tr).trans E8.tr)).trans (Tr.out d8)
                                · have r8 := (((racc5.ext E6).ext E7).ext E8).append (.cons rt .nil)
                                  exact r8.tr (Tr.out d8)
                              · rw [if_neg hz] at o5
                                exact False.elim o5
theorem dl_lc2 {elt : Expr} {ifs ifs1 : List Expr} {scope : Scope} {own : List (Str × Nat)} {is is1 vs1 : List Nat} {g g1 : SG} {tt tt1 : ST} {te : SE} (hc : X.calm = true) (hN : X.N.Nodup) (hi : DI X P W tg iter si) (ok : BlkOk X.N X.env.scope scope own)
    (hg : ∀ (s : Shared) (H : Hp) (C : Addr) (cl : List (Str × Addr)) (fp : List Addr), DG (X.blk s H scope (compEnvC scope cl C X.env) fp) P tg is g)
    (ht : ∀ (s : Shared) (H : Hp) (C : Addr) (cl : List (Str × Addr)) (fp : List Addr), DTs (X.blk s H scope (compEnvC scope cl C X.env) fp) P WF ifs tt)
    (hi1 : ∀ (s : Shared) (H : Hp) (C : Addr) (cl : List (Str × Addr)) (fp : List Addr), DI (X.blk s H scope (compEnvC scope cl C X.env) fp) P WF tg1 iter1 si1)
    (hg1 : ∀ (s : Shared) (H : Hp) (C : Addr) (cl : List (Str × Addr)) (fp : List Addr), DG (X.blk s H scope (compEnvC scope cl C X.env) fp) P tg1 is1 g1)
    (ht1 : ∀ (s : Shared) (H : Hp) (C : Addr) (cl : List (Str × Addr)) (fp : List Addr), DTs (X.blk s H scope (compEnvC scope cl C X.env) fp) P WF ifs1 tt1)
    (he : ∀ (s : Shared) (H : Hp) (C : Addr) (cl : List (Str × Addr)) (fp : List Addr), DE (X.blk s H scope (compEnvC scope cl C X.env) fp) P WF elt te)
    (his : ∀ i ∈ is, i ∈ own.map (·.2) := by decide) (his1 : ∀ i ∈ is1, i ∈ vs1 := by decide) (hv : ∀ i ∈ vs1, i ∈ own.map (·.2) := by decide) (hs : ∀ x, foldedSetIterable iter X.env x = pure x := by intro _; rfl) (hs1 : ∀ env x, foldedSetIterable iter1 env x = pure x := by intro _ _; rfl) :
    DL X P W (.ListComp elt [⟨tg, iter, ifs, 0⟩, ⟨tg1, iter1, ifs1, 0⟩] scope pos) (saLc2 si g tt si1 g1 tt1 te (own.map (·.2)) vs1) := by
  exact PE.imp (pe_lc2 (own := own) (vs1 := vs1) (wi := tG X.K X.mg X.w (SrcJ X.K X.mg X.w) P W si) (g := tTg X.K X.mg X.w P is g) (tt := tTst X.K X.mg X.w P WF tt) (wi1 := tG X.K X.mg X.w (SrcJ X.K X.mg X.w) P WF si1) (g1 := tTg X.K X.mg X.w P is1 g1) (tt1 := tTst X.K X.mg X.w P WF tt1) (te := tI X.K X.mg X.w P WF te) hc hN hi ok hv hg ht hi1 hg1 ht1 he hs hs1) fun σV H Q h => lc2_read his his1 h
end
section
variable {X : Cx} {P : Pq} {W : WX} {a b c o e : Expr} {sa sb sc so : SE} {pos pos' apos cpos tpos p p2 p3 : Pos} {es : List Expr} {ar : SA}
def isK2 (k1 k2 : Kd) (x : T) (h : Hh) : Option Bool := match isK k1 x h, isK k2 x h with | some a, some b => some (a || b) | _, _ => none
def oIsK2 (k1 k2 : Kd) (x : T) (h : Hh) : Res T := match isK2 k1 k2 x h with | some b => .ok (.bl b) h | none => .stk
theorem nx_isk2 (k1 k2 : Kd) : NoX1 (oIsK2 k1 k2) := fun x h c fs h' e => by unfold oIsK2 at e; (repeat' split at e) <;> cases e
theorem ty_of2 {m : Mp} {H : Hp} {h : Hh} {t : T} {v : V} {k1 k2 : Kd} {r : Bool} (R : HR X.K X.mg X.w m h H) (q : RT X.K X.mg m H t v) (e : isK2 k1 k2 t h = some r) : ∃ n : String, TyX X.K H v (.type n) ∧ ∃ r1 r2, kitB n k1.nm = some r1 ∧ kitB n k2.nm = some r2 ∧ r = (r1 || r2) := by
  unfold isK2 at e
  split at e
  · rename_i ra rb e1 e2
    cases e
    have key : ∃ n : String, TyX X.K H v (.type n) ∧ ∀ k r, isK k t h = some r → kitB n k.nm = some r := by
      cases q with
      | non => exact ⟨_, .base .non, fun k r e => by cases e; cases k <;> decide +kernel⟩
      | bl b => exact ⟨_, .base (.bl b), fun k r e => by cases e; cases k <;> decide +kernel⟩
      | int b => exact ⟨_, .base (.int b), fun k r e => by cases e; cases k <;> decide +kernel⟩
      | str b => exact ⟨_, .base (.str _), fun k r e => by cases e; cases k <;> decide +kernel⟩
      | @tup a vs ts hq _ =>
        refine ⟨"tuple", ?_, fun k r e => by cases e; cases k <;> decide +kernel⟩
        rcases hq with ⟨ob, z, _⟩ | ⟨ob, its, n, hk, hc, _⟩
        · exact .fTuple z
        · exact .kTuple hk hc
      | @fl a vs ts hq _ =>
        refine ⟨"list", ?_, fun k r e => by cases e; cases k <;> decide +kernel⟩
        rcases hq with ⟨ob, z⟩ | ⟨ob, its, n, hk, hc, _⟩
        · exact .base (.frz z)
        · exact .kList hk hc
      | @ref l a e3 =>
        have e' : (match h[l]? with
          | some (.lst _) => some (k1 == .list)
          | some (.dic _) => some (k1 == .dict)
          | some (.ins _ _) => none
          | some (.dtk _) => none
          | none => none) = some ra := e1
        split at e'
        · rename_i ts q1
          obtain ⟨b, e4, vs, g, _⟩ := R.ob l _ q1
          rw [e3] at e4; cases e4
          refine ⟨"list", .base (.lst g), fun k r e => ?_⟩
          have e5 : (match h[l]? with
            | some (.lst _) => some (k == .list)
            | some (.dic _) => some (k == .dict)
            | some (.ins _ _) => none
            | some (.dtk _) => none
            | none => none) = some r := e
          rw [q1] at e5
          cases e5; cases k <;> decide +kernel
        · rename_i ts q1
          obtain ⟨b, e4, _, g, _⟩ := R.ob l _ q1
          rw [e3] at e4; cases e4
          refine ⟨"dict", .base (.dK g), fun k r e => ?_⟩
          have e5 : (match h[l]? with
            | some (.lst _) => some (k == .list)
            | some (.dic _) => some (k == .dict)
            | some (.ins _ _) => none
            | some (.dtk _) => none
            | none => none) = some r := e
          rw [q1] at e5
          cases e5; cases k <;> decide +kernel
        · cases e'
        · cases e'
        · cases e'
      | cls _ => cases e1
    obtain ⟨n, ty, kk⟩ := key
    exact ⟨n, ty, ra, rb, kk _ _ e1, kk _ _ e2, rfl⟩
  · cases e
theorem de_isk2 (k1 k2 : Kd) {x1 x2 : Str} {q : Nat} (hx1 : bootBuiltins x1 = some (.type k1.nm)) (hx2 : bootBuiltins x2 = some (.type k2.nm)) (hg : Gl X "isinstance") (hm : X.mg "isinstance" = none) (hg1 : Gl X x1) (hm1 : X.mg x1 = none) (hg2 : Gl X x2) (hm2 : X.mg x2 = none) (ha : DE X P W a sa)
    (hn1 : x1 ≠ "__name__" := by decide) (hd1 : (x1 == ("__debug__" : Str)) = false := by decide) (hn2 : x2 ≠ "__name__" := by decide) (hd2 : (x2 == ("__debug__" : Str)) = false := by decide)
    (he : starEach [a, .Tuple [.Name x1 p2, .Name x2 p3] q tpos] X.env = (false, eval a X.env) :: starEach [.Tuple [.Name x1 p2, .Name x2 p3] q tpos] X.env := by rfl) (hpl : (backTo pos (starEach [.Tuple [.Name x1 p2, .Name x2 p3] q tpos] X.env)).any (·.1) = false := by rfl)
    (hs1 : starEach [.Tuple [.Name x1 p2, .Name x2 p3] q tpos] X.env = (false, eval (.Tuple [.Name x1 p2, .Name x2 p3] q tpos) X.env) :: starEach [] X.env := by rfl)
    (hs2 : starEach [.Name x1 p2, .Name x2 p3] X.env = (false, eval (.Name x1 p2) X.env) :: starEach [.Name x2 p3] X.env := by rfl) (hs3 : starEach [.Name x2 p3] X.env = (false, eval (.Name x2 p3) X.env) :: starEach [] X.env := by rfl) :
    DE X P W (.Call (.Name "isinstance" p) [a, .Tuple [.Name x1 p2, .Name x2 p3] q tpos] [] pos) (s1 (oIsK2 k1 k2) sa) :=
  PE.imp (pe_callB call_isiT hg hm boot_isinstance (pa_cons ha (pa_cons (pe_tup (pa_cons (pe_bltn (v := .ty k1.nm) hg1 hm1 hx1 rfl hn1 hd1) (pa_cons (pe_bltn (v := .ty k2.nm) hg2 hm2 hx2 rfl hn2 hd2) pa_nil hs3) hs2)) pa_nil hs1) he) (by decide) (by decide) he hpl) fun σV H Q h => by
    refine tG.mono (fun v H1 hq => ?_) (one (nx_isk2 k1 k2) h)
    obtain ⟨m, h, t, r, R, o⟩ := hq
    unfold oIsK2 at o
    split at o
    · rename_i b e
      obtain ⟨n, ty, r1, r2, kb1, kb2, rfl⟩ := ty_of2 R r e
      refine ⟨by show 2 ≤ sizeLine; decide, fun p hp => ?_⟩
      have E := Ext.garbage (p := p) (o := .tup [.ty k1.nm, .ty k2.nm]) R hp
      obtain ⟨n', ty', r1', r2', kb1', kb2', e'⟩ := ty_of2 (R.garbage (o := .tup [.ty k1.nm, .ty k2.nm]) hp) (r.ext E) e
      refine ⟨v, p, [.ty k1.nm, .ty k2.nm], .type n', [.type k1.nm, .type k2.nm], r1' || r2', rfl, upd_same, .cons (.ty _) (.cons (.ty _) .nil), ty', ?_, ?_⟩
      · exact kitAny_cons (kit_ty kb1') (fun z => kitAny_cons (kit_ty kb2') (fun z2 => by rw [z, z2]; exact kitAny_nil) (fun z2 => by rw [z2]; cases r1' <;> rfl)) (fun z => by rw [z]; rfl)
      · rw [← e']; exact o _ m _ E (.bl _) (R.garbage hp)
    · exact False.elim o
end
end W3
end

section
namespace PySem
open Builtin
open AutoSeq1 (wpAny_loadPart')
end PySem
namespace W3
open PySem PySem.Spec PyProof.Rows
open L2
def enumL : Nat → List T → List T
  | _, [] => []
  | i, t :: ts => .tup [.int i, t] :: enumL (i + 1) ts
section
variable {K : PySem.W.Frag} {mg : Str → Option Value} {wd : World} {m : Mp} {H : Hp}
end
def enumOf (xs : List T) (h : Hh) : Res Src := match xs with | [.tup ts] => .ok (.its (enumL 0 ts)) h | _ => .stk
def siEnum (a : SA) : SI := fun σ h => (a σ h).bind enumOf
section
variable {X : Cx} {P : Pq} {W : WX} {a b c : Expr} {ar : SA} {pos : Pos}
end
theorem RTs.two {K : PySem.W.Frag} {mg : Str → Option Value} {m : Mp} {H : Hp} {t u : T} {vs : List V} (r : RTs K mg m H [t, u] vs) : ∃ v w, vs = [v, w] ∧ RT K mg m H t v ∧ RT K mg m H u w := by
  cases r with
  | cons r1 rr =>
    cases rr with
    | cons r2 rn => cases rn; exact ⟨_, _, rfl, r1, r2⟩
end W3
end

section
namespace W3
open PySem PySem.Spec PyProof.Rows PySem.W
open L2
structure ExF (prog : Program) (K : PySem.W.Frag) (C f c cc : Addr) (fd : FuncData) : Prop where
  oex : OexC K C
  fn : ∃ oc od osl, K.lookup f = some ⟨oc, od, .func fd, osl⟩
  code : ∃ ccl cdd vs ccs file tf, K.lookup c = some ⟨ccl, cdd, .fields vs, ccs⟩ ∧ vs[2]? = some (.str file tf) ∧ ((prog.main.file : Str) == file) = true
  cell : ∃ cl cld csl, K.lookup cc = some ⟨cl, cld, .cell (some (.ref C)), csl⟩
  sup : PySem.W.ks_superIn K C C "__init__" = some (some (.builtin "ValueError.__init__"))
  subV : PySem.W.subIn K (.ref C) (.type "ValueError") = some true
  subC : PySem.W.mroIn K C (.ref C) = some true
  opq : PySem.W.nsIn K cStatics "thirdparty.any" = some none
  top : (prog.main.scope.names.lookup ("super" : Str)).isSome = false
theorem boot_super : bootBuiltins "super" = some (.type "super") := by decide +kernel
theorem clsIn_of {K : PySem.W.Frag} {C : Addr} (T : OexC K C) : ∃ cd, PySem.W.clsIn K C = some cd := by
  obtain ⟨nm, q, N, bs, bm, sn, sub, ab, col, dd, k0, k1, k2, k3, k5, hC, hbm⟩ := T.cls
  unfold PySem.W.clsIn
  rw [hC]
  exact ⟨_, rfl⟩
theorem call_mwV {prog : Program} {w : World} {A : Around} {E : Value → Shared → Prop} {h : Heap} {g : Array GenState} {d : Drawn} {t : Nat} {os : OsState} {nm q : Str} {C N : Addr} {bs bm : List Value} {hdct : Bool} {sn : List Str} {sub : List Value} {ab : Bool} {col : Option Bool} {dd : Option Addr} {k0 k1 k2 k3 k5 : Option Value}
    {u e t0 : Addr} {rest : List Value} {Q : Value → Shared → Prop} (hC : h.get? C = some (excClassObj nm q C N bs bm hdct sn sub ab col dd k0 k1 k2 k3 k5 "ValueError.__new__")) (he : h.get? e = some (HandSPX.excO C t0)) (hu : h.get? u = some (kxs_mw "ValueError.__init__" e)) (hrest : rest.length ≤ sizeLine)
    (hq : ∀ h' t1, (∀ b o, b ≠ e → h.get? b = some o → h'.get? b = some o) → h'.get? e = some (HandSPX.excO C t1) → Q .none ⟨h', g, d, t, os⟩) : wpAny (model prog w) A (call (.ref u) rest) Q E ⟨h, g, d, t, os⟩ := by
  refine wpAny_call (codeAny_of_tree ?_)
  show wpAny _ A.in1 (callAny (.ref u) ⟨rest, []⟩) _ _ _
  simp only [callAny]
  refine wpAny_bind (wpAny_load hu ?_)
  simp only [kxs_mw, show (Value.type "method-wrapper" == Value.type "method" || Value.type "method-wrapper" == Value.type "builtin_function_or_method" || Value.type "method-wrapper" == Value.type "method-wrapper") = true by decide, if_true]
  refine W.KFB.if_so (by decide) ?_
  refine wpAny_bind (ESX.check_bound F.excBase_ValueError hC he rfl ?_)
  refine wpAny_bind (wpAny_pure (wpAny_pure ?_))
  refine ⟨Code.quiet_builtin _ (by decide +kernel), codeAny_builtin F.excBase_ValueError.initEntry ?_⟩
  rw [Around.under_plainId F.excBase_ValueError.init.plain _]
  wp_walk
  refine hq _ h.objs.size (fun b o hb ho => ?_) ?_
  · rw [Heap.get?_update_other _ _ (Ne.symm hb)]
    exact Heap.get?_push_of_some _ ho
  · rw [Heap.get?_update_self _ (Heap.get?_push_of_some _ he) rfl]
    rfl
section
variable {X : Cx} {pins : List (Addr × Obj)} {σ : L2.St} {H : Hp} {s : Shared}
theorem exc_first {C f c cc a : Addr} {fd : FuncData} {body : List Stmt} {p0 p1 p2 apos cpos pos : Pos} {j : Nat} {txt : Str} {ar : Arg} {pl : Sem Bool} (F : ExF X.prog X.K C f c cc fd) (I : L2.Inv X pins σ H s)
    (hfu : X.env.func = some f) (hco : X.env.code = .ref c) (hcl : X.env.cells.lookup ("__class__" : Str) = some cc) (hks : X.env.kindOf "super" = some .globalImplicit) (hkc : X.env.kindOf "__class__" = some .free)
    (hp : (fd.params.posonlyargs ++ fd.params.args).head? = some ar) (hN : X.N[0]? = some ar.arg) (hka : X.env.kindOf ar.arg = some .local) (h0 : σ[0]? = some (some (.ref a))) (hm : X.mg "super" = none) (ea : H a = some (exo a C none))
    (hi : interactive X.env = false) (hs : swapsWith (.Call (.Attribute (.Call (.Name "super" p0) [] [] p1) "__init__" apos) [.Constant (.str txt) j p2] [] cpos) none pos.line X.env = pure false)
    (hmc : eval (.Call (.Attribute (.Call (.Name "super" p0) [] [] p1) "__init__" apos) [.Constant (.str txt) j p2] [] cpos) X.env = (do
      let ov ← attributeBase (.Call (.Name "super" p0) [] [] p1) "__init__" X.env (eval (.Call (.Name "super" p0) [] [] p1) X.env)
      standAt apos.atName
      let (f, first) ← holding [ov] (getMethod ov "__init__" pl)
      callWith cpos f first (backTo cpos (starEach [.Constant (.str txt) j p2] X.env)) []))
    (he : starEach [.Constant (.str txt) j p2] X.env = (false, eval (.Constant (.str txt) j p2) X.env) :: starEach [] X.env) (hpl : (backTo cpos (starEach [] X.env)).any (·.1) = false) :
    _root_.PySem.wpAt (model X.prog X.w) X.A (.func body X.env) (exec (.Expr (.Call (.Attribute (.Call (.Name "super" p0) [] [] p1) "__init__" apos) [.Constant (.str txt) j p2] [] cpos) pos) X.env) (fun fl s' => fl = .next ∧ L2.Inv X pins σ H s') X.xe s := by
  obtain ⟨oc, od, osl, hf⟩ := F.fn
  obtain ⟨ccl, cdd, vs, ccs, file, tf, hcode, hvs, hfile⟩ := F.code
  obtain ⟨cl, cld, csl, hcell⟩ := F.cell
  obtain ⟨nm, q, N, bs, bm, sn, sub, ab, col, dd, k0, k1, k2, k3, k5, hC, hbm⟩ := F.oex.cls
  have K1 := I.kIn
  refine ks_wpAt_Expr_any ?_ hi hs
  refine ks_wpAt_MethodCall (pl := pl) ?_ hmc
  refine ks_wpAt_super_base hks hkc (by decide) hfu (K1 _ _ hf) rfl hp hco (K1 _ _ hcode) rfl hvs hfile F.top ?_
  obtain ⟨mb, b1, b2⟩ := I.mod.blt
  refine ks_loadName_global I.ok.kind hks (Calls.loadGlobal_builtin (by rw [I.ok.glob]; exact I.mod.glob.keeps I.bk) hm (by rw [I.ok.blt]; exact b1.keeps I.bk) ((b2 "super" (by decide)).trans boot_super) ⟨rfl, ?_⟩)
  refine wpAny_loadName_free I.ok.kind hkc hcl ⟨_, K1 _ _ hcell, rfl⟩ ?_
  obtain ⟨m, hn, hl⟩ := I.loc
  obtain ⟨u, ru, lk⟩ := hl 0 ar.arg (.ref a) hN h0 (.inl hka)
  obtain rfl : u = .ref a := ru
  have hmv : m ar.arg = some (.ref a) := by
    rcases lk with ⟨_, z⟩ | ⟨z | z, _⟩
    · exact z
    · rw [hka] at z; cases z
    · rw [hka] at z; cases z
  refine wpAny_loadName_local I.ok.kind hka hn hmv ?_
  obtain ⟨hp', g, d, t, os⟩ := s
  obtain ⟨t1, hx⟩ := exo_at I.hok ea
  have hC' := K1 _ _ hC
  refine ks_wpAny_isType_cls hC' rfl ⟨rfl, ?_⟩
  refine ks_wpAny_call_super hC' rfl hx rfl (fun _ z => by cases z) (looks_mroIn K1 F.subC) fun h1 e1 k1 => ?_
  have I1 : L2.Inv X pins σ H ⟨h1, g, d, t, os⟩ := I.kept (t' := t) k1
  have K2 := I1.kIn
  obtain ⟨cd, hcd⟩ := clsIn_of F.oex
  have hsup := F.sup
  unfold ks_superIn at hsup
  rw [hcd] at hsup
  have hInst : Looks (model X.prog X.w) h1 (isInstance (.ref a) (.type "ValueError")) true := by
    have LT : Looks (model X.prog X.w) h1 (typeOf (.ref a)) (.ref C) := fun A Q E s k q => wpAny_typeOf_ref (k _ _ (k1 _ _ hx)) q
    exact LT.andThen (looks_subIn K2 F.subV)
  have hne : a ≠ C := fun z => by
    rw [z, hC'] at hx
    cases hx
  refine kxs_getMethod kxs_ValueError e1 (looks_opaque K2 F.opq) (l₀ := cd.mro) (fun A Q E s k q => wpAny_bind ((looks_clsIn K2 hcd) A _ E s k (wpAny_pure q))) rfl K2 hsup hInst hne (by decide) ?_
  have k2 : ∀ b o, h1.get? b = some o → (h1.push (kxs_mw "ValueError.__init__" a)).get? b = some o := fun b o e => Heap.get?_push_of_some _ e
  have I2 : L2.Inv X pins σ H ⟨h1.push (kxs_mw "ValueError.__init__" a), g, d, t + 1, os⟩ := I1.kept (t' := t + 1) k2
  have hu : (h1.push (kxs_mw "ValueError.__init__" a)).get? h1.objs.size = some (kxs_mw "ValueError.__init__" a) := Heap.get?_push_at rfl rfl
  refine kxs_callWith (i := "ValueError.__init__") (x := a) ?_ ?_
  · rw [he]
    show (false || (backTo cpos (starEach [] X.env)).any (·.1)) = false
    rw [hpl]; rfl
  rw [he]
  refine Calls.evalArgs_plain ?_
  refine Calls.spliced_cons (Calls.Constant_str (k := j) (pos := p2) (Calls.spliced_nil ⟨hu, ?_⟩))
  obtain ⟨t2, hx2⟩ := exo_at (I2.tok (t + 2)).hok ea
  refine call_mwV (I2.kIn _ _ hC) hx2 hu (by show 1 ≤ sizeLine; decide) fun h' t3 k3 hx3 => ⟨rfl, ?_⟩
  have J := (I2.tok (t + 2)).write (t' := t + 2) (x := a) (e := a) (o := exo a C none) (by rw [ea]; exact True.intro) (.inl rfl) k3 ⟨_, hx3⟩ (exo_ok hx3)
  have eu : upd H a (exo a C none) = H := by
    funext b
    by_cases hb : b = a
    · rw [hb, upd_same, ea]
    · rw [upd_ne hb]
  rw [eu] at J
  exact J
end
abbrev nfE (name qual : Str) (params : Arguments) (body : List Stmt) (scope : Scope) (cc c : Addr) : NdefX.NF := ⟨name, qual, params, body, scope, [("__class__", cc)], c⟩
abbrev fdE (name qual : Str) (params : Arguments) (body : List Stmt) (scope : Scope) (cc c : Addr) (doc pm ct : Value) (an : Option Addr) : FuncData := PySem.W.fnX name qual params body scope [("__class__", cc)] .none .none doc pm an (.ref c) ct
theorem fn_exc {CX : CXT} {P : Program} {w : World} {K : PySem.W.Frag} {mg : Str → Option Value} {base : Heap} {k : Nat} {f c cc C : Addr} {name qual : Str} {params : Arguments} {rest : List Stmt} {scope : Scope} {doc pm ct : Value} {an : Option Addr} {N ps : List Str} {sp : Sp} {ar : Arg} {pl : Sem Bool}
    {p0 p1 p2 apos cpos pos : Pos} {j : Nat} {txt : Str}
    (F : ExF P K C f c cc (fdE name qual params (.Expr (.Call (.Attribute (.Call (.Name "super" p0) [] [] p1) "__init__" apos) [.Constant (.str txt) j p2] [] cpos) pos :: rest) scope cc c doc pm ct an))
    (hcd : PySem.W.codeIn K (.ref c) qual = true) (S : NdefX.NScope N ps ["__class__"] scope) (len : ∀ vs H Q E, sp vs H Q E → vs.length = ps.length) (hks : scope.names.lookup ("super" : Str) = some .globalImplicit)
    (hp : (params.posonlyargs ++ params.args).head? = some ar) (hN : N[0]? = some ar.arg) (hka : scope.names.lookup ar.arg = some .local) (hm : mg "super" = none)
    (hline : ∀ L : Addr, interactive (NdefX.envF (nfE name qual params (.Expr (.Call (.Attribute (.Call (.Name "super" p0) [] [] p1) "__init__" apos) [.Constant (.str txt) j p2] [] cpos) pos :: rest) scope cc c) f L) = false ∧ swapsWith (.Call (.Attribute (.Call (.Name "super" p0) [] [] p1) "__init__" apos) [.Constant (.str txt) j p2] [] cpos) none pos.line (NdefX.envF (nfE name qual params (.Expr (.Call (.Attribute (.Call (.Name "super" p0) [] [] p1) "__init__" apos) [.Constant (.str txt) j p2] [] cpos) pos :: rest) scope cc c) f L) = pure false ∧
      eval (.Call (.Attribute (.Call (.Name "super" p0) [] [] p1) "__init__" apos) [.Constant (.str txt) j p2] [] cpos) (NdefX.envF (nfE name qual params (.Expr (.Call (.Attribute (.Call (.Name "super" p0) [] [] p1) "__init__" apos) [.Constant (.str txt) j p2] [] cpos) pos :: rest) scope cc c) f L) = (do
        let ov ← attributeBase (.Call (.Name "super" p0) [] [] p1) "__init__" (NdefX.envF (nfE name qual params (.Expr (.Call (.Attribute (.Call (.Name "super" p0) [] [] p1) "__init__" apos) [.Constant (.str txt) j p2] [] cpos) pos :: rest) scope cc c) f L) (eval (.Call (.Name "super" p0) [] [] p1) (NdefX.envF (nfE name qual params (.Expr (.Call (.Attribute (.Call (.Name "super" p0) [] [] p1) "__init__" apos) [.Constant (.str txt) j p2] [] cpos) pos :: rest) scope cc c) f L))
        standAt apos.atName
        let (g, first) ← holding [ov] (getMethod ov "__init__" pl)
        callWith cpos g first (backTo cpos (starEach [.Constant (.str txt) j p2] (NdefX.envF (nfE name qual params (.Expr (.Call (.Attribute (.Call (.Name "super" p0) [] [] p1) "__init__" apos) [.Constant (.str txt) j p2] [] cpos) pos :: rest) scope cc c) f L))) []))
    (hbody : ∀ (A : Around) (outer : List Env) (s : Shared) (H : Hp) (vs : List V) (Q : VK) (E : XK), sp vs H Q E → ∃ a, vs[0]? = some (.ref a) ∧ H a = some (exo a C none) ∧
      ∃ t, PSs (NdefX.ncx CX P w K mg base N (nfE name qual params (.Expr (.Call (.Attribute (.Call (.Name "super" p0) [] [] p1) "__init__" apos) [.Constant (.str txt) j p2] [] cpos) pos :: rest) scope cc c) f A outer s H E) rest t ∧ t { nx := fun _ H' => Q .non H', rt := Q } (NdefX.startF N vs [none]) H) :
    FnOk P w K mg base CX (k + 1) f (fdE name qual params (.Expr (.Call (.Attribute (.Call (.Name "super" p0) [] [] p1) "__init__" apos) [.Constant (.str txt) j p2] [] cpos) pos :: rest) scope cc c doc pm ct an) ps sp := by
  refine ⟨len, fun A outer s H args us vs Q E hr e0 hb r hsp => ?_⟩
  obtain ⟨oc, od, osl, lk⟩ := F.fn
  obtain ⟨cl, cld, csl, hcell⟩ := F.cell
  have hl := len _ _ _ _ hsp
  have KX : K.In s.heap := e0.mod.kin.keeps fun b o e => (e0.bs b o e).1
  have lim : s.heap.NoLimit := e0.mod.nolimit.keeps fun b o e => (e0.bs b o e).1
  obtain ⟨a, h0, ea, t, ht, hq⟩ := hbody A outer s H vs Q E hsp
  have hcc := e0.mod.kin _ _ hcell
  have CA : NdefX.CellsAt [(("__class__" : Str), cc)] ["__class__"] [none] s.heap H := by
    have one : ∀ (y : Str) (c' : Addr), ([(("__class__" : Str), cc)] : List (Str × Addr)).lookup y = some c' → c' = cc ∧ y = "__class__" := fun y c' e => by
      simp only [List.lookup] at e
      split at e
      · rename_i q
        cases e
        exact ⟨rfl, by simpa using q⟩
      · cases e
    refine ⟨rfl, fun y c' e => ?_, fun x y c' e1 e2 => ?_, fun i y e => ?_⟩
    · obtain ⟨rfl, _⟩ := one y c' e
      exact ⟨(e0.bs _ _ hcc).2, _, _, (e0.bs _ _ hcc).1, rfl⟩
    · rw [(one x c' e1).2, (one y c' e2).2]
    · cases i with
      | zero =>
        simp at e
        subst e
        exact ⟨cc, by simp [List.lookup], fun v z => by simp at z⟩
      | succ i => simp at e
  refine ks_codeAny_call_defAt hr.depth (KX _ _ lk) rfl lim (PySem.W.codeRec_of KX hcd) rfl hb S.nocell (fun ⟨n, v⟩ hy => S.par n (List.of_mem_zip hy).1) (fun h₁ hns hk => ?_) S.co S.gen S.kind
  have I : L2.Inv (NdefX.ncx CX P w K mg base N (nfE name qual params (.Expr (.Call (.Attribute (.Call (.Name "super" p0) [] [] p1) "__init__" apos) [.Constant (.str txt) j p2] [] cpos) pos :: rest) scope cc c) f A outer s H E) [] (NdefX.startF N vs [none]) H { s with heap := h₁, toks := s.toks + (ps.zip us).length } := NdefX.inv_startN S hr.hd e0 hl r CA hns hk
  obtain ⟨hi, hs, hmc⟩ := hline s.heap.objs.size
  have hs0 : (NdefX.startF N vs [none])[0]? = some (some (.ref a)) := by
    unfold NdefX.startF
    cases vs with
    | nil => simp at h0
    | cons v vs => simp at h0; subst h0; simp
  refine ks_wpAt_execs_cons (ks_wpAt_mono (exc_first (X := NdefX.ncx CX P w K mg base N (nfE name qual params (.Expr (.Call (.Attribute (.Call (.Name "super" p0) [] [] p1) "__init__" apos) [.Constant (.str txt) j p2] [] cpos) pos :: rest) scope cc c) f A outer s H E) F I rfl rfl (by simp [NdefX.ncx, List.lookup]) hks (S.frk _ (by simp)) hp hN hka hs0 hm ea hi hs hmc rfl rfl) (fun fl s' z => ?_) fun e s' z => z)
  obtain ⟨rfl, J⟩ := z
  refine wpAt_of_wpAny (wpAny_mono (ht.run [] s' _ H _ J hq) (fun fl s2 hs2 => ?_) fun e s2 z => z)
  have fin : ∀ {σ' : L2.St} {H' : Hp} {v : V} {u : Value}, L2.Inv (NdefX.ncx CX P w K mg base N (nfE name qual params (.Expr (.Call (.Attribute (.Call (.Name "super" p0) [] [] p1) "__init__" apos) [.Constant (.str txt) j p2] [] cpos) pos :: rest) scope cc c) f A outer s H E) [] σ' H' s2 → L2.RelV v u → Q v H' → CE outer P w H s Q u s2 :=
    fun {σ' H' v u} J rv q => ⟨v, H', J.os, J.bare, J.base, J.hok, rv, q⟩
  cases fl with
  | ret u =>
    obtain ⟨v, σ', H', J, rv, q⟩ := hs2
    exact fin J rv q
  | next =>
    obtain ⟨σ', H', J, q⟩ := hs2
    exact fin (v := V.non) (u := Value.none) J rfl q
  | brk =>
    obtain ⟨_, _, _, q⟩ := hs2
    exact False.elim q
  | cont =>
    obtain ⟨_, _, _, q⟩ := hs2
    exact False.elim q
end W3
end

section
namespace W3
open PySem PySem.Spec PyProof.Rows PySem.W
open L2
def spE1 (C : Addr) (f1 : Str) : Sp := fun vs H Q E => ∃ (a : Addr) (y1 : V), vs = [.ref a, y1] ∧ H a = some (exo a C none) ∧ ∀ dx, H dx = none → dx ≠ a → Q .non (upd (upd H dx (exd dx [(f1, y1)])) a (exo a C (some dx)))
section
variable {X : Cx} {q1 q2 q3 q4 r1 r2 r3 r4 : Pos} {sf a1 a2 f1 f2 : Str} {C : Addr}
theorem body1 {σ : L2.St} {H : Hp} {D : Ends} (T : OexC X.K C) (n1 : PySem.W.findIn X.K (.ref C) f1 = some none) (hN0 : X.N[0]? = some sf) (hN1 : X.N[1]? = some a1) (v0 : Vis X.env.scope sf) (v1 : Vis X.env.scope a1) (hd0 : (sf == ("__debug__" : Str)) = false) (hc0 : (sf == ("__classdict__" : Str)) = false) (hd1 : (a1 == ("__debug__" : Str)) = false) (hc1 : (a1 == ("__classdict__" : Str)) = false)
    (hs : swapsWith (.Name a1 q3) (some (.Attribute (.Name sf q1) f1 q2)) q4.line X.env = pure false) {a : Addr} {y1 : V} (e0 : σ[0]? = some (some (.ref a))) (e1 : σ[1]? = some (some y1)) (ea : H a = some (exo a C none)) (q : ∀ dx, H dx = none → dx ≠ a → D.nx σ (upd (upd H dx (exd dx [(f1, y1)])) a (exo a C (some dx)))) :
    ∃ t, PSs X [.Assign [.Attribute (.Name sf q1) f1 q2] (.Name a1 q3) q4] t ∧ t D σ H :=
  ⟨_, pss_one (ps_ost (pe_var (i := 0) hN0 v0 hd0 hc0) (pe_var (i := 1) hN1 v1 hd1 hc1) hs), ⟨y1, e1, .ref a, e0, a, C, rfl, T, n1, .inl ⟨ea, q⟩⟩⟩
end
def ssRaiseX (c : Str) (ns : List Str) (a : SA) : SS := fun σ h => (a σ h).flo σ fun xs h1 => if xs.length = ns.length then .exc c (ns.zip xs).reverse σ h1 else .stk
section
variable {X : Cx} {P : Pq} {W : WX} {e : Expr} {es : List Expr} {ar : SA} {x : Str} {C fI : Addr} {k : Nat} {fd : FuncData} {ps : List Str} {p pos pos' : Pos}
theorem exc_out {m : Mp} {H : Hp} {h : Hh} {σV : L2.St} {σ : St3} {D : Ends} {fs : List (Str × T)} {fv : List (Str × V)} {c : Str} (A : At X.K X.mg X.w P m H σV σ h) (hm : X.mg c = some (.ref C)) (o : OutS X.K X.mg X.w W D m H (.exc c fs σ h)) (r : RF X.K X.mg m H fs fv) {d : Addr} (hd : H d = none) : W (.ref C) (some d) σV (upd H d (.xd fv)) := by
  have E := Ext.garbage (o := .xd fv) A.hr hd
  exact o (.ref C) (some d) σV m _ E (A.sr.ext E) ⟨hm, .inr ⟨d, fv, rfl, upd_same, r.ext E⟩⟩ (A.hr.garbage hd)
theorem ds_raise1 {f1 : Str} (hc : X.calm = true) (tk : Takes X W) (T : OexC X.K C) (iC : PySem.W.findIn X.K (.ref C) "__init__" = some (some (.ref fI))) (tI : PySem.W.typeIn X.K (.ref fI) = some (.type "function"))
    (F1 : FnOk X.prog X.w X.K X.mg X.base (L2.CX X.prog X.w) k fI fd ps (spE1 C f1)) (hr : Room (k + 1) X.A) (hb : Binds X.K fd ps []) (hg : Gl X x) (hm : X.mg x = some (.ref C)) (ha : DA X P W (e :: es) ar)
    (hdb : (x == ("__debug__" : Str)) = false := by decide) (he : starEach (e :: es) X.env = (false, eval e X.env) :: starEach es X.env := by rfl) (hpl : (backTo pos (starEach es X.env)).any (·.1) = false := by rfl) :
    DS X P W (.Raise (some (.Call (.Name x p) (e :: es) [] pos)) none pos') (ssRaiseX x [f1] ar) := by
  refine PS.imp (ps_raise hc tk (pmk_oex T iC tI F1 hr hb .nil (passes_call tk fun _ _ _ _ z => z.elim) hg hm ha hdb he hpl)) fun D σV H ⟨m, h, σ, A, o⟩ => ?_
  refine A.flo (rel1 := RTs X.K X.mg) o fun m1 h1 ts vs H1 E1 r A1 o1 => ?_
  split at o1
  · rename_i hl
    match ts, hl with
    | [t], _ =>
      obtain ⟨v, rfl, rv⟩ := r.one
      refine ⟨by simp, fun a hn => ⟨a, v, rfl, upd_same, fun dx hdx hne => ⟨rfl, dx, [(f1, v)], upd_same, ?_, ?_, ?_⟩⟩⟩
      · rw [upd_ne hne, upd_same]
      · rw [upd_ne hne] at hdx; exact hdx
      · have hdx' : H1 dx = none := by rw [upd_ne hne] at hdx; exact hdx
        have eq : upd (del (upd (upd (upd H1 a (exo a C none)) dx (exd dx [(f1, v)])) a (exo a C (some dx))) a) dx (.xd [(f1, v)]) = upd H1 dx (.xd [(f1, v)]) := by
          funext b
          by_cases hb : b = dx
          · rw [hb, upd_same, upd_same]
          · rw [upd_ne hb, upd_ne hb]
            by_cases hb2 : b = a
            · rw [hb2, del_same, hn]
            · rw [del_ne hb2, upd_ne hb2, upd_ne hb, upd_ne hb2]
        rw [eq]
        exact exc_out A1 hm o1 (.cons rv .nil) hdx'
  · exact False.elim o1
end
end W3
end

section
namespace W3
open PySem PySem.Spec PyProof.Rows
open L2
abbrev Tsu := Addr → Value → Option Addr → TS
inductive HdsA (X : Cx) : List ExceptHandler → List (Value × Option Nat × Tsu) → Prop
  | nil : HdsA X [] []
  | cons {x : Str} {c : Value} {ts : Tsu} {b₀ : Stmt} {suite : List Stmt} {np pos' : Pos} {hds : List ExceptHandler} {l : List (Value × Option Nat × Tsu)} (hc : Names X x c)
      (hsu : ∀ (a : Addr) (oe : Obj) (cls : Value) (d : Option Addr) (pn : List (Addr × Obj)), Zc cls d oe → (∃ vs, oe.data = .fields vs) → PSs (X.suite a ((a, oe) :: pn)) (b₀ :: suite) (ts a cls d)) (r : HdsA X hds l) :
      HdsA X (.ExceptHandler (some (.Name x np)) none (b₀ :: suite) pos' :: hds) ((c, none, ts) :: l)
  | cas {x n : Str} {i : Nat} {c : Value} {ts : Tsu} {b₀ : Stmt} {suite : List Stmt} {np pos' : Pos} {hds : List ExceptHandler} {l : List (Value × Option Nat × Tsu)} (hi : X.N[i]? = some n) (hln : X.env.kindOf n = some .local) (hc : Names X x c)
      (hsu : ∀ (a : Addr) (oe : Obj) (cls : Value) (d : Option Addr) (pn : List (Addr × Obj)), Zc cls d oe → (∃ vs, oe.data = .fields vs) → PSs (X.suite a ((a, oe) :: pn)) (b₀ :: suite) (ts a cls d)) (r : HdsA X hds l) :
      HdsA X (.ExceptHandler (some (.Name x np)) (some n) (b₀ :: suite) pos' :: hds) ((c, some i, ts) :: l)
section
variable {X : Cx} {body : List Stmt} {h₀ : ExceptHandler} {hds : List ExceptHandler} {l : List (Value × Option Nat × Tsu)} {pos : Pos} {tb : WX → TS} {Wout : WX}
end
abbrev XSub := List (Str × List Str)
structure Hdl where
  x : Str
  sl : Option Nat
  k : Str → List (Str × T) → SS
def clrF : Option Nat → Flo → Flo
  | none, .exc _ _ _ _ => .stk
  | none, r => r
  | some i, .nx σ h => .nx (σ.set i none) h
  | some i, .bk σ h => .bk (σ.set i none) h
  | some i, .ct σ h => .ct (σ.set i none) h
  | some _, .rt t h => .rt t h
  | some _, _ => .stk
def slSet : Option Nat → St3 → St3 | none, σ => σ | some i, σ => σ.set i none
def tryGo (XS : XSub) : List Hdl → Str → List (Str × T) → SS
  | [], c, fs => fun σ h => .exc c fs σ h
  | hd :: r, c, fs => fun σ h => match XS.lookup c with
    | none => .stk
    | some ss => if ss.contains hd.x then clrF hd.sl (hd.k c fs (slSet hd.sl σ) h) else tryGo XS r c fs σ h
def ssTryX (XS : XSub) (a : SS) (hs : List Hdl) : SS := fun σ h => match a σ h with
  | .exc c fs σ1 h1 => tryGo XS hs c fs σ1 h1
  | r => r
def tH (K : PySem.W.Frag) (mg : Str → Option Value) (wd : World) (sl : Option Nat) (a : Addr) (c : Str) (fs : List (Str × T)) (cls : Value) (d : Option Addr) (ss : SS) : TS := fun D σV H =>
  ∃ m h σ, At K mg wd PqT m H σV σ h ∧ (∀ i, sl = some i → i < σV.length → σV[i]? = some (some (.ref a))) ∧ XR K mg m H c fs cls d ∧ OutS K mg wd WF D m H (ss σ h)
def HOk (X : Cx) (XS : XSub) (sl : Option Nat) (suite : List Stmt) (k : Str → List (Str × T) → SS) : Prop := ∀ (a : Addr) (oe : Obj) (cls : Value) (d : Option Addr) (pn : List (Addr × Obj)) (c : Str) (ss : List Str) (fs : List (Str × T)), Zc cls d oe → (∃ vs, oe.data = .fields vs) → XS.lookup c = some ss → X.mg c = some cls →
  PSs (X.suite a ((a, oe) :: pn)) suite (tH X.K X.mg X.w sl a c fs cls d (k c fs))
def Catches (X : Cx) (XS : XSub) (x : Str) (cv : Value) : Prop := ∀ c ss cls, XS.lookup c = some ss → X.mg c = some cls → PySem.W.exmOne X.K cls cv = some (ss.contains x)
inductive DHs (X : Cx) (XS : XSub) : List ExceptHandler → List Hdl → Prop
  | nil : DHs X XS [] []
  | cons {x : Str} {cv : Value} {b₀ : Stmt} {suite : List Stmt} {np pos' : Pos} {hds : List ExceptHandler} {l : List Hdl} {k : Str → List (Str × T) → SS} (hc : Names X x cv) (hx : Catches X XS x cv) (hk : HOk X XS none (b₀ :: suite) k) (r : DHs X XS hds l) :
      DHs X XS (.ExceptHandler (some (.Name x np)) none (b₀ :: suite) pos' :: hds) (⟨x, none, k⟩ :: l)
  | cas {x n : Str} {i : Nat} {cv : Value} {b₀ : Stmt} {suite : List Stmt} {np pos' : Pos} {hds : List ExceptHandler} {l : List Hdl} {k : Str → List (Str × T) → SS} (hi : X.N[i]? = some n) (hln : X.env.kindOf n = some .local) (hc : Names X x cv) (hx : Catches X XS x cv)
      (hk : HOk X XS (some i) (b₀ :: suite) k) (r : DHs X XS hds l) :
      DHs X XS (.ExceptHandler (some (.Name x np)) (some n) (b₀ :: suite) pos' :: hds) (⟨x, some i, k⟩ :: l)
section
variable {X : Cx} {P : Pq} {W : WX}
end
end W3
end

section
namespace PySem.W
open PySem PySem.Spec PySem.Calls PyProof.Rows
section
variable {prog : Program} {w : World} {A : Around} {E : Value → Shared → Prop} {s : Shared} {K : Frag} {x D : Addr} {ox : Obj} {od : Option Obj}
end
end PySem.W
namespace W3
open PySem PySem.Spec PyProof.Rows
open L2
def sXf (fs : List (Str × T)) (f : Str) : SE := fun _ h => match fs.lookup f with | some t => .ok t h | none => .stk
section
variable {X : Cx} {a : Addr} {oe : Obj} {pn : List (Addr × Obj)} {sl : Option Nat} {c : Str} {fs : List (Str × T)} {cls : Value} {d : Option Addr} {e : Expr} {es : List Expr} {se : SE} {ar : SA} {pos p p1 p2 : Pos}
theorem XR.ext {m m' : Mp} {H H' : Hp} (x : XR X.K X.mg m H c fs cls d) (E : Ext m H m' H') : XR X.K X.mg m' H' c fs cls d := by
  refine ⟨x.1, ?_⟩
  rcases x.2 with z | ⟨dd, fv, h1, h2, h3⟩
  · exact .inl z
  · exact .inr ⟨dd, fv, h1, E.xds _ _ h2, h3.ext E⟩
end
section
variable {X : Cx} {XS : XSub} {sl : Option Nat} {e : Expr} {pos py : Pos}
end
end W3
end

section
namespace W3
open PySem PySem.Spec PyProof.Rows
open L2
theorem bindsE {K : PySem.W.Frag} {fd : FuncData} {ps : List Str} (h : ∀ us : List Value, us.length = ps.length → bindArgs fd ⟨us, []⟩ = pure (ps.zip us)) : Binds K fd ps [] := by
  intro s us _ hl
  rw [List.append_nil] at hl ⊢
  exact .of_eq (h us hl)
abbrev envE (name qual : Str) (st : Stmt) (cc c f L : Addr) : Env := NdefX.envF (nfE name qual (defArgs st) (defBody st) (defScope st) cc c) f L
abbrev supS (p0 p1 p2 apos cpos pos : Pos) (j : Nat) (txt : Str) : Stmt := .Expr (.Call (.Attribute (.Call (.Name "super" p0) [] [] p1) "__init__" apos) [.Constant (.str txt) j p2] [] cpos) pos
abbrev stoS (sf f1 a1 : Str) (q1 q2 q3 q4 : Pos) : Stmt := .Assign [.Attribute (.Name sf q1) f1 q2] (.Name a1 q3) q4
def LineE (name qual : Str) (st : Stmt) (cc c f : Addr) (p0 p1 p2 apos cpos pos : Pos) (j : Nat) (txt : Str) (pl : Sem Bool) : Prop := ∀ L : Addr, interactive (envE name qual st cc c f L) = false ∧
  swapsWith (.Call (.Attribute (.Call (.Name "super" p0) [] [] p1) "__init__" apos) [.Constant (.str txt) j p2] [] cpos) none pos.line (envE name qual st cc c f L) = pure false ∧
  eval (.Call (.Attribute (.Call (.Name "super" p0) [] [] p1) "__init__" apos) [.Constant (.str txt) j p2] [] cpos) (envE name qual st cc c f L) = (do
    let ov ← attributeBase (.Call (.Name "super" p0) [] [] p1) "__init__" (envE name qual st cc c f L) (eval (.Call (.Name "super" p0) [] [] p1) (envE name qual st cc c f L))
    standAt apos.atName
    let (g, first) ← holding [ov] (getMethod ov "__init__" pl)
    callWith cpos g first (backTo cpos (starEach [.Constant (.str txt) j p2] (envE name qual st cc c f L))) [])
theorem exc_ok1 {P : Program} {w : World} {K : PySem.W.Frag} {mg : Str → Option Value} {base : Heap} {f c cc C : Addr} {st : Stmt} {name qual sf a1 f1 txt : Str} {doc pm ct : Value} {an : Option Addr} {ar : Arg} {pl : Sem Bool} {p0 p1 p2 apos cpos pos q1 q2 q3 q4 : Pos} {j : Nat}
    (F : ExF P K C f c cc (fdE name qual (defArgs st) (defBody st) (defScope st) cc c doc pm ct an)) (hb : defBody st = [supS p0 p1 p2 apos cpos pos j txt, stoS sf f1 a1 q1 q2 q3 q4]) (hcd : PySem.W.codeIn K (.ref c) qual = true)
    (S : NdefX.NScope [sf, a1, "__class__"] [sf, a1] ["__class__"] (defScope st)) (hks : (defScope st).names.lookup ("super" : Str) = some .globalImplicit) (hp : ((defArgs st).posonlyargs ++ (defArgs st).args).head? = some ar) (har : ar.arg = sf) (hm : mg "super" = none) (hline : LineE name qual st cc c f p0 p1 p2 apos cpos pos j txt pl)
    (n1 : PySem.W.findIn K (.ref C) f1 = some none) (hs1 : ∀ L, swapsWith (.Name a1 q3) (some (.Attribute (.Name sf q1) f1 q2)) q4.line (envE name qual st cc c f L) = pure false)
    (hd0 : (sf == ("__debug__" : Str)) = false := by decide) (hc0 : (sf == ("__classdict__" : Str)) = false := by decide) (hd1 : (a1 == ("__debug__" : Str)) = false := by decide) (hc1 : (a1 == ("__classdict__" : Str)) = false := by decide) :
    FnOk P w K mg base (L2.CX P w) 1 f (fdE name qual (defArgs st) (defBody st) (defScope st) cc c doc pm ct an) [sf, a1] (spE1 C f1) := by
  unfold LineE at hline
  simp only [hb] at F hline hs1 ⊢
  refine fn_exc (k := 0) (pl := pl) F hcd S (fun vs H Q E ⟨a, y1, e, _⟩ => by rw [e]; rfl) hks hp (by rw [har]; rfl) (by rw [har]; exact S.par _ (by simp)) hm hline ?_
  rintro A outer s H vs Q E ⟨a, y1, rfl, ea, q⟩
  exact ⟨a, rfl, ea, body1 F.oex n1 rfl rfl (.inl (S.par _ (by simp))) (.inl (S.par _ (by simp))) hd0 hc0 hd1 hc1 (hs1 _) rfl rfl ea q⟩
def XfAll (K : PySem.W.Frag) (mg : Str → Option Value) (XS : XSub) (FL : List Str) : Prop := ∀ c ss cls, XS.lookup c = some ss → mg c = some cls → ∃ C, cls = .ref C ∧ XfC K C ∧ ExcC K C ∧ ∀ f ∈ FL, PySem.W.findIn K (.ref C) f = some none
section
variable {X : Cx} {XS : XSub} {sl : Option Nat} {i : Nat} {n f x : Str} {FL : List Str} {p p1 p2 pos : Pos} {e : Expr} {es : List Expr} {se : SE} {sx : Str → List (Str × T) → SE} {ar : Str → List (Str × T) → SA}
end
end W3
end

section
namespace W3
open PySem PySem.Spec PyProof.Rows
open L2
def XAll (P : Str → List Str → Prop) : XSub → Prop
  | [] => True
  | (c, ss) :: r => P c ss ∧ XAll P r
theorem XAll.look {P : Str → List Str → Prop} : ∀ {XS : XSub}, XAll P XS → ∀ {c ss}, XS.lookup c = some ss → P c ss
  | [], _, _, _, e => by simp at e
  | (c, ss) :: r, h, c', ss', e => by
    simp only [List.lookup] at e
    split at e
    · rename_i q
      cases e
      obtain rfl : c' = c := by simpa using q
      exact h.1
    · exact h.2.look e
theorem xfall_of {K : PySem.W.Frag} {mg : Str → Option Value} {XS : XSub} {FL : List Str} (h : XAll (fun c ss => ∃ C, mg c = some (.ref C) ∧ XfC K C ∧ ExcC K C ∧ ∀ f ∈ FL, PySem.W.findIn K (.ref C) f = some none) XS) : XfAll K mg XS FL := fun c ss cls hl hm => by
  obtain ⟨C, h1, h2⟩ := h.look hl
  rw [hm] at h1; cases h1; exact ⟨C, rfl, h2⟩
end W3
end

section
namespace W3
open PySem PySem.Spec PyProof.Rows
open L2
def dicB (h : Hh) : T → Bool | .ref l => (match h[l]? with | some (.dic []) => true | _ => false) | _ => false
def oNeD (x y : T) (h : Hh) : Res T := if dicB h x = true ∧ dicB h y = true then .ok (.bl false) h else oNe x y h
section
variable {X : Cx}
end
def bIntB (xs : List T) (h : Hh) : Res T :=
  match xs with
  | [.int i] => .ok (.int i) h
  | [.bl b] => .ok (.int (if b then 1 else 0)) h
  | _ => .stk
@[simp] theorem e_intB_b (b : Bool) (h : Hh) : bIntB [.bl b] h = .ok (.int (if b then 1 else 0)) h := Eq.trans rfl rfl
@[simp] theorem e_intB_i (i : Int) (h : Hh) : bIntB [.int i] h = .ok (.int i) h := Eq.trans rfl rfl
end W3
end

section
namespace W3
open PySem PySem.Spec PyProof.Rows
open L2
section
variable {X : Cx} {XS : XSub} {sl : Option Nat} {e1 e2 : Expr} {pos p1 p2 : Pos} {rest : List Stmt}
end
section
variable {X : Cx} {XS : XSub} {i q : Nat} {n x1 x2 : Str} {FL : List Str} {p p1 p2 p3 tpos pos : Pos}
end
end W3
end

section
namespace L2
open PySem PySem.Spec PyProof.Rows
end L2
namespace L2
open PySem PySem.Spec PyProof.Rows
section
variable {X : Cx}
end
end L2
namespace W3
open PySem PySem.Spec PyProof.Rows
open L2
noncomputable def oMulT (x y : T) (h : Hh) : Res T :=
  match x, y with
  | .tup ts, .int k => if ts ≠ [] ∧ 1 ≤ k ∧ k ≤ 1000 ∧ ts.length ≤ 1000 then .ok (.tup (List.replicate k.toNat ts).flatten) h else .stk
  | x, y => oMul x y h
theorem RTs.app {K : PySem.W.Frag} {mg : Str → Option Value} {m : Mp} {H : Hp} : ∀ {ts : List T} {vs : List V} {ts' : List T} {vs' : List V}, RTs K mg m H ts vs → RTs K mg m H ts' vs' → RTs K mg m H (ts ++ ts') (vs ++ vs')
  | _, _, _, _, .nil, r => r
  | _, _, _, _, .cons a b, r => .cons a (RTs.app b r)
@[simp] theorem e_mulT_i (i : Int) (y : T) (h : Hh) : oMulT (.int i) y h = oMul (.int i) y h := by unfold oMulT; rfl
end W3
end

section
namespace W3
open PySem PySem.Spec PyProof.Rows
open L2
abbrev SGH := T → St3 → Hh → Option St3
def sgLst (n : Nat) (g : SGs) : SGH := fun t σ h => match t with
  | .ref l => match lstAt h l with | some ts => if ts.length = n then g ts σ else none | none => none
  | _ => none
def forRunH (s : Src) (g : SGH) (b : SS) : Nat → Nat → St3 → Hh → Flo
  | k, i, σ, h => match s.at h i with
    | none => .stk
    | some none => .nx σ h
    | some (some x) => match k with
      | 0 => .stk
      | k + 1 => match g x σ h with
        | none => .stk
        | some σ1 => match b σ1 h with
          | .nx σ2 h2 => forRunH s g b k (i + 1) σ2 h2
          | .ct σ2 h2 => forRunH s g b k (i + 1) σ2 h2
          | .bk σ2 h2 => .nx σ2 h2
          | r => r
def ssForH (si : SI) (g : SGH) (b : SS) : SS := fun σ h => (si σ h).flo σ fun s h1 => forRunH s g b (s.len h1) 0 σ h1
section
variable {X : Cx} {P : Pq} {W : WX} {tg iter : Expr} {si : SI} {body : List Stmt} {x1 : SS} {pos : Pos} {es : List Expr}
end
end W3
end

section
namespace W3
open PySem PySem.Spec PyProof.Rows
open L2
def isT : T → Bool | .tup _ => true | _ => false
def sMtA (f : T → List T → Hh → Res T) (o : SE) (a : SA) : SE := fun σ h => (o σ h).bind fun x h1 => if (isL x h1 || isT x) = true then (a σ h1).bind fun xs h2 => f x xs h2 else .stk
section
variable {X : Cx} {P : Pq} {W : WX} {o e : Expr} {so : SE} {apos cpos : Pos} {es : List Expr} {ar : SA}
end
end W3
end

section
namespace W3
open PySem PySem.Spec PyProof.Rows
open L2
abbrev TKs := List Key
abbrev hTk (P : Program) (w : World) (k : TKs) : Int := tupleKeyHash (mixKind P w) k
abbrev IsTk (P : Program) (w : World) (h : Heap) (k : TKs) (b : Addr) : Prop := IsTupleKey (mixKind P w) h k b
section
variable {P : Program} {w : World} {A : Around} {E : Value → Shared → Prop} {s : Shared}
end
abbrev TkL := List (Addr × TKs)
def rowTk (P : Program) (w : World) (p : Addr × TKs) : Int × Value := (hTk P w p.2, .ref p.1)
structure SetTk (P : Program) (w : World) (h : Heap) (a : Addr) (L : TkL) (es : Array (Int × Value)) (ep : Nat) (t : SetTable) : Prop where
  at_ : ∃ o, h.get? a = some o ∧ o.ExactSet ∧ o.data = .set es ep t
  rows : es.toList = L.map (rowTk P w)
  tab : TabOk t ((L.map (rowTk P w)).map (·.1))
  nd : (L.map (·.2)).Nodup
  tup : ∀ p ∈ L, IsTk P w h p.2 p.1
  room : L.length * 5 < t.mask * 3
  few : L.length < 64
section
variable {P : Program} {w : World} {A : Around} {E : Value → Shared → Prop} {s : Shared} {a : Addr} {L : TkL} {es : Array (Int × Value)} {ep : Nat} {t : SetTable}
theorem rows_size (h : es.toList = L.map (rowTk P w)) : es.size = L.length := by
  rw [← Array.length_toList, h, List.length_map]
theorem fits_of (e : t.place.size = es.size) (d : t.dummies = #[]) (m : es.size ≤ t.mask) : t.fits es.size = true := by
  unfold SetTable.fits SetTable.fill
  rw [d, Bool.and_eq_true, beq_iff_eq, decide_eq_true_eq]
  exact ⟨e, by show t.place.size + 0 ≤ t.mask; omega⟩
theorem SetTk.fits (R : SetTk P w s.heap a L es ep t) : t.fits es.size = true := by
  have z1 := R.tab.sz
  have z2 := rows_size R.rows
  have z3 := R.room
  simp only [List.length_map] at z1
  exact fits_of (by omega) R.tab.dm (by omega)
end
structure Has (ks : TkL) (i : Nat) (L : TkL) : Prop where
  sub : ∀ p ∈ L, p ∈ ks.take i
  all : ∀ p ∈ ks.take i, p.2 ∈ L.map (·.2)
  le : L.length ≤ i
theorem Has.next {ks L L2 : TkL} {i : Nat} {x : Addr × TKs} (g : Has ks i L) (h : ks[i]? = some x) (c : (x.2 ∈ L.map (·.2) ∧ L2 = L) ∨ (x.2 ∉ L.map (·.2) ∧ L2.Perm (x :: L))) : Has ks (i + 1) L2 := by
  have et : ks.take (i + 1) = ks.take i ++ [x] := by rw [List.take_add_one, h]; rfl
  rcases c with ⟨hm, rfl⟩ | ⟨_, pm⟩
  · refine ⟨fun p hp => by rw [et]; exact List.mem_append_left _ (g.sub p hp), fun p hp => ?_, Nat.le_succ_of_le g.le⟩
    rw [et] at hp
    rcases List.mem_append.mp hp with z | z
    · exact g.all p z
    · rw [List.mem_singleton.mp z]; exact hm
  · refine ⟨fun p hp => ?_, fun p hp => ?_, by rw [pm.length_eq, List.length_cons]; exact Nat.succ_le_succ g.le⟩
    · rw [et]
      rcases List.mem_cons.mp (pm.mem_iff.mp hp) with e | z
      · rw [e]; exact List.mem_append_right _ (List.mem_singleton.mpr rfl)
      · exact List.mem_append_left _ (g.sub p z)
    · rw [(pm.map (·.2)).mem_iff, List.map_cons]
      rw [et] at hp
      rcases List.mem_append.mp hp with z | z
      · exact .tail _ (g.all p z)
      · rw [List.mem_singleton.mp z]; exact .head _
section
variable {P : Program} {w : World} {A : Around} {E : Value → Shared → Prop} {s : Shared}
theorem SetTk.keep {h h2 : Heap} {a : Addr} {L : TkL} {es : Array (Int × Value)} {ep : Nat} {t : SetTable} (R : SetTk P w h a L es ep t) (ha : ∀ o, h.get? a = some o → h2.get? a = some o) (ht : ∀ p ∈ L, IsTk P w h2 p.2 p.1) : SetTk P w h2 a L es ep t :=
  let ⟨o, e, r⟩ := R.at_
  ⟨⟨o, ha o e, r⟩, R.rows, R.tab, R.nd, ht, R.room, R.few⟩
end
end W3
end

section
namespace W3
open PySem PySem.Spec PyProof.Rows
open L2
instance decMemTk (k : TKs) (l : List TKs) : Decidable (k ∈ l) := decidable_of_iff (l.any (fun j => decide (j = k)) = true) (by simp [List.any_eq_true])
section
variable {X : Cx} {P : Pq} {W : WX} {a : Expr} {sa : SE} {pos p p2 q2 : Pos}
end
end W3
end

section
namespace W3
open PySem PySem.Spec PyProof.Rows
open L2
section
variable {prog : Program} {w : World} {A : Around} {E : Value → Shared → Prop} {s : Shared}
end
section
variable {X : Cx} {P : Pq} {W : WX}
def alikeB (ds : List PyData) : Bool := ds.all fun d => ds.all fun e => PySem.W.alike d e
def isTup1 : PyData → Bool | .tuple (_ :: _) => true | _ => false
def isOth : PyData → Bool | .none => false | .tuple _ => false | _ => true
def sortableB (ds : List PyData) : Bool := ds.all isTup1 || ds.all isOth
abbrev leT (a b : T × PyData) : Bool := PySem.W.dataLe false (fun b : T × PyData => b.2) a b
def sortT (ts : List T) (ds : List PyData) : List T := ((ts.zip ds).mergeSort leT).map (·.1)
def bSortI (ts : List T) (h : Hh) : Res T := match optL (toD h 24) ts with
  | some ds => if alikeB ds = true ∧ sortableB ds = true ∧ ts.length ≤ 1000 then alloc (.lst (sortT ts ds)) h else .stk
  | none => .stk
def bSorted (xs : List T) (h : Hh) : Res T := match xs with
  | [.tup ts] => bSortI ts h
  | [.fl ts] => bSortI ts h
  | [.ref l] => (match lstAt h l with | some ts => bSortI ts h | none => .stk)
  | _ => .stk
end
end W3
end

section
namespace W3
open PySem PySem.Spec PyProof.Rows
open L2
def zipL : List T → List T → List T
  | x :: xs, y :: ys => .tup [x, y] :: zipL xs ys
  | _, _ => []
section
variable {K : PySem.W.Frag} {mg : Str → Option Value} {wd : World} {m : Mp} {H : Hp}
end
def zipOf (xs : List T) (h : Hh) : Res Src := match xs with | [.tup ts, .tup us] => .ok (.its (zipL ts us)) h | _ => .stk
def siZip (a : SA) : SI := fun σ h => (a σ h).bind zipOf
section
variable {X : Cx} {P : Pq} {W : WX} {a b c : Expr} {ar : SA} {sb : SE} {pos p : Pos}
def KIs (K : PySem.W.Frag) (mg : Str → Option Value) (a : Addr) (t : T) : Prop := ∀ m H, RT K mg m H t (.ref a)
theorem dgk {x : Str} {t : T} (hm : ∃ a, X.mg x = some (.ref a) ∧ KIs X.K X.mg a t) (hg : Gl X x := by rfl) (hd : (x == ("__debug__" : Str)) = false := by decide) : DE X P W (.Name x pos) (sC t) := by
  obtain ⟨a, hm, k⟩ := hm
  exact de_glob (v := .ref a) hg hm rfl (fun m H => k m H) hd
inductive StrsK : List Str → List Value → Prop
  | nil : StrsK [] []
  | cons {s : Str} {t : Tok} {ss : List Str} {vs : List Value} : StrsK ss vs → StrsK (s :: ss) (.str s t :: vs)
theorem kis_strs {K : PySem.W.Frag} {mg : Str → Option Value} {a : Addr} {ss : List Str} {its : Array Value} {n : Nat} {sl : Array (Option Value)} (hk : K.lookup a = some ⟨.type "tuple", none, .seq its n, sl⟩) (hz : its.size ≤ sizeLine) (hs : StrsK ss its.toList) (ho : ss.all PyData.strOk = true) : KIs K mg a (.tup (ss.map T.str)) := fun m H => by
  have v : Vals (ss.map V.str) its.toList := by
    generalize its.toList = vs at hs
    induction hs with
    | nil => exact .nil
    | cons _ ih => exact .cons ⟨_, rfl⟩ (ih (by simp only [List.all_cons, Bool.and_eq_true] at ho; exact ho.2))
  refine .tup (vs := ss.map V.str) (.inr ⟨_, its, n, hk, rfl, rfl, rfl, hz, v⟩) ?_
  clear hs v
  induction ss with
  | nil => exact .nil
  | cons s ss ih =>
    simp only [List.all_cons, Bool.and_eq_true] at ho
    exact .cons (.str ho.1) (ih ho.2)
end
end W3
namespace W3
open PySem PySem.Spec PyProof.Rows
open L2
inductive KRows (K : PySem.W.Frag) (w : World) (mg : Str → Option Value) (a : Addr) : List (Str × T) → Prop
  | nil : KRows K w mg a []
  | cons {k : Str} {t : T} {r : List (Str × T)} : (∃ b, KDct K w a k (.ref b) ∧ KIs K mg b t) → KRows K w mg a r → KRows K w mg a ((k, t) :: r)
end W3
end

section
namespace W3
open PySem L2
theorem RTs.eraseIdx {K : PySem.W.Frag} {mg : Str → Option Value} {m : Mp} {H : Hp} : ∀ {ts : List T} {vs : List V} (i : Nat), RTs K mg m H ts vs → RTs K mg m H (ts.eraseIdx i) (vs.eraseIdx i)
  | _, _, _, .nil => .nil
  | _, _, 0, .cons _ q => q
  | _, _, i + 1, .cons p q => .cons p (RTs.eraseIdx i q)
def mPop (x : T) (vs : List T) (h : Hh) : Res T :=
  match x, vs with
  | .ref l, [.int i] => (match lstAt h l with
    | some ts => if 0 ≤ i ∧ i < 1000000 then (match ts[i.toNat]? with | some t => .ok t (h.set l (.lst (ts.eraseIdx i.toNat))) | none => .stk) else .stk
    | none => .stk)
  | _, _ => .stk
section
variable {X : Cx}
def ssPar2 (i j : Nat) (sa : SA) : SS := fun σ h => (sa σ h).flo σ fun xs h1 => match xs with | [x, y] => .nx ((σ.set i (some x)).set j (some y)) h1 | _ => .stk
end
@[simp] theorem e_ssPar2 (i j : Nat) (sa : SA) (σ : St3) (h : Hh) : ssPar2 i j sa σ h = (sa σ h).flo σ fun xs h1 => match xs with | [x, y] => .nx ((σ.set i (some x)).set j (some y)) h1 | _ => .stk := Eq.trans rfl rfl
@[simp] theorem e_pop (l : Nat) (i : Int) (h : Hh) : mPop (.ref l) [.int i] h = match lstAt h l with
    | some ts => if 0 ≤ i ∧ i < 1000000 then (match ts[i.toNat]? with | some t => .ok t (h.set l (.lst (ts.eraseIdx i.toNat))) | none => .stk) else .stk
    | none => .stk := Eq.trans rfl rfl
end W3
end

section
namespace W3
open PySem PySem.Spec PyProof.Rows
open L2
theorem funOfD {K : PySem.W.Frag} {x qual : Str} {st : Stmt} {f : Addr} {fd : FuncData} (F : FunD K x qual (defArgs st) (defBody st) (defScope st) [] [] f fd) : Fun K x qual st f fd := by
  obtain ⟨⟨oc, od, dV, kV, doc, pm, an, cdv, ct, osl, e, l, c, d, k⟩, kp⟩ := F
  have h : dV = .none := by
    rcases d with ⟨_, h⟩ | ⟨h, _⟩
    · exact h
    · exact absurd rfl h
  subst h
  exact ⟨⟨oc, od, kV, doc, pm, an, cdv, ct, osl, e, l, c⟩, kp⟩
theorem oexB_ok {K : PySem.W.Frag} {C : Addr} (h : oexB K C = true) : ∃ nm q N bs bm sn sub ab col dd k0 k1 k2 k3 k5, K.lookup C = some (excClassObj nm q C N bs bm true sn sub ab col dd k0 k1 k2 k3 k5 "ValueError.__new__") ∧ PySem.HandSPX.refsVE bm = true := by
  unfold oexB at h
  split at h
  · rename_i t dd cd sl ho
    obtain ⟨h1, h2⟩ := He.ba h
    have e1 := of_decide_eq_true h1
    subst e1
    split at h2
    · rename_i C' bm k0 k1 k2 k3 n k5 hm hs
      obtain ⟨a1, h3⟩ := He.ba h2
      obtain ⟨a2, h4⟩ := He.ba h3
      obtain ⟨a3, h5⟩ := He.ba h4
      obtain ⟨a4, a5⟩ := He.ba h5
      have e1 := of_decide_eq_true a1
      have e2 := of_decide_eq_true a2
      obtain ⟨nm, bs, mro, ns, qn, hd, sn, sub, ab, col, del⟩ := cd
      dsimp only at hm a3 a4
      have e3 : del = false := by simpa using a3
      subst e1 e2 e3 a4 hm
      have hsl : sl = #[k0, k1, k2, k3, some (.builtin "ValueError.__new__"), k5] := by
        obtain ⟨l⟩ := sl
        simp only at hs
        rw [hs]
      subst hsl
      exact ⟨nm, qn, ns, bs, bm, sn, sub, ab, col, dd, k0, k1, k2, k3, k5, ho, a5⟩
    · cases h2
  · cases h
structure XInit (prog : Program) (K : PySem.W.Frag) (C f : Addr) (qual : Str) (st : Stmt) : Prop where
  ex : ∃ (cc c : Addr) (doc pm ct : Value) (an : Option Addr), (∃ oc od osl, K.lookup f = some ⟨oc, od, .func (fdE "__init__" qual (defArgs st) (defBody st) (defScope st) cc c doc pm ct an), osl⟩) ∧
    (∃ ccl cdd vs ccs file tf, K.lookup c = some ⟨ccl, cdd, .fields vs, ccs⟩ ∧ vs[2]? = some (.str file tf) ∧ ((prog.main.file : Str) == file) = true) ∧
    (∃ cl cld csl, K.lookup cc = some ⟨cl, cld, .cell (some (.ref C)), csl⟩) ∧ PySem.W.codeIn K (.ref c) qual = true
theorem xinit_of {prog : Program} {K : PySem.W.Frag} {C f : Addr} {qual : Str} {st : Stmt} (e : fnE K f = xeV qual st) (h : initB K C f prog.main.file qual = true) : XInit prog K C f qual st := by
  unfold fnE xeV at e
  unfold initB at h
  cases q : K.lookup f with
  | none => rw [q] at h; cases h
  | some o =>
    obtain ⟨oc, od, dt, osl⟩ := o
    rw [q] at h e
    cases dt with
    | func fd =>
      obtain ⟨n1, n2, n3, n4, n5, n6, n7, n8, n9, n10, n11, n12, n13, n14, n15⟩ := fd
      dsimp only at h e
      simp only [Option.some.injEq, Prod.mk.injEq] at e
      obtain ⟨h1, h2, h3, h4, h5, h6, h7, h8, h9, h10⟩ := e
      split at h
      · rename_i x cc c
        have hx : x = ("__class__" : Str) := List.head_eq_of_cons_eq h7
        subst h1 h2 h3 h4 h5 h6 h8 h9 h10 hx
        obtain ⟨b1, b2⟩ := He.ba h
        obtain ⟨b2, b3⟩ := He.ba b2
        refine ⟨cc, c, _, _, _, _, ⟨_, _, _, q⟩, ?_, ?_, b3⟩
        · unfold fileB at b2
          split at b2
          · rename_i ho
            split at b2
            · rename_i hv
              exact ⟨_, _, _, _, _, _, ho, hv, b2⟩
            · cases b2
          · cases b2
        · unfold cellB at b1
          split at b1
          · rename_i ho
            have := of_decide_eq_true b1
            subst this
            exact ⟨_, _, _, ho⟩
          · cases b1
      · cases h
    | _ => cases h
theorem strsA_ok : ∀ {ss : List Str} {vs : List Value}, strsA ss vs = true → StrsK ss vs
  | [], [], _ => .nil
  | [], _ :: _, h => by cases h
  | _ :: _, [], h => by cases h
  | s :: ss, v :: vs, h => by
    cases v with
    | str t tk =>
      obtain ⟨h1, h2⟩ := He.ba (show (decide (s = t) && strsA ss vs) = true from h)
      have := of_decide_eq_true h1
      subst this
      exact .cons (strsA_ok h2)
    | _ => cases h
theorem strsB_ok {K : PySem.W.Frag} {mg : Str → Option Value} {a : Addr} {ss : List Str} (h : strsB K a ss = true) (ho : ss.all PyData.strOk = true) : KIs K mg a (.tup (ss.map T.str)) := by
  unfold strsB at h
  split at h
  · rename_i t its n sl hk
    obtain ⟨h1, h2⟩ := He.ba h
    obtain ⟨h2, h3⟩ := He.ba h2
    have := of_decide_eq_true h1
    subst this
    exact kis_strs hk (of_decide_eq_true h2) (strsA_ok h3) ho
  · cases h
section
variable {fn : List He.DefD} {ts : List He.Tab} {xs : List (PySem.W.Frag → Addr)} {es : List FnE} {bs : List (PySem.W.Frag → Bool)} {w : World} {K : PySem.W.Frag}
theorem SaysZ.t (c : SaysZ fn ts xs es bs w K) : He.SaysT [] fn ts w K := congrArg (fun z : AlZ => z.1) c
theorem SaysZ.b (c : SaysZ fn ts xs es bs w K) (i : Nat) {b : PySem.W.Frag → Bool} (h : bs[i]? = some b := by rfl) : b K = true := by
  have c1 : (bs.all fun b => b K) = true := congrArg (fun z : AlZ => z.2.2) c
  exact List.all_eq_true.mp c1 b (List.mem_of_getElem? h)
theorem SaysZ.x (c : SaysZ fn ts xs es bs w K) (i : Nat) {f : PySem.W.Frag → Addr} {e : FnE} (h : xs[i]? = some f := by rfl) (he : es[i]? = some e := by rfl) : fnE K (f K) = e := by
  have c1 : xs.map (fun f => fnE K (f K)) = es := congrArg (fun z : AlZ => z.2.1) c
  have c2 : (xs.map fun f => fnE K (f K))[i]? = es[i]? := by rw [c1]
  rw [List.getElem?_map, h, he] at c2
  exact Option.some.inj c2
end
theorem walk3E {l : PySem.W.OpenLaw} {q : Program} {loose : List Str} {XP : (Str → Option Value) → Heap → Prop} {YP : World → Heap → Prop} {d : DefRec} {f : List T → Hh → Res T} {k : Nat} {x : Str} (hn : l.most = some 63) (hdf : d.params.defaults = []) (hr : Room k callerA)
    (hf : ∀ ns : List Int, ns.length ≤ 63 → ∃ h', f [.fl (ns.map T.int)] [] = .ok (.bl true) h')
    (F : ∀ (w : World) (mg : Str → Option Value) (fa : Addr) (h : Heap), YP w h → h.Ns mainGlobals mg → mg d.name = some (.ref fa) →
      ∃ (K : PySem.W.Frag) (fd : FuncData), K.In h ∧ (∀ (s : Shared) (u : Value), BindsTo s fd ⟨[u], []⟩ [(x, u)]) ∧ ∀ base : Heap, K.In base → base.Ns mainGlobals mg → FnOk l.prog w K mg base (L2.CX l.prog w) k fa fd [x] (spL K f)) :
    PySem.W.WalkO q loose XP YP l.row.toRowW d [] (fun f vs => PySem.call f vs) := by
  refine Att.attach_call hn hdf fun w s₀ s₁ mg mb fa o pm cd doc a vs ns G Y ho hd hcd hmg hobj hints hlen hg => ?_
  obtain ⟨K, fd, KX, hb, hF⟩ := F w mg fa _ Y G.T.g hmg
  exact law_call KX G.T.g G.T.b G.T.builtins G.T.nolimit hg hobj hints (Nat.le_trans hlen (by decide)) hr hF hb (fun H hO hS mg => fun wd => sp_law hf hlen hO hS) fun H e s' z => by
    obtain ⟨_, _, _, _, _, _, _, _, _, _, _, _, z⟩ := z
    exact z.elim
end W3
end

section
namespace W3
open PySem PySem.Spec PyProof.Rows
open L2
def dgetT : List (T × T) → Str → Option T
  | [], _ => none
  | (.str s, t) :: r, k => if s = k then some t else dgetT r k
  | _ :: r, k => dgetT r k
def dsetT : List (T × T) → Str → T → List (T × T)
  | [], _, _ => []
  | (.str s, u) :: r, k, t => (.str s, if s = k then t else u) :: dsetT r k t
  | p :: r, k, t => p :: dsetT r k t
def dputT (kvs : List (T × T)) (k : Str) (t : T) : List (T × T) := if (dgetT kvs k).isSome = true then dsetT kvs k t else kvs ++ [(.str k, t)]
section
variable {K : PySem.W.Frag} {mg : Str → Option Value} {wd : World} {m : Mp} {H : Hp} {kvs : List (T × T)} {ks : List (Key × V)}
theorem RK.get (r : RK K mg m H kvs ks) (k : Str) : (∀ t, dgetT kvs k = some t → ∃ v, valV ks (.inr k) = some v ∧ RT K mg m H t v) ∧ (dgetT kvs k = none → valV ks (.inr k) = none) := by
  induction r with
  | nil => exact ⟨fun t e => (by cases e), fun _ => rfl⟩
  | @cons f t v fs fv r _ ih =>
    by_cases e : f = k
    · subst e
      refine ⟨fun u h => ?_, fun h => ?_⟩
      · simp only [dgetT, if_true] at h
        cases h
        exact ⟨v, valV_pos rfl, r⟩
      · simp [dgetT] at h
    · have ne : ¬ ((Sum.inr f : Key) = .inr k) := fun z => e (Sum.inr.inj z)
      have e1 : dgetT ((.str f, t) :: fs) k = dgetT fs k := by simp only [dgetT]; rw [if_neg e]
      rw [e1, valV_neg (p := (Sum.inr f, v)) ne]
      exact ih
  | @consI i t v fs fv r _ ih =>
    have ne : ¬ ((Sum.inl i : Key) = .inr k) := fun z => by cases z
    have e1 : dgetT ((.int i, t) :: fs) k = dgetT fs k := rfl
    rw [e1, valV_neg (p := (Sum.inl i, v)) ne]
    exact ih
theorem RK.isSome (r : RK K mg m H kvs ks) (k : Str) : (dgetT kvs k).isSome = (valV ks (.inr k)).isSome := by
  obtain ⟨h1, h2⟩ := r.get k
  cases e : dgetT kvs k with
  | none => rw [h2 e]; rfl
  | some t =>
    obtain ⟨v, h, _⟩ := h1 t e
    rw [h]
    rfl
theorem RK.length (r : RK K mg m H kvs ks) : kvs.length = ks.length := by
  induction r with
  | nil => rfl
  | cons _ _ ih => simp [ih]
  | consI _ _ ih => simp [ih]
theorem RK.snoc (r : RK K mg m H kvs ks) {k : Str} {t : T} {v : V} (q : RT K mg m H t v) : RK K mg m H (kvs ++ [(.str k, t)]) (ks ++ [(.inr k, v)]) := by
  induction r with
  | nil => exact .cons q .nil
  | cons r _ ih => exact .cons r ih
  | consI r _ ih => exact .consI r ih
theorem RK.set (r : RK K mg m H kvs ks) {k : Str} {t : T} {v : V} (q : RT K mg m H t v) : RK K mg m H (dsetT kvs k t) (ks.map fun kv => if kv.1 = (.inr k : Key) then (kv.1, v) else kv) := by
  induction r with
  | nil => exact .nil
  | @cons f u w fs fv r _ ih =>
    simp only [dsetT, List.map_cons]
    by_cases e : f = k
    · subst e
      rw [if_pos rfl, if_pos rfl]
      exact .cons q ih
    · rw [if_neg e, if_neg (fun z => e (Sum.inr.inj z))]
      exact .cons r ih
  | @consI i u w fs fv r _ ih =>
    simp only [dsetT, List.map_cons]
    rw [if_neg (fun z => by cases z)]
    exact .consI r ih
theorem RK.put (r : RK K mg m H kvs ks) {k : Str} {t : T} {v : V} (q : RT K mg m H t v) : RK K mg m H (dputT kvs k t) (putK ks (.inr k) v) := by
  unfold dputT putK
  rw [valV_any, ← r.isSome k]
  split
  · exact r.set q
  · exact r.snoc q
theorem HR.dic {h : Hh} (R : HR K mg wd m h H) {l : Nat} {a : Addr} (e : m l = some a) (hl : h[l]? = some (.dic kvs)) : ∃ ks, H a = some (.dK ks) ∧ RK K mg m H kvs ks := by
  obtain ⟨b, e1, r⟩ := R.ob l _ hl
  rw [e] at e1
  cases e1
  exact r
end
def dicAt (h : Hh) (l : Nat) : Option (List (T × T)) := match h[l]? with | some (.dic kvs) => some kvs | _ => none
def oDGet (x k : T) (h : Hh) : Res T := match x, k with
  | .ref l, .str s => (match dicAt h l with
    | some kvs => (match dgetT kvs s with | some t => .ok t h | none => .stk)
    | none => .stk)
  | _, _ => .stk
def oDIn (k x : T) (h : Hh) : Res T := match x, k with
  | .ref l, .str s => (match dicAt h l with
    | some kvs => .ok (.bl (dgetT kvs s).isSome) h
    | none => .stk)
  | _, _ => .stk
def ssDSub (so si sv : SE) : SS := fun σ h => (sv σ h).flo σ fun y h1 => (so σ h1).flo σ fun x h2 => (si σ h2).flo σ fun k h3 => match x, k with
  | .ref l, .str s => (match dicAt h3 l with
    | some kvs => if kvs.length < 1000 then .nx σ (h3.set l (.dic (dputT kvs s y))) else .stk
    | none => .stk)
  | _, _ => .stk
section
variable {X : Cx} {P : Pq} {W : WX} {a b c : Expr} {sa sb sc : SE} {pos p : Pos}
end
end W3
end

section
namespace W3
open PySem
open Sem (wp)
section
variable {prog : Program} {w : World} {A : Around} {E : Value → Shared → Prop} {s : Shared}
end
section
variable {prog : Program} {w : World}
end
end W3
namespace W3
open PySem PySem.Spec PyProof.Rows
open L2
end W3
namespace W3
open PySem PySem.Spec PyProof.Rows
open L2
def mkvT : List T → List T → Option (List (Str × T))
  | [], [] => some []
  | .str s :: ts, u :: us => (mkvT ts us).map ((s, u) :: ·)
  | _, _ => none
def dmrgT (acc : List (T × T)) (fs : List (Str × T)) : List (T × T) := fs.foldl (fun acc p => dputT acc p.1 p.2) acc
def dicZ (xs : List T) (h : Hh) : Res T := match xs with
  | [.tup ts, .tup us] => (match mkvT ts us with
    | some fs => alloc (.dic (dmrgT [] fs)) h
    | none => .stk)
  | _ => .stk
def sDicZ (ar : SA) : SE := fun σ h => (ar σ h).bind dicZ
section
variable {X : Cx} {P : Pq} {W : WX} {a b : Expr} {ar : SA} {pos pos2 p p2 : Pos}
end
end W3
end

section
namespace W3
open PySem PySem.Spec PyProof.Rows
open L2
structure DPs (X : Cx) (P : Pq) (W : WX) (pos : Pos) (keys : List (Option Expr)) (values : List Expr) (ks : List Str) (ar : SA) : Prop where
  ex : ∃ trs, PPs X pos keys values trs ∧ ∀ (σV : L2.St) (H : Hp) (Q : List (V × V) → Hp → Prop), tAr X.K X.mg X.w P W ar σV H (fun vs H1 => Q (List.zipWith (fun k v => (V.str k, v)) ks vs) H1) → tPairs trs σV H Q
section
variable {X : Cx} {P : Pq} {W : WX} {sa : SE} {ar : SA} {pos p : Pos} {v : Expr} {keys : List (Option Expr)} {values : List Expr} {k : Str} {ks : List Str} {j : Nat}
def sDisp (ks : List Str) (ar : SA) : SE := fun σ h => (ar σ (h ++ [.dic []])).bind fun xs h2 => match dicAt h2 h.length with
  | some [] => if xs.length = ks.length ∧ ks.length ≤ 15 then .ok (.ref h.length) (h2.set h.length (.dic (dmrgT [] (ks.zip xs)))) else .stk
  | _ => .stk
end
end W3
namespace W3
open PySem PySem.Spec PyProof.Rows
open L2
def ssPar3 (i j l : Nat) (sa : SA) : SS := fun σ h => (sa σ h).flo σ fun xs h1 => match xs with | [x, y, z] => .nx (((σ.set i (some x)).set j (some y)).set l (some z)) h1 | _ => .stk
section
variable {X : Cx}
theorem ds_par3 {P : Pq} {W : WX} {i j l : Nat} {x y z : Str} {a b c : Expr} {sa : SA} {px py pz pt pos : Pos} {kt k2 pt2} (hc : X.calm = true) (hN : X.N.Nodup) (hi : X.N[i]? = some x) (hj : X.N[j]? = some y) (hl : X.N[l]? = some z) (hij : i ≠ j) (hil : i ≠ l) (hjl : j ≠ l)
    (hx : X.env.scope.names.lookup x = some .local) (hy : X.env.scope.names.lookup y = some .local) (hz : X.env.scope.names.lookup z = some .local) (ha : DA X P W [a, b, c] sa)
    (hw : swappedStores [.Tuple [.Name x px, .Name y py, .Name z pz] kt pt] (.Tuple [a, b, c] k2 pt2) X.env = pure (some [x, y, z]))
    (hs : swapsWithSole [.Tuple [.Name x px, .Name y py, .Name z pz] kt pt] (.Tuple [a, b, c] k2 pt2) pos.line X.env = pure false := by rfl) :
    DS X P W (.Assign [.Tuple [.Name x px, .Name y py, .Name z pz] kt pt] (.Tuple [a, b, c] k2 pt2) pos) (ssPar3 i j l sa) := PS.imp (ps_par3 hc hN hi hj hl hij hil hjl hx hy hz ha hw hs) fun D σV H ⟨m, h, σ, A, o⟩ => by
  refine A.flo (rel1 := RTs X.K X.mg) o fun m1 h1 ts vs H1 E1 r A1 o1 => ?_
  cases r with
  | nil => exact False.elim o1
  | cons r1 q =>
    cases q with
    | nil => exact False.elim o1
    | cons r2 q =>
      cases q with
      | nil => exact False.elim o1
      | cons r3 q =>
        cases q with
        | cons _ _ => exact False.elim o1
        | nil => exact ⟨_, _, _, rfl, o1 _ m1 H1 (Ext.refl _ _) (((A1.sr.set r1 i).set r2 j).set r3 l) A1.hr⟩
end
@[simp] theorem e_ssPar3 (i j l : Nat) (sa : SA) (σ : St3) (h : Hh) : ssPar3 i j l sa σ h = (sa σ h).flo σ fun xs h1 => match xs with | [x, y, z] => .nx (((σ.set i (some x)).set j (some y)).set l (some z)) h1 | _ => .stk := Eq.trans rfl rfl
@[simp] theorem e_dget (l : Nat) (s : Str) (h : Hh) : oDGet (.ref l) (.str s) h = match dicAt h l with
    | some kvs => (match dgetT kvs s with | some t => .ok t h | none => .stk)
    | none => .stk := Eq.trans rfl rfl
@[simp] theorem e_din (l : Nat) (s : Str) (h : Hh) : oDIn (.str s) (.ref l) h = match dicAt h l with
    | some kvs => .ok (.bl (dgetT kvs s).isSome) h
    | none => .stk := Eq.trans rfl rfl
@[simp] theorem e_ssDSub (so si sv : SE) (σ : St3) (h : Hh) : ssDSub so si sv σ h = (sv σ h).flo σ fun y h1 => (so σ h1).flo σ fun x h2 => (si σ h2).flo σ fun k h3 => match x, k with
    | .ref l, .str s => (match dicAt h3 l with
      | some kvs => if kvs.length < 1000 then .nx σ (h3.set l (.dic (dputT kvs s y))) else .stk
      | none => .stk)
    | _, _ => .stk := Eq.trans rfl rfl
@[simp] theorem e_sDicZ (ar : SA) (σ : St3) (h : Hh) : sDicZ ar σ h = (ar σ h).bind dicZ := Eq.trans rfl rfl
@[simp] theorem e_dicZ (ts us : List T) (h : Hh) : dicZ [.tup ts, .tup us] h = match mkvT ts us with
    | some fs => alloc (.dic (dmrgT [] fs)) h
    | none => .stk := Eq.trans rfl rfl
@[simp] theorem e_sDisp (ks : List Str) (ar : SA) (σ : St3) (h : Hh) : sDisp ks ar σ h = (ar σ (h ++ [.dic []])).bind fun xs h2 => match dicAt h2 h.length with
    | some [] => if xs.length = ks.length ∧ ks.length ≤ 15 then .ok (.ref h.length) (h2.set h.length (.dic (dmrgT [] (ks.zip xs)))) else .stk
    | _ => .stk := Eq.trans rfl rfl
end W3
end

section
namespace RZ4
open PySem
open PySem.Sem (wp)
open RZ
structure At4 (z TI TO i1 i2 i3 i4 l1 l2 l3 l4 : Nat) : Prop where
  e2 : i2 = i1 + 1
  e3 : i3 = i1 + 2
  e4 : i4 = i1 + 3
  eI : TI = i1 + 4
  eO : TO = i1 + 5
  ez : z = i1 + 6
  f1 : l1 < i1
  f2 : l2 < i1
  f3 : l3 < i1
  f4 : l4 < i1
section
variable {prog : Program} {w : World} {A : Around} {E : Value → Shared → Prop} {s : Shared}
end
section
variable {prog : Program} {w : World} {A : Around} {E : Value → Shared → Prop} {s : Shared}
end
end RZ4
end

section
namespace W3
open PySem PySem.Spec PyProof.Rows
open L2
open RZ4
def zip4L : List T → List T → List T → List T → List T
  | x :: xs, y :: ys, u :: us, v :: vs => .tup [x, y, u, v] :: zip4L xs ys us vs
  | _, _, _, _ => []
section
variable {K : PySem.W.Frag} {mg : Str → Option Value} {wd : World} {m : Mp} {H : Hp}
end
def zip4Of (xs : List T) (h : Hh) : Res Src := match xs with
  | [.tup t1, .tup t2, .tup t3, .tup t4] => if t2.length = t1.length ∧ t3.length = t1.length ∧ t4.length = t1.length then .ok (.its (zip4L t1 t2 t3 t4)) h else .stk
  | _ => .stk
def siZip4 (a : SA) : SI := fun σ h => (a σ h).bind zip4Of
@[simp] theorem e_siZip4 (a : SA) (σ : St3) (h : Hh) : siZip4 a σ h = (a σ h).bind zip4Of := Eq.trans rfl rfl
section
variable {X : Cx} {P : Pq} {W : WX} {a b c d : Expr} {ar : SA} {pos p : Pos}
end
end W3
end

section
namespace W3
open PySem PySem.Spec PyProof.Rows
open L2
def ssAsgH (a : SE) (g : SGH) : SS := fun σ h => (a σ h).flo σ fun x h1 => match g x σ h1 with | some σ' => .nx σ' h1 | none => .stk
section
variable {X : Cx} {P : Pq} {W : WX} {tg a : Expr} {sa : SE} {pos : Pos}
end
@[simp] theorem e_ssAsgH (a : SE) (g : SGH) (σ : St3) (h : Hh) : ssAsgH a g σ h = (a σ h).flo σ fun x h1 => match g x σ h1 with | some σ' => .nx σ' h1 | none => .stk := Eq.trans rfl rfl
@[simp] theorem e_sgLst (n : Nat) (g : SGs) (l : Nat) (σ : St3) (h : Hh) : sgLst n g (.ref l) σ h = match lstAt h l with | some ts => if ts.length = n then g ts σ else none | none => none := Eq.trans rfl rfl
end W3
end

section
namespace OwLen
open PySem PySem.Spec PyProof.Rows
section
variable {prog : Program} {w : World} {A : Around} {E : Value → Shared → Prop} {s : Shared} {K : PySem.W.Frag} {x C D f : Addr} {ox od : Obj} {odd : Option Obj}
theorem len_own {Q : Value → Shared → Prop} (X : K.In s.heap) (I : PySem.W.InstAt s.heap x ox C odd) (hs : PySem.W.findIn K (.ref C) "__len__" = some (some (.ref f))) (hf : PySem.W.isFn K (.ref f) = true)
    (h : wpAny (model prog w) A.in1 (call (.ref f) [.ref x]) (fun r s₁ => ∃ n u, r = Value.int n u ∧ 0 ≤ n ∧ n < 2 ^ 63 ∧ Q (.int n s₁.toks) { s₁ with toks := s₁.toks + 1 }) E s) : wpAny (model prog w) A (call (.builtin "len") [.ref x]) Q E s := by
  refine Calls.call_function_entry kind_len plain_len entry_len (args_len1 _) ?_
  unfold Builtin.«len»
  refine wpAny_bind (m := oneArg "len" _) (wpAny_pure ?_)
  refine wpAny_bind (m := callSpecial? (.ref x) (PySem.Str.ofString "__len__")) (PySem.W.special_fn X I hs (beq_iff_eq.mp hf) (wpAny_mono h (fun r s' hr => ?_) fun _ _ y => y))
  obtain ⟨n, u, rfl, h0, h1, hq⟩ := hr
  refine wpAny_bind (wpAny_holding (wpAny_pure ?_))
  refine wpAny_bind (wpAny_letGo ?_)
  show wpAny _ _ (if n < 0 then _ else _) _ _ _
  rw [if_neg (by omega)]
  show wpAny _ _ (if n ≥ 2 ^ 63 then _ else _) _ _ _
  rw [if_neg (by omega)]
  exact wpAny_bind (wpAny_mkInt (wpAny_pure ⟨_, rfl, hq⟩))
end
end OwLen
namespace L2
open PySem PySem.Spec PyProof.Rows
section
variable {X : Cx} {CX : CXT} {k : Nat} {C g : Addr} {fd : FuncData} {ps : List Str} {sp : Sp} {E : XK}
def rLenOwn (C : Addr) (sp : Sp) (E : XK) : List V → Hp → VK → Prop := fun xs H Q => ∃ a dx fs, xs = [V.ref a] ∧ H a = some (.ins C dx fs) ∧ sp [.ref a] H (fun z H' => ∃ i, z = .int i ∧ 0 ≤ i ∧ i < 2 ^ 63 ∧ Q z H') E
theorem call_lenOwn (hs : PySem.W.findIn X.K (.ref C) "__len__" = some (some (.ref g))) (hf : PySem.W.isFn X.K (.ref g) = true) (F : FnOk X.prog X.w X.K X.mg X.base CX k g fd ps sp) (hr : Room (k + 1) X.A) (hb : Binds X.K fd ps []) (hx : Passes CX X E) : CallR X (.builtin "len") (rLenOwn C sp E) := by
  intro pins s σ H xs us Q I r h
  obtain ⟨a, dx, fs, rfl, ea, q⟩ := h
  obtain ⟨u, rfl, ru⟩ := r.one
  cases (show u = Value.ref a from ru)
  obtain ⟨mA, O, _, _, _, _⟩ := ins_get I.hok ea
  obtain ⟨od, J, _⟩ := O.look
  have hl : ([Value.ref a] ++ ([] : List Value)).length = ps.length := by
    rw [← F.len _ _ _ _ q]
    rfl
  have run : wpAny (model X.prog X.w) X.A.in1 (call (.ref g) [.ref a]) (EP X pins σ (fun z H' => ∃ i, z = .int i ∧ 0 ≤ i ∧ i < 2 ^ 63 ∧ Q z H')) X.xe s := by
    refine wpAny_call (codeAny_mono (F.run X.A.in1 X.stack s H ⟨[.ref a], []⟩ [.ref a] [.ref a] _ E hr.in1 I.env0.in1 (hb _ [.ref a] I.kIn hl) (.cons rfl .nil) q) fun r s' hq => ?_)
    cases r with
    | error e => exact hx pins σ H s e s' I hq
    | ok fl =>
      cases fl with
      | ret u => exact I.after hq
      | next => exact False.elim hq
      | brk => exact False.elim hq
      | cont => exact False.elim hq
  refine OwLen.len_own I.kIn J hs hf (wpAny_mono run (fun w s' z => ?_) fun _ _ x => x)
  obtain ⟨z', H', I', rz, i, ei, h0, h1, qz⟩ := z
  subst ei
  obtain ⟨t, e⟩ := (show ∃ t, w = Value.int i t from rz)
  cases e
  exact ⟨i, t, rfl, h0, h1, .int i, H', I'.tok _, ⟨_, rfl⟩, qz⟩
end
end L2
end

section
namespace W3
open PySem PySem.Spec PyProof.Rows
open L2
def fLen (cn : Str) (ff : List T → Hh → Res T) (xs : List T) (h : Hh) : Res T := match xs with
  | [.ref l] => (match insAt h l with
    | some (d, _) => if d = cn then (match ff [.ref l] h with
      | .ok (.int i) h' => if 0 ≤ i ∧ i < 2 ^ 63 then .ok (.int i) h' else .stk
      | _ => .stk) else .stk
    | none => bLen [.ref l] h)
  | _ => bLen xs h
theorem nx_lenO {cn : Str} {ff : List T → Hh → Res T} (nl : NoXL bLen) : NoXL (fLen cn ff) := fun xs h c fs h' e => by
  unfold fLen at e
  split at e
  · split at e
    · split at e
      · split at e
        · split at e <;> cases e
        · cases e
      · cases e
    · exact nl _ _ _ _ _ e
  · exact nl _ _ _ _ _ e
theorem takesWF (X : Cx) : Takes X WF := fun u s' ⟨_, _, _, _, _, _, _, _, _, _, _, _, _, _, _, _, w⟩ => False.elim w
theorem cs_lenO {X : Cx} {cn : Str} {C g : Addr} {k : Nat} {fd : FuncData} {ps : List Str} {ff : List T → Hh → Res T} (hC : X.mg cn = some (.ref C)) (hs : PySem.W.findIn X.K (.ref C) "__len__" = some (some (.ref g))) (hf : PySem.W.isFn X.K (.ref g) = true)
    (F : FnOk X.prog X.w X.K X.mg X.base (L2.CX X.prog X.w) k g fd ps (spT X.K X.mg X.w 1 ff)) (hr : Room (k + 1) X.A) (hb : Binds X.K fd ps []) : CallR X (.builtin "len") (rPL X.K X.mg X.w (fLen cn ff)) := by
  intro pins s σ H xs us Q I ru ⟨m, h, ts, r, R, o⟩
  unfold fLen at o
  split at o
  · rename_i l
    split at o
    · rename_i d ffs q1
      split at o
      · rename_i hd
        subst hd
        split at o
        · rename_i i h' eff
          split at o
          · rename_i hi
            cases r with
            | cons rv rest =>
              cases rest
              cases rv with
              | @ref _ a e1 =>
                obtain ⟨C', dx, fv, g1, g2, rf⟩ := R.ins e1 q1
                rw [hC] at g1
                cases g1
                refine call_lenOwn (C := C) (sp := spT X.K X.mg X.w 1 ff) (E := fun _ _ _ => False) hs hf F hr hb (fun pins σ H s e s' I c => passAt (takesWF X) σ pins H s e s' I c) pins s σ H _ us Q I ru ⟨a, dx, fv, rfl, g2, ⟨rfl, m, h, [.ref l], .cons (.ref e1) .nil, R, ?_⟩⟩
                rw [eff]
                intro v m' H' E rt R'
                cases rt
                exact ⟨i, rfl, hi.1, hi.2, o _ m' H' E (.int _) R'⟩
          · exact False.elim o
        · exact False.elim o
      · exact False.elim o
    · exact cs_len pins s σ H xs us Q I ru ⟨m, h, _, r, R, o⟩
  · exact cs_len pins s σ H xs us Q I ru ⟨m, h, _, r, R, o⟩
def sProp (cn : Str) (ff : List T → Hh → Res T) (so : SE) : SE := fun σ h => (so σ h).bind fun x h1 => match x with
  | .ref l => (match insAt h1 l with
    | some (d, _) => if d = cn then (match ff [.ref l] h1 with | .ok t h2 => .ok t h2 | _ => .stk) else .stk
    | none => .stk)
  | _ => .stk
@[simp] theorem e_sProp (cn : Str) (ff : List T → Hh → Res T) (so : SE) (σ : St3) (h : Hh) : sProp cn ff so σ h = (so σ h).bind fun x h1 => match x with
  | .ref l => (match insAt h1 l with
    | some (d, _) => if d = cn then (match ff [.ref l] h1 with | .ok t h2 => .ok t h2 | _ => .stk) else .stk
    | none => .stk)
  | _ => .stk := Eq.trans rfl rfl
end W3
end

section
namespace W3
open PySem PySem.Spec PyProof.Rows
open L2
end W3
end

section
namespace W3
open PySem PySem.Spec PyProof.Rows
open L2
def fGet (cn : Str) (ff : List T → Hh → Res T) (x i : T) (h : Hh) : Res T := match x with
  | .ref l => (match insAt h l with
    | some (d, _) => if d = cn then ff [.ref l, i] h else .stk
    | none => oIx (.ref l) i h)
  | _ => oIx x i h
def fIn (cn : Str) (ff : List T → Hh → Res T) (y x : T) (h : Hh) : Res T := match x with
  | .ref l => (match insAt h l with
    | some (d, _) => if d = cn then (match ff [.ref l, y] h with
      | .ok (.bl b) h' => .ok (.bl b) h'
      | _ => .stk) else .stk
    | none => oIn y (.ref l) h)
  | _ => oIn y x h
def fNotIn (cn : Str) (ff : List T → Hh → Res T) (y x : T) (h : Hh) : Res T := match x with
  | .ref l => (match insAt h l with
    | some (d, _) => if d = cn then (match ff [.ref l, y] h with
      | .ok (.bl b) h' => .ok (.bl (!b)) h'
      | _ => .stk) else .stk
    | none => oNotIn y (.ref l) h)
  | _ => oNotIn y x h
def fEq (cn : Str) (ff : List T → Hh → Res T) (x y : T) (h : Hh) : Res T := match x, y with
  | .ref l, .ref j => (match insAt h l, insAt h j with
    | some (d, _), some (e, _) => if d = cn ∧ e = cn then (match ff [.ref l, .ref j] h with
      | .ok (.bl b) h' => .ok (.bl b) h'
      | _ => .stk) else .stk
    | none, _ => oEq (.ref l) (.ref j) h
    | _, _ => .stk)
  | _, _ => oEq x y h
def ssSetO (cn : Str) (ff : List T → Hh → Res T) (o i v : SE) : SS := fun σ h => (v σ h).flo σ fun y h1 => (o σ h1).flo σ fun x h2 => (i σ h2).flo σ fun k h3 => match x with
  | .ref l => (match insAt h3 l with
    | some (d, _) => if d = cn then (ff [.ref l, k, y] h3).flo σ fun _ h4 => .nx σ h4 else .stk
    | none => .stk)
  | _ => .stk
section
variable {X : Cx} {P : Pq} {W : WX} {a b : Expr} {sa sb : SE} {pos : Pos} {cn : Str} {C g : Addr} {k : Nat} {fd : FuncData} {ps : List Str} {ff : List T → Hh → Res T}
theorem op_inO (hC : X.mg cn = some (.ref C)) (hs : PySem.W.findIn X.K (.ref C) "__contains__" = some (some (.ref g))) (hf : PySem.W.isFn X.K (.ref g) = true)
    (F : FnOk X.prog X.w X.K X.mg X.base (L2.CX X.prog X.w) k g fd ps (spT X.K X.mg X.w 2 ff)) (hr : Room k X.A) (hb : Binds X.K fd ps []) (ho : OpR X (compareOp .In) (rP2 X.K X.mg X.w oIn)) : OpR X (compareOp .In) (rP2 X.K X.mg X.w (fIn cn ff)) := by
  intro pins s σ H y x u v Q I ry rx ⟨m, h, ty, tx, r2, r1, R, o⟩
  unfold fIn at o
  split at o
  · rename_i l
    split at o
    · rename_i d fs q1
      split at o
      · rename_i hd
        subst hd
        split at o
        · rename_i b h' eff
          cases r1 with
          | @ref _ ad e1 =>
            obtain ⟨C', dx, fv, g1, g2, rf⟩ := R.ins e1 q1
            rw [hC] at g1
            cases g1
            cases rx
            obtain ⟨mA, O, _, _, _, _⟩ := ins_get I.hok g2
            obtain ⟨od, J, _⟩ := O.look
            obtain ⟨mf, hF⟩ := I.fr
            have sp : spT X.K X.mg X.w 2 ff [.ref ad, y] H (fun z H' => z = .bl b ∧ Q (.bl b) H') (fun _ _ _ => False) := by
              refine ⟨rfl, m, h, [.ref l, ty], .cons (.ref e1) (.cons r2 .nil), R, ?_⟩
              rw [eff]
              intro z m' H' E rt R'
              cases rt
              exact ⟨rfl, o _ m' H' E (.bl _) R'⟩
            refine PySem.W.in_K hF I.ok.mod.kin J hs hf (wpAny_mono (run_fn (vs := [.ref ad, y]) (dvs := []) (ds := []) F hr hb .nil (fun pins σ H s e s' I c => passAt (takesWF X) σ pins H s e s' I c) I (.cons rfl (.cons ry .nil)) sp) (fun w s' z => ?_) fun _ _ x => x)
            obtain ⟨z', H', I', rz, ez, qz⟩ := z
            subst ez
            cases rz
            exact wpAny_pure ⟨.bl b, H', I', rfl, qz⟩
        · exact False.elim o
      · exact False.elim o
    · exact ho pins s σ H y _ u v Q I ry rx ⟨m, h, ty, _, r2, r1, R, o⟩
  · exact ho pins s σ H y x u v Q I ry rx ⟨m, h, ty, _, r2, r1, R, o⟩
theorem nx_inO : NoX2 (fIn cn ff) := fun x y h c fs h' e => by
  unfold fIn oIn at e
  (repeat' split at e) <;> cases e
theorem op_eqO (hC : X.mg cn = some (.ref C)) (hs : PySem.W.findIn X.K (.ref C) "__eq__" = some (some (.ref g))) (hf : PySem.W.isFn X.K (.ref g) = true)
    (F : FnOk X.prog X.w X.K X.mg X.base (L2.CX X.prog X.w) k g fd ps (spT X.K X.mg X.w 2 ff)) (hr : Room k X.A) (hb : Binds X.K fd ps []) (ho : OpR X (compareOp .Eq) (rP2 X.K X.mg X.w oEq)) : OpR X (compareOp .Eq) (rP2 X.K X.mg X.w (fEq cn ff)) := by
  intro pins s σ H x y u v Q I rx ry ⟨m, h, tx, ty, r1, r2, R, o⟩
  unfold fEq at o
  split at o
  · rename_i l j
    split at o
    · rename_i d fs e' fs' q1 q2
      split at o
      · rename_i hd
        obtain ⟨hd1, hd2⟩ := hd
        subst hd1
        subst hd2
        split at o
        · rename_i b h' eff
          cases r1 with
          | @ref _ ad e1 =>
            cases r2 with
            | @ref _ ae e2 =>
              obtain ⟨C', dx, fv, g1, g2, rf⟩ := R.ins e1 q1
              obtain ⟨C2, dx2, fv2, g3, g4, rf2⟩ := R.ins e2 q2
              rw [hC] at g1 g3
              cases g1
              cases g3
              cases rx
              cases ry
              obtain ⟨mA, O, _, _, _, _⟩ := ins_get I.hok g2
              obtain ⟨mB, O2, _, _, _, _⟩ := ins_get I.hok g4
              obtain ⟨od, J, _⟩ := O.look
              obtain ⟨od2, J2, _⟩ := O2.look
              obtain ⟨mf, hF⟩ := I.fr
              have sp : spT X.K X.mg X.w 2 ff [.ref ad, .ref ae] H (fun z H' => z = .bl b ∧ Q (.bl b) H') (fun _ _ _ => False) := by
                refine ⟨rfl, m, h, [.ref l, .ref j], .cons (.ref e1) (.cons (.ref e2) .nil), R, ?_⟩
                rw [eff]
                intro z m' H' E rt R'
                cases rt
                exact ⟨rfl, o _ m' H' E (.bl _) R'⟩
              refine PySem.W.cmp_K (op := .Eq) (tb := .ref C) hr.units0 hF I.ok.mod.kin J J2.type (by simp [PySem.W.notFirst]) hs hf (wpAny_mono (run_fn (vs := [.ref ad, .ref ae]) (dvs := []) (ds := []) F hr hb .nil (fun pins σ H s e s' I c => passAt (takesWF X) σ pins H s e s' I c) I (.cons rfl (.cons rfl .nil)) sp) (fun w s' z => ?_) fun _ _ x => x)
              obtain ⟨z', H', I', rz, ez, qz⟩ := z
              subst ez
              cases rz
              exact ⟨.bl b, H', I', rfl, qz⟩
        · exact False.elim o
      · exact False.elim o
    · exact ho pins s σ H x y u v Q I rx ry ⟨m, h, _, _, r1, r2, R, o⟩
    · exact False.elim o
  · exact ho pins s σ H x y u v Q I rx ry ⟨m, h, _, _, r1, r2, R, o⟩
theorem nx_eqO : NoX2 (fEq cn ff) := fun x y h c fs h' e => by
  unfold fEq oEq at e
  (repeat' split at e) <;> cases e
end
section
variable {h : Hh}
@[simp] theorem e_fGet (cn : Str) (ff : List T → Hh → Res T) (l : Nat) (i : T) : fGet cn ff (.ref l) i h = match insAt h l with
  | some (d, _) => if d = cn then ff [.ref l, i] h else .stk
  | none => oIx (.ref l) i h := Eq.trans rfl rfl
@[simp] theorem e_fGet_tup (cn : Str) (ff : List T → Hh → Res T) (ts : List T) (i : T) : fGet cn ff (.tup ts) i h = oIx (.tup ts) i h := Eq.trans rfl rfl
@[simp] theorem e_fIn (cn : Str) (ff : List T → Hh → Res T) (l : Nat) (y : T) : fIn cn ff y (.ref l) h = match insAt h l with
  | some (d, _) => if d = cn then (match ff [.ref l, y] h with
    | .ok (.bl b) h' => .ok (.bl b) h'
    | _ => .stk) else .stk
  | none => oIn y (.ref l) h := Eq.trans rfl rfl
@[simp] theorem e_fIn_tup (cn : Str) (ff : List T → Hh → Res T) (ts : List T) (y : T) : fIn cn ff y (.tup ts) h = oIn y (.tup ts) h := Eq.trans rfl rfl
@[simp] theorem e_fNotIn (cn : Str) (ff : List T → Hh → Res T) (l : Nat) (y : T) : fNotIn cn ff y (.ref l) h = match insAt h l with
  | some (d, _) => if d = cn then (match ff [.ref l, y] h with
    | .ok (.bl b) h' => .ok (.bl (!b)) h'
    | _ => .stk) else .stk
  | none => oNotIn y (.ref l) h := Eq.trans rfl rfl
@[simp] theorem e_fNotIn_tup (cn : Str) (ff : List T → Hh → Res T) (ts : List T) (y : T) : fNotIn cn ff y (.tup ts) h = oNotIn y (.tup ts) h := Eq.trans rfl rfl
@[simp] theorem e_ssSetO (cn : Str) (ff : List T → Hh → Res T) (o i v : SE) (σ : St3) : ssSetO cn ff o i v σ h = (v σ h).flo σ fun y h1 => (o σ h1).flo σ fun x h2 => (i σ h2).flo σ fun k h3 => match x with
  | .ref l => (match insAt h3 l with
    | some (d, _) => if d = cn then (ff [.ref l, k, y] h3).flo σ fun _ h4 => .nx σ h4 else .stk
    | none => .stk)
  | _ => .stk := Eq.trans rfl rfl
end
end W3
namespace W3
open PySem PySem.Spec PyProof.Rows
open L2
def ssRaise0 (c : Str) : SS := fun σ h => .exc c [] σ h
@[simp] theorem e_ssRaise0 (c : Str) (σ : St3) (h : Hh) : ssRaise0 c σ h = .exc c [] σ h := Eq.trans rfl rfl
end W3
namespace W3
open PySem PySem.Spec PyProof.Rows
open L2
end W3
end

section
namespace W3
open PySem PySem.Spec PyProof.Rows
open L2
def isO (cn : Str) (x : T) (h : Hh) : Bool := match x with
  | .ref l => (match insAt h l with | some (d, _) => decide (d = cn) | none => false)
  | _ => false
def oIsO (cn : Str) (x : T) (h : Hh) : Res T := if isO cn x h = true then .ok (.bl true) h else .stk
theorem nx_isO {cn : Str} : NoX1 (oIsO cn) := fun x h c fs h' e => by
  unfold oIsO at e
  split at e <;> cases e
structure IsoC (K : PySem.W.Frag) (C : Addr) : Prop where
  cl : Cls K C
  ha : PySem.W.findIn K (.ref C) "__class__" = some (some (.builtin "object.__class__"))
  hn : PySem.W.specialIn K (.builtin "object.__class__") "__get__" = some (some (.builtin "getset_descriptor.__get__"))
  ht : PySem.W.takesIn K (.builtin "object.__class__") = some true
  hm : PySem.W.mroIn K C (.type "object") = some true
theorem de_isO {X : Cx} {P : Pq} {W : WX} {a : Expr} {sa : SE} {cn : Str} {C : Addr} {p p2 pos : Pos} (I : IsoC X.K C) (hg : Gl X "isinstance") (hm : X.mg "isinstance" = none) (hgx : Gl X cn) (hC : X.mg cn = some (.ref C)) (ha : DE X P W a sa) (hdx : (cn == ("__debug__" : Str)) = false := by decide)
    (he : starEach [a, .Name cn p2] X.env = (false, eval a X.env) :: starEach [.Name cn p2] X.env := by rfl) (hpl : (backTo pos (starEach [.Name cn p2] X.env)).any (·.1) = false := by rfl) (hs2 : starEach [.Name cn p2] X.env = (false, eval (.Name cn p2) X.env) :: starEach [] X.env := by rfl) :
    DE X P W (.Call (.Name "isinstance" p) [a, .Name cn p2] [] pos) (s1 (oIsO cn) sa) :=
  PE.imp (pe_callB call_isi hg hm boot_isinstance (pa_cons ha (pa_cons (pe_glob (v := .ref C) hgx hC rfl hdx) pa_nil hs2) he) (by decide) (by decide) he hpl) fun σV H Q h => by
    refine tG.mono (fun v H1 hq => ?_) (one nx_isO h)
    obtain ⟨m, h, t, r, R, o⟩ := hq
    cases t with
    | ref l =>
      cases q1 : insAt h l with
      | none =>
        have : oIsO cn (.ref l) h = .stk := by simp [oIsO, isO, q1]
        rw [this] at o
        exact False.elim o
      | some p =>
        obtain ⟨d, fs⟩ := p
        by_cases hd : d = cn
        · have : oIsO cn (.ref l) h = .ok (.bl true) h := by simp [oIsO, isO, q1, hd]
          rw [this] at o
          subst hd
          cases r with
          | @ref _ ad e1 =>
            obtain ⟨C', dx, fv, g1, g2, rf⟩ := R.ins e1 q1
            rw [hC] at g1
            cases g1
            exact ⟨.ref ad, .ref C, .ref C, .ref C, true, rfl, .own C, .base (.ins g2 I.cl I.ha I.hn I.ht I.hm), by simp [PySem.W.kitOne], o _ m H1 (Ext.refl _ _) (.bl _) R⟩
        · have : oIsO cn (.ref l) h = .stk := by simp [oIsO, isO, q1, hd]
          rw [this] at o
          exact False.elim o
    | _ => exact False.elim o
theorem isO_of {cn : Str} {l : Nat} {h : Hh} {fs : List (Str × T)} (e : insAt h l = some (cn, fs)) : oIsO cn (.ref l) h = .ok (.bl true) h := by simp [oIsO, isO, e]
end W3
end

section
namespace W3
open PySem PySem.Spec PyProof.Rows
open L2
def strsOf : List T → Option (List Str)
  | [] => some []
  | .str s :: r => (strsOf r).map (s :: ·)
  | _ :: _ => none
def joinT (a : Str) (ts : List T) (h : Hh) : Res T := match strsOf ts with
  | some ys => if (ys.map (·.length)).sum + ys.length * a.length ≤ 16777216 then .ok (.str (Txt.join a ys)) h else .stk
  | none => .stk
def mJoin (x : T) (vs : List T) (h : Hh) : Res T := match x, vs with
  | .str a, [.ref l] => (match lstAt h l with | some ts => joinT a ts h | none => .stk)
  | .str a, [.tup ts] => joinT a ts h
  | _, _ => .stk
def sMtS (f : T → List T → Hh → Res T) (o : SE) (a : SA) : SE := fun σ h => (o σ h).bind fun x h1 => match x with
  | .str s => (a σ h1).bind fun xs h2 => f (.str s) xs h2
  | _ => .stk
section
variable {X : Cx} {P : Pq} {W : WX} {a b c o e : Expr} {sa sb sc so : SE} {pos pos' apos cpos p : Pos} {es : List Expr} {ar : SA}
open Classical in
noncomputable def rngOf2 (xs : List T) (h1 : Hh) : Res Src := match xs with
  | [.int i, .int j] => if RngOk i ∧ RngOk j then .ok (.its (rangeT i (j - i).toNat)) h1 else .stk
  | _ => .stk
noncomputable def siRange2 (a : SA) : SI := fun σ h => (a σ h).bind rngOf2
@[simp] theorem e_siRange2 (a : SA) (σ : St3) (h : Hh) : siRange2 a σ h = (a σ h).bind rngOf2 := Eq.trans rfl rfl
@[simp] theorem e_sMtS (f : T → List T → Hh → Res T) (o : SE) (a : SA) (σ : St3) (h : Hh) : sMtS f o a σ h = (o σ h).bind fun x h1 => match x with
  | .str s => (a σ h1).bind fun xs h2 => f (.str s) xs h2
  | _ => .stk := Eq.trans rfl rfl
@[simp] theorem e_join_ref (a : Str) (l : Nat) (h : Hh) : mJoin (.str a) [.ref l] h = match lstAt h l with | some ts => joinT a ts h | none => .stk := Eq.trans rfl rfl
end
end W3
end

section
namespace W3.Ne
open PySem PySem.Spec PyProof.Rows PySem.W
section
variable {prog : Program} {w : World} {A : Around} {E : Value → Shared → Prop} {s : Shared} {K : PySem.W.Frag} {x y C L g : Addr} {h₀ : Heap} {m : Str → Option Value} {ox : Obj} {od : Option Obj}
end
end W3.Ne
namespace W3
open PySem PySem.Spec PyProof.Rows
open L2
section
variable {X : Cx} {P : Pq} {W : WX} {a b : Expr} {sa sb : SE} {pos : Pos} {cn : Str} {C g : Addr} {k : Nat} {fd : FuncData} {ps : List Str} {ff : List T → Hh → Res T}
end
end W3
end

section
namespace W3
open PySem PySem.Spec PyProof.Rows
open L2
def sTupRev (a : SE) : SE := fun σ h => (a σ h).bind fun x h1 => match x with
  | .ref l => (match lstAt h1 l with | some ts => .ok (.tup ts.reverse) h1 | none => .stk)
  | _ => .stk
section
variable {X : Cx} {P : Pq} {W : WX} {a : Expr} {sa : SE}
theorem RTs.reverse {K : PySem.W.Frag} {mg : Str → Option Value} {m : Mp} {H : Hp} : ∀ {ts : List T} {vs : List V}, RTs K mg m H ts vs → RTs K mg m H ts.reverse vs.reverse
  | _, _, .nil => .nil
  | _, _, .cons a b => by
    rw [List.reverse_cons, List.reverse_cons]
    exact RTs.append b.reverse (.cons a .nil)
end
@[simp] theorem e_sTupRev (a : SE) (σ : St3) (h : Hh) : sTupRev a σ h = (a σ h).bind fun x h1 => match x with
  | .ref l => (match lstAt h1 l with | some ts => .ok (.tup ts.reverse) h1 | none => .stk)
  | _ => .stk := Eq.trans rfl rfl
end W3
end

section
namespace W3
open PySem PySem.Spec PyProof.Rows
open L2
def ssAugO (cn : Str) (ff : List T → Hh → Res T) (i : Nat) (a : SE) : SS := fun σ h => match σ[i]? with
  | some (some (.ref l)) => (a σ h).flo σ fun y h1 => match insAt h1 l with
    | some (d, _) => if d = cn then (ff [.ref l, y] h1).flo σ fun t h2 => .nx (σ.set i (some t)) h2 else .stk
    | none => .stk
  | _ => .stk
section
variable {X : Cx} {P : Pq} {W : WX} {a : Expr} {sa : SE} {pos : Pos} {cn : Str} {C g : Addr} {k : Nat} {fd : FuncData} {ps : List Str} {ff : List T → Hh → Res T}
end
@[simp] theorem e_ssAugO (cn : Str) (ff : List T → Hh → Res T) (i : Nat) (a : SE) (σ : St3) (h : Hh) : ssAugO cn ff i a σ h = match σ[i]? with
  | some (some (.ref l)) => (a σ h).flo σ fun y h1 => match insAt h1 l with
    | some (d, _) => if d = cn then (ff [.ref l, y] h1).flo σ fun t h2 => .nx (σ.set i (some t)) h2 else .stk
    | none => .stk
  | _ => .stk := Eq.trans rfl rfl
example : dunderI Operator.Add.info.2 = ("__iadd__" : Str) := by decide +kernel
end W3
end

section
namespace W3
open PySem L2
section
variable {X : Cx}
end
end W3
end

section
namespace W3
open PySem PySem.Spec PyProof.Rows
open L2
def ngetT : List (T × T) → NestedKey → Option T
  | [], _ => none
  | (k, t) :: r, n => if nkT k = some n then some t else ngetT r n
def nsetT : List (T × T) → NestedKey → T → List (T × T)
  | [], _, _ => []
  | (k, u) :: r, n, t => (k, if nkT k = some n then t else u) :: nsetT r n t
def nputT (kvs : List (T × T)) (k : T) (n : NestedKey) (t : T) : List (T × T) := if (ngetT kvs n).isSome = true then nsetT kvs n t else kvs ++ [(k, t)]
def igetT : List (T × T) → Int → Option T
  | [], _ => none
  | (.int s, t) :: r, k => if s = k then some t else igetT r k
  | _ :: r, k => igetT r k
def isetT : List (T × T) → Int → T → List (T × T)
  | [], _, _ => []
  | (.int s, u) :: r, k, t => (.int s, if s = k then t else u) :: isetT r k t
  | p :: r, k, t => p :: isetT r k t
def iputT (kvs : List (T × T)) (k : Int) (t : T) : List (T × T) := if (igetT kvs k).isSome = true then isetT kvs k t else kvs ++ [(.int k, t)]
def kPut (o : Ob) (k t : T) : Option Ob :=
  match o, k with
  | .dic kvs, .str s => if kvs.length < 1000000 then some (.dic (dputT kvs s t)) else none
  | .dic kvs, .int i => if kvs.length < 1000000 then some (.dic (iputT kvs i t)) else none
  | .dic [], .tup ts => (match nkT (.tup ts) with | some n => if n.depth ≤ 8 then some (.dtk [(.tup ts, t)]) else none | none => none)
  | .dtk kvs, .tup ts => (match nkT (.tup ts) with | some n => if n.depth ≤ 8 ∧ kvs.length < 1000000 then some (.dtk (nputT kvs (.tup ts) n t)) else none | none => none)
  | _, _ => none
def obAt (h : Hh) (x : T) : Option Ob := match x with | .ref l => h[l]? | _ => none
def ssKSub (so si sv : SE) : SS := fun σ h => (sv σ h).flo σ fun y h1 => (so σ h1).flo σ fun x h2 => (si σ h2).flo σ fun k h3 => match x with
  | .ref l => (match h3[l]? with
    | some o => (match kPut o k y with | some o' => .nx σ (h3.set l o') | none => .stk)
    | none => .stk)
  | _ => .stk
section
variable {K : PySem.W.Frag} {mg : Str → Option Value} {m : Mp} {H : Hp} {kvs : List (T × T)} {ks : List (Key × V)}
abbrev EPr (es : List (NestedKey × Addr × V)) (xs : List (NestedKey × Addr × Value)) : Prop := Paired (fun (p : NestedKey × Addr × V) (q : NestedKey × Addr × Value) => p.1 = q.1 ∧ p.2.1 = q.2.1 ∧ RelV p.2.2 q.2.2) es xs
def esPut (es : List (NestedKey × Addr × V)) (n : NestedKey) (a : Addr) (v : V) : List (NestedKey × Addr × V) := if (es.any fun e => decide (e.1 = n)) = true then es.map (fun e => if e.1 = n then (e.1, e.2.1, v) else e) else es ++ [(n, a, v)]
theorem atKey_cons {x : NestedKey × Addr × Value} {xs : List (NestedKey × Addr × Value)} {n : NestedKey} : atKey (x :: xs) n = if x.1 = n then some x.2 else atKey xs n := by
  unfold atKey
  rw [List.find?_cons]
  by_cases e : x.1 = n
  · rw [if_pos e]; simp [e]
  · rw [if_neg e]; simp [e]
theorem RN.get {es : List (NestedKey × Addr × V)} (r : RN K mg m H kvs es) : ∀ {xs : List (NestedKey × Addr × Value)}, EPr es xs → ∀ n : NestedKey,
    (∀ t, ngetT kvs n = some t → ∃ (a : Addr) (u : Value) (v : V), atKey xs n = some (a, u) ∧ RelV v u ∧ RT K mg m H t v) ∧ (ngetT kvs n = none → atKey xs n = none) := by
  induction r with
  | nil => intro xs p n; cases p; exact ⟨fun t e => (by cases e), fun _ => rfl⟩
  | @cons t u k a v fs es hk hd r1 r2 _ ih =>
    intro xs p n
    cases p with
    | @cons _ x _ xs q p =>
      obtain ⟨q1, q2, q3⟩ := q
      obtain ⟨x1, x2, x3⟩ := x
      cases q1; cases q2
      rw [atKey_cons]
      simp only [ngetT, hk, Option.some.injEq]
      by_cases e : k = n
      · rw [if_pos e, if_pos e]
        exact ⟨fun t' h => (by cases h; exact ⟨a, x3, v, rfl, q3, r2⟩), fun h => by cases h⟩
      · rw [if_neg e, if_neg e]
        exact ih p n
theorem RN.isSome {es : List (NestedKey × Addr × V)} (r : RN K mg m H kvs es) {xs : List (NestedKey × Addr × Value)} (p : EPr es xs) (n : NestedKey) : (ngetT kvs n).isSome = (atKey xs n).isSome := by
  obtain ⟨h1, h2⟩ := r.get p n
  cases e : ngetT kvs n with
  | none => rw [h2 e]; rfl
  | some t =>
    obtain ⟨a, u, v, h, _⟩ := h1 t e
    rw [h]; rfl
theorem RN.any {es : List (NestedKey × Addr × V)} (r : RN K mg m H kvs es) (n : NestedKey) : (ngetT kvs n).isSome = es.any fun e => decide (e.1 = n) := by
  induction r with
  | nil => rfl
  | @cons t u k a v fs es hk hd r1 r2 _ ih =>
    simp only [ngetT, hk, Option.some.injEq, List.any_cons]
    by_cases e : k = n
    · rw [if_pos e]; simp [e]
    · rw [if_neg e, ih]; simp [e]
theorem RN.length {es : List (NestedKey × Addr × V)} (r : RN K mg m H kvs es) : kvs.length = es.length := by
  induction r with
  | nil => rfl
  | cons _ _ _ _ _ ih => simp [ih]
theorem RN.put {es : List (NestedKey × Addr × V)} (r : RN K mg m H kvs es) {n : NestedKey} {kt t : T} {a : Addr} {v : V} (hk : nkT kt = some n) (hd : n.depth ≤ 8) (rk : RT K mg m H kt (.ref a)) (rv : RT K mg m H t v) :
    RN K mg m H (nputT kvs kt n t) (esPut es n a v) := by
  unfold nputT esPut
  rw [r.any n]
  split
  · rename_i z
    clear z hk rk hd
    induction r with
    | nil => exact .nil
    | @cons t' u k a' v' fs es hk hd r1 r2 _ ih =>
      simp only [nsetT, List.map_cons, hk, Option.some.injEq]
      by_cases e : k = n
      · rw [if_pos e, if_pos e]; exact .cons hk hd r1 rv ih
      · rw [if_neg e, if_neg e]; exact .cons hk hd r1 r2 ih
  · rename_i z
    clear z
    induction r with
    | nil => exact .cons hk hd rk rv .nil
    | cons h1 h2 h3 h4 _ ih => exact .cons h1 h2 h3 h4 ih
theorem EPr.put {es : List (NestedKey × Addr × V)} {xs : List (NestedKey × Addr × Value)} (p : EPr es xs) {n : NestedKey} {a : Addr} {v : V} {u : Value} (q : RelV v u) : EPr (esPut es n a v) (storedH xs n a u) := by
  have e1 : (es.any fun e => decide (e.1 = n)) = (atKey xs n).isSome := by
    induction p with
    | nil => rfl
    | @cons e x es xs r _ ih =>
      rw [atKey_cons, List.any_cons, ih, r.1]
      by_cases z : x.1 = n
      · rw [if_pos z]; simp [z]
      · rw [if_neg z]; simp [z]
  unfold esPut storedH
  rw [e1]
  split
  · rename_i z
    clear z e1
    induction p with
    | nil => exact .nil
    | @cons e x es xs r _ ih =>
      simp only [List.map_cons]
      refine .cons ?_ ih
      obtain ⟨r1, r2, r3⟩ := r
      unfold putAt
      rw [r1]
      split
      · exact ⟨rfl, r2, q⟩
      · exact ⟨r1, r2, r3⟩
  · rename_i z
    clear z e1
    induction p with
    | nil => exact .cons ⟨rfl, rfl, q⟩ .nil
    | cons r _ ih => exact .cons r ih
end
end W3
namespace W3
open PySem PySem.Spec PyProof.Rows
open L2
section
variable {X : Cx} {P : Pq} {W : WX} {a b c : Expr} {sa sb sc : SE} {pos p : Pos} {pins : List (Addr × Obj)} {σ : L2.St} {H : Hp} {s : Shared}
inductive KAt (X : Cx) (m : Mp) (H : Hp) (s : Shared) (a : Addr) (y : V) (iv : Value) : Option T → Prop
  | flat {r : Option T} (o : Option V) (g : DGet H a y o) (h : (∀ t, r = some t → ∃ v, o = some v ∧ RT X.K X.mg m H t v) ∧ (r = none → o = none)) : KAt X m H s a y iv r
  | deep {r : Option T} (n : NestedKey) (ka : Addr) (xs : List (NestedKey × Addr × Value)) (ey : iv = .ref ka) (ek : (nestedKind X.prog X.w).is s.heap n ka) (hs : (a == sysModules) = false) (hd : s.heap.DictOfH (nestedKind X.prog X.w) a xs)
      (h : (∀ t, r = some t → ∃ (b : Addr) (u : Value) (v : V), atKey xs n = some (b, u) ∧ RelV v u ∧ RT X.K X.mg m H t v) ∧ (r = none → atKey xs n = none)) : KAt X m H s a y iv r
theorem KAt.typeIs {m : Mp} {a : Addr} {y : V} {iv : Value} {r : Option T} (I : Inv X pins σ H s) (k : KAt X m H s a y iv r) : s.TypeIs (.ref a) "dict" := by
  cases k with
  | flat o g h => exact dict_typeIs I g
  | deep n ka xs ey ek hs hd h => exact hd.typeIs
end
end W3
namespace W3
open PySem PySem.Spec PyProof.Rows
open L2
section
variable {X : Cx} {P : Pq} {W : WX} {a b c : Expr} {sa sb sc : SE} {pos p : Pos} {pins : List (Addr × Obj)} {σ : L2.St} {H : Hp} {s : Shared}
end
end W3
end

section
namespace W3
open PySem PySem.Spec PyProof.Rows
open L2
def putD (acc : List (T × T)) (k v : T) : Option (List (T × T)) := match k with
  | .int i => some (iputT acc i v)
  | .str s => some (dputT acc s v)
  | _ => none
def dcRun (s : Src) (g : SG) (tt : ST) (tk te : SE) (σ : St3) : Nat → Nat → List (T × T) → Hh → Res (List (T × T))
  | k, i, acc, h => match s.at h i with
    | none => .stk
    | some none => .ok acc h
    | some (some x) => match k with
      | 0 => .stk
      | k + 1 => match g x σ with
        | none => .stk
        | some σ1 => match tt σ1 h with
          | .ok b h1 => if b = true then (match tk σ1 h1 with
              | .ok kt h2 => (match te σ1 h2 with
                | .ok t h3 => if acc.length < 1000000 then (match putD acc kt t with | some acc' => dcRun s g tt tk te σ k (i + 1) acc' h3 | none => .stk) else .stk
                | _ => .stk)
              | _ => .stk) else dcRun s g tt tk te σ k (i + 1) acc h1
          | _ => .stk
def sDc (si : SI) (g : SG) (tt : ST) (tk te : SE) (vs : List Nat) : SE := fun σ h => ((si σ h).bind fun s h1 => dcRun s g tt tk te (wipeT σ vs) (s.len h1) 0 [] h1).bind fun kvs h1 => alloc (.dic kvs) h1
section
variable {K : PySem.W.Frag} {mg : Str → Option Value} {wd : World} {m : Mp} {H : Hp} {h : Hh}
end
section
variable {X : Cx} {P : Pq} {W : WX} {tg iter : Expr} {si : SI}
end
@[simp] theorem e_sDc (si : SI) (g : SG) (tt : ST) (tk te : SE) (vs : List Nat) (σ : St3) (h : Hh) : sDc si g tt tk te vs σ h = ((si σ h).bind fun s h1 => dcRun s g tt tk te (wipeT σ vs) (s.len h1) 0 [] h1).bind fun kvs h1 => alloc (.dic kvs) h1 := Eq.trans rfl rfl
end W3
end

section
namespace RL2
open PySem
open PySem.Sem (wp)
open RZ
structure AtN (z TI TO i1 i2 l1 l2 : Nat) : Prop where
  e2 : i2 = i1 + 1
  eI : TI = i1 + 2
  eO : TO = i1 + 3
  ez : z = i1 + 4
  f1 : l1 < i1
  f2 : l2 < i1
section
variable {prog : Program} {w : World} {A : Around} {E : Value → Shared → Prop} {s : Shared}
end
section
variable {prog : Program} {w : World} {A : Around} {E : Value → Shared → Prop} {s : Shared}
end
end RL2
namespace W3
open PySem PySem.Spec PyProof.Rows
open L2
open RL2
section
variable {K : PySem.W.Frag} {mg : Str → Option Value} {wd : World} {m : Mp} {H : Hp}
end
def zipL2Of (xs : List T) (h : Hh) : Res Src := match xs with
  | [.ref p1, .ref p2] => (match lstAt h p1, lstAt h p2 with | some _, some _ => .ok (.z2 p1 p2) h | _, _ => .stk)
  | _ => .stk
def siZipL2 (a : SA) : SI := fun σ h => (a σ h).bind zipL2Of
@[simp] theorem e_siZipL2 (a : SA) (σ : St3) (h : Hh) : siZipL2 a σ h = (a σ h).bind zipL2Of := Eq.trans rfl rfl
section
variable {X : Cx} {P : Pq} {W : WX} {e1 e2 : Expr} {ar : SA} {pos p : Pos}
end
end W3
end

section
namespace RL3
open PySem
open PySem.Sem (wp)
open RZ
structure AtN (z TI TO i1 i2 i3 l1 l2 l3 : Nat) : Prop where
  e2 : i2 = i1 + 1
  e3 : i3 = i1 + 2
  eI : TI = i1 + 3
  eO : TO = i1 + 4
  ez : z = i1 + 5
  f1 : l1 < i1
  f2 : l2 < i1
  f3 : l3 < i1
section
variable {prog : Program} {w : World} {A : Around} {E : Value → Shared → Prop} {s : Shared}
end
section
variable {prog : Program} {w : World} {A : Around} {E : Value → Shared → Prop} {s : Shared}
end
end RL3
namespace W3
open PySem PySem.Spec PyProof.Rows
open L2
open RL3
section
variable {K : PySem.W.Frag} {mg : Str → Option Value} {wd : World} {m : Mp} {H : Hp}
end
def zipL3Of (xs : List T) (h : Hh) : Res Src := match xs with
  | [.ref p1, .ref p2, .ref p3] => (match lstAt h p1, lstAt h p2, lstAt h p3 with | some _, some _, some _ => .ok (.z3 p1 p2 p3) h | _, _, _ => .stk)
  | _ => .stk
def siZipL3 (a : SA) : SI := fun σ h => (a σ h).bind zipL3Of
@[simp] theorem e_siZipL3 (a : SA) (σ : St3) (h : Hh) : siZipL3 a σ h = (a σ h).bind zipL3Of := Eq.trans rfl rfl
section
variable {X : Cx} {P : Pq} {W : WX} {e1 e2 e3 : Expr} {ar : SA} {pos p : Pos}
end
end W3
end

section
namespace W3
open PySem PySem.Spec PyProof.Rows
open L2
def ssAugI (i : Nat) (a : SE) : SS := fun σ h => match σ[i]? with
  | some (some (.int x)) => (a σ h).flo σ fun y h1 => match y with
    | .int z => .nx (σ.set i (some (.int (x + z)))) h1
    | _ => .stk
  | _ => .stk
def seqOf (x : T) (h : Hh) : Option (List T) := match x with
  | .tup ts => some ts
  | .fl ts => some ts
  | .ref l => lstAt h l
  | _ => none
def saStar (a : SE) (r : SA) : SA := fun σ h => (a σ h).bind fun x h1 => match seqOf x h1 with
  | some ts => (r σ h1).bind fun us h2 => .ok (ts ++ us) h2
  | none => .stk
section
variable {X : Cx} {P : Pq} {W : WX} {a b c e : Expr} {sa sb sc : SE} {pos p pos' : Pos} {es : List Expr} {ar : SA}
theorem da_star (he : DE X P W e sa) (hr : DA X P W es ar) (hs : starEach (.Starred e p :: es) X.env = (true, eval e X.env) :: starEach es X.env := by rfl) : DA X P W (.Starred e p :: es) (saStar sa ar) :=
  PA.imp (StX.pa_star he hr hs) fun σV H Q ⟨m, h, σ, A, o⟩ => by
    refine A.first (rel1 := RT X.K X.mg) o fun m1 h1 t1 x H1 E1 r1 A1 o1 => ?_
    have go : ∀ (q : Addr) (vs : List V) (ts : List T), x = .ref q → (SqT X.K H1 q vs ∨ SqL X.K H1 q vs) → RTs X.K X.mg m1 H1 ts vs → seqOf t1 h1 = some ts →
        ∃ p xs, x = V.ref p ∧ (SqT X.K H1 p xs ∨ SqL X.K H1 p xs) ∧ tAr X.K X.mg X.w P W ar σV H1 fun ys H2 => Q (xs ++ ys) H2 := by
      intro q vs ts e1 e2 e3 e4
      rw [e4] at o1
      refine ⟨q, vs, e1, e2, A1.first (rel1 := RTs X.K X.mg) o1 fun m2 h2 us ys H2 E2 r2 A2 o2 => ?_⟩
      exact o2 (vs ++ ys) m2 H2 (Ext.refl _ _) ((e3.ext E2).app r2) A2.hr
    cases r1 with
    | tup h r => exact go _ _ _ rfl (.inl h.t) r rfl
    | fl h r => exact go _ _ _ rfl (.inr h.sq) r rfl
    | @ref l ad el =>
      cases hl : lstAt h1 l with
      | none =>
        have : seqOf (.ref l) h1 = none := hl
        rw [this] at o1
        exact False.elim o1
      | some ts =>
        obtain ⟨vs, g, r⟩ := A1.hr.lst el hl
        exact go _ _ _ rfl (.inr (.inl (.inl g))) r hl
    | _ => exact False.elim o1
end
@[simp] theorem e_ssAugI (i : Nat) (a : SE) (σ : St3) (h : Hh) : ssAugI i a σ h = match σ[i]? with
  | some (some (.int x)) => (a σ h).flo σ fun y h1 => match y with
    | .int z => .nx (σ.set i (some (.int (x + z)))) h1
    | _ => .stk
  | _ => .stk := Eq.trans rfl rfl
@[simp] theorem e_saStar (a : SE) (r : SA) (σ : St3) (h : Hh) : saStar a r σ h = (a σ h).bind fun x h1 => match seqOf x h1 with
  | some ts => (r σ h1).bind fun us h2 => .ok (ts ++ us) h2
  | none => .stk := Eq.trans rfl rfl
end W3
end

section
namespace W3
open PySem PySem.Spec PyProof.Rows
open L2
def seqL (x : T) (h : Hh) : Option (List T) := match x with
  | .fl ts => some ts
  | .ref l => lstAt h l
  | _ => none
def sRevL (a : SE) : SE := fun σ h => (a σ h).bind fun x h1 => match seqL x h1 with
  | some ts => alloc (.lst ts.reverse) h1
  | none => .stk
section
variable {X : Cx} {P : Pq} {W : WX} {a : Expr} {sa : SE}
end
@[simp] theorem e_sRevL (a : SE) (σ : St3) (h : Hh) : sRevL a σ h = (a σ h).bind fun x h1 => match seqL x h1 with
  | some ts => alloc (.lst ts.reverse) h1
  | none => .stk := Eq.trans rfl rfl
section
variable {X : Cx} {XS : XSub} {a : Addr} {oe : Obj} {cls : Value} {d : Option Addr} {pn : List (Addr × Obj)} {sl : Option Nat} {c : Str} {fs : List (Str × T)} {es : List Expr} {ar : SA} {arx : Str → List (Str × T) → SA} {pos : Pos}
end
end W3
end

section
namespace W3
open PySem PySem.Spec PyProof.Rows
open L2
section
variable {X : Cx}
end
end W3
end

section
namespace W3
open PySem PySem.Spec PyProof.Rows
open L2
section
variable {X : Cx}
end
end W3
end

section
namespace W3
open PySem PySem.Spec PyProof.Rows
open L2
section
variable {X : Cx}
end
end W3
end

section
namespace W3
open PySem PySem.Spec PyProof.Rows
open L2
section
variable {X : Cx}
end
end W3
end

section
namespace W3
open PySem PySem.Spec PyProof.Rows
open L2
def isDic (x : T) (h : Hh) : Bool := match obAt h x with | some (.dic _) => true | _ => false
def setDT (x k t : T) (h : Hh) : Res T := match x, k with
  | .ref l, .int i => (match h[l]? with
    | some (.dic kvs) => if kvs.length < 1000000 then (match igetT kvs i with
      | some w => .ok w h
      | none => .ok t (h.set l (.dic (iputT kvs i t)))) else .stk
    | _ => .stk)
  | _, _ => .stk
def sSetD (so se sf : SE) : SE := fun σ h => (so σ h).bind fun x h1 => if isDic x h1 = true then (se σ h1).bind fun k h2 => (sf σ h2).bind fun t h3 => setDT x k t h3 else .stk
section
variable {X : Cx} {P : Pq} {W : WX} {o e f : Expr} {so se sf : SE} {apos cpos pos p : Pos}
def sLRg (a : SE) : SE := fun σ h => (a σ h).bind fun x h1 => match x with
  | .int n => if 0 ≤ n ∧ n ≤ 1000000 then alloc (.lst (rangeT 0 n.toNat)) h1 else .stk
  | _ => .stk
end
end W3
namespace L2
open PySem PySem.Spec PyProof.Rows
section
variable {X : Cx} {e : Expr} {te : TE} {p apos cpos pos : Pos}
end
end L2
namespace W3
open PySem PySem.Spec PyProof.Rows
open L2
def sLVals (so : SE) : SE := fun σ h => (so σ h).bind fun x h1 => match obAt h1 x with
  | some (.dic kvs) => alloc (.lst (kvs.map (·.2))) h1
  | _ => .stk
section
variable {X : Cx} {P : Pq} {W : WX} {e : Expr} {se : SE} {apos cpos pos p : Pos}
end
end W3
end

section
namespace W3
open PySem PySem.Spec PyProof.Rows
open L2
def enAt (l : Nat) (h : Hh) (i : Nat) : Option (Option T) := match lstAt h l with
  | some ts => (match ts[i]? with | some x => some (some (.tup [.int (i : Nat), x])) | none => some none)
  | none => none
def forEn (l : Nat) (g : SG) (b : SS) : Nat → Nat → St3 → Hh → Flo
  | k, i, σ, h => match enAt l h i with
    | none => .stk
    | some none => .nx σ h
    | some (some x) => match k with
      | 0 => .stk
      | k + 1 => match g x σ with
        | none => .stk
        | some σ1 => match b σ1 h with
          | .nx σ2 h2 => forEn l g b k (i + 1) σ2 h2
          | .ct σ2 h2 => forEn l g b k (i + 1) σ2 h2
          | .bk σ2 h2 => .nx σ2 h2
          | r => r
def ssForEn (a : SA) (g : SG) (b : SS) : SS := fun σ h => (a σ h).flo σ fun xs h1 => match xs with
  | [.ref l] => (match lstAt h1 l with | some ts => forEn l g b ts.length 0 σ h1 | none => .stk)
  | _ => .stk
section
variable {X : Cx} {P : Pq} {W : WX} {ar : SA} {a : Expr} {pos p tpos cpos : Pos} {body : List Stmt} {x1 : SS} {elts : List Expr} {kk : Nat}
end
end W3
end

section
namespace W3
open PySem PySem.Spec PyProof.Rows
open L2
section
variable {X : Cx} {P : Pq} {W : WX} {o e k v : Expr} {so se sk sv : SE} {apos cpos pos : Pos}
end
end W3
end

section
namespace W3
open PySem PySem.Spec PyProof.Rows
open L2
section
variable {X : Cx} {P : Pq} {W : WX} {o e f : Expr} {so se sf : SE} {apos cpos pos : Pos} {pins : List (Addr × Obj)} {σ : L2.St} {H : Hp} {s : Shared}
end
end W3
namespace W3
open PySem PySem.Spec PyProof.Rows
open L2
section
variable {X : Cx} {P : Pq} {W : WX} {k v : Expr} {sk sv : SE} {pos : Pos}
end
end W3
end

section
namespace W3
open PySem
theorem sz : sizeLine = 16777216 := by decide +kernel
@[simp] theorem sz_0 : 0 ≤ sizeLine := by decide +kernel
@[simp] theorem sz_1 : 1 ≤ sizeLine := by decide +kernel
@[simp] theorem sz_2 : 2 ≤ sizeLine := by decide +kernel
@[simp] theorem sz_3 : 3 ≤ sizeLine := by decide +kernel
@[simp] theorem sz_4 : 4 ≤ sizeLine := by decide +kernel
@[simp] theorem sz_5 : 5 ≤ sizeLine := by decide +kernel
@[simp] theorem sz_6 : 6 ≤ sizeLine := by decide +kernel
@[simp] theorem sz_7 : 7 ≤ sizeLine := by decide +kernel
@[simp] theorem sz_8 : 8 ≤ sizeLine := by decide +kernel
@[simp] theorem sz_9 : 9 ≤ sizeLine := by decide +kernel
@[simp] theorem sz_10 : 10 ≤ sizeLine := by decide +kernel
@[simp] theorem sz_11 : 11 ≤ sizeLine := by decide +kernel
@[simp] theorem sz_12 : 12 ≤ sizeLine := by decide +kernel
@[simp] theorem sz_13 : 13 ≤ sizeLine := by decide +kernel
@[simp] theorem sz_14 : 14 ≤ sizeLine := by decide +kernel
@[simp] theorem sz_15 : 15 ≤ sizeLine := by decide +kernel
@[simp] theorem sz_16 : 16 ≤ sizeLine := by decide +kernel
@[simp] theorem sz_17 : 17 ≤ sizeLine := by decide +kernel
@[simp] theorem sz_18 : 18 ≤ sizeLine := by decide +kernel
@[simp] theorem sz_19 : 19 ≤ sizeLine := by decide +kernel
@[simp] theorem sz_20 : 20 ≤ sizeLine := by decide +kernel
@[simp] theorem sz_21 : 21 ≤ sizeLine := by decide +kernel
@[simp] theorem sz_22 : 22 ≤ sizeLine := by decide +kernel
@[simp] theorem sz_23 : 23 ≤ sizeLine := by decide +kernel
@[simp] theorem sz_24 : 24 ≤ sizeLine := by decide +kernel
@[simp] theorem sz_25 : 25 ≤ sizeLine := by decide +kernel
@[simp] theorem sz_26 : 26 ≤ sizeLine := by decide +kernel
@[simp] theorem sz_ne : (sizeLine = 0) = False := by rw [sz]; simp
@[simp] theorem sz_lt1 : 0 < sizeLine := by decide +kernel
theorem szle {n : Nat} (h : n ≤ 16777216) : n ≤ sizeLine := by rw [sz]; exact h
def mOk (c m : Str) (x : T) (h : Hh) : Bool := match x with
  | .ref l => match insAt h l with
    | some (d, fs) => decide (d = c ∧ fs.lookup m = none)
    | none => false
  | _ => false
def fSet (cs : List (Str × List Str)) (x : T) (f : Str) (y : T) (σ : St3) (h2 : Hh) : Flo := match x with
  | .ref l => match insAt h2 l with
    | some (c, fs) => match cs.lookup c with
      | some as => if as.contains f && decide (fs.length < 1000) then .nx σ (h2.set l (.ins c (putT f y fs))) else .stk
      | none => .stk
    | none => .stk
  | _ => .stk
section
variable {σ : St3} {h : Hh}
@[simp] theorem e_sC (t : T) : sC t σ h = .ok t h := Eq.trans rfl rfl
@[simp] theorem e_s1 (f : T → Hh → Res T) (a : SE) : s1 f a σ h = (a σ h).bind f := Eq.trans rfl rfl
@[simp] theorem e_s2 (f : T → T → Hh → Res T) (a b : SE) : s2 f a b σ h = (a σ h).bind fun x h1 => (b σ h1).bind fun y h2 => f x y h2 := Eq.trans rfl rfl
@[simp] theorem e_sVar (i : Nat) : sVar i σ h = match σ[i]? with | some (some t) => .ok t h | _ => .stk := Eq.trans rfl rfl
@[simp] theorem e_sT (a : SE) : sT a σ h = (a σ h).bind fun x h1 => match x with | .bl b => .ok b h1 | _ => .stk := Eq.trans rfl rfl
@[simp] theorem e_stAnd (a b : ST) : stAnd a b σ h = (a σ h).bind fun x h1 => if x = true then b σ h1 else .ok false h1 := Eq.trans rfl rfl
@[simp] theorem e_stOr (a b : ST) : stOr a b σ h = (a σ h).bind fun x h1 => if x = true then .ok true h1 else b σ h1 := Eq.trans rfl rfl
@[simp] theorem e_stNot (a : ST) : stNot a σ h = (a σ h).bind fun x h1 => .ok (!x) h1 := Eq.trans rfl rfl
@[simp] theorem e_sB (a : ST) : sB a σ h = (a σ h).bind fun x h1 => .ok (.bl x) h1 := Eq.trans rfl rfl
@[simp] theorem e_sIf (c : ST) (a b : SE) : sIf c a b σ h = (c σ h).bind fun x h1 => if x = true then a σ h1 else b σ h1 := Eq.trans rfl rfl
@[simp] theorem e_sChain (f g : T → T → Hh → Res T) (a b c : SE) : sChain f g a b c σ h = (a σ h).bind fun x h1 => (b σ h1).bind fun y h2 => (f x y h2).bind fun z h3 => match z with
  | .bl k => if k = true then (c σ h3).bind fun w h4 => g y w h4 else .ok (.bl false) h3
  | _ => .stk := Eq.trans rfl rfl
@[simp] theorem e_saNil : saNil σ h = .ok [] h := Eq.trans rfl rfl
@[simp] theorem e_saCons (a : SE) (r : SA) : saCons a r σ h = (a σ h).bind fun x h1 => (r σ h1).bind fun xs h2 => .ok (x :: xs) h2 := Eq.trans rfl rfl
@[simp] theorem e_sTup (a : SA) : sTup a σ h = (a σ h).bind fun xs h1 => if xs.length ≤ sizeLine then .ok (.tup xs) h1 else .stk := Eq.trans rfl rfl
@[simp] theorem e_sLst (a : SA) : sLst a σ h = (a σ h).bind fun xs h1 => if xs.length ≤ sizeLine then alloc (.lst xs) h1 else .stk := Eq.trans rfl rfl
@[simp] theorem e_sCl (f : List T → Hh → Res T) (a : SA) : sCl f a σ h = (a σ h).bind f := Eq.trans rfl rfl
@[simp] theorem e_sOver (f : List T → Hh → Res T) (a : SA) : sOver f a σ h = (a σ h).bind f := Eq.trans rfl rfl
@[simp] theorem e_sLc (a : SA) : sLc a σ h = (a σ h).bind fun xs h1 => alloc (.lst xs) h1 := Eq.trans rfl rfl
@[simp] theorem e_sMt (f : T → List T → Hh → Res T) (o : SE) (a : SA) : sMt f o a σ h = (o σ h).bind fun x h1 => (a σ h1).bind fun xs h2 => f x xs h2 := Eq.trans rfl rfl
@[simp] theorem e_sMtL (f : T → List T → Hh → Res T) (o : SE) (a : SA) : sMtL f o a σ h = (o σ h).bind fun x h1 => if isL x h1 = true then (a σ h1).bind fun xs h2 => f x xs h2 else .stk := Eq.trans rfl rfl
@[simp] theorem e_soNone : soNone σ h = .ok none h := Eq.trans rfl rfl
@[simp] theorem e_soSome (a : SE) : soSome a σ h = (a σ h).bind fun x h1 => match x with | .int i => .ok (some i) h1 | _ => .stk := Eq.trans rfl rfl
@[simp] theorem e_sSl (a : SE) (lo hi : SO) : sSl a lo hi σ h = (a σ h).bind fun x h1 => (lo σ h1).bind fun l h2 => (hi σ h2).bind fun u h3 => oSl x l u h3 := Eq.trans rfl rfl
@[simp] theorem e_sDic0 : sDic0 σ h = alloc (.dic []) h := Eq.trans rfl rfl
@[simp] theorem e_alloc (o : Ob) : alloc o h = .ok (.ref h.length) (h ++ [o]) := Eq.trans rfl rfl
@[simp] theorem e_arN (n : Nat) (f : List T → Hh → Res T) (xs : List T) : arN n f xs h = if xs.length = n then f xs h else .stk := Eq.trans rfl rfl
@[simp] theorem e_siE (a : SE) : siE a σ h = (a σ h).bind srcOf := Eq.trans rfl rfl
@[simp] theorem e_siRange1 (a : SA) : siRange1 a σ h = (a σ h).bind rngOf := Eq.trans rfl rfl
@[simp] theorem e_rng {j : Int} (h0 : -1000000 ≤ j) (h2 : j ≤ 1000000) : rngOf [.int j] h = .ok (.its (rangeT 0 j.toNat)) h := by
  have a1 : RngOk j := by
    have : (2 ^ 62 : Int) = 4611686018427387904 := by decide +kernel
    unfold RngOk
    rw [this]; omega
  unfold rngOf
  simp only [a1, if_true]
@[simp] theorem e_stYes : stYes σ h = .ok true h := Eq.trans rfl rfl
@[simp] theorem e_sgName (i : Nat) (t : T) : sgName i t σ = some (σ.set i (some t)) := Eq.trans rfl rfl
@[simp] theorem e_sgsNil : sgsNil [] σ = some σ := Eq.trans rfl rfl
@[simp] theorem e_sgsCons (g : SG) (r : SGs) (t : T) (ts : List T) : sgsCons g r (t :: ts) σ = match g t σ with | some σ1 => r ts σ1 | none => none := Eq.trans rfl rfl
@[simp] theorem e_sgTup (n : Nat) (g : SGs) (ts : List T) : sgTup n g (.tup ts) σ = if ts.length = n then g ts σ else none := Eq.trans rfl rfl
@[simp] theorem e_saLc (si : SI) (g : SG) (tt : ST) (te : SE) (vs : List Nat) : saLc si g tt te vs σ h = (si σ h).bind fun s h1 => lcRun s g tt te (wipeT σ vs) (s.len h1) 0 [] h1 := Eq.trans rfl rfl
@[simp] theorem e_wipe0 : wipeT σ [] = σ := Eq.trans rfl rfl
@[simp] theorem e_wipe1 (v : Nat) (vs : List Nat) : wipeT σ (v :: vs) = (wipeT σ vs).set v none := Eq.trans rfl rfl
@[simp] theorem e_ssNil : ssNil σ h = .nx σ h := Eq.trans rfl rfl
@[simp] theorem e_ssCons (a b : SS) : ssCons a b σ h = (a σ h).seq b := Eq.trans rfl rfl
@[simp] theorem e_ssIf (c : ST) (a b : SS) : ssIf c a b σ h = (c σ h).flo σ fun x h1 => if x = true then a σ h1 else b σ h1 := Eq.trans rfl rfl
@[simp] theorem e_ssRet (a : SE) : ssRet a σ h = (a σ h).flo σ fun x h1 => .rt x h1 := Eq.trans rfl rfl
@[simp] theorem e_ssRetN : ssRetN σ h = .rt .non h := Eq.trans rfl rfl
@[simp] theorem e_ssExpr (a : SE) : ssExpr a σ h = (a σ h).flo σ fun _ h1 => .nx σ h1 := Eq.trans rfl rfl
@[simp] theorem e_ssAsg (a : SE) (g : SG) : ssAsg a g σ h = (a σ h).flo σ fun x h1 => match g x σ with | some σ1 => .nx σ1 h1 | none => .stk := Eq.trans rfl rfl
@[simp] theorem e_ssStk : ssStk σ h = .stk := Eq.trans rfl rfl
@[simp] theorem e_ssBreak : ssBreak σ h = .bk σ h := Eq.trans rfl rfl
@[simp] theorem e_ssCont : ssCont σ h = .ct σ h := Eq.trans rfl rfl
@[simp] theorem e_ssSub (o i v : SE) : ssSub o i v σ h = (v σ h).flo σ fun y h1 => (o σ h1).flo σ fun x h2 => (i σ h2).flo σ fun k h3 => match x, k with
  | .ref l, .int n => match lstAt h3 l with
    | some ts => match L2.ixN ts.length n with | some j => .nx σ (h3.set l (.lst (ts.set j y))) | none => .stk
    | none => .stk
  | _, _ => .stk := Eq.trans rfl rfl
@[simp] theorem e_ssFldC (cs : List (Str × List Str)) (o v : SE) (f : Str) : ssFldC cs o v f σ h = (v σ h).flo σ fun y h1 => (o σ h1).flo σ fun x h2 => fSet cs x f y σ h2 := Eq.trans rfl rfl
@[simp] theorem e_ssFor (si : SI) (g : SG) (b : SS) : ssFor si g b σ h = (si σ h).flo σ fun s h1 => forRun s g b (s.len h1) 0 σ h1 := Eq.trans rfl rfl
theorem e_sMeth0 (c m : Str) (n : Nat) (f : List T → Hh → Res T) (o : SE) (a : SA) : sMeth c m n f o a σ h = (o σ h).bind fun x h1 => if mOk c m x h1 = true then (a σ h1).bind fun xs h2 => arN n f (x :: xs) h2 else .stk := by
  have key : ∀ x h1, (match x with
      | .ref l => match insAt h1 l with
        | some (d, fs) => if d = c ∧ fs.lookup m = none then (a σ h1).bind fun xs h2 => arN n f (x :: xs) h2 else .stk
        | none => .stk
      | _ => .stk) = if mOk c m x h1 = true then (a σ h1).bind fun xs h2 => arN n f (x :: xs) h2 else .stk := by
    intro x h1
    cases x with
    | ref l =>
      cases hi : insAt h1 l with
      | none => simp only [mOk, hi]; rfl
      | some p =>
        obtain ⟨d, fs⟩ := p
        by_cases q : d = c ∧ fs.lookup m = none
        · simp only [mOk, hi]; rw [if_pos q, if_pos (by simp [q])]
        · simp only [mOk, hi]; rw [if_neg q, if_neg (by simpa using q)]
    | _ => rfl
  unfold sMeth
  congr 1
  funext x h1
  exact key x h1
@[simp] theorem e_sMeth (c m : Str) (n : Nat) (f : List T → Hh → Res T) (o : SE) (a : SA) : sMeth c m n f o a σ h = (o σ h).bind fun x h1 => if mOk c m x h1 = true then (a σ h1).bind fun xs h2 => arN n f (x :: xs) h2 else .stk := e_sMeth0 c m n f o a
@[simp] theorem e_sClK (n q : Nat) (pat : List Bool) (ds : List T) (f : List T → Hh → Res T) (a kw : SA) : sClK n q pat ds f a kw σ h = (a σ h).bind fun xs h1 => (kw σ h1).bind fun zs h2 => if xs.length = n ∧ zs.length = q then f (xs ++ weave pat ds zs) h2 else .stk := Eq.trans rfl rfl
@[simp] theorem e_bMakeK (c : Str) (q n : Nat) (pat : List Bool) (ds : List T) (f : List T → Hh → Res T) (a kw : SA) : bMakeK c q n pat ds f a kw σ h = (a σ h).bind fun xs h1 => (kw σ h1).bind fun zs h2 => if xs.length = n ∧ zs.length = q then bMake c (n + 1 + pat.length) f (xs ++ weave pat ds zs) h2 else .stk := Eq.trans rfl rfl
@[simp] theorem e_bMake (c : Str) (n : Nat) (f : List T → Hh → Res T) (xs : List T) : bMake c n f xs h = (arN n f (.ref h.length :: xs) (h ++ [.ins c []])).bind fun t h1 => match t with | .non => .ok (.ref h.length) h1 | _ => .stk := Eq.trans rfl rfl
@[simp] theorem e_add_ii (i j : Int) : oAdd (.int i) (.int j) h = .ok (.int (i + j)) h := Eq.trans rfl rfl
@[simp] theorem e_add_ss (i j : Str) : oAdd (.str i) (.str j) h = if i.length + j.length ≤ sizeLine then .ok (.str (i ++ j)) h else .stk := Eq.trans rfl rfl
@[simp] theorem e_add_tt (i j : List T) : oAdd (.tup i) (.tup j) h = if i.length + j.length ≤ sizeLine then .ok (.tup (i ++ j)) h else .stk := Eq.trans rfl rfl
@[simp] theorem e_sub_ii (i j : Int) : oSub (.int i) (.int j) h = .ok (.int (i - j)) h := Eq.trans rfl rfl
theorem mul_ok {i j : Int} (q : MulOk i j) : oMul (.int i) (.int j) h = .ok (.int (i * j)) h := by
  unfold oMul
  simp only [q, if_true]
theorem two64 : (2 ^ 64 : Int) = 18446744073709551616 := by decide +kernel
@[simp] theorem e_mul_l {i j : Int} (h0 : -18446744073709551616 < i) (h1 : i < 18446744073709551616) : oMul (.int i) (.int j) h = .ok (.int (i * j)) h := mul_ok (.inl (by rw [two64]; exact ⟨h0, h1⟩))
@[simp] theorem e_mul_r {i j : Int} (h0 : -18446744073709551616 < j) (h1 : j < 18446744073709551616) : oMul (.int i) (.int j) h = .ok (.int (i * j)) h := mul_ok (.inr (by rw [two64]; exact ⟨h0, h1⟩))
@[simp] theorem e_mod_ii (i j : Int) : oMod (.int i) (.int j) h = if 0 < j then .ok (.int (i % j)) h else .stk := Eq.trans rfl rfl
@[simp] theorem e_div_ii (i j : Int) : oDiv (.int i) (.int j) h = if 0 < j ∧ j < 1073741824 then .ok (.int (i / j)) h else .stk := Eq.trans rfl rfl
theorem pow_ok {i j : Int} (q : PowOk i j) : oPow (.int i) (.int j) h = .ok (.int (i ^ j.toNat)) h := by
  unfold oPow
  simp only [q, if_true]
@[simp] theorem e_pow_ii {i j : Int} (h0 : 0 ≤ j) (h1 : j ≤ 1000000) (h2 : i.natAbs < 18446744073709551616) : oPow (.int i) (.int j) h = .ok (.int (i ^ j.toNat)) h := pow_ok ⟨h0, h1, by
  have : (2 ^ 64 : Nat) = 18446744073709551616 := by decide +kernel
  rw [this]; exact h2⟩
@[simp] theorem e_lt_ii (i j : Int) : oLt (.int i) (.int j) h = .ok (.bl (decide (i < j))) h := Eq.trans rfl rfl
@[simp] theorem e_le_ii (i j : Int) : oLe (.int i) (.int j) h = .ok (.bl (decide (i ≤ j))) h := Eq.trans rfl rfl
@[simp] theorem e_gt_ii (i j : Int) : oGt (.int i) (.int j) h = .ok (.bl (decide (j < i))) h := Eq.trans rfl rfl
@[simp] theorem e_ge_ii (i j : Int) : oGe (.int i) (.int j) h = .ok (.bl (decide (j ≤ i))) h := Eq.trans rfl rfl
@[simp] theorem e_is_n (x : T) : oIs x .non h = .ok (.bl (isNonT x)) h := Eq.trans rfl rfl
@[simp] theorem e_is_b (a b : Bool) : oIs (.bl a) (.bl b) h = .ok (.bl (decide (a = b))) h := Eq.trans rfl rfl
@[simp] theorem e_isnot_n (x : T) : oIsNot x .non h = .ok (.bl (!isNonT x)) h := Eq.trans rfl rfl
@[simp] theorem e_isnot_b (a b : Bool) : oIsNot (.bl a) (.bl b) h = .ok (.bl (!decide (a = b))) h := Eq.trans rfl rfl
@[simp] theorem e_nonT0 : isNonT .non = true := Eq.trans rfl rfl
@[simp] theorem e_nonT1 (s : Str) : isNonT (.str s) = false := Eq.trans rfl rfl
@[simp] theorem e_nonT2 (s : List T) : isNonT (.tup s) = false := Eq.trans rfl rfl
@[simp] theorem e_nonT3 (s : Int) : isNonT (.int s) = false := Eq.trans rfl rfl
@[simp] theorem e_nonT4 (s : Bool) : isNonT (.bl s) = false := Eq.trans rfl rfl
@[simp] theorem e_eq_ii (i j : Int) : oEq (.int i) (.int j) h = .ok (.bl (decide (i = j))) h := by
  show Res.ok (T.bl (i == j)) h = _
  rw [show (i == j) = decide (i = j) from rfl]
@[simp] theorem e_eq_ss (i j : Str) : oEq (.str i) (.str j) h = .ok (.bl (decide (i = j))) h := by
  show Res.ok (T.bl (i == j)) h = _
  rw [show (i == j) = decide (i = j) from rfl]
@[simp] theorem e_ne_ii (i j : Int) : oNe (.int i) (.int j) h = .ok (.bl (!decide (i = j))) h := by
  show Res.ok (T.bl (!(i == j))) h = _
  rw [show (i == j) = decide (i = j) from rfl]
@[simp] theorem e_ne_ss (i j : Str) : oNe (.str i) (.str j) h = .ok (.bl (!decide (i = j))) h := by
  show Res.ok (T.bl (!(i == j))) h = _
  rw [show (i == j) = decide (i = j) from rfl]
@[simp] theorem e_ne_bb (i j : Bool) : oNe (.bl i) (.bl j) h = .ok (.bl (!decide (i = j))) h := by
  show Res.ok (T.bl (!(i == j))) h = _
  rw [show (i == j) = decide (i = j) by cases i <;> cases j <;> rfl]
@[simp] theorem e_eq_bb (i j : Bool) : oEq (.bl i) (.bl j) h = .ok (.bl (decide (i = j))) h := by
  show Res.ok (T.bl (i == j)) h = _
  rw [show (i == j) = decide (i = j) by cases i <;> cases j <;> rfl]
@[simp] theorem e_ix_tup (ts : List T) (i : Int) : oIx (.tup ts) (.int i) h = match L2.atI ts i with | some t => .ok t h | none => .stk := Eq.trans rfl rfl
@[simp] theorem e_ix_fl (ts : List T) (i : Int) : oIx (.fl ts) (.int i) h = match L2.atI ts i with | some t => .ok t h | none => .stk := Eq.trans rfl rfl
@[simp] theorem e_ix_ref (l : Nat) (i : Int) : oIx (.ref l) (.int i) h = match lstAt h l with
      | some ts => match L2.atI ts i with | some t => .ok t h | none => .stk
      | none => .stk := Eq.trans rfl rfl
@[simp] theorem e_ix_str (z : Str) (i : Int) : oIx (.str z) (.int i) h = if z.length ≤ sizeLine then (match L2.atI z.cps.toList i with | some c => .ok (.str ⟨#[c]⟩) h | none => .stk) else .stk := Eq.trans rfl rfl
@[simp] theorem e_sl_tup (ts : List T) (lo hi : Option Int) : oSl (.tup ts) lo hi h = .ok (.tup (cutT ts lo hi)) h := Eq.trans rfl rfl
@[simp] theorem e_sl_fl (ts : List T) (lo hi : Option Int) : oSl (.fl ts) lo hi h = alloc (.lst (cutT ts lo hi)) h := Eq.trans rfl rfl
@[simp] theorem e_sl_ref (l : Nat) (lo hi : Option Int) : oSl (.ref l) lo hi h = match lstAt h l with | some ts => alloc (.lst (cutT ts lo hi)) h | none => .stk := Eq.trans rfl rfl
@[simp] theorem e_sl_str (z : Str) (lo hi : Option Int) : oSl (.str z) lo hi h = if z.length ≤ sizeLine then .ok (.str (L2.cutS z lo hi)) h else .stk := Eq.trans rfl rfl
@[simp] theorem e_len_tup (ts : List T) : bLen [.tup ts] h = .ok (.int ts.length) h := Eq.trans rfl rfl
@[simp] theorem e_len_fl (ts : List T) : bLen [.fl ts] h = .ok (.int ts.length) h := Eq.trans rfl rfl
@[simp] theorem e_len_str (z : Str) : bLen [.str z] h = if z.length ≤ sizeLine then .ok (.int z.length) h else .stk := Eq.trans rfl rfl
@[simp] theorem e_len_ref (l : Nat) : bLen [.ref l] h = match lstAt h l with | some ts => .ok (.int ts.length) h | none => .stk := Eq.trans rfl rfl
@[simp] theorem e_int (i : Int) : bInt [.int i] h = .ok (.int i) h := Eq.trans rfl rfl
@[simp] theorem e_bTup (ts : List T) : bTup ts h = .ok (.tup ts) h := Eq.trans rfl rfl
@[simp] theorem e_tuple_tup (ts : List T) : bTuple [.tup ts] h = .ok (.tup ts) h := Eq.trans rfl rfl
@[simp] theorem e_tuple_ref (l : Nat) : bTuple [.ref l] h = match lstAt h l with | some ts => .ok (.tup ts) h | none => .stk := Eq.trans rfl rfl
@[simp] theorem e_list_tup (ts : List T) : bList [.tup ts] h = alloc (.lst ts) h := Eq.trans rfl rfl
@[simp] theorem e_list_ref (l : Nat) : bList [.ref l] h = match lstAt h l with | some ts => alloc (.lst ts) h | none => .stk := Eq.trans rfl rfl
@[simp] theorem e_srcOf_tup (ts : List T) : srcOf (.tup ts) h = .ok (.its ts) h := Eq.trans rfl rfl
@[simp] theorem e_srcOf_fl (ts : List T) : srcOf (.fl ts) h = .ok (.its ts) h := Eq.trans rfl rfl
@[simp] theorem e_srcOf_str (z : Str) : srcOf (.str z) h = .ok (.its (z.cps.toList.map fun c => .str ⟨#[c]⟩)) h := Eq.trans rfl rfl
@[simp] theorem e_srcOf_ref (l : Nat) : srcOf (.ref l) h = match lstAt h l with | some _ => .ok (.live l) h | none => .stk := Eq.trans rfl rfl
@[simp] theorem e_isL_ref (l : Nat) : isL (.ref l) h = (lstAt h l).isSome := Eq.trans rfl rfl
@[simp] theorem e_append (l : Nat) (y : T) : mAppend (.ref l) [y] h = match lstAt h l with
    | some ts => if ts.length < sizeLine then .ok .non (h.set l (.lst (ts ++ [y]))) else .stk
    | none => .stk := Eq.trans rfl rfl
@[simp] theorem e_isK_non (k : Kd) : oIsK k .non h = .ok (.bl false) h := Eq.trans rfl rfl
@[simp] theorem e_isK_str (k : Kd) (s : Str) : oIsK k (.str s) h = .ok (.bl (k == .str)) h := Eq.trans rfl rfl
@[simp] theorem e_isK_int (k : Kd) (s : Int) : oIsK k (.int s) h = .ok (.bl (k == .int)) h := Eq.trans rfl rfl
@[simp] theorem e_isK_bl (k : Kd) (s : Bool) : oIsK k (.bl s) h = .ok (.bl (k == .bool || k == .int)) h := Eq.trans rfl rfl
@[simp] theorem e_isK_tup (k : Kd) (s : List T) : oIsK k (.tup s) h = .ok (.bl (k == .tuple)) h := Eq.trans rfl rfl
theorem e_isK_lst {k : Kd} {l : Nat} {ts : List T} (e : lstAt h l = some ts) : oIsK k (.ref l) h = .ok (.bl (k == .list)) h := by
  unfold lstAt at e
  unfold oIsK isK
  split at e
  · rename_i q; simp only [q]
  · cases e
end
@[simp] theorem lstAt_set_self {h : Hh} {l : Nat} {ts : List T} (hl : l < h.length) : lstAt (h.set l (.lst ts)) l = some ts := by
  unfold lstAt; rw [List.getElem?_set_self hl]
theorem lstAt_set_ne {h : Hh} {l k : Nat} {o : Ob} (hl : l ≠ k) : lstAt (h.set l o) k = lstAt h k := by
  unfold lstAt; rw [List.getElem?_set_ne hl]
theorem lstAt_of {h : Hh} {l : Nat} {ts : List T} (e : h[l]? = some (.lst ts)) : lstAt h l = some ts := by
  unfold lstAt; rw [e]
theorem of_lstAt {h : Hh} {l : Nat} {ts : List T} (e : lstAt h l = some ts) : h[l]? = some (.lst ts) := by
  unfold lstAt at e; split at e
  · rename_i q; cases e; exact q
  · cases e
theorem lstAt_lt {h : Hh} {l : Nat} {ts : List T} (e : lstAt h l = some ts) : l < h.length := by
  have := of_lstAt e
  exact (List.getElem?_eq_some_iff.mp this).1
theorem lstAt_app {h : Hh} {l : Nat} {ts : List T} (o : List Ob) (e : lstAt h l = some ts) : lstAt (h ++ o) l = some ts := by
  have := lstAt_lt e
  unfold lstAt at e ⊢
  rw [List.getElem?_append_left this]; exact e
@[simp] theorem lstAt_new {h : Hh} {ts : List T} : lstAt (h ++ [.lst ts]) h.length = some ts := by
  unfold lstAt; simp
@[simp] theorem ixN_of {n : Nat} {i : Int} (h0 : 0 ≤ i) (h1 : i < n) : L2.ixN n i = some i.toNat := by
  unfold L2.ixN; rw [if_pos h0, if_pos h1]
@[simp] theorem atI_z {α : Type} (a : α) (r : List α) : L2.atI (a :: r) 0 = some a := by
  unfold L2.atI L2.ixN; simp [show (0 : Int) < (r.length : Int) + 1 by omega]
@[simp] theorem atI_1 {α : Type} (a b : α) (r : List α) : L2.atI (a :: b :: r) 1 = some b := by
  unfold L2.atI L2.ixN; simp [show (1 : Int) < (r.length : Int) + 1 + 1 by omega]
@[simp] theorem atI_2 {α : Type} (a b c : α) (r : List α) : L2.atI (a :: b :: c :: r) 2 = some c := by
  unfold L2.atI L2.ixN; simp [show (2 : Int) < (r.length : Int) + 1 + 1 + 1 by omega]
@[simp] theorem atI_3 {α : Type} (a b c d : α) (r : List α) : L2.atI (a :: b :: c :: d :: r) 3 = some d := by
  unfold L2.atI L2.ixN; simp [show (3 : Int) < (r.length : Int) + 1 + 1 + 1 + 1 by omega]
@[simp] theorem atI_4 {α : Type} (a b c d e : α) (r : List α) : L2.atI (a :: b :: c :: d :: e :: r) 4 = some e := by
  unfold L2.atI L2.ixN; simp [show (4 : Int) < (r.length : Int) + 1 + 1 + 1 + 1 + 1 by omega]
theorem atI_nat {α : Type} {xs : List α} {i : Nat} {x : α} (e : xs[i]? = some x) : L2.atI xs (i : Int) = some x := by
  have hl := (List.getElem?_eq_some_iff.mp e).1
  unfold L2.atI L2.ixN
  rw [if_pos (by omega), if_pos (by omega)]
  simpa using e
theorem atI_int {α : Type} {xs : List α} {i : Int} (h0 : 0 ≤ i) (h1 : i < xs.length) : ∃ x, L2.atI xs i = some x ∧ xs[i.toNat]? = some x := by
  have hl : i.toNat < xs.length := by omega
  refine ⟨xs[i.toNat], ?_, by simp [hl]⟩
  unfold L2.atI L2.ixN
  rw [if_pos h0, if_pos h1]
  simp [hl]
theorem atI_mem {α : Type} {xs : List α} {i : Int} (h0 : 0 ≤ i) (h1 : i < xs.length) : ∃ x, L2.atI xs i = some x ∧ x ∈ xs := by
  obtain ⟨x, e, q⟩ := atI_int h0 h1
  exact ⟨x, e, List.mem_of_getElem? q⟩
def Src.Is (s : Src) (ts : List T) (h : Hh) : Prop :=
  match s with
  | .its us => us = ts
  | .live l => lstAt h l = some ts
  | .z2 a b => ∃ t1 t2, lstAt h a = some t1 ∧ lstAt h b = some t2 ∧ t2.length = t1.length ∧ ts = List.zipWith (fun x y => T.tup [x, y]) t1 t2
  | .z3 a b c => ∃ t1 t2 t3, lstAt h a = some t1 ∧ lstAt h b = some t2 ∧ lstAt h c = some t3 ∧ t2.length = t1.length ∧ t3.length = t1.length ∧ ts = List.zipWith (fun x p => T.tup [x, p.1, p.2]) t1 (t2.zip t3)
theorem Src.Is.at {s : Src} {ts : List T} {h : Hh} (q : s.Is ts h) (i : Nat) : s.at h i = some ts[i]? := by
  cases s with
  | its us => obtain rfl : us = ts := q; rfl
  | live l => have e : lstAt h l = some ts := q; unfold Src.at; simp only [e]
  | z2 a b =>
    obtain ⟨t1, t2, e1, e2, l2, rfl⟩ := q
    unfold Src.at
    simp only [e1, e2]
    by_cases hi : i < t1.length
    · have h1 : t1[i]? = some t1[i] := by simp [hi]
      have h2 : t2[i]? = some (t2[i]'(by omega)) := by simp [l2, hi]
      rw [h1, h2]
      simp [List.getElem?_zipWith, h1, h2]
    · have h1 : t1[i]? = none := by simp; omega
      rw [h1]
      simp [List.getElem?_zipWith, h1]
  | z3 a b c =>
    obtain ⟨t1, t2, t3, e1, e2, e3, l2, l3, rfl⟩ := q
    unfold Src.at
    simp only [e1, e2, e3]
    by_cases hi : i < t1.length
    · have h1 : t1[i]? = some t1[i] := by simp [hi]
      have h2 : t2[i]? = some (t2[i]'(by omega)) := by simp [l2, hi]
      have h3 : t3[i]? = some (t3[i]'(by omega)) := by simp [l3, hi]
      rw [h1, h2, h3]
      simp [List.getElem?_zipWith, List.getElem?_zip_eq_some, List.zip, h1, h2, h3]
    · have h1 : t1[i]? = none := by simp; omega
      rw [h1]
      simp [List.getElem?_zipWith, h1]
theorem Src.Is.len {s : Src} {ts : List T} {h : Hh} (q : s.Is ts h) : s.len h = ts.length := by
  cases s with
  | its us => obtain rfl : us = ts := q; rfl
  | live l => have e : lstAt h l = some ts := q; unfold Src.len; simp only [e]
  | z2 a b =>
    obtain ⟨t1, t2, e1, e2, l2, rfl⟩ := q
    unfold Src.len
    simp only [e1]
    simp [l2]
  | z3 a b c =>
    obtain ⟨t1, t2, t3, e1, e2, e3, l2, l3, rfl⟩ := q
    unfold Src.len
    simp only [e1]
    simp [l2, l3]
theorem lc_ind {s : Src} {ts : List T} {g : SG} {tt : ST} {te : SE} {σ : St3} (hz : ts.length ≤ sizeLine) (I : Nat → List T → Hh → Prop) (hI : ∀ i acc h, I i acc h → s.Is ts h)
    (hs : ∀ i x acc h, ts[i]? = some x → I i acc h → ∃ σ1, g x σ = some σ1 ∧ ((∃ h1, tt σ1 h = .ok false h1 ∧ I (i + 1) acc h1) ∨ ∃ h1 t h2, tt σ1 h = .ok true h1 ∧ te σ1 h1 = .ok t h2 ∧ I (i + 1) (acc ++ [t]) h2)) :
    ∀ k i acc h, i + k = ts.length → acc.length ≤ i → I i acc h → ∃ acc' h', lcRun s g tt te σ k i acc h = .ok acc' h' ∧ I ts.length acc' h' ∧ acc'.length ≤ ts.length
  | 0, i, acc, h, e, ha, q => by
    have e1 : i = ts.length := by omega
    refine ⟨acc, h, ?_, e1 ▸ q, by omega⟩
    unfold lcRun
    rw [(hI _ _ _ q).at, List.getElem?_eq_none (by omega)]
  | k + 1, i, acc, h, e, ha, q => by
    have hl : i < ts.length := by omega
    have ex : ts[i]? = some ts[i] := by simp [hl]
    obtain ⟨σ1, e1, q1⟩ := hs i _ acc h ex q
    unfold lcRun
    rw [(hI _ _ _ q).at, ex]
    simp only [e1]
    rcases q1 with ⟨h1, e2, q2⟩ | ⟨h1, t, h2, e2, e3, q2⟩
    · simp only [e2]
      exact lc_ind hz I hI hs k (i + 1) acc h1 (by omega) (by omega) q2
    · simp only [e2, e3, if_true]
      rw [if_pos (by omega)]
      exact lc_ind hz I hI hs k (i + 1) _ h2 (by omega) (by simp; omega) q2
theorem lc_run {s : Src} {ts : List T} {g : SG} {tt : ST} {te : SE} {σ : St3} {h : Hh} (hz : ts.length ≤ sizeLine) (I : Nat → List T → Hh → Prop) (hI : ∀ i acc h, I i acc h → s.Is ts h) (h0 : I 0 [] h)
    (hs : ∀ i x acc h, ts[i]? = some x → I i acc h → ∃ σ1, g x σ = some σ1 ∧ ((∃ h1, tt σ1 h = .ok false h1 ∧ I (i + 1) acc h1) ∨ ∃ h1 t h2, tt σ1 h = .ok true h1 ∧ te σ1 h1 = .ok t h2 ∧ I (i + 1) (acc ++ [t]) h2)) :
    ∃ acc' h', lcRun s g tt te σ (s.len h) 0 [] h = .ok acc' h' ∧ I ts.length acc' h' ∧ acc'.length ≤ ts.length := by
  rw [(hI _ _ _ h0).len]
  exact lc_ind hz I hI hs _ _ _ _ (by omega) (Nat.le_refl _) h0
theorem lc_filter {s : Src} {ts : List T} {g : SG} {tt : ST} {te : SE} {σ : St3} {h : Hh} (p : T → Bool) (f : T → T) (hz : ts.length ≤ sizeLine) (hI : s.Is ts h) (hs : ∀ x ∈ ts, ∃ σ1, g x σ = some σ1 ∧ tt σ1 h = .ok (p x) h ∧ te σ1 h = .ok (f x) h) :
    lcRun s g tt te σ (s.len h) 0 [] h = .ok ((ts.filter p).map f) h := by
  obtain ⟨acc, h', e, ⟨rfl, rfl⟩, _⟩ := lc_run (s := s) (ts := ts) (g := g) (tt := tt) (te := te) (σ := σ) (h := h) hz (fun i acc h1 => acc = ((ts.take i).filter p).map f ∧ h1 = h) (fun i acc h1 q => q.2 ▸ hI) ⟨by simp, rfl⟩ fun i x acc h1 ex ⟨q1, q2⟩ => by
    obtain ⟨σ1, e1, e2, e3⟩ := hs x (List.mem_of_getElem? ex)
    subst q2
    refine ⟨σ1, e1, ?_⟩
    have et : ts.take (i + 1) = ts.take i ++ [x] := by rw [List.take_add_one, ex]; rfl
    cases hp : p x with
    | false => exact .inl ⟨h1, by rw [e2, hp], by rw [q1, et, List.filter_append]; simp [hp], rfl⟩
    | true => exact .inr ⟨h1, f x, h1, by rw [e2, hp], e3, by rw [q1, et, List.filter_append]; simp [hp], rfl⟩
  rw [e, List.take_length]
theorem range_get : ∀ (n : Nat) (lo : Int) (i : Nat), i < n → (rangeT lo n)[i]? = some (.int (lo + i))
  | n + 1, lo, 0, _ => by simp [rangeT]
  | n + 1, lo, i + 1, hi => by
    unfold rangeT
    rw [List.getElem?_cons_succ, range_get n (lo + 1) i (by omega)]
    congr 2; omega
@[simp] theorem range_length : ∀ (n : Nat) (lo : Int), (rangeT lo n).length = n
  | 0, _ => rfl
  | n + 1, lo => by unfold rangeT; rw [List.length_cons, range_length n]
theorem range_at {n : Nat} {i : Nat} {x : T} (e : (rangeT 0 n)[i]? = some x) : x = .int i ∧ i < n := by
  have hl := (List.getElem?_eq_some_iff.mp e).1
  rw [range_length] at hl
  rw [range_get n 0 i hl] at e
  cases e
  exact ⟨by simp, hl⟩
end W3
end

section
namespace W3
open PySem
def BoxL (c : Nat) (i d s n : Int) : List T := [.ref c, .int i, .int d, .int s, .int n]
def IsBox (h : Hh) (l : Nat) : Prop := ∃ (c : Nat) (cells : List Int) (i d s n : Int), lstAt h l = some (BoxL c i d s n) ∧ lstAt h c = some (cells.map T.int) ∧ 0 ≤ i ∧ 0 ≤ d
def BoxC (h : Hh) (l : Nat) : Option Nat := match lstAt h l with | some (.ref c :: _) => some c | _ => none
structure Kp (l n : Nat) (h h' : Hh) : Prop where
  le : n ≤ h'.length
  keep : ∀ k, k < n → k ≠ l → h'[k]? = h[k]?
  box : IsBox h' l
  bc : BoxC h' l = BoxC h l
abbrev Up (l : Nat) (h h' : Hh) : Prop := Kp l h.length h h'
theorem IsBox.ne {h : Hh} {l : Nat} {c : Nat} {cells : List Int} {i d s n : Int} (e : lstAt h l = some (BoxL c i d s n)) (e2 : lstAt h c = some (cells.map T.int)) : l ≠ c := by
  intro q
  subst q
  rw [e] at e2
  cases cells with
  | nil => cases e2
  | cons a r => injection e2 with e2; injection e2 with e2 _; cases e2
theorem IsBox.lt {h : Hh} {l : Nat} (b : IsBox h l) : l < h.length := by
  obtain ⟨c, cells, i, d, s, n, e, _⟩ := b
  exact lstAt_lt e
theorem IsBox.clt {h : Hh} {l c : Nat} (b : IsBox h l) (hc : BoxC h l = some c) : c < h.length := by
  obtain ⟨c, cells, i, d, s, n, e, e2, _⟩ := b
  unfold BoxC at hc
  rw [e] at hc
  cases hc
  exact lstAt_lt e2
theorem Up.refl {l : Nat} {h : Hh} (b : IsBox h l) : Up l h h := ⟨Nat.le_refl _, fun _ _ _ => rfl, b, rfl⟩
theorem Kp.refl {l n : Nat} {h : Hh} (b : IsBox h l) (hn : n ≤ h.length) : Kp l n h h := ⟨hn, fun _ _ _ => rfl, b, rfl⟩
theorem Kp.trans {l n m : Nat} {h h1 h2 : Hh} (a : Kp l n h h1) (b : Kp l m h1 h2) (hm : n ≤ m) : Kp l n h h2 :=
  ⟨Nat.le_trans hm b.le, fun k hk hne => (b.keep k (Nat.lt_of_lt_of_le hk hm) hne).trans (a.keep k hk hne), b.box, b.bc.trans a.bc⟩
theorem Kp.up {l n : Nat} {h h1 h2 : Hh} (a : Kp l n h h1) (b : Up l h1 h2) : Kp l n h h2 := a.trans b a.le
theorem IsBox.app {l : Nat} {h : Hh} (b : IsBox h l) (o : List Ob) : IsBox (h ++ o) l := by
  obtain ⟨c, cells, i, d, s, n, e, e2, h1, h2⟩ := b
  exact ⟨c, cells, i, d, s, n, lstAt_app o e, lstAt_app o e2, h1, h2⟩
theorem Up.app {l : Nat} {h : Hh} (b : IsBox h l) (o : List Ob) : Up l h (h ++ o) := by
  refine ⟨by simp, fun k hk _ => List.getElem?_append_left hk, b.app o, ?_⟩
  obtain ⟨c, cells, i, d, s, n, e, e2, h1, h2⟩ := b
  unfold BoxC
  rw [e, lstAt_app o e]
theorem Kp.app {l n : Nat} {h h1 : Hh} (a : Kp l n h h1) (o : List Ob) : Kp l n h (h1 ++ o) := a.up (Up.app a.box o)
theorem Kp.lst {l n : Nat} {h h' : Hh} (u : Kp l n h h') {k : Nat} {ts : List T} (e : lstAt h k = some ts) (hk : k < n) (hne : k ≠ l) : lstAt h' k = some ts := by
  have := of_lstAt e
  exact lstAt_of ((u.keep k hk hne).trans this)
theorem Up.lst {l : Nat} {h h' : Hh} (u : Up l h h') {k : Nat} {ts : List T} (e : lstAt h k = some ts) (hne : k ≠ l) : lstAt h' k = some ts := Kp.lst u e (lstAt_lt e) hne
theorem IsBox.set {l : Nat} {h : Hh} (b : IsBox h l) {k : Nat} (o : Ob) (hk : k ≠ l) (hc : BoxC h l ≠ some k) : IsBox (h.set k o) l ∧ BoxC (h.set k o) l = BoxC h l := by
  obtain ⟨c, cells, i, d, s, n, e, e2, h1, h2⟩ := b
  have hkc : k ≠ c := by
    intro q
    apply hc
    unfold BoxC
    rw [e]
    simp [BoxL, q]
  refine ⟨⟨c, cells, i, d, s, n, by rw [lstAt_set_ne hk]; exact e, by rw [lstAt_set_ne hkc]; exact e2, h1, h2⟩, ?_⟩
  unfold BoxC
  rw [lstAt_set_ne hk]
theorem Kp.set {l n : Nat} {h h1 : Hh} (a : Kp l n h h1) {k : Nat} (o : Ob) (hb : IsBox h l) (hl : h.length ≤ n) (hn : n ≤ k) : Kp l n h (h1.set k o) := by
  have h0 := hb.lt
  have q := a.box.set (k := k) o (by omega) (by rw [a.bc]; intro z; have := hb.clt z; omega)
  exact ⟨by rw [List.length_set]; exact a.le, fun j hj hne => by rw [List.getElem?_set_ne (by omega)]; exact a.keep j hj hne, q.1, q.2.trans a.bc⟩
theorem Str.ext3 {a b : Str} (h : a.cps.toList = b.cps.toList) : a = b := by
  obtain ⟨⟨x⟩⟩ := a
  obtain ⟨⟨y⟩⟩ := b
  simp at h
  rw [h]
theorem str_app (a b : Str) : (a ++ b).cps.toList = a.cps.toList ++ b.cps.toList := by
  show (a.cps ++ b.cps).toList = _
  simp
theorem str_len (a : Str) : a.length = a.cps.toList.length := by simp [Str.length]
@[simp] theorem str_len_app (a b : Str) : (a ++ b).length = a.length + b.length := by
  rw [str_len, str_app, List.length_append, ← str_len, ← str_len]
@[simp] theorem str_len_one (c : Nat) : Str.length ⟨#[c]⟩ = 1 := Eq.trans rfl rfl
def LETS : Str := "abcdefghijklmnopqrstuvwxyz"
def Lt (s : Str) : Prop := ∀ c ∈ s.cps.toList, c ∈ LETS.cps.toList
theorem Lt.app {a b : Str} (ha : Lt a) (hb : Lt b) : Lt (a ++ b) := by
  intro c hc
  rw [str_app, List.mem_append] at hc
  exact hc.elim (ha c) (hb c)
theorem Lt.one {c : Nat} (h : c ∈ LETS.cps.toList) : Lt ⟨#[c]⟩ := by
  intro x hx
  simp at hx
  rw [hx]; exact h
theorem Lt.nil : Lt "" := by
  intro c hc
  have : (Str.ofString "").cps.toList = [] := by decide +kernel
  rw [this] at hc
  cases hc
def Nm (s : Str) : Prop := 1 ≤ s.length ∧ s.length ≤ 8 ∧ Lt s
structure NmL (ss : List Str) : Prop where
  nd : ss.Nodup
  nm : ∀ s ∈ ss, Nm s
theorem NmL.snoc {ss : List Str} (h : NmL ss) {s : Str} (hs : Nm s) (hn : s ∉ ss) : NmL (ss ++ [s]) := by
  refine ⟨List.nodup_append.mpr ⟨h.nd, by simp, fun a ha b hb => ?_⟩, fun x hx => ?_⟩
  · simp at hb
    intro e
    subst hb
    exact hn (e ▸ ha)
  · rw [List.mem_append] at hx
    rcases hx with hx | hx
    · exact h.nm x hx
    · simp at hx; rw [hx]; exact hs
abbrev tSs (ss : List Str) : List T := ss.map T.str
theorem optL_strs (h : Hh) (n : Nat) : ∀ ss : List Str, optL (toD h (n + 1)) (tSs ss) = some (ss.map PyData.str)
  | [] => rfl
  | s :: ss => by
    have e1 : toD h (n + 1) (.str s) = some (.str s) := rfl
    show optL (toD h (n + 1)) (.str s :: tSs ss) = _
    unfold optL
    rw [optL_strs h n ss, e1]
    rfl
theorem any_strs (s : Str) : ∀ ss : List Str, ((ss.map PyData.str).any fun z => PyData.eqv z (.str s)) = decide (s ∈ ss)
  | [] => by simp
  | t :: ss => by
    rw [List.map_cons, List.any_cons, any_strs s ss]
    have : PyData.eqv (.str t) (.str s) = decide (t = s) := by rw [PyData.eqv]; rfl
    rw [this]
    by_cases q : t = s
    · simp [q]
    · have q' : ¬ s = t := fun e => q e.symm
      simp [q, q']
theorem e_in_tup {s : Str} {ss : List Str} {h : Hh} : inT (.str s) (.tup (tSs ss)) h = some (decide (s ∈ ss)) := by
  show (match toD h 24 (.str s), (optL (toD h 23) (tSs ss)).map PyData.tuple with
    | some d, some (.list ds) => some (ds.any fun z => PyData.eqv z d)
    | some d, some (.tuple ds) => some (ds.any fun z => PyData.eqv z d)
    | _, _ => none) = _
  rw [optL_strs h 22]
  show some ((ss.map PyData.str).any fun z => PyData.eqv z (.str s)) = _
  rw [any_strs]
@[simp] theorem oIn_tup {s : Str} {ss : List Str} {h : Hh} : oIn (.str s) (.tup (tSs ss)) h = .ok (.bl (decide (s ∈ ss))) h := by
  unfold oIn; rw [e_in_tup]
@[simp] theorem oNotIn_tup {s : Str} {ss : List Str} {h : Hh} : oNotIn (.str s) (.tup (tSs ss)) h = .ok (.bl (!decide (s ∈ ss))) h := by
  unfold oNotIn; rw [e_in_tup]
abbrev Fn := List T → Hh → Res T
end W3
end

section
namespace W3
open PySem
abbrev EQ := Str → List (Str × T) → Hh → Prop
def Res.wp {α : Type} (r : Res α) (Q : α → Hh → Prop) (E : EQ) : Prop :=
  match r with | .ok a h => Q a h | .exc c fs h => E c fs h | .stk => False
structure FQ where
  n : St3 → Hh → Prop
  r : T → Hh → Prop
  b : St3 → Hh → Prop
  c : St3 → Hh → Prop
  e : Str → List (Str × T) → St3 → Hh → Prop
def Flo.wp (r : Flo) (Q : FQ) : Prop :=
  match r with | .nx σ h => Q.n σ h | .rt t h => Q.r t h | .bk σ h => Q.b σ h | .ct σ h => Q.c σ h | .exc c fs σ h => Q.e c fs σ h | .stk => False
section
variable {α β : Type} {Q : α → Hh → Prop} {E : EQ}
@[simp] theorem wp_ok (a : α) (h : Hh) : (Res.ok a h).wp Q E = Q a h := Eq.trans rfl rfl
@[simp] theorem wp_exc (c : Str) (fs : List (Str × T)) (h : Hh) : (Res.exc c fs h : Res α).wp Q E = E c fs h := Eq.trans rfl rfl
@[simp] theorem wp_stk : (Res.stk : Res α).wp Q E = False := Eq.trans rfl rfl
def kQ (f : α → Hh → Res β) (Q : β → Hh → Prop) (E : EQ) : α → Hh → Prop := fun a h => (f a h).wp Q E
@[simp] theorem kQ_app {Q : β → Hh → Prop} (f : α → Hh → Res β) (a : α) (h : Hh) : kQ f Q E a h = (f a h).wp Q E := Eq.trans rfl rfl
@[simp] theorem wp_bind {Q : β → Hh → Prop} (r : Res α) (f : α → Hh → Res β) : (r.bind f).wp Q E = r.wp (kQ f Q E) E := by
  cases r <;> rfl
@[simp] theorem wp_if (c : Prop) [Decidable c] (a b : Res α) : (if c then a else b).wp Q E = ((c → a.wp Q E) ∧ (¬ c → b.wp Q E)) := by
  by_cases q : c <;> simp [q]
theorem Res.wp.mono {r : Res α} {Q Q' : α → Hh → Prop} {E E' : EQ} (w : r.wp Q E) (hq : ∀ a h, Q a h → Q' a h) (he : ∀ c fs h, E c fs h → E' c fs h) : r.wp Q' E' := by
  cases r with
  | ok a h => exact hq a h w
  | exc c fs h => exact he c fs h w
  | stk => exact w
theorem Res.wp.imp {r : Res α} {Q Q' : α → Hh → Prop} {E : EQ} (w : r.wp Q E) (hq : ∀ a h, Q a h → Q' a h) : r.wp Q' E := w.mono hq fun _ _ _ h => h
abbrev noE : EQ := fun _ _ _ => False
theorem Res.wp.ok {r : Res α} (w : r.wp Q noE) : ∃ a h, r = .ok a h ∧ Q a h := by
  cases r with
  | ok a h => exact ⟨a, h, rfl, w⟩
  | exc c fs h => exact w.elim
  | stk => exact w.elim
end
section
variable {Q : FQ}
@[simp] theorem fp_nx (σ : St3) (h : Hh) : (Flo.nx σ h).wp Q = Q.n σ h := Eq.trans rfl rfl
@[simp] theorem fp_rt (t : T) (h : Hh) : (Flo.rt t h).wp Q = Q.r t h := Eq.trans rfl rfl
@[simp] theorem fp_bk (σ : St3) (h : Hh) : (Flo.bk σ h).wp Q = Q.b σ h := Eq.trans rfl rfl
@[simp] theorem fp_ct (σ : St3) (h : Hh) : (Flo.ct σ h).wp Q = Q.c σ h := Eq.trans rfl rfl
@[simp] theorem fp_exc (c : Str) (fs : List (Str × T)) (σ : St3) (h : Hh) : (Flo.exc c fs σ h).wp Q = Q.e c fs σ h := Eq.trans rfl rfl
@[simp] theorem fp_stk : (Flo.stk).wp Q = False := Eq.trans rfl rfl
def FQ.seq (Q : FQ) (k : SS) : FQ := ⟨fun σ h => (k σ h).wp Q, Q.r, Q.b, Q.c, Q.e⟩
@[simp] theorem fs_n (k : SS) (σ : St3) (h : Hh) : (Q.seq k).n σ h = (k σ h).wp Q := Eq.trans rfl rfl
@[simp] theorem fs_r (k : SS) : (Q.seq k).r = Q.r := Eq.trans rfl rfl
@[simp] theorem fs_b (k : SS) : (Q.seq k).b = Q.b := Eq.trans rfl rfl
@[simp] theorem fs_c (k : SS) : (Q.seq k).c = Q.c := Eq.trans rfl rfl
@[simp] theorem fs_e (k : SS) : (Q.seq k).e = Q.e := Eq.trans rfl rfl
def FQ.loop (Q : FQ) (J : St3 → Hh → Prop) : FQ := ⟨J, Q.r, Q.n, J, Q.e⟩
@[simp] theorem fl_n (J : St3 → Hh → Prop) : (Q.loop J).n = J := Eq.trans rfl rfl
@[simp] theorem fl_r (J : St3 → Hh → Prop) : (Q.loop J).r = Q.r := Eq.trans rfl rfl
@[simp] theorem fl_b (J : St3 → Hh → Prop) : (Q.loop J).b = Q.n := Eq.trans rfl rfl
@[simp] theorem fl_c (J : St3 → Hh → Prop) : (Q.loop J).c = J := Eq.trans rfl rfl
@[simp] theorem fl_e (J : St3 → Hh → Prop) : (Q.loop J).e = Q.e := Eq.trans rfl rfl
def FQ.df (Q : T → Hh → Prop) (E : EQ) : FQ := ⟨fun _ h => Q .non h, Q, fun _ _ => False, fun _ _ => False, fun c fs _ h => E c fs h⟩
@[simp] theorem fd_n (Q : T → Hh → Prop) (E : EQ) (σ : St3) (h : Hh) : (FQ.df Q E).n σ h = Q .non h := Eq.trans rfl rfl
@[simp] theorem fd_r (Q : T → Hh → Prop) (E : EQ) : (FQ.df Q E).r = Q := Eq.trans rfl rfl
@[simp] theorem fd_e (Q : T → Hh → Prop) (E : EQ) (c : Str) (fs : List (Str × T)) (σ : St3) (h : Hh) : (FQ.df Q E).e c fs σ h = E c fs h := Eq.trans rfl rfl
def fQ {α : Type} (k : α → Hh → Flo) (Q : FQ) : α → Hh → Prop := fun a h => (k a h).wp Q
@[simp] theorem fQ_app {α : Type} (k : α → Hh → Flo) (a : α) (h : Hh) : fQ k Q a h = (k a h).wp Q := Eq.trans rfl rfl
def eQ (Q : FQ) (σ : St3) : EQ := fun c fs h => Q.e c fs σ h
@[simp] theorem eQ_app (σ : St3) (c : Str) (fs : List (Str × T)) (h : Hh) : eQ Q σ c fs h = Q.e c fs σ h := Eq.trans rfl rfl
@[simp] theorem eQ_seq (σ : St3) (k : SS) : eQ (Q.seq k) σ = eQ Q σ := Eq.trans rfl rfl
@[simp] theorem eQ_loop (σ : St3) (J : St3 → Hh → Prop) : eQ (Q.loop J) σ = eQ Q σ := Eq.trans rfl rfl
@[simp] theorem eQ_df (σ : St3) (Q : T → Hh → Prop) (E : EQ) : eQ (FQ.df Q E) σ = E := Eq.trans rfl rfl
@[simp] theorem fp_flo {α : Type} (r : Res α) (σ : St3) (k : α → Hh → Flo) : (r.flo σ k).wp Q = r.wp (fQ k Q) (eQ Q σ) := by
  cases r <;> rfl
@[simp] theorem fp_seq (r : Flo) (k : SS) : (r.seq k).wp Q = r.wp (Q.seq k) := by
  cases r <;> rfl
@[simp] theorem fp_if (c : Prop) [Decidable c] (a b : Flo) : (if c then a else b).wp Q = ((c → a.wp Q) ∧ (¬ c → b.wp Q)) := by
  by_cases q : c <;> simp [q]
theorem Flo.wp.mono {r : Flo} {Q Q' : FQ} (w : r.wp Q) (hn : ∀ σ h, Q.n σ h → Q'.n σ h) (hr : ∀ t h, Q.r t h → Q'.r t h) (hb : ∀ σ h, Q.b σ h → Q'.b σ h) (hc : ∀ σ h, Q.c σ h → Q'.c σ h) (he : ∀ c fs σ h, Q.e c fs σ h → Q'.e c fs σ h) : r.wp Q' := by
  cases r with
  | nx σ h => exact hn σ h w
  | rt t h => exact hr t h w
  | bk σ h => exact hb σ h w
  | ct σ h => exact hc σ h w
  | exc c fs σ h => exact he c fs σ h w
  | stk => exact w
end
@[simp] theorem wp_defRun (n : Nat) (b : SS) (ts : List T) (h : Hh) (Q : T → Hh → Prop) (E : EQ) : (defRun n b ts h).wp Q E = (b (startT n ts) h).wp (FQ.df Q E) := by
  unfold defRun
  cases b (startT n ts) h <;> rfl
theorem wp_for {s : Src} {ts : List T} {g : SG} {b : SS} {σ : St3} {h : Hh} {Q : FQ} (I : Nat → St3 → Hh → Prop) (hI : ∀ i σ h, I i σ h → s.Is ts h) (h0 : I 0 σ h)
    (hs : ∀ i x σ h, ts[i]? = some x → I i σ h → ∃ σ1, g x σ = some σ1 ∧ (b σ1 h).wp (Q.loop (I (i + 1))))
    (he : ∀ σ h, I ts.length σ h → Q.n σ h) : (forRun s g b (s.len h) 0 σ h).wp Q := by
  rw [(hI _ _ _ h0).len]
  suffices H : ∀ k i σ h, i + k = ts.length → I i σ h → (forRun s g b k i σ h).wp Q from H _ _ _ _ (by omega) h0
  intro k
  induction k with
  | zero =>
    intro i σ h e q
    have e1 : i = ts.length := by omega
    unfold forRun
    rw [(hI _ _ _ q).at, List.getElem?_eq_none (by omega)]
    exact he σ h (e1 ▸ q)
  | succ k ih =>
    intro i σ h e q
    have ex : ts[i]? = some ts[i] := by simp [show i < ts.length by omega]
    obtain ⟨σ1, e1, w⟩ := hs i _ σ h ex q
    unfold forRun
    rw [(hI _ _ _ q).at, ex]
    simp only [e1]
    revert w
    cases b σ1 h with
    | nx σ2 h2 => exact fun w => ih (i + 1) σ2 h2 (by omega) w
    | ct σ2 h2 => exact fun w => ih (i + 1) σ2 h2 (by omega) w
    | bk σ2 h2 => exact fun w => w
    | rt t h2 => exact fun w => w
    | exc c fs σ2 h2 => exact fun w => w
    | stk => exact fun w => w
theorem wp_lc {s : Src} {ts : List T} {g : SG} {tt : ST} {te : SE} {σ : St3} {h : Hh} {Q : List T → Hh → Prop} {E : EQ} (hz : ts.length ≤ sizeLine) (I : Nat → List T → Hh → Prop) (hI : ∀ i acc h, I i acc h → s.Is ts h) (h0 : I 0 [] h)
    (hs : ∀ i x acc h, ts[i]? = some x → I i acc h → ∃ σ1, g x σ = some σ1 ∧ (tt σ1 h).wp (fun b h1 => if b = true then (te σ1 h1).wp (fun t h2 => I (i + 1) (acc ++ [t]) h2) noE else I (i + 1) acc h1) noE)
    (he : ∀ acc h, I ts.length acc h → Q acc h) : (lcRun s g tt te σ (s.len h) 0 [] h).wp Q E := by
  obtain ⟨acc', h', e, q, _⟩ := lc_run (s := s) (ts := ts) (g := g) (tt := tt) (te := te) (σ := σ) (h := h) hz I hI h0 fun i x acc h ex q => by
    obtain ⟨σ1, e1, w⟩ := hs i x acc h ex q
    refine ⟨σ1, e1, ?_⟩
    obtain ⟨b, h1, e2, w2⟩ := w.ok
    cases b with
    | false => exact .inl ⟨h1, e2, by simpa using w2⟩
    | true =>
      have w2 : (te σ1 h1).wp (fun t h2 => I (i + 1) (acc ++ [t]) h2) noE := by simpa using w2
      obtain ⟨t, h2, e3, w3⟩ := w2.ok
      exact .inr ⟨h1, t, h2, e2, e3, w3⟩
  rw [e]
  exact he _ _ q
theorem wp_lcf {s : Src} {ts : List T} {g : SG} {tt : ST} {te : SE} {σ : St3} {h : Hh} {Q : List T → Hh → Prop} {E : EQ} (p : T → Bool) (f : T → T) (hz : ts.length ≤ sizeLine) (hI : s.Is ts h) (hs : ∀ x ∈ ts, ∃ σ1, g x σ = some σ1 ∧ tt σ1 h = .ok (p x) h ∧ te σ1 h = .ok (f x) h) (k : Q ((ts.filter p).map f) h) :
    (lcRun s g tt te σ (s.len h) 0 [] h).wp Q E := by
  rw [lc_filter p f hz hI hs]; exact k
structure Fr (S : Nat → Prop) (h h' : Hh) : Prop where
  le : h.length ≤ h'.length
  keep : ∀ k, k < h.length → ¬ S k → h'[k]? = h[k]?
theorem Fr.refl {S : Nat → Prop} {h : Hh} : Fr S h h := ⟨Nat.le_refl _, fun _ _ _ => rfl⟩
theorem Fr.trans {S : Nat → Prop} {h h1 h2 : Hh} (a : Fr S h h1) (b : Fr S h1 h2) : Fr S h h2 :=
  ⟨Nat.le_trans a.le b.le, fun k hk hs => (b.keep k (Nat.lt_of_lt_of_le hk a.le) hs).trans (a.keep k hk hs)⟩
end W3
end

section
namespace W3
open PySem
@[simp] theorem e_startT (n : Nat) (ts : List T) : startT n ts = ts.map some ++ List.replicate (n - ts.length) none := Eq.trans rfl rfl
theorem lstAt_app_ge {h o : Hh} {k : Nat} : lstAt (h ++ o) (h.length + k) = lstAt o k := by
  unfold lstAt; rw [List.getElem?_append_right (by omega)]; simp
@[simp] theorem lstAt_app_k {h o : Hh} {k : Nat} : lstAt (h ++ o) (h.length + k) = lstAt o k := lstAt_app_ge
@[simp] theorem lstAt_app_z {h o : Hh} : lstAt (h ++ o) h.length = lstAt o 0 := by
  have := @lstAt_app_ge h o 0; simpa using this
@[simp] theorem lstAt_0 (o : Ob) (r : Hh) : lstAt (o :: r) 0 = match o with | .lst ts => some ts | _ => none := by
  unfold lstAt; cases o <;> rfl
@[simp] theorem lstAt_s (o : Ob) (r : Hh) (k : Nat) : lstAt (o :: r) (k + 1) = lstAt r k := by
  unfold lstAt; simp
@[simp] theorem e_neg (i : Int) (h : Hh) : oNeg (.int i) h = .ok (.int (-i)) h := Eq.trans rfl rfl
@[simp] theorem e_set_ap {h o : Hh} {k : Nat} {x : Ob} : (h ++ o).set (h.length + k) x = h ++ o.set k x := by
  rw [List.set_append_right _ _ (by omega)]; simp
@[simp] theorem e_set_ap0 {h o : Hh} {x : Ob} : (h ++ o).set h.length x = h ++ o.set 0 x := by
  rw [List.set_append_right _ _ (by omega)]; simp
theorem lets_at {d : Int} (d0 : 0 ≤ d) (d1 : d < 26) : ∃ c, c ∈ LETS.cps.toList ∧ L2.atI (Str.ofString "abcdefghijklmnopqrstuvwxyz").cps.toList d = some c := by
  have hl : (Str.ofString "abcdefghijklmnopqrstuvwxyz").cps.toList.length = 26 := by decide +kernel
  obtain ⟨c, e, q⟩ := atI_mem (xs := (Str.ofString "abcdefghijklmnopqrstuvwxyz").cps.toList) d0 (by rw [hl]; omega)
  exact ⟨c, q, e⟩
@[simp] theorem lets_len2 : (Str.ofString "abcdefghijklmnopqrstuvwxyz").length = 26 := by decide +kernel
end W3
end

section
namespace W3
open PySem
abbrev Ent := Option Str
def tE : Ent → T | none => .non | some s => .str s
@[simp] theorem tE_n : tE none = .non := Eq.trans rfl rfl
@[simp] theorem tE_s (s : Str) : tE (some s) = .str s := Eq.trans rfl rfl
def tRow (r : List Ent) : T := .tup (r.map tE)
inductive Nr where | alone (r : List Ent) | looks (g : Str) (rs : List (List Ent))
def Nr.tLooks : Nr → T | .alone _ => .non | .looks g _ => .str g
def Nr.tNear : Nr → T | .alone r => tRow r | .looks _ rs => .tup (rs.map tRow)
structure Fd where
  first : Str
  nr : Nr
  far : Option (List Ent)
def tFar : Option (List Ent) → T | none => .non | some r => tRow r
def Fd.ts (f : Fd) : List T := [.str f.first, f.nr.tLooks, f.nr.tNear, tFar f.far]
def Fd.t (f : Fd) : T := .tup f.ts
def tPair (p : Str × Fd) : T := .tup [.str p.1, p.2.t]
structure Fm where
  words : List Str
  fields : List (Str × Fd)
  room : Int
def Fm.names (f : Fm) : List Str := f.fields.map Prod.fst
def Fm.tW (f : Fm) : T := .tup (tSs f.words)
def Fm.tF (f : Fm) : T := .tup (f.fields.map tPair)
structure RowOk (n : Nat) (r : List Ent) : Prop where
  len : r.length = n
  nm : ∀ s, some s ∈ r → Nm s
def NrOk (n : Nat) (ns : List Str) (nm : Str) : Nr → Prop
  | .alone r => RowOk n r
  | .looks g rs => g ∈ ns ∧ g ≠ nm ∧ rs.length = n ∧ ∀ r ∈ rs, RowOk n r
structure FdOk (ws ns : List Str) (nm : Str) (f : Fd) : Prop where
  first : f.first ∈ ws
  nr : NrOk ws.length ns nm f.nr
  far : ∀ r, f.far = some r → RowOk ws.length r
structure FmOk (f : Fm) : Prop where
  w2 : 2 ≤ f.words.length
  w3 : f.words.length ≤ 3
  wn : NmL f.words
  f1 : 1 ≤ f.fields.length
  f3 : f.fields.length ≤ 3
  fn : NmL f.names
  fs : ∀ p ∈ f.fields, FdOk f.words f.names p.1 p.2
  r1 : 1 ≤ f.room
  r3 : f.room ≤ 3
end W3
end

section
namespace W3
open PySem
theorem eq_of_wp {r : Res T} {v : T} {h : Hh} (w : r.wp (fun a h' => a = v ∧ h' = h) noE) : r = .ok v h := by
  obtain ⟨a, h', e, rfl, rfl⟩ := w.ok
  exact e
def Jd (v : T) (h : Hh) : Prop := match v with
  | .ref l => (∃ ts, h[l]? = some (.lst ts)) ∨ ∃ d, h[l]? = some (.dic d)
  | .cls _ => False
  | .str s => s.length ≤ 1000
  | .tup ts => ts.length ≤ 1000
  | _ => True
@[simp] theorem Jd_non (h : Hh) : Jd .non h := trivial
@[simp] theorem Jd_bl (b : Bool) (h : Hh) : Jd (.bl b) h := trivial
@[simp] theorem Jd_int (b : Int) (h : Hh) : Jd (.int b) h := trivial
@[simp] theorem Jd_str (b : Str) (h : Hh) : Jd (.str b) h = (b.length ≤ 1000) := Eq.trans rfl rfl
@[simp] theorem Jd_tup (b : List T) (h : Hh) : Jd (.tup b) h = (b.length ≤ 1000) := Eq.trans rfl rfl
@[simp] theorem Jd_fl (b : List T) (h : Hh) : Jd (.fl b) h := trivial
def isStr : T → Bool | .str _ => true | _ => false
def isTup : T → Bool | .tup _ => true | _ => false
def isBl : T → Bool | .bl _ => true | _ => false
def ltB (s : Str) : Bool := s.cps.toList.all fun c => decide (c ∈ LETS.cps.toList)
def nmB (s : Str) : Bool := decide (1 ≤ s.length ∧ s.length ≤ 8) && ltB s
def nameB : T → Bool | .str s => nmB s | _ => false
theorem nmB_iff {s : Str} : nmB s = true ↔ Nm s := by
  unfold nmB ltB Nm Lt
  rw [Bool.and_eq_true, decide_eq_true_eq, List.all_eq_true, and_assoc]
  simp only [decide_eq_true_eq]
def oneB (v : T) (ss : List Str) : Bool := match v with | .str s => decide (s ∈ ss) | _ => false
@[simp] theorem blsOf_map {α : Type} (p : α → Bool) : ∀ xs : List α, blsOf (xs.map fun x => T.bl (p x)) = some (xs.map p)
  | [] => rfl
  | x :: xs => by
    show (blsOf (xs.map fun x => T.bl (p x))).map (p x :: ·) = _
    rw [blsOf_map p xs]; rfl
@[simp] theorem bAll_map {α : Type} (p : α → Bool) (xs : List α) (h : Hh) : bAll (xs.map fun x => T.bl (p x)) h = .ok (.bl (xs.all p)) h := by
  unfold bAll; rw [blsOf_map]; simp
@[simp] theorem bAny_map {α : Type} (p : α → Bool) (xs : List α) (h : Hh) : bAny (xs.map fun x => T.bl (p x)) h = .ok (.bl (xs.any p)) h := by
  unfold bAny; rw [blsOf_map]; simp
def JdN : Nat → T → Hh → Prop
  | 0, v, h => Jd v h
  | n + 1, v, h => Jd v h ∧ ∀ ts, v = .tup ts → ∀ t ∈ ts, JdN n t h
theorem JdN.tup {n : Nat} {ts : List T} {h : Hh} (j : JdN (n + 1) (.tup ts) h) {t : T} (ht : t ∈ ts) : JdN n t h := j.2 ts rfl t ht
def entB (t : T) : Bool := isNonT t || nameB t
def rowB (v : T) (n : Int) : Bool := match v with | .tup ts => decide ((ts.length : Int) = n) && ts.all entB | _ => false
def nearB (v looks : T) (n : Int) : Bool := if isNonT looks then rowB v n else match v with | .tup ts => decide ((ts.length : Int) = n) && ts.all (fun t => rowB t n) | _ => false
def strOf : T → Str | .str s => s | _ => ⟨#[]⟩
def namesB (v : T) (lo hi : Int) : Bool := match v with | .tup ts => decide (lo ≤ ts.length ∧ (ts.length : Int) ≤ hi) && (ts.all nameB && decide ((ts.map strOf).Nodup)) | _ => false
def pairB (v : T) : Bool := match v with | .tup [a, .tup b] => nameB a && decide (b.length = 4) | _ => false
def fstOf : T → T | .tup (a :: _) => a | t => t
def fieldsB (v : T) : Bool := match v with | .tup ts => decide (1 ≤ ts.length ∧ ts.length ≤ 3) && (ts.all pairB && decide ((ts.map fun t => strOf (fstOf t)).Nodup)) | _ => false
@[simp] theorem isStr_s (s : Str) : isStr (.str s) = true := Eq.trans rfl rfl
@[simp] theorem isTup_s (s : List T) : isTup (.tup s) = true := Eq.trans rfl rfl
end W3
end

section
namespace W3
open PySem
def Fm.ins (fm : Fm) : List (Str × T) := [("words", fm.tW), ("fields", fm.tF), ("room", .int fm.room)]
def FormAt (h : Hh) (l : Nat) (fm : Fm) : Prop := h[l]? = some (.ins "Form" fm.ins)
theorem insAt_of {h : Hh} {l : Nat} {c : Str} {fs : List (Str × T)} (e : h[l]? = some (.ins c fs)) : insAt h l = some (c, fs) := by unfold insAt; rw [e]
theorem FormAt.ins {h : Hh} {l : Nat} {fm : Fm} (e : FormAt h l fm) : insAt h l = some (("Form" : Str), fm.ins) := insAt_of e
theorem mOk_of {h : Hh} {l : Nat} {c m : Str} {fs : List (Str × T)} (e : insAt h l = some (c, fs)) (hm : fs.lookup m = none) : mOk c m (.ref l) h = true := by
  unfold mOk; simp only [e]; simp [hm]
theorem FormAt.m {h : Hh} {l : Nat} {fm : Fm} {m : Str} (e : FormAt h l fm) (hm : fm.ins.lookup m = none) : mOk "Form" m (.ref l) h = true := mOk_of e.ins hm
theorem fld_of {cs : List (Str × List Str)} {h : Hh} {l : Nat} {c : Str} {fs : List (Str × T)} {as : List Str} {f : Str} {t : T} (e : insAt h l = some (c, fs)) (hc : cs.lookup c = some as) (ha : as.contains f = true) (hf : fs.lookup f = some t) : oFldC cs f (.ref l) h = .ok t h := by
  simp only [oFldC, e, hc, ha, hf, if_true]
theorem sfld_of {cs : List (Str × List Str)} {h : Hh} {l : Nat} {c : Str} {fs : List (Str × T)} {as : List Str} {f : Str} {y : T} {σ : St3} (e : insAt h l = some (c, fs)) (hc : cs.lookup c = some as) (ha : as.contains f = true) (hl : fs.length < 1000) :
    fSet cs (.ref l) f y σ h = .nx σ (h.set l (.ins c (putT f y fs))) := by
  simp only [fSet, e, hc, ha, hl, decide_true, Bool.and_true, if_true]
theorem jdN_str {n : Nat} {s : Str} {h : Hh} (hs : s.length ≤ 1000) : JdN n (.str s) h := by
  cases n with
  | zero => exact hs
  | succ n => exact ⟨hs, fun ts e => by cases e⟩
theorem jdN_bl {n : Nat} {i : Bool} {h : Hh} : JdN n (.bl i) h := by
  cases n with
  | zero => trivial
  | succ n => exact ⟨trivial, fun ts e => by cases e⟩
theorem jdN_tup {n : Nat} {ts : List T} {h : Hh} (hl : ts.length ≤ 1000) (ht : ∀ t ∈ ts, JdN n t h) : JdN (n + 1) (.tup ts) h := ⟨hl, fun us e t q => by cases e; exact ht t q⟩
theorem Nm.short {s : Str} (h : Nm s) : s.length ≤ 1000 := by have := h.2.1; omega
end W3
end

section
namespace W3
open PySem
def flatT : T → Bool | .non => true | .bl _ => true | .int _ => true | .str _ => true | _ => false
def LstT (h : Hh) (t : T) (ts : List T) : Prop := (∃ l, t = .ref l ∧ lstAt h l = some ts) ∨ t = .fl ts
def SameV (h : Hh) : Nat → T → T → Prop
  | 0, t, u => t = u ∧ flatT t = true
  | n + 1, t, u => (t = u ∧ flatT t = true) ∨ ∃ ts us, ((t = .tup ts ∧ u = .tup us) ∨ (LstT h t ts ∧ LstT h u us)) ∧ ts.length = us.length ∧ ts.length ≤ 100000 ∧ ∀ (i : Nat) (x y : T), ts[i]? = some x → us[i]? = some y → SameV h n x y
def PureT : Nat → T → Prop
  | 0, t => flatT t = true
  | n + 1, t => flatT t = true ∨ ∃ ts, t = .tup ts ∧ ts.length ≤ 100000 ∧ ∀ x ∈ ts, PureT n x
theorem PureT.same {h : Hh} : ∀ {n : Nat} {t : T}, PureT n t → SameV h n t t
  | 0, t, p => ⟨rfl, p⟩
  | n + 1, t, p => by
    rcases p with p | ⟨ts, rfl, hl, p⟩
    · exact .inl ⟨rfl, p⟩
    · refine .inr ⟨ts, ts, .inl ⟨rfl, rfl⟩, rfl, hl, fun i x y ex ey => ?_⟩
      rw [ex] at ey; cases ey
      exact (p x (List.mem_of_getElem? ex)).same
theorem SameV.lists {h : Hh} {n a b : Nat} {ts : List T} (ea : lstAt h a = some ts) (eb : lstAt h b = some ts) (hl : ts.length ≤ 100000) (p : ∀ x ∈ ts, PureT n x) : SameV h (n + 1) (.ref a) (.ref b) := by
  refine .inr ⟨ts, ts, .inr ⟨.inl ⟨a, rfl, ea⟩, .inl ⟨b, rfl, eb⟩⟩, rfl, hl, fun i x y ex ey => ?_⟩
  rw [ex] at ey; cases ey
  exact (p x (List.mem_of_getElem? ex)).same
def SameW (n : Nat) (f : Fn) : Prop := ∀ {t u : T} {h : Hh}, SameV h n t u → f [t, u] h = .ok (.bl true) h
@[simp] theorem e_isK_fl (k : Kd) (s : List T) (h : Hh) : oIsK k (.fl s) h = .ok (.bl (k == .list)) h := Eq.trans rfl rfl
theorem LstT.isK {h : Hh} {t : T} {ts : List T} (e : LstT h t ts) (k : Kd) : oIsK k t h = .ok (.bl (k == .list)) h := by
  rcases e with ⟨l, rfl, e⟩ | rfl
  · exact e_isK_lst e
  · rfl
theorem LstT.len {h : Hh} {t : T} {ts : List T} (e : LstT h t ts) : bLen [t] h = .ok (.int ts.length) h := by
  rcases e with ⟨l, rfl, e⟩ | rfl
  · simp [e]
  · rfl
theorem LstT.ix {h : Hh} {t : T} {ts : List T} (e : LstT h t ts) (i : Int) : oIx t (.int i) h = match L2.atI ts i with | some t => .ok t h | none => .stk := by
  rcases e with ⟨l, rfl, e⟩ | rfl
  · rw [e_ix_ref]; simp only [e] <;> rfl
  · rfl
@[simp] theorem e_saLc2 (si : SI) (g : SG) (tt : ST) (si1 : SI) (g1 : SG) (tt1 : ST) (te : SE) (vs vs1 : List Nat) {σ : St3} {h : Hh} : saLc2 si g tt si1 g1 tt1 te vs vs1 σ h = (si σ h).bind fun s h1 => lc2Run s g tt si1 g1 tt1 te vs1 (wipeT σ vs) (s.len h1) 0 [] h1 := Eq.trans rfl rfl
def enterL (fm : Fm) : List T := fm.names.flatMap fun n => fm.words.map fun w => .tup [.str "enter", .str n, .str w]
def leaveL (fm : Fm) : List T := fm.names.map fun n => .tup [.str "leave", .str n]
def plainL (fm : Fm) : List T := enterL fm ++ leaveL fm ++ [.tup [.str "send"], .tup [.str "answer", .int 0], .tup [.str "answer", .int 1], .tup [.str "answer", .int 2]]
def wholeL (fm : Fm) : List T := plainL fm ++ [.tup [.str "reset"]]
@[simp] theorem e_extend (l b : Nat) (h : Hh) : mExtend (.ref l) [.ref b] h = match lstAt h l, lstAt h b with
    | some ts, some zs => if ts.length + zs.length ≤ sizeLine then .ok .non (h.set l (.lst (ts ++ zs))) else .stk
    | _, _ => .stk := Eq.trans rfl rfl
@[simp] theorem e_clear (l : Nat) (h : Hh) : mClear (.ref l) [] h = match lstAt h l with
    | some _ => .ok .non (h.set l (.lst []))
    | none => .stk := Eq.trans rfl rfl
@[simp] theorem e_add_rr (l b : Nat) (h : Hh) : oAdd (.ref l) (.ref b) h = match lstAt h l, lstAt h b with
    | some xs, some zs => if xs.length + zs.length ≤ sizeLine then alloc (.lst (xs ++ zs)) h else .stk
    | _, _ => .stk := Eq.trans rfl rfl
theorem pure_strs {n : Nat} {ss : List T} (h : ∀ t ∈ ss, flatT t = true) (hl : ss.length ≤ 100000) : PureT (n + 1) (.tup ss) := .inr ⟨ss, rfl, hl, fun x hx => by
  cases n with
  | zero => exact h x hx
  | succ n => exact .inl (h x hx)⟩
theorem wholeL_mem {fm : Fm} {d : T} (hd : d ∈ wholeL fm) : (∃ n ∈ fm.names, ∃ w ∈ fm.words, d = .tup [.str "enter", .str n, .str w]) ∨ (∃ n ∈ fm.names, d = .tup [.str "leave", .str n]) ∨ d = .tup [.str "send"] ∨ (∃ k : Int, 0 ≤ k ∧ k < 3 ∧ d = .tup [.str "answer", .int k]) ∨ d = .tup [.str "reset"] := by
  unfold wholeL plainL enterL leaveL at hd
  simp only [List.mem_append, List.mem_flatMap, List.mem_map, List.mem_cons, List.not_mem_nil, or_false] at hd
  rcases hd with ((⟨n, hn, w, hw, rfl⟩ | ⟨n, hn, rfl⟩) | rfl | rfl | rfl | rfl) | rfl
  · exact .inl ⟨n, hn, w, hw, rfl⟩
  · exact .inr (.inl ⟨n, hn, rfl⟩)
  · exact .inr (.inr (.inl rfl))
  · exact .inr (.inr (.inr (.inl ⟨0, by omega, by omega, rfl⟩)))
  · exact .inr (.inr (.inr (.inl ⟨1, by omega, by omega, rfl⟩)))
  · exact .inr (.inr (.inr (.inl ⟨2, by omega, by omega, rfl⟩)))
  · exact .inr (.inr (.inr (.inr rfl)))
theorem wholeL_pure {fm : Fm} {d : T} (hd : d ∈ wholeL fm) : PureT 1 d := by
  rcases wholeL_mem hd with ⟨n, _, w, _, rfl⟩ | ⟨n, _, rfl⟩ | rfl | ⟨k, _, _, rfl⟩ | rfl <;> exact pure_strs (by simp [flatT]) (by simp)
theorem FormAt.app {h : Hh} {l : Nat} {fm : Fm} (e : FormAt h l fm) (o : Hh) : FormAt (h ++ o) l fm := by
  unfold FormAt
  rw [List.getElem?_append_left (List.getElem?_eq_some_iff.mp e).1]; exact e
theorem FormAt.set {h : Hh} {l k : Nat} {fm : Fm} (e : FormAt h l fm) (o : Ob) (hk : k ≠ l) : FormAt (h.set k o) l fm := by
  unfold FormAt
  rw [List.getElem?_set_ne hk]; exact e
theorem FormAt.lt {h : Hh} {l : Nat} {fm : Fm} (e : FormAt h l fm) : l < h.length := (List.getElem?_eq_some_iff.mp e).1
theorem FormAt.ne {h : Hh} {l r : Nat} {fm : Fm} {ts : List T} (e : FormAt h l fm) (q : lstAt h r = some ts) : r ≠ l := by
  intro z
  subst z
  have := of_lstAt q
  unfold FormAt at e
  rw [e] at this
  cases this
end W3
end

section
namespace W3
open PySem
@[simp] theorem e_raise (c : Str) (ns : List Str) (a : SA) (σ : St3) (h : Hh) : ssRaiseX c ns a σ h = (a σ h).flo σ fun xs h1 => if xs.length = ns.length then .exc c (ns.zip xs).reverse σ h1 else .stk := Eq.trans rfl rfl
def FQ.tr (Q : FQ) (XS : XSub) (hs : List Hdl) : FQ := ⟨Q.n, Q.r, Q.b, Q.c, fun c fs σ h => (tryGo XS hs c fs σ h).wp Q⟩
section
variable {Q : FQ} {XS : XSub} {hs : List Hdl}
@[simp] theorem ft_n : (Q.tr XS hs).n = Q.n := Eq.trans rfl rfl
@[simp] theorem ft_r : (Q.tr XS hs).r = Q.r := Eq.trans rfl rfl
@[simp] theorem ft_b : (Q.tr XS hs).b = Q.b := Eq.trans rfl rfl
@[simp] theorem ft_c : (Q.tr XS hs).c = Q.c := Eq.trans rfl rfl
@[simp] theorem ft_e (c : Str) (fs : List (Str × T)) (σ : St3) (h : Hh) : (Q.tr XS hs).e c fs σ h = (tryGo XS hs c fs σ h).wp Q := Eq.trans rfl rfl
@[simp] theorem fp_try (a : SS) (σ : St3) (h : Hh) : (ssTryX XS a hs σ h).wp Q = (a σ h).wp (Q.tr XS hs) := by
  unfold ssTryX
  cases a σ h <;> rfl
end
@[simp] theorem xf_part2 (n p : T) (σ : St3) (h : Hh) : sXf [("field", n), ("part", p)] "part" σ h = .ok p h := by
  have : List.lookup ("part" : Str) [(("field" : Str), n), ("part", p)] = some p := by
    simp only [List.lookup, show (("part" : Str) == "field") = false by decide +kernel, show (("part" : Str) == "part") = true by decide +kernel]
  unfold sXf; rw [this]
@[simp] theorem xf_field2 (n p : T) (σ : St3) (h : Hh) : sXf [("field", n), ("part", p)] "field" σ h = .ok n h := by
  have : List.lookup ("field" : Str) [(("field" : Str), n), ("part", p)] = some n := by
    simp only [List.lookup, show (("field" : Str) == "field") = true by decide +kernel]
  unfold sXf; rw [this]
def eqS (t : T) (s : Str) : Bool := match t with | .str g => decide (g = s) | _ => false
def fieldErr (ws ns : List Str) (nm : Str) (a b c d : T) : Option Str :=
  if oneB a ws = false then some "first"
  else if isNonT b = false ∧ (oneB b ns = false ∨ eqS b nm = true) then some "looks"
  else if nearB c b ws.length = false then some "near"
  else if isNonT d = false ∧ rowB d ws.length = false then some "far"
  else none
def fErr (ws ns : List Str) : List T → Option (Str × Str)
  | [] => none
  | .tup [.str nm, .tup [a, b, c, d]] :: r => match fieldErr ws ns nm a b c d with
    | some p => some (p, nm)
    | none => fErr ws ns r
  | _ :: r => none
def roomB : T → Bool | .int i => decide (1 ≤ i ∧ i ≤ 3) | _ => false
def itsOf : T → List T | .tup ts => ts | _ => []
def initErr (W V R : T) : Option (Str × Str) :=
  if namesB W 2 3 = false then some ("words", "")
  else if fieldsB V = false then some ("fields", "")
  else match fErr ((itsOf W).map strOf) ((itsOf V).map fun t => strOf (fstOf t)) (itsOf V) with
    | some e => some e
    | none => if roomB R = false then some ("room", "") else none
theorem JdN.down {n : Nat} : ∀ {v : T} {h : Hh}, JdN (n + 1) v h → JdN n v h := by
  induction n with
  | zero => exact fun j => j.1
  | succ n ih => exact fun j => ⟨j.1, fun ts e t ht => ih (j.2 ts e t ht)⟩
theorem JdN.to {n k : Nat} {v : T} {h : Hh} (j : JdN (n + k) v h) : JdN n v h := by
  induction k with
  | zero => exact j
  | succ k ih => exact ih j.down
theorem Jd.ext {v : T} {h h' : Hh} (e : ∀ (k : Nat) (o : Ob), h[k]? = some o → h'[k]? = some o) (j : Jd v h) : Jd v h' := by
  cases v with
  | ref l => rcases j with ⟨ts, q⟩ | ⟨d, q⟩; exact .inl ⟨ts, e _ _ q⟩; exact .inr ⟨d, e _ _ q⟩
  | _ => exact j
theorem JdN.ext {n : Nat} : ∀ {v : T} {h h' : Hh}, (∀ (k : Nat) (o : Ob), h[k]? = some o → h'[k]? = some o) → JdN n v h → JdN n v h' := by
  induction n with
  | zero => exact fun e j => Jd.ext e j
  | succ n ih => exact fun e j => ⟨Jd.ext e j.1, fun ts q t ht => ih e (j.2 ts q t ht)⟩
def xForm (p : Str) (n : T) : List (Str × T) := [("field", n), ("part", .str p)]
end W3
end

section
namespace W3
open PySem
def fdAt (fm : Fm) (v : T) : Option (Str × Fd) := match v with | .str s => fm.fields.find? (fun p => decide (p.1 = s)) | _ => none
def putF (k : Bool) (fd : Fd) (t : T) : List T := if k then [.str fd.first, fd.nr.tLooks, t, tFar fd.far] else [.str fd.first, fd.nr.tLooks, fd.nr.tNear, t]
end W3
namespace W3
open PySem
def AnsQ (W V R : T) (h : Hh) (Q : T → Hh → Prop) (E : EQ) : Prop :=
  (initErr W V R = none → ∀ (o : Hh) (a : Nat), (h ++ o)[a]? = some (Ob.ins "Form" [("words", W), ("fields", V), ("room", R)]) → Q (.ref a) (h ++ o)) ∧ ∀ p n, initErr W V R = some (p, n) → ∀ o : Hh, E "InvalidForm" (xForm p (.str n)) (h ++ o)
theorem AnsQ.app {W V R : T} {h : Hh} {Q : T → Hh → Prop} {E : EQ} (q : AnsQ W V R h Q E) (o : Hh) : AnsQ W V R (h ++ o) Q E :=
  ⟨fun e o2 a ha => by rw [List.append_assoc] at ha ⊢; exact q.1 e _ a ha, fun p n e o2 => by rw [List.append_assoc]; exact q.2 p n e _⟩
theorem sIx_nat (n d k : Nat) : HT.sIx n d (some (k : Int)) = min k n := by
  exact HT.sIx_nat n d k
theorem cut_to {α : Type} (xs : List α) (k : Nat) : cutT xs none (some (k : Int)) = xs.take k := by
  unfold cutT
  rw [sIx_nat, show HT.sIx xs.length 0 none = 0 from rfl, List.drop_zero, Nat.sub_zero]
  by_cases h : k ≤ xs.length
  · rw [Nat.min_eq_left h]
  · rw [Nat.min_eq_right (by omega), List.take_length, List.take_of_length_le (by omega)]
@[simp] theorem e_neD_s (s : Str) (y : T) (h : Hh) : oNeD (.str s) y h = oNe (.str s) y h := by unfold oNeD; simp [dicB]
theorem fdAt_some {fm : Fm} (o : FmOk fm) {p : Str × Fd} (hp : p ∈ fm.fields) : fdAt fm (.str p.1) = some p := by
  unfold fdAt
  simp only []
  have nd : (fm.fields.map Prod.fst).Nodup := o.fn.nd
  generalize fm.fields = ps at hp nd
  induction ps with
  | nil => cases hp
  | cons q ps ih =>
    rw [List.map_cons, List.nodup_cons] at nd
    rcases List.mem_cons.mp hp with z | z
    · subst z; simp
    · have hne : ¬ q.1 = p.1 := fun e => nd.1 (e ▸ List.mem_map.mpr ⟨p, z, rfl⟩)
      rw [List.find?_cons, show decide (q.1 = p.1) = false by simpa using hne]
      exact ih z nd.2
theorem same_flat {h : Hh} {n : Nat} {t : T} (f : flatT t = true) : SameV h n t t := by
  cases n with
  | zero => exact ⟨rfl, f⟩
  | succ n => exact .inl ⟨rfl, f⟩
theorem SameV.ext {h h' : Hh} (e : ∀ (k : Nat) (o : Ob), h[k]? = some o → h'[k]? = some o) : ∀ {n : Nat} {t u : T}, SameV h n t u → SameV h' n t u
  | 0, _, _, q => q
  | n + 1, _, _, q => by
    rcases q with q | ⟨ts, us, hk, hl, hz, hs⟩
    · exact .inl q
    · have ll : ∀ {t : T} {ts : List T}, LstT h t ts → LstT h' t ts := fun {t ts} z => by
        rcases z with ⟨l, rfl, z⟩ | rfl
        · exact .inl ⟨l, rfl, lstAt_of (e _ _ (of_lstAt z))⟩
        · exact .inr rfl
      refine .inr ⟨ts, us, ?_, hl, hz, fun i x y ex ey => (hs i x y ex ey).ext e⟩
      rcases hk with z | ⟨z1, z2⟩
      · exact .inl z
      · exact .inr ⟨ll z1, ll z2⟩
theorem SameV.up {h : Hh} : ∀ {n : Nat} {t u : T}, SameV h n t u → SameV h (n + 1) t u
  | 0, _, _, q => .inl q
  | n + 1, _, _, q => by
    rcases q with q | ⟨ts, us, hk, hl, hz, hs⟩
    · exact .inl q
    · exact .inr ⟨ts, us, hk, hl, hz, fun i x y ex ey => (hs i x y ex ey).up⟩
end W3
end

section
namespace W3
open PySem
theorem PureT.up : ∀ {n : Nat} {t : T}, PureT n t → PureT (n + 1) t
  | 0, _, h => .inl h
  | n + 1, _, h => by
    rcases h with h | ⟨ts, rfl, hl, hs⟩
    · exact .inl h
    · exact .inr ⟨ts, rfl, hl, fun x hx => (hs x hx).up⟩
theorem PureT.add {n : Nat} {t : T} (h : PureT n t) : ∀ k, PureT (n + k) t
  | 0 => h
  | k + 1 => (h.add k).up
theorem PureT.tup {n : Nat} {ts : List T} (hl : ts.length ≤ 100000) (h : ∀ x ∈ ts, PureT n x) : PureT (n + 1) (.tup ts) := .inr ⟨ts, rfl, hl, h⟩
theorem pure_flat {n : Nat} {t : T} (h : flatT t = true) : PureT n t := by
  cases n with
  | zero => exact h
  | succ n => exact .inl h
theorem FormAt.upK {h h' : Hh} {l a : Nat} {fm : Fm} (e : FormAt h a fm) (u : Up l h h') (hne : a ≠ l) : FormAt h' a fm := by
  unfold FormAt
  rw [u.keep a e.lt hne]
  exact e
end W3
end

section
namespace W3
open PySem
@[simp] theorem e_siEnum (a : SA) (σ : St3) (h : Hh) : siEnum a σ h = (a σ h).bind enumOf := Eq.trans rfl rfl
@[simp] theorem enumL_len (k : Nat) (ts : List T) : (enumL k ts).length = ts.length := by
  induction ts generalizing k with
  | nil => rfl
  | cons t ts ih => simp [enumL, ih]
end W3
end

section
namespace W3
open PySem
def wordsB (fm : Fm) (v : T) : Bool := match v with | .tup ts => decide (ts.length = fm.fields.length) && ts.all (fun t => oneB t fm.words) | _ => false
end W3
end

section
namespace W3
open PySem
end W3
end

section
namespace W3
open PySem
@[simp] theorem e_ssForH (si : SI) (g : SGH) (b : SS) (σ : St3) (h : Hh) : ssForH si g b σ h = (si σ h).flo σ fun s h1 => forRunH s g b (s.len h1) 0 σ h1 := Eq.trans rfl rfl
def PickAt (h : Hh) (l : Nat) (t : T) : Prop := ∃ (r : Nat) (a b c : Int), t = .ref r ∧ lstAt h r = some [.int a, .int b, .int c] ∧ r ≠ l
theorem PickAt.up {h h' : Hh} {l : Nat} {t : T} (p : PickAt h l t) (u : Up l h h') : PickAt h' l t := by
  obtain ⟨r, a, b, c, rfl, e, hne⟩ := p
  exact ⟨r, a, b, c, rfl, u.lst e hne, hne⟩
end W3
end

section
namespace W3
open PySem
def flatJ : T → Prop | .non => True | .bl _ => True | .int _ => True | .str s => s.length ≤ 1000 | _ => False
def GV (l : Nat) (h : Hh) : Nat → T → Prop
  | 0, t => flatJ t
  | n + 1, t => flatJ t ∨ (∃ ts, t = .tup ts ∧ ts.length ≤ 1000 ∧ ∀ x ∈ ts, GV l h n x) ∨ ∃ r ts, t = .ref r ∧ r ≠ l ∧ lstAt h r = some ts ∧ ts.length ≤ 1000 ∧ ∀ x ∈ ts, GV l h n x
theorem flatJ.flat {t : T} (h : flatJ t) : flatT t = true := by cases t <;> first | rfl | exact h.elim
theorem GV.flat {l : Nat} {h : Hh} {n : Nat} {t : T} (f : flatJ t) : GV l h n t := by
  cases n with
  | zero => exact f
  | succ n => exact .inl f
theorem GV.tup {l : Nat} {h : Hh} {n : Nat} {ts : List T} (hl : ts.length ≤ 1000) (g : ∀ x ∈ ts, GV l h n x) : GV l h (n + 1) (.tup ts) := .inr (.inl ⟨ts, rfl, hl, g⟩)
theorem GV.lst {l : Nat} {h : Hh} {n r : Nat} {ts : List T} (hr : r ≠ l) (e : lstAt h r = some ts) (hl : ts.length ≤ 1000) (g : ∀ x ∈ ts, GV l h n x) : GV l h (n + 1) (.ref r) := .inr (.inr ⟨r, ts, rfl, hr, e, hl, g⟩)
theorem GV.up {l : Nat} {h h' : Hh} (u : Up l h h') : ∀ {n : Nat} {t : T}, GV l h n t → GV l h' n t
  | 0, _, g => g
  | n + 1, _, g => by
    rcases g with g | ⟨ts, rfl, hl, g⟩ | ⟨r, ts, rfl, hr, e, hl, g⟩
    · exact .inl g
    · exact .inr (.inl ⟨ts, rfl, hl, fun x hx => (g x hx).up u⟩)
    · exact .inr (.inr ⟨r, ts, rfl, hr, u.lst e hr, hl, fun x hx => (g x hx).up u⟩)
theorem GV.same {l : Nat} {h : Hh} : ∀ {n : Nat} {t : T}, GV l h n t → SameV h n t t
  | 0, _, g => ⟨rfl, flatJ.flat g⟩
  | n + 1, _, g => by
    rcases g with g | ⟨ts, rfl, hl, g⟩ | ⟨r, ts, rfl, hr, e, hl, g⟩
    · exact .inl ⟨rfl, flatJ.flat g⟩
    · refine .inr ⟨ts, ts, .inl ⟨rfl, rfl⟩, rfl, by omega, fun i x y ex ey => ?_⟩
      rw [ex] at ey; cases ey
      exact (g x (List.mem_of_getElem? ex)).same
    · refine .inr ⟨ts, ts, .inr ⟨.inl ⟨r, rfl, e⟩, .inl ⟨r, rfl, e⟩⟩, rfl, by omega, fun i x y ex ey => ?_⟩
      rw [ex] at ey; cases ey
      exact (g x (List.mem_of_getElem? ex)).same
theorem GV.more {l : Nat} {h : Hh} : ∀ {n : Nat} {t : T}, GV l h n t → GV l h (n + 1) t
  | 0, _, g => .inl g
  | n + 1, _, g => by
    rcases g with g | ⟨ts, rfl, hl, g⟩ | ⟨r, ts, rfl, hr, e, hl, g⟩
    · exact .inl g
    · exact .inr (.inl ⟨ts, rfl, hl, fun x hx => (g x hx).more⟩)
    · exact .inr (.inr ⟨r, ts, rfl, hr, e, hl, fun x hx => (g x hx).more⟩)
end W3
end

section
namespace W3
open PySem
def G0 (l b : Nat) (h : Hh) (t : T) : Prop := match t with
  | .ref r => r ≠ l ∧ ((∃ ts, h[r]? = some (.lst ts)) ∨ ∃ d, h[r]? = some (.dic d))
  | .cls _ => False
  | .fl _ => False
  | .str s => s.length ≤ 1000
  | .tup ts => ts.length ≤ b
  | _ => True
def GJ (l b : Nat) (h : Hh) : Nat → T → Prop
  | 0, t => G0 l b h t
  | n + 1, t => G0 l b h t ∧ ∀ ts, t = .tup ts → ∀ x ∈ ts, GJ l b h n x
def GA (l b : Nat) (h : Hh) (t : T) : Prop := ∀ n, GJ l b h n t
section
variable {l b : Nat} {h h' : Hh} {t : T}
theorem GJ.g0 {n : Nat} (g : GJ l b h n t) : G0 l b h t := by
  cases n with
  | zero => exact g
  | succ n => exact g.1
theorem GA.g0 (g : GA l b h t) : G0 l b h t := g 0
theorem GA.of0 (g : G0 l b h t) (hn : ∀ ts, t ≠ .tup ts) : GA l b h t := fun n => by
  cases n with
  | zero => exact g
  | succ n => exact ⟨g, fun ts e => absurd e (hn ts)⟩
theorem GA.non : GA l b h .non := .of0 trivial fun _ e => by cases e
theorem GA.bl {x : Bool} : GA l b h (.bl x) := .of0 trivial fun _ e => by cases e
theorem GA.int {x : Int} : GA l b h (.int x) := .of0 trivial fun _ e => by cases e
theorem GA.str {x : Str} (hs : x.length ≤ 1000) : GA l b h (.str x) := .of0 hs fun _ e => by cases e
theorem GA.lst {r : Nat} {ts : List T} (hr : r ≠ l) (e : lstAt h r = some ts) : GA l b h (.ref r) := .of0 ⟨hr, .inl ⟨ts, of_lstAt e⟩⟩ fun _ e => by cases e
theorem GA.dic {r : Nat} {d : List (T × T)} (hr : r ≠ l) (e : h[r]? = some (.dic d)) : GA l b h (.ref r) := .of0 ⟨hr, .inr ⟨d, e⟩⟩ fun _ e => by cases e
theorem GA.tup {ts : List T} (hl : ts.length ≤ b) (g : ∀ x ∈ ts, GA l b h x) : GA l b h (.tup ts) := fun n => by
  cases n with
  | zero => exact hl
  | succ n => exact ⟨hl, fun us e x hx => by cases e; exact g x hx n⟩
theorem GA.mem {ts : List T} (g : GA l b h (.tup ts)) {x : T} (hx : x ∈ ts) : GA l b h x := fun n => (g (n + 1)).2 ts rfl x hx
theorem GA.len {ts : List T} (g : GA l b h (.tup ts)) : ts.length ≤ b := g.g0
theorem G0.more {b' : Nat} (hb : b ≤ b') (g : G0 l b h t) : G0 l b' h t := by
  cases t with
  | tup ts => exact Nat.le_trans g hb
  | _ => exact g
theorem GJ.more {b' : Nat} (hb : b ≤ b') : ∀ {n : Nat} {t : T}, GJ l b h n t → GJ l b' h n t
  | 0, _, g => G0.more hb g
  | n + 1, _, g => ⟨G0.more hb g.1, fun ts e x hx => (g.2 ts e x hx).more hb⟩
theorem GA.more {b' : Nat} (g : GA l b h t) (hb : b ≤ b') : GA l b' h t := fun n => (g n).more hb
theorem G0.up (u : Up l h h') (g : G0 l b h t) : G0 l b h' t := by
  cases t with
  | ref r =>
    obtain ⟨hr, g⟩ := g
    refine ⟨hr, ?_⟩
    have hl : r < h.length := by rcases g with ⟨_, e⟩ | ⟨_, e⟩ <;> exact (List.getElem?_eq_some_iff.mp e).1
    rw [u.keep r hl hr]
    exact g
  | _ => exact g
theorem GJ.up (u : Up l h h') : ∀ {n : Nat} {t : T}, GJ l b h n t → GJ l b h' n t
  | 0, _, g => G0.up u g
  | n + 1, _, g => ⟨G0.up u g.1, fun ts e x hx => (g.2 ts e x hx).up u⟩
theorem GA.up (g : GA l b h t) (u : Up l h h') : GA l b h' t := fun n => (g n).up u
theorem cutT_mem {α : Type} {xs : List α} {lo hi : Option Int} {x : α} (hx : x ∈ cutT xs lo hi) : x ∈ xs := by
  unfold cutT at hx
  exact List.mem_of_mem_drop (List.mem_of_mem_take hx)
theorem GA.cut {ts : List T} (g : ∀ x ∈ ts, GA l b h x) {lo hi : Option Int} : ∀ x ∈ cutT ts lo hi, GA l b h x := fun x hx => g x (cutT_mem hx)
end
theorem GA.ent {l b : Nat} {h : Hh} {k : Nat} {r : List Ent} {e : Ent} (ro : RowOk k r) (he : e ∈ r) : GA l b h (tE e) := by
  cases e with
  | none => exact .non
  | some s => exact .str (ro.nm s he).short
theorem GA.row {l b : Nat} {h : Hh} {k : Nat} {r : List Ent} (ro : RowOk k r) (hk : k ≤ b) : GA l b h (tRow r) :=
  .tup (by rw [List.length_map, ro.len]; exact hk) fun t ht => by
    obtain ⟨e, he, rfl⟩ := List.mem_map.mp ht
    exact .ent ro he
theorem GA.fd {l b : Nat} {h : Hh} {ws ns : List Str} {nm : Str} {fd : Fd} (o : FdOk ws ns nm fd) (hw : ws.length ≤ b) (wn : NmL ws) (nn : NmL ns) : ∀ t ∈ fd.ts, GA l b h t := by
  intro t ht
  simp [Fd.ts] at ht
  rcases ht with rfl | rfl | rfl | rfl
  · exact .str (wn.nm _ o.first).short
  · cases hn : fd.nr with
    | alone r => exact .non
    | looks g rs =>
      have nk := o.nr
      rw [hn] at nk
      exact .str (nn.nm g nk.1).short
  · have nk := o.nr
    cases hn : fd.nr with
    | alone r => rw [hn] at nk; exact .row nk hw
    | looks g rs =>
      rw [hn] at nk
      refine .tup (by rw [List.length_map, nk.2.2.1]; exact hw) fun t ht => ?_
      obtain ⟨r, hr, rfl⟩ := List.mem_map.mp ht
      exact .row (nk.2.2.2 r hr) hw
  · cases hf : fd.far with
    | none => exact .non
    | some r => exact .row (o.far r hf) hw
def PairsG (l b : Nat) (h : Hh) (ts : List T) : Prop := ∀ x ∈ ts, ∃ nm fd, x = .tup [.str nm, fd] ∧ nm.length ≤ 8 ∧ GA l b h fd
theorem PairsG.up {l b : Nat} {h h' : Hh} {ts : List T} (p : PairsG l b h ts) (u : Up l h h') : PairsG l b h' ts := fun x hx => by
  obtain ⟨nm, fd, e, hn, g⟩ := p x hx
  exact ⟨nm, fd, e, hn, g.up u⟩
theorem PairsG.more {l b b' : Nat} {h : Hh} {ts : List T} (p : PairsG l b h ts) (hb : b ≤ b') : PairsG l b' h ts := fun x hx => by
  obtain ⟨nm, fd, e, hn, g⟩ := p x hx
  exact ⟨nm, fd, e, hn, g.more hb⟩
theorem PairsG.ga {l b : Nat} {h : Hh} {ts : List T} (p : PairsG l b h ts) (hb : 2 ≤ b) : ∀ x ∈ ts, GA l b h x := fun x hx => by
  obtain ⟨nm, fd, rfl, hn, g⟩ := p x hx
  refine .tup (by simpa using hb) fun y hy => ?_
  simp at hy
  rcases hy with rfl | rfl
  · exact .str (by omega)
  · exact g
end W3
end

section
namespace W3
open PySem
theorem idx_of_nodup {ss : List Str} (nd : ss.Nodup) {i : Nat} {w : Str} (e : ss[i]? = some w) : ss.idxOf w = i := by
  obtain ⟨hi, rfl⟩ := List.getElem?_eq_some_iff.mp e
  exact List.Nodup.idxOf_getElem nd i hi
def wIx (fm : Fm) (w : Str) : Nat := fm.words.idxOf w
def fIx (fm : Fm) (n : Str) : Nat := fm.names.idxOf n
def wAt (fm : Fm) (ss : List Str) (n : Str) : Str := (ss[fIx fm n]?).getD ⟨#[]⟩
def rowAt (r : List Ent) (i : Nat) : Ent := (r[i]?).getD none
def nearV (fm : Fm) (ss : List Str) (p : Str × Fd) : Ent := match p.2.nr with
  | .alone r => rowAt r (wIx fm (wAt fm ss p.1))
  | .looks g rs => rowAt ((rs[wIx fm (wAt fm ss p.1)]?).getD []) (wIx fm (wAt fm ss g))
def farV (fm : Fm) (p : Str × Fd) (w : Str) : Ent := match p.2.far with
  | none => none
  | some r => rowAt r (wIx fm w)
def trueV (fm : Fm) (ss : List Str) (p : Str × Fd) : Ent := match nearV fm ss p with
  | none => farV fm p (wAt fm ss p.1)
  | some m => some m
structure WsOk (fm : Fm) (ss : List Str) : Prop where
  len : ss.length = fm.fields.length
  mem : ∀ s ∈ ss, s ∈ fm.words
theorem WsOk.b {fm : Fm} {ss : List Str} (o : WsOk fm ss) : wordsB fm (.tup (tSs ss)) = true := by
  simp only [wordsB, List.length_map, o.len, decide_true, Bool.true_and, List.all_eq_true]
  intro t ht
  obtain ⟨s, hs, rfl⟩ := List.mem_map.mp ht
  simp [oneB, o.mem s hs]
theorem WsOk.at {fm : Fm} {ss : List Str} (o : WsOk fm ss) {n : Str} (hn : n ∈ fm.names) : ss[fIx fm n]? = some (wAt fm ss n) ∧ wAt fm ss n ∈ fm.words := by
  have hl : fIx fm n < ss.length := by
    have := List.idxOf_lt_length_iff.mpr hn
    rw [o.len]; simpa [fIx, Fm.names] using this
  have e : ss[fIx fm n]? = some ss[fIx fm n] := by simp [hl]
  unfold wAt
  rw [e]
  exact ⟨rfl, o.mem _ (List.getElem_mem hl)⟩
theorem mem_names {fm : Fm} {p : Str × Fd} (hp : p ∈ fm.fields) : p.1 ∈ fm.names := List.mem_map.mpr ⟨p, hp, rfl⟩
@[simp] theorem isT_tup (ts : List T) : isT (.tup ts) = true := Eq.trans rfl rfl
@[simp] theorem e_sMtA (f : T → List T → Hh → Res T) (o : SE) (a : SA) (σ : St3) (h : Hh) : sMtA f o a σ h = (o σ h).bind fun x h1 => if (isL x h1 || isT x) = true then (a σ h1).bind fun xs h2 => f x xs h2 else .stk := Eq.trans rfl rfl
end W3
end

section
namespace W3
open PySem
abbrev Prs := List (Str × Str)
def tPr (p : Str × Str) : T := .tup [.str p.1, .str p.2]
def dPr (p : Str × Str) : PyData := .tuple [.str p.1, .str p.2]
abbrev leP (p q : Str × Str) : Bool := PySem.W.dataLe false dPr p q
def sortP (ps : Prs) : Prs := ps.mergeSort leP
@[simp] theorem e_sorted_tup (ts : List T) (h : Hh) : bSorted [.tup ts] h = bSortI ts h := Eq.trans rfl rfl
@[simp] theorem e_sorted_ref (l : Nat) (h : Hh) : bSorted [.ref l] h = match lstAt h l with | some ts => bSortI ts h | none => .stk := Eq.trans rfl rfl
@[simp] theorem e_siZip (a : SA) (σ : St3) (h : Hh) : siZip a σ h = (a σ h).bind zipOf := Eq.trans rfl rfl
def namePairB (t : T) : Bool := match t with | .tup [.str a, .str b] => nmB a && nmB b && !decide (a = b) | _ => false
def prOf (t : T) : Str × Str := match t with | .tup [.str a, .str b] => (a, b) | _ => (⟨#[]⟩, ⟨#[]⟩)
def pairsB (v : T) : Bool := match v with | .tup ts => ts.all namePairB && decide ((ts.map prOf).Nodup) | _ => false
structure PrsOk (ps : Prs) : Prop where
  nd : ps.Nodup
  nm : ∀ p ∈ ps, Nm p.1 ∧ Nm p.2 ∧ p.1 ≠ p.2
theorem prOf_tPr (ps : Prs) : (ps.map tPr).map prOf = ps := by
  rw [List.map_map]
  exact List.map_id' ps
theorem pairsB_prs {ps : Prs} (o : PrsOk ps) : pairsB (.tup (ps.map tPr)) = true := by
  simp only [pairsB, prOf_tPr, o.nd, decide_true, Bool.and_true, List.all_map, List.all_eq_true]
  intro p hp
  obtain ⟨h1, h2, h3⟩ := o.nm p hp
  simp [namePairB, tPr, nmB_iff.mpr h1, nmB_iff.mpr h2, h3]
def MEN : List (Str × List Str) := [("opens", ["enter", "leave", "send"]), ("checks", ["enter", "leave"]), ("around", ["own", "looks"]), ("taken", ["any", "same", "last"]), ("sending", ["bar", "wait", "go"])]
def fitsB (part : Str) (v : T) : Bool := if part = "wipes" then isBl v else (decide (part = "around") && pairsB v) || (match MEN.lookup part with | some ss => oneB v ss | none => false)
def PARTSL : List Str := ["opens", "checks", "around", "wipes", "taken", "sending"]
def ruleErr : List Str → List T → Option Str
  | p :: ps, v :: vs => if fitsB p v = false then some p else ruleErr ps vs
  | _, _ => none
def sortAro (v : T) : T := match v with | .tup ts => .tup ((sortP (ts.map prOf)).map tPr) | v => v
def ruleIns (o c a w t s : T) : List (Str × T) := [("opens", o), ("checks", c), ("around", sortAro a), ("wipes", w), ("taken", t), ("sending", s)]
def shortT (v : T) : Prop := ∀ ts, v = .tup ts → ts.length < 64
inductive Aro where | word (s : Str) | pairs (ps : Prs)
def Aro.t : Aro → T | .word s => .str s | .pairs ps => .tup (ps.map tPr)
structure Ru where
  opens : Str
  checks : Str
  around : Aro
  wipes : Bool
  taken : Str
  sending : Str
structure RuOk (r : Ru) : Prop where
  o : r.opens ∈ (["enter", "leave", "send"] : List Str)
  c : r.checks ∈ (["enter", "leave"] : List Str)
  aw : ∀ s, r.around = .word s → s ∈ (["own", "looks"] : List Str)
  ap : ∀ ps, r.around = .pairs ps → PrsOk ps ∧ ps.length < 64 ∧ sortP ps = ps
  t : r.taken ∈ (["any", "same", "last"] : List Str)
  s : r.sending ∈ (["bar", "wait", "go"] : List Str)
def Ru.ins (r : Ru) : List (Str × T) := [("opens", .str r.opens), ("checks", .str r.checks), ("around", r.around.t), ("wipes", .bl r.wipes), ("taken", .str r.taken), ("sending", .str r.sending)]
def RuleAt (h : Hh) (l : Nat) (r : Ru) : Prop := h[l]? = some (.ins "Rule" r.ins)
theorem RuleAt.lt {h : Hh} {l : Nat} {r : Ru} (e : RuleAt h l r) : l < h.length := (List.getElem?_eq_some_iff.mp e).1
theorem RuleAt.app {h : Hh} {l : Nat} {r : Ru} (e : RuleAt h l r) (o : Hh) : RuleAt (h ++ o) l r := by
  unfold RuleAt
  rw [List.getElem?_append_left e.lt]
  exact e
theorem RuleAt.upK {h h' : Hh} {l a : Nat} {r : Ru} (e : RuleAt h a r) (u : Up l h h') (hne : a ≠ l) : RuleAt h' a r := by
  unfold RuleAt
  rw [u.keep a e.lt hne]
  exact e
theorem RuleAt.ins {h : Hh} {l : Nat} {r : Ru} (e : RuleAt h l r) : insAt h l = some (("Rule" : Str), r.ins) := insAt_of e
end W3
end

section
namespace W3
open PySem
def Fm.firsts (fm : Fm) : List Str := fm.fields.map fun p => p.2.first
def stepIns (d b a e : T) : List (Str × T) := [("deed", d), ("before", b), ("after", a), ("events", e)]
def StepAt (h : Hh) (l : Nat) (d b a e : T) : Prop := h[l]? = some (.ins "Step" (stepIns d b a e))
theorem StepAt.lt {h : Hh} {l : Nat} {d b a e : T} (q : StepAt h l d b a e) : l < h.length := (List.getElem?_eq_some_iff.mp q).1
theorem StepAt.app {h : Hh} {l : Nat} {d b a e : T} (q : StepAt h l d b a e) (o : Hh) : StepAt (h ++ o) l d b a e := by
  unfold StepAt
  rw [List.getElem?_append_left q.lt]
  exact q
theorem StepAt.ins {h : Hh} {l : Nat} {d b a e : T} (q : StepAt h l d b a e) : insAt h l = some (("Step" : Str), stepIns d b a e) := insAt_of q
theorem firsts_len (fm : Fm) : fm.firsts.length = fm.fields.length := List.length_map _
end W3
end

section
namespace W3
open PySem
end W3
end

section
namespace W3
open PySem
def farNames (fm : Fm) : List Str := (fm.fields.filter fun p => p.2.far.isSome).map Prod.fst
theorem far_mem {fm : Fm} {s : Str} (h : s ∈ farNames fm) : ∃ p ∈ fm.fields, p.2.far.isSome = true ∧ p.1 = s := by
  obtain ⟨p, hp, rfl⟩ := List.mem_map.mp h
  obtain ⟨h1, h2⟩ := List.mem_filter.mp hp
  exact ⟨p, h1, h2, rfl⟩
end W3
end

section
namespace W3
open PySem
def GF (t : T) : Prop := ∀ (l : Nat) (h : Hh), GA l 100 h t
theorem GF.str {s : Str} (h : s.length ≤ 1000) : GF (.str s) := fun _ _ => .str h
theorem GF.non : GF .non := fun _ _ => .non
theorem GF.bl {b : Bool} : GF (.bl b) := fun _ _ => .bl
theorem GF.int {i : Int} : GF (.int i) := fun _ _ => .int
theorem GF.tup {ts : List T} (hl : ts.length ≤ 100) (g : ∀ x ∈ ts, GF x) : GF (.tup ts) := fun l h => .tup hl fun x hx => g x hx l h
theorem GF.ent {k : Nat} {r : List Ent} {e : Ent} (ro : RowOk k r) (he : e ∈ r) : GF (tE e) := fun _ _ => .ent ro he
theorem GF.mem {ts : List T} (g : GF (.tup ts)) {x : T} (hx : x ∈ ts) : GF x := fun l h => (g l h).mem hx
end W3
end

section
namespace W3
open PySem
abbrev Kn := Option (Str × Ent)
abbrev Qn := Str × Str × Bool
def tK : Kn → T | none => .non | some (w, e) => .tup [.str w, tE e]
def tQ (q : Qn) : T := .tup [.str q.1, .str q.2.1, .bl q.2.2]
structure Sd where
  words : List Str
  shown : List Bool
  mess : List Ent
  known : List Kn
  quest : List Qn
  wait : Bool
def Sd.t (d : Sd) : T := .tup [.tup (tSs d.words), .tup (d.shown.map T.bl), .tup (d.mess.map tE), .tup (d.known.map tK), .tup (d.quest.map tQ), .bl d.wait]
def KnOk (fm : Fm) (p : Str × Fd) (k : Kn) : Prop := ∀ w e, k = some (w, e) → p.2.far.isSome = true ∧ w ∈ fm.words ∧ e = farV fm p w
def QnOk (fm : Fm) (q : Qn) : Prop := q.1 ∈ farNames fm ∧ q.2.1 ∈ fm.words
structure SdOk (fm : Fm) (snd : Str) (d : Sd) : Prop where
  ws : WsOk fm d.words
  sl : d.shown.length = fm.fields.length
  ml : d.mess.length = fm.fields.length
  mn : ∀ s, some s ∈ d.mess → Nm s
  kl : d.known.length = fm.fields.length
  kn : ∀ q ∈ fm.fields.zip d.known, KnOk fm q.1 q.2
  ql : (d.quest.length : Int) ≤ fm.room
  qn : ∀ q ∈ d.quest, QnOk fm q
  wt : d.wait = true → snd = "wait" ∧ d.quest ≠ []
theorem all_map {α : Type} {B : T → Bool} {f : α → T} {P : α → Prop} (st : ∀ t, B t = true → ∃ x, t = f x ∧ P x) : ∀ {ts : List T}, ts.all B = true → ∃ xs : List α, ts = xs.map f ∧ ∀ x ∈ xs, P x
  | [], _ => ⟨[], rfl, by simp⟩
  | t :: ts, h => by
    rw [List.all_cons, Bool.and_eq_true] at h
    obtain ⟨x, rfl, px⟩ := st t h.1
    obtain ⟨xs, rfl, pxs⟩ := all_map st h.2
    exact ⟨x :: xs, rfl, fun y hy => by
      rcases List.mem_cons.mp hy with rfl | z
      · exact px
      · exact pxs y z⟩
end W3
end

section
namespace W3
open PySem
structure Pl where
  w : Nat
  s : Nat
  m : Nat
  k : Nat
  q : Nat
  t : Nat
def Pl.all (p : Pl) : List Nat := [p.w, p.s, p.m, p.k, p.q, p.t]
def crsIns (lf lr : Nat) (p : Pl) (wt : Bool) : List (Str × T) := [("form", .ref lf), ("rule", .ref lr), ("words_now", .ref p.w), ("shown_fields", .ref p.s), ("messages", .ref p.m), ("far_words", .ref p.k), ("questions", .ref p.q), ("is_waiting", .bl wt), ("told", .ref p.t)]
structure CrsAt (n : Nat) (h : Hh) (a lf lr : Nat) (p : Pl) (d : Sd) (told : List T) : Prop where
  ins : h[a]? = some (.ins "Course" (crsIns lf lr p d.wait))
  ww : lstAt h p.w = some (tSs d.words)
  ss : lstAt h p.s = some (d.shown.map T.bl)
  mm : lstAt h p.m = some (d.mess.map tE)
  kk : lstAt h p.k = some (d.known.map tK)
  qq : lstAt h p.q = some (d.quest.map tQ)
  tt : lstAt h p.t = some told
  nd : p.all.Nodup
  la : n ≤ a
  lo : ∀ x ∈ p.all, n ≤ x
def Fz (n : Nat) (h h' : Hh) : Prop := h.length ≤ h'.length ∧ ∀ k, k < n → h'[k]? = h[k]?
theorem Fz.refl (n : Nat) (h : Hh) : Fz n h h := ⟨Nat.le_refl _, fun _ _ => rfl⟩
theorem Fz.trans {n : Nat} {h h1 h2 : Hh} (a : Fz n h h1) (b : Fz n h1 h2) : Fz n h h2 := ⟨Nat.le_trans a.1 b.1, fun k hk => (b.2 k hk).trans (a.2 k hk)⟩
theorem Fz.app {n : Nat} {h : Hh} (hn : n ≤ h.length) (o : Hh) : Fz n h (h ++ o) := ⟨by simp, fun k hk => List.getElem?_append_left (by omega)⟩
theorem Fz.set {n k : Nat} {h : Hh} (hn : n ≤ k) (o : Ob) : Fz n h (h.set k o) := ⟨by simp, fun j hj => by rw [List.getElem?_set_ne (by omega)]⟩
theorem Fz.out {h h' : Hh} (f : Fz h.length h h') : ∃ z, h' = h ++ z := by
  refine ⟨h'.drop h.length, ?_⟩
  apply List.ext_getElem?
  intro i
  by_cases hi : i < h.length
  · rw [f.2 i hi, List.getElem?_append_left hi]
  · rw [List.getElem?_append_right (by omega), List.getElem?_drop]
    congr 1
    omega
theorem FormAt.fz {n : Nat} {h h' : Hh} {l : Nat} {fm : Fm} (e : FormAt h l fm) (f : Fz n h h') (hl : l < n) : FormAt h' l fm := by
  unfold FormAt
  rw [f.2 l hl]
  exact e
theorem RuleAt.fz {n : Nat} {h h' : Hh} {l : Nat} {r : Ru} (e : RuleAt h l r) (f : Fz n h h') (hl : l < n) : RuleAt h' l r := by
  unfold RuleAt
  rw [f.2 l hl]
  exact e
section
variable {n : Nat} {h : Hh} {a lf lr : Nat} {p : Pl} {d : Sd} {told : List T}
theorem CrsAt.at (c : CrsAt n h a lf lr p d told) : insAt h a = some (("Course" : Str), crsIns lf lr p d.wait) := insAt_of c.ins
theorem CrsAt.alt (c : CrsAt n h a lf lr p d told) : a < h.length := (List.getElem?_eq_some_iff.mp c.ins).1
theorem CrsAt.nl (c : CrsAt n h a lf lr p d told) : n ≤ h.length := Nat.le_of_lt (Nat.lt_of_le_of_lt c.la c.alt)
theorem CrsAt.app (c : CrsAt n h a lf lr p d told) (o : Hh) : CrsAt n (h ++ o) a lf lr p d told where
  ins := by rw [List.getElem?_append_left c.alt]; exact c.ins
  ww := lstAt_app o c.ww
  ss := lstAt_app o c.ss
  mm := lstAt_app o c.mm
  kk := lstAt_app o c.kk
  qq := lstAt_app o c.qq
  tt := lstAt_app o c.tt
  nd := c.nd
  la := c.la
  lo := c.lo
theorem CrsAt.ne (c : CrsAt n h a lf lr p d told) {x : Nat} {ts : List T} (e : lstAt h x = some ts) : x ≠ a := by
  intro q
  subst q
  have := of_lstAt e
  rw [c.ins] at this
  cases this
theorem CrsAt.tell (c : CrsAt n h a lf lr p d told) (e : T) : CrsAt n (h.set p.t (.lst (told ++ [e]))) a lf lr p d (told ++ [e]) := by
  have nd := c.nd
  simp [Pl.all] at nd
  obtain ⟨⟨_, _, _, _, n1⟩, ⟨_, _, _, n2⟩, ⟨_, _, n3⟩, ⟨_, n4⟩, n5⟩ := nd
  exact ⟨by rw [List.getElem?_set_ne (c.ne c.tt)]; exact c.ins, by rw [lstAt_set_ne (Ne.symm n1)]; exact c.ww, by rw [lstAt_set_ne (Ne.symm n2)]; exact c.ss, by rw [lstAt_set_ne (Ne.symm n3)]; exact c.mm, by rw [lstAt_set_ne (Ne.symm n4)]; exact c.kk, by rw [lstAt_set_ne (Ne.symm n5)]; exact c.qq, by rw [lstAt_set_self (lstAt_lt c.tt)], c.nd, c.la, c.lo⟩
theorem CrsAt.wait (c : CrsAt n h a lf lr p d told) (b : Bool) : CrsAt n (h.set a (.ins "Course" (crsIns lf lr p b))) a lf lr p { d with wait := b } told :=
  ⟨by rw [List.getElem?_set_self c.alt], by rw [lstAt_set_ne (Ne.symm (c.ne c.ww))]; exact c.ww, by rw [lstAt_set_ne (Ne.symm (c.ne c.ss))]; exact c.ss, by rw [lstAt_set_ne (Ne.symm (c.ne c.mm))]; exact c.mm, by rw [lstAt_set_ne (Ne.symm (c.ne c.kk))]; exact c.kk, by rw [lstAt_set_ne (Ne.symm (c.ne c.qq))]; exact c.qq, by rw [lstAt_set_ne (Ne.symm (c.ne c.tt))]; exact c.tt, c.nd, c.la, c.lo⟩
end
end W3
end

section
namespace W3
open PySem
section
variable {n : Nat} {h : Hh} {a lf lr : Nat} {p : Pl} {d : Sd} {told : List T}
end
end W3
end

section
namespace W3
open PySem
theorem farV_nm {fm : Fm} (o : FmOk fm) {p : Str × Fd} (hp : p ∈ fm.fields) {w s : Str} (e : farV fm p w = some s) : Nm s := by
  unfold farV at e
  cases hf : p.2.far with
  | none => rw [hf] at e; cases e
  | some r =>
    rw [hf] at e
    simp only [rowAt] at e
    cases hr : r[wIx fm w]? with
    | none => rw [hr] at e; cases e
    | some x =>
      rw [hr] at e
      simp at e
      subst e
      exact ((o.fs p hp).far r hf).nm s (List.mem_of_getElem? hr)
end W3
end

section
namespace W3
open PySem
inductive Ev where
  | entered (n w : Str) | dropped | opened (n : Str) | wiped (n : Str) | checked (n : Str) (e : Ent) | asked (n w : Str)
  | answered (n w : Str) (e : Ent) (tk : Bool) | sent (ws : List Str) | waits | held | reset
def Ev.t : Ev → T
  | .entered n w => .tup [.str "entered", .str n, .str w]
  | .dropped => .tup [.str "dropped"]
  | .opened n => .tup [.str "opened", .str n]
  | .wiped n => .tup [.str "wiped", .str n]
  | .checked n e => .tup [.str "checked", .str n, tE e]
  | .asked n w => .tup [.str "asked", .str n, .str w]
  | .answered n w e tk => .tup [.str "answered", .str n, .str w, tE e, .bl tk]
  | .sent ws => .tup [.str "sent", .tup (tSs ws)]
  | .waits => .tup [.str "waits"]
  | .held => .tup [.str "held"]
  | .reset => .tup [.str "reset"]
abbrev tEs (es : List Ev) : List T := es.map Ev.t
def endV (d : Sd) (told : List Ev) : Sd × List Ev := if d.wait = true then ({ d with wait := false }, told ++ [.dropped]) else (d, told)
def resetV (fm : Fm) (d : Sd) (told : List Ev) : Sd × List Ev := endV { d with words := fm.firsts, shown := List.replicate fm.fields.length false, mess := List.replicate fm.fields.length none } (told ++ [.reset])
inductive Rz where
  | ok (d : Sd) (t : List Ev)
  | many (n : Str)
def Rz.bind : Rz → (Sd → List Ev → Rz) → Rz
  | .ok d t, k => k d t
  | .many n, _ => .many n
def nameAt (fm : Fm) (i : Nat) : Str := (fm.names[i]?).getD ⟨#[]⟩
def showC (fm : Fm) (i : Nat) (d : Sd) (told : List Ev) : Sd × List Ev := if d.shown[i]? = some false then ({ d with shown := d.shown.set i true }, told ++ [.opened (nameAt fm i)]) else (d, told)
def knEnt (w : Str) : Option Kn → Ent × Bool
  | some (some (v, e)) => if v = w then (e, false) else (none, true)
  | _ => (none, true)
def entryC (fm : Fm) (p : Str × Fd) (d : Sd) : Ent × Bool :=
  match nearV fm d.words p with
  | none => if p.2.far.isSome = true then knEnt (wAt fm d.words p.1) (d.known[fIx fm p.1]?) else (none, false)
  | some s => (some s, false)
def elder (n : Str) (q : Qn) : Qn := (q.1, q.2.1, q.2.2 && !decide (q.1 = n))
def askC (fm : Fm) (n w : Str) (d : Sd) (told : List Ev) : Rz :=
  if (n, w, true) ∈ d.quest then .ok d told
  else if (d.quest.length : Int) = fm.room then .many n
  else .ok { d with quest := d.quest.map (elder n) ++ [(n, w, true)] } (told ++ [.asked n w])
def checkC (fm : Fm) (p : Str × Fd) (d : Sd) (told : List Ev) : Rz :=
  if (entryC fm p d).2 = true then askC fm p.1 (wAt fm d.words p.1) { d with mess := d.mess.set (fIx fm p.1) (entryC fm p d).1 } (told ++ [.checked p.1 (entryC fm p d).1])
  else .ok { d with mess := d.mess.set (fIx fm p.1) (entryC fm p d).1 } (told ++ [.checked p.1 (entryC fm p d).1])
def checksC (fm : Fm) : List (Str × Fd) → Sd → List Ev → Rz
  | [], d, t => .ok d t
  | p :: ps, d, t => (checkC fm p d t).bind (checksC fm ps)
def looksAt : Nr → Option Str | .alone _ => none | .looks g _ => some g
def readsC (fm : Fm) (n : Str) : List (Str × Fd) := fm.fields.filter fun q => decide (looksAt q.2.nr = some n)
def foundC (fm : Fm) (r : Ru) (n : Str) : List (Str × Fd) := match r.around with
  | .word s => if s = "own" then [] else readsC fm n
  | .pairs ps => fm.fields.filter fun q => decide ((n, q.1) ∈ ps)
def openC (fm : Fm) (d : Sd) (p : Str × Fd) : Bool := (d.shown[fIx fm p.1]?).getD false
def withC (fm : Fm) (r : Ru) (n : Str) (d : Sd) : List (Str × Fd) := (foundC fm r n).filter (openC fm d)
def aroundL (fm : Fm) (r : Ru) (p : Str × Fd) (d : Sd) : List (Str × Fd) := (if openC fm d p = true then [p] else []) ++ withC fm r p.1 d
def aroundC (fm : Fm) (r : Ru) (p : Str × Fd) (d : Sd) (told : List Ev) : Rz := checksC fm (aroundL fm r p d) d told
def wipeC (r : Ru) (n : Str) (i : Nat) (d : Sd) (told : List Ev) : Sd × List Ev := if r.wipes = true ∧ (rowAt d.mess i).isSome = true then ({ d with mess := d.mess.set i none }, told ++ [.wiped n]) else (d, told)
def enter1 (fm : Fm) (p : Str × Fd) (w : Str) (d : Sd) (told : List Ev) : Sd × List Ev := endV { d with words := d.words.set (fIx fm p.1) w } (told ++ [.entered p.1 w])
def enter2 (fm : Fm) (r : Ru) (p : Str × Fd) (x : Sd × List Ev) : Sd × List Ev := if r.opens = "enter" then showC fm (fIx fm p.1) x.1 x.2 else x
def enterS (fm : Fm) (r : Ru) (p : Str × Fd) (w : Str) (d : Sd) (told : List Ev) : Sd × List Ev := wipeC r p.1 (fIx fm p.1) (enter2 fm r p (enter1 fm p w d told)).1 (enter2 fm r p (enter1 fm p w d told)).2
def enterC (fm : Fm) (r : Ru) (p : Str × Fd) (w : Str) (d : Sd) (told : List Ev) : Rz :=
  if wAt fm d.words p.1 = w then .ok d told
  else if r.checks = "enter" then aroundC fm r p (enterS fm r p w d told).1 (enterS fm r p w d told).2
  else .ok (enterS fm r p w d told).1 (enterS fm r p w d told).2
def leaveS (fm : Fm) (r : Ru) (p : Str × Fd) (d : Sd) (told : List Ev) : Sd × List Ev := if r.opens = "send" then (d, told) else showC fm (fIx fm p.1) d told
def leaveC (fm : Fm) (r : Ru) (p : Str × Fd) (d : Sd) (told : List Ev) : Rz := aroundC fm r p (leaveS fm r p d told).1 (leaveS fm r p d told).2
def showsC (fm : Fm) : Nat → Sd → List Ev → Sd × List Ev
  | 0, d, t => (d, t)
  | k + 1, d, t => showC fm k (showsC fm k d t).1 (showsC fm k d t).2
def hasErr (d : Sd) : Bool := d.mess.any fun e => e.isSome
def endSend (r : Ru) (d : Sd) (told : List Ev) : Sd × List Ev :=
  if hasErr d = true then (d, told ++ [.held])
  else if d.quest = [] ∨ r.sending = "go" then (d, told ++ [.sent d.words])
  else if r.sending = "wait" then ({ d with wait := true }, told ++ [.waits])
  else (d, told ++ [.held])
def sendC (fm : Fm) (r : Ru) (d : Sd) (told : List Ev) : Rz :=
  if d.wait = true then .ok d told
  else (checksC fm fm.fields (showsC fm fm.fields.length d told).1 (showsC fm fm.fields.length d told).2).bind fun d2 t2 => .ok (endSend r d2 t2).1 (endSend r d2 t2).2
def takenC (fm : Fm) (r : Ru) (p : Str × Fd) (w : Str) (nw : Bool) (d : Sd) : Bool := if r.taken = "any" then true else if r.taken = "same" then decide (wAt fm d.words p.1 = w) else nw
def takeMess (fm : Fm) (r : Ru) (p : Str × Fd) (w : Str) (d : Sd) : List Ent := if openC fm d p = true ∧ (¬ r.taken = "same" ∨ nearV fm d.words p = none) then d.mess.set (fIx fm p.1) (farV fm p w) else d.mess
def takeC (fm : Fm) (r : Ru) (p : Str × Fd) (w : Str) (nw : Bool) (d : Sd) : Sd := if takenC fm r p w nw d = true then { d with known := d.known.set (fIx fm p.1) (some (w, farV fm p w)), mess := takeMess fm r p w d } else d
def restC (d : Sd) (told : List Ev) : Sd × List Ev :=
  if d.wait = true ∧ d.quest = [] then ({ d with wait := false }, told ++ [if hasErr d = true then .held else .sent d.words]) else (d, told)
def answerP (fm : Fm) (r : Ru) (p : Str × Fd) (w : Str) (nw : Bool) (d : Sd) (told : List Ev) : Sd × List Ev :=
  restC (takeC fm r p w nw d) (told ++ [.answered p.1 w (farV fm p w) (takenC fm r p w nw d)])
def answerC (fm : Fm) (r : Ru) (i : Nat) (d : Sd) (told : List Ev) : Sd × List Ev := match d.quest[i]? with
  | none => (d, told)
  | some (n, w, nw) => match fdAt fm (.str n) with
    | none => (d, told)
    | some p => answerP fm r p w nw { d with quest := d.quest.eraseIdx i } told
inductive Dd where
  | enter (p : Str × Fd) (w : Str)
  | leave (p : Str × Fd)
  | send
  | answer (i : Nat)
  | reset
def Dd.t : Dd → T
  | .enter p w => .tup [.str "enter", .str p.1, .str w]
  | .leave p => .tup [.str "leave", .str p.1]
  | .send => .tup [.str "send"]
  | .answer i => .tup [.str "answer", .int i]
  | .reset => .tup [.str "reset"]
def DdOk (fm : Fm) : Dd → Prop
  | .enter p w => p ∈ fm.fields ∧ w ∈ fm.words
  | .leave p => p ∈ fm.fields
  | .send => True
  | .answer i => i < 3
  | .reset => True
def Rz.of (x : Sd × List Ev) : Rz := .ok x.1 x.2
def stepC (fm : Fm) (r : Ru) (D : Dd) (d : Sd) : Rz := match D with
  | .enter p w => enterC fm r p w d []
  | .leave p => leaveC fm r p d []
  | .send => sendC fm r d []
  | .answer i => .of (answerC fm r i d [])
  | .reset => .of (resetV fm d [])
structure SdW (fm : Fm) (d : Sd) : Prop where
  ws : WsOk fm d.words
  sl : d.shown.length = fm.fields.length
  ml : d.mess.length = fm.fields.length
  mn : ∀ s, some s ∈ d.mess → Nm s
  kl : d.known.length = fm.fields.length
  kn : ∀ q ∈ fm.fields.zip d.known, KnOk fm q.1 q.2
  ql : (d.quest.length : Int) ≤ fm.room
  qn : ∀ q ∈ d.quest, QnOk fm q
theorem SdOk.w {fm : Fm} {s : Str} {d : Sd} (h : SdOk fm s d) : SdW fm d := ⟨h.ws, h.sl, h.ml, h.mn, h.kl, h.kn, h.ql, h.qn⟩
theorem SdW.ok {fm : Fm} {s : Str} {d : Sd} (h : SdW fm d) (wt : d.wait = true → s = "wait" ∧ d.quest ≠ []) : SdOk fm s d := ⟨h.ws, h.sl, h.ml, h.mn, h.kl, h.kn, h.ql, h.qn, wt⟩
theorem rowAt_nm {k : Nat} {r : List Ent} {i : Nat} {s : Str} (ro : RowOk k r) (e : rowAt r i = some s) : Nm s := by
  unfold rowAt at e
  cases hr : r[i]? with
  | none => rw [hr] at e; cases e
  | some x =>
    rw [hr] at e
    simp at e
    subst e
    exact ro.nm s (List.mem_of_getElem? hr)
theorem nearV_nm {fm : Fm} (o : FmOk fm) {p : Str × Fd} (hp : p ∈ fm.fields) {ws : List Str} {s : Str} (e : nearV fm ws p = some s) : Nm s := by
  have fo := (o.fs p hp).nr
  unfold nearV at e
  cases hn : p.2.nr with
  | alone r =>
    rw [hn] at e fo
    exact rowAt_nm fo e
  | looks g rs =>
    rw [hn] at e fo
    obtain ⟨q1, q2, q3, q4⟩ := fo
    simp only at e
    cases hr : rs[wIx fm (wAt fm ws p.1)]? with
    | none =>
      rw [hr] at e
      simp [rowAt] at e
    | some r =>
      rw [hr] at e
      exact rowAt_nm (q4 r (List.mem_of_getElem? hr)) e
theorem fIx_at {fm : Fm} (o : FmOk fm) {i : Nat} {n : Str} (hi : fm.names[i]? = some n) : fIx fm n = i := idx_of_nodup o.fn.nd hi
theorem fIx_lt {fm : Fm} {p : Str × Fd} (hp : p ∈ fm.fields) : fIx fm p.1 < fm.fields.length := by
  have := List.idxOf_lt_length_iff.mpr (mem_names hp)
  simpa [fIx, Fm.names] using this
theorem fIx_get {fm : Fm} (o : FmOk fm) {p : Str × Fd} (hp : p ∈ fm.fields) : fm.fields[fIx fm p.1]? = some p := by
  obtain ⟨i, hi⟩ := List.getElem?_of_mem hp
  rw [fIx_at o (i := i) (by unfold Fm.names; rw [List.getElem?_map, hi]; rfl)]
  exact hi
theorem known_at {fm : Fm} (o : FmOk fm) {d : Sd} (w : SdW fm d) {p : Str × Fd} (hp : p ∈ fm.fields) : ∃ k, d.known[fIx fm p.1]? = some k ∧ KnOk fm p k := by
  have hl : fIx fm p.1 < d.known.length := by rw [w.kl]; exact fIx_lt hp
  refine ⟨d.known[fIx fm p.1], by simp [hl], ?_⟩
  exact w.kn (p, d.known[fIx fm p.1]) (List.mem_of_getElem? (i := fIx fm p.1) (by rw [List.getElem?_zip_eq_some]; exact ⟨fIx_get o hp, by simp [hl]⟩))
theorem entry_nm {fm : Fm} (o : FmOk fm) {d : Sd} (w : SdW fm d) {p : Str × Fd} (hp : p ∈ fm.fields) {s : Str} (e : (entryC fm p d).1 = some s) : Nm s := by
  unfold entryC at e
  cases hn : nearV fm d.words p with
  | some m =>
    rw [hn] at e
    simp at e
    exact e ▸ nearV_nm o hp hn
  | none =>
    rw [hn] at e
    simp only at e
    split at e
    · obtain ⟨k, hk, ko⟩ := known_at o w hp
      rw [hk] at e
      cases k with
      | none => simp [knEnt] at e
      | some q =>
        obtain ⟨v, x⟩ := q
        obtain ⟨_, _, rfl⟩ := ko v x rfl
        simp only [knEnt] at e
        split at e
        · exact farV_nm o hp e
        · cases e
    · cases e
theorem mess_set {es : List Ent} {i : Nat} {e : Ent} (h : ∀ s, some s ∈ es → Nm s) (he : ∀ s, e = some s → Nm s) : ∀ s, some s ∈ es.set i e → Nm s := fun s hs => by
  rcases List.mem_or_eq_of_mem_set hs with z | z
  · exact h s z
  · exact he s z.symm
theorem SdW.mess {fm : Fm} {d : Sd} (w : SdW fm d) (i : Nat) {e : Ent} (he : ∀ s, e = some s → Nm s) : SdW fm { d with mess := d.mess.set i e } :=
  { w with ml := by simp [w.ml], mn := mess_set w.mn he }
theorem SdW.show {fm : Fm} {d : Sd} (w : SdW fm d) (i : Nat) (told : List Ev) : SdW fm (showC fm i d told).1 := by
  unfold showC
  split
  · exact { w with sl := by simp [w.sl] }
  · exact w
theorem SdW.shows {fm : Fm} {d : Sd} (w : SdW fm d) (told : List Ev) : ∀ k, SdW fm (showsC fm k d told).1
  | 0 => w
  | k + 1 => (w.shows told k).show k _
theorem SdW.endw {fm : Fm} {d : Sd} (w : SdW fm d) (told : List Ev) : SdW fm (endV d told).1 := by
  unfold endV
  split
  · exact { w with }
  · exact w
structure Kept (d d' : Sd) (t t' : List Ev) (k : Nat) : Prop where
  ws : d'.words = d.words
  sh : d'.shown = d.shown
  wt : d'.wait = d.wait
  kn : d'.known = d.known
  ql : d.quest.length ≤ d'.quest.length
  tl : t'.length ≤ t.length + k
theorem Kept.trans {d d1 d2 : Sd} {t t1 t2 : List Ev} {k m : Nat} (a : Kept d d1 t t1 k) (b : Kept d1 d2 t1 t2 m) : Kept d d2 t t2 (k + m) :=
  ⟨b.ws.trans a.ws, b.sh.trans a.sh, b.wt.trans a.wt, b.kn.trans a.kn, Nat.le_trans a.ql b.ql, by have := a.tl; have := b.tl; omega⟩
theorem far_names {fm : Fm} {p : Str × Fd} (hp : p ∈ fm.fields) (hf : p.2.far.isSome = true) : p.1 ∈ farNames fm := by
  unfold farNames
  exact List.mem_map.mpr ⟨p, List.mem_filter.mpr ⟨hp, hf⟩, rfl⟩
theorem ask_kept {fm : Fm} {n w : Str} {d d' : Sd} {t t' : List Ev} (s : SdW fm d) (hn : n ∈ farNames fm) (hw : w ∈ fm.words) (e : askC fm n w d t = .ok d' t') : SdW fm d' ∧ Kept d d' t t' 1 := by
  unfold askC at e
  split at e
  · cases e
    exact ⟨s, rfl, rfl, rfl, rfl, Nat.le_refl _, by omega⟩
  · split at e
    · cases e
    · cases e
      rename_i h1 h2
      refine ⟨{ s with ql := ?_, qn := fun q hq => ?_ }, rfl, rfl, rfl, rfl, by simp, by simp⟩
      · have := s.ql
        simp only [List.length_append, List.length_map, List.length_cons, List.length_nil]
        omega
      · simp only [List.mem_append, List.mem_map, List.mem_singleton] at hq
        rcases hq with ⟨q0, hq0, rfl⟩ | rfl
        · exact s.qn q0 hq0
        · exact ⟨hn, hw⟩
theorem entry_asks {fm : Fm} {p : Str × Fd} {d : Sd} (e : (entryC fm p d).2 = true) : p.2.far.isSome = true := by
  unfold entryC at e
  split at e
  · split at e
    · assumption
    · cases e
  · cases e
theorem check_kept {fm : Fm} (o : FmOk fm) {p : Str × Fd} (hp : p ∈ fm.fields) {d d' : Sd} {t t' : List Ev} (s : SdW fm d) (e : checkC fm p d t = .ok d' t') : SdW fm d' ∧ Kept d d' t t' 2 := by
  have s1 := s.mess (fIx fm p.1) (e := (entryC fm p d).1) fun _ h => entry_nm o s hp h
  have k1 : Kept d { d with mess := d.mess.set (fIx fm p.1) (entryC fm p d).1 } t (t ++ [.checked p.1 (entryC fm p d).1]) 1 := ⟨rfl, rfl, rfl, rfl, Nat.le_refl _, by simp⟩
  unfold checkC at e
  split at e
  · rename_i ha
    obtain ⟨s2, k2⟩ := ask_kept s1 (far_names hp (entry_asks ha)) (s.ws.at (mem_names hp)).2 e
    exact ⟨s2, k1.trans k2⟩
  · cases e
    exact ⟨s1, { k1 with tl := by have := k1.tl; omega }⟩
theorem checks_kept {fm : Fm} (o : FmOk fm) : ∀ {ps : List (Str × Fd)} {d d' : Sd} {t t' : List Ev}, (∀ p ∈ ps, p ∈ fm.fields) → SdW fm d → checksC fm ps d t = .ok d' t' → SdW fm d' ∧ Kept d d' t t' (2 * ps.length)
  | [], d, d', t, t', _, s, e => by
    cases e
    exact ⟨s, rfl, rfl, rfl, rfl, Nat.le_refl _, by omega⟩
  | p :: ps, d, d', t, t', hp, s, e => by
    unfold checksC at e
    cases h1 : checkC fm p d t with
    | many n => rw [h1] at e; cases e
    | ok d1 t1 =>
      rw [h1] at e
      obtain ⟨s1, k1⟩ := check_kept o (hp p (.head _)) s h1
      obtain ⟨s2, k2⟩ := checks_kept o (fun q hq => hp q (.tail _ hq)) s1 e
      refine ⟨s2, (k1.trans k2).ws, (k1.trans k2).sh, (k1.trans k2).wt, (k1.trans k2).kn, (k1.trans k2).ql, ?_⟩
      have := (k1.trans k2).tl
      simp only [List.length_cons]
      omega
end W3
end

section
namespace W3
open PySem
section
variable {n : Nat} {h : Hh} {a lf lr : Nat} {p : Pl} {d : Sd} {told : List T}
end
structure Crz (n : Nat) (h : Hh) (a lf lr : Nat) (fm : Fm) (r : Ru) (p : Pl) (d : Sd) (told : List Ev) : Prop where
  c : CrsAt n h a lf lr p d (tEs told)
  fa : FormAt h lf fm
  ra : RuleAt h lr r
  fl : lf < n
  rl : lr < n
  o : FmOk fm
  ro : RuOk r
  s : SdW fm d
section
variable {n : Nat} {h h' : Hh} {a lf lr : Nat} {fm : Fm} {r : Ru} {p p' : Pl} {d d' : Sd} {told told' : List Ev}
theorem Crz.to (x : Crz n h a lf lr fm r p d told) (fz : Fz n h h') (c : CrsAt n h' a lf lr p' d' (tEs told')) (s : SdW fm d') : Crz n h' a lf lr fm r p' d' told' :=
  ⟨c, x.fa.fz fz x.fl, x.ra.fz fz x.rl, x.fl, x.rl, x.o, x.ro, s⟩
theorem Crz.app (x : Crz n h a lf lr fm r p d told) (o : Hh) : Crz n (h ++ o) a lf lr fm r p d told := x.to (Fz.app x.c.nl o) (x.c.app o) x.s
structure Fx (a : Nat) (p p' : Pl) (h h' : Hh) : Prop where
  le : h.length ≤ h'.length
  keep : ∀ k, k < h.length → k ≠ a → k ∉ p.all → h'[k]? = h[k]?
  pl : ∀ k ∈ p'.all, k ∈ p.all ∨ h.length ≤ k
theorem Fx.refl (a : Nat) (p : Pl) (h : Hh) : Fx a p p h h := ⟨Nat.le_refl _, fun _ _ _ _ => rfl, fun _ hk => .inl hk⟩
theorem Fx.app (a : Nat) (p : Pl) (h o : Hh) : Fx a p p h (h ++ o) := ⟨by simp, fun k hk _ _ => List.getElem?_append_left hk, fun _ hk => .inl hk⟩
theorem Fx.set {a k : Nat} {p : Pl} {h : Hh} (hk : k ∈ p.all) (o : Ob) : Fx a p p h (h.set k o) := ⟨by simp, fun j _ _ hj => by rw [List.getElem?_set_ne (fun e : k = j => hj (e ▸ hk))], fun _ hk => .inl hk⟩
theorem Fx.own {a : Nat} {p p' : Pl} {h : Hh} (o : Ob) (hp : ∀ k ∈ p'.all, k ∈ p.all ∨ h.length ≤ k) : Fx a p p' h (h.set a o) := ⟨by simp, fun j _ ha _ => by rw [List.getElem?_set_ne (Ne.symm ha)], hp⟩
theorem Fx.trans {a : Nat} {p p1 p2 : Pl} {h h1 h2 : Hh} (u : Fx a p p1 h h1) (v : Fx a p1 p2 h1 h2) : Fx a p p2 h h2 :=
  ⟨Nat.le_trans u.le v.le, fun k hk ha hp => (v.keep k (Nat.lt_of_lt_of_le hk u.le) ha fun z => (u.pl k z).elim hp fun q => by omega).trans (u.keep k hk ha hp), fun k hk => (v.pl k hk).elim (u.pl k) fun q => .inr (Nat.le_trans u.le q)⟩
theorem Crz.fz (x : Crz n h a lf lr fm r p d told) (u : Fx a p p' h h') : Fz n h h' := ⟨u.le, fun k hk => u.keep k (Nat.lt_of_lt_of_le hk x.c.nl) (fun e => by have := x.c.la; omega) fun z => by have := x.c.lo k z; omega⟩
theorem Crz.ev (x : Crz n h a lf lr fm r p d told) (e : Ev) : Crz n (h.set p.t (.lst (tEs told ++ [e.t]))) a lf lr fm r p d (told ++ [e]) := by
  refine x.to (Fz.set (x.c.lo p.t (by simp [Pl.all])) _) ?_ x.s
  have := x.c.tell e.t
  rw [show tEs (told ++ [e]) = tEs told ++ [e.t] by simp [tEs]]
  exact this
end
section
variable {n : Nat} {h h' : Hh} {a lf lr : Nat} {fm : Fm} {r : Ru} {p p' : Pl} {d d' : Sd} {told told' : List Ev} {q : Str × Fd}
end
theorem eqv_pr (x y : Str × Str) : PyData.eqv (dPr x) (dPr y) = decide (x = y) := by
  obtain ⟨a, b⟩ := x
  obtain ⟨a', b'⟩ := y
  have e1 : PyData.eqv (.str a) (.str a') = decide (a = a') := by rw [PyData.eqv]; rfl
  have e2 : PyData.eqv (.str b) (.str b') = decide (b = b') := by rw [PyData.eqv]; rfl
  rw [dPr, dPr, PyData.eqv]
  simp only [PyData.eqvAll, e1, e2, Prod.mk.injEq]
  by_cases h1 : a = a' <;> by_cases h2 : b = b' <;> simp [h1, h2]
theorem any_eqv {α : Type} [DecidableEq α] {f : α → PyData} (hf : ∀ x y, PyData.eqv (f x) (f y) = decide (x = y)) (x : α) : ∀ xs : List α, ((xs.map f).any fun z => PyData.eqv z (f x)) = decide (x ∈ xs)
  | [] => by simp
  | y :: ys => by
    rw [List.map_cons, List.any_cons, any_eqv hf x ys, hf]
    by_cases q : y = x
    · simp [q]
    · have q' : ¬ x = y := fun e => q e.symm
      simp [q, q']
theorem optL_map {α β : Type} {g : T → Option β} {f : α → T} {k : α → β} (e : ∀ x, g (f x) = some (k x)) : ∀ xs : List α, optL g (xs.map f) = some (xs.map k)
  | [] => rfl
  | x :: xs => by
    rw [List.map_cons]
    unfold optL
    rw [e, optL_map e xs]
    rfl
theorem toD_prn (h : Hh) (n : Nat) (q : Str × Str) : toD h (n + 2) (tPr q) = some (dPr q) := rfl
theorem toD_lst {h : Hh} {l : Nat} {ts : List T} (e : lstAt h l = some ts) (n : Nat) : toD h (n + 1) (.ref l) = (optL (toD h n) ts).map .list := by
  show (match h[l]? with | some (.lst ts) => (optL (toD h n) ts).map PyData.list | _ => none) = _
  rw [of_lstAt e]
theorem found_mem {fm : Fm} {r : Ru} {n : Str} : (∀ u ∈ foundC fm r n, u ∈ fm.fields) ∧ (foundC fm r n).length ≤ fm.fields.length := by
  unfold foundC
  split
  · split
    · simp
    · exact ⟨fun u hu => (List.mem_filter.mp hu).1, List.length_filter_le _ _⟩
  · exact ⟨fun u hu => (List.mem_filter.mp hu).1, List.length_filter_le _ _⟩
theorem with_mem {fm : Fm} {r : Ru} {n : Str} {d : Sd} : (∀ u ∈ withC fm r n d, u ∈ fm.fields) ∧ (withC fm r n d).length ≤ fm.fields.length :=
  ⟨fun u hu => found_mem.1 u (List.mem_filter.mp hu).1, Nat.le_trans (List.length_filter_le _ _) found_mem.2⟩
theorem SdW.word {fm : Fm} {d : Sd} (w : SdW fm d) (i : Nat) {v : Str} (hv : v ∈ fm.words) : SdW fm { d with words := d.words.set i v } :=
  { w with ws := ⟨by simp [w.ws.len], fun s hs => by
      rcases List.mem_or_eq_of_mem_set hs with z | z
      · exact w.ws.mem s z
      · exact z ▸ hv⟩ }
theorem SdW.wait {fm : Fm} {d : Sd} (w : SdW fm d) (b : Bool) : SdW fm { d with wait := b } := { w with }
theorem endV_len (d : Sd) (t : List Ev) : (endV d t).2.length ≤ t.length + 1 := by unfold endV; split <;> simp
theorem showC_len (fm : Fm) (i : Nat) (d : Sd) (t : List Ev) : (showC fm i d t).2.length ≤ t.length + 1 := by unfold showC; split <;> simp
theorem wipeC_len (r : Ru) (n : Str) (i : Nat) (d : Sd) (t : List Ev) : (wipeC r n i d t).2.length ≤ t.length + 1 := by unfold wipeC; split <;> simp
theorem enter1_len (fm : Fm) (q : Str × Fd) (w : Str) (d : Sd) (t : List Ev) : (enter1 fm q w d t).2.length ≤ t.length + 2 := by
  unfold enter1
  refine Nat.le_trans (endV_len _ _) ?_
  simp
theorem enter2_len (fm : Fm) (r : Ru) (q : Str × Fd) (x : Sd × List Ev) : (enter2 fm r q x).2.length ≤ x.2.length + 1 := by
  unfold enter2
  split
  · exact showC_len _ _ _ _
  · omega
theorem enterS_len (fm : Fm) (r : Ru) (q : Str × Fd) (w : Str) (d : Sd) (t : List Ev) : (enterS fm r q w d t).2.length ≤ t.length + 4 := by
  unfold enterS
  have := wipeC_len r q.1 (fIx fm q.1) (enter2 fm r q (enter1 fm q w d t)).1 (enter2 fm r q (enter1 fm q w d t)).2
  have := enter2_len fm r q (enter1 fm q w d t)
  have := enter1_len fm q w d t
  omega
theorem leaveS_len (fm : Fm) (r : Ru) (q : Str × Fd) (d : Sd) (t : List Ev) : (leaveS fm r q d t).2.length ≤ t.length + 1 := by
  unfold leaveS
  split
  · simp
  · exact showC_len _ _ _ _
theorem showsC_len (fm : Fm) (d : Sd) (t : List Ev) : ∀ k, (showsC fm k d t).2.length ≤ t.length + k
  | 0 => Nat.le_refl _
  | k + 1 => by
    have := showC_len fm k (showsC fm k d t).1 (showsC fm k d t).2
    have := showsC_len fm d t k
    unfold showsC
    omega
theorem SdW.wipe {fm : Fm} {d : Sd} (w : SdW fm d) (r : Ru) (n : Str) (i : Nat) (t : List Ev) : SdW fm (wipeC r n i d t).1 := by
  unfold wipeC
  split
  · exact w.mess i (e := none) (fun s h => by cases h)
  · exact w
theorem dd_mem {fm : Fm} {D : Dd} (k : DdOk fm D) : D.t ∈ wholeL fm := by
  have inl : ∀ {x : T}, x ∈ plainL fm → x ∈ wholeL fm := fun h => List.mem_append.mpr (.inl h)
  have nm : ∀ {p : Str × Fd}, p ∈ fm.fields → p.1 ∈ fm.names := fun hp => mem_names hp
  cases D with
  | enter p w => exact inl (List.mem_append.mpr (.inl (List.mem_append.mpr (.inl (List.mem_flatMap.mpr ⟨p.1, nm k.1, List.mem_map.mpr ⟨w, k.2, rfl⟩⟩)))))
  | leave p => exact inl (List.mem_append.mpr (.inl (List.mem_append.mpr (.inr (List.mem_map.mpr ⟨p.1, nm k, rfl⟩)))))
  | send => exact inl (List.mem_append.mpr (.inr (.head _)))
  | answer i =>
    have k : i < 3 := k
    match i, k with
    | 0, _ => exact inl (List.mem_append.mpr (.inr (.tail _ (.head _))))
    | 1, _ => exact inl (List.mem_append.mpr (.inr (.tail _ (.tail _ (.head _)))))
    | 2, _ => exact inl (List.mem_append.mpr (.inr (.tail _ (.tail _ (.tail _ (.head _))))))
  | reset => exact List.mem_append.mpr (.inr (.head _))
theorem zip_set_kn {fm : Fm} (o : FmOk fm) {ks : List Kn} (hl : ks.length = fm.fields.length) (kn : ∀ q ∈ fm.fields.zip ks, KnOk fm q.1 q.2) {q : Str × Fd} (hp : q ∈ fm.fields) {k : Kn} (hk : KnOk fm q k) : ∀ u ∈ fm.fields.zip (ks.set (fIx fm q.1) k), KnOk fm u.1 u.2 := by
  intro u hu
  obtain ⟨j, hj⟩ := List.getElem?_of_mem hu
  rw [List.getElem?_zip_eq_some] at hj
  obtain ⟨h1, h2⟩ := hj
  by_cases e : fIx fm q.1 = j
  · subst e
    rw [fIx_get o hp] at h1
    rw [List.getElem?_set_self (by rw [hl]; exact fIx_lt hp)] at h2
    have e1 : q = u.1 := by injection h1
    have e2 : k = u.2 := by injection h2
    rw [← e1, ← e2]
    exact hk
  · rw [List.getElem?_set_ne e] at h2
    exact kn u (List.mem_of_getElem? (i := j) (by rw [List.getElem?_zip_eq_some]; exact ⟨h1, h2⟩))
theorem SdW.known {fm : Fm} {d : Sd} (w : SdW fm d) (o : FmOk fm) {q : Str × Fd} (hp : q ∈ fm.fields) {k : Kn} (hk : KnOk fm q k) : SdW fm { d with known := d.known.set (fIx fm q.1) k } :=
  { w with kl := by simp [w.kl], kn := zip_set_kn o w.kl w.kn hp hk }
end W3
namespace W3
open PySem
end W3
end

section
namespace W3
open PySem
theorem around_mem {fm : Fm} {r : Ru} {q : Str × Fd} {d : Sd} (hp : q ∈ fm.fields) : (∀ u ∈ aroundL fm r q d, u ∈ fm.fields) ∧ (aroundL fm r q d).length ≤ 1 + fm.fields.length := by
  unfold aroundL
  obtain ⟨h1, h2⟩ := with_mem (fm := fm) (r := r) (n := q.1) (d := d)
  refine ⟨fun u hu => ?_, ?_⟩
  · rcases List.mem_append.mp hu with z | z
    · split at z
      · simp at z; rw [z]; exact hp
      · cases z
    · exact h1 u z
  · rw [List.length_append]
    split <;> simp <;> omega
theorem around_kept {fm : Fm} (o : FmOk fm) {r : Ru} {q : Str × Fd} (hp : q ∈ fm.fields) {d d' : Sd} {t t' : List Ev} (s : SdW fm d) (e : aroundC fm r q d t = .ok d' t') : SdW fm d' ∧ Kept d d' t t' 8 := by
  obtain ⟨h1, h2⟩ := around_mem (r := r) (d := d) hp
  obtain ⟨s', k⟩ := checks_kept o h1 s e
  have f3 := o.f3
  exact ⟨s', { k with tl := by have := k.tl; omega }⟩
theorem endV_wait (d : Sd) (t : List Ev) : (endV d t).1.wait = false := by
  unfold endV
  cases hw : d.wait <;> simp [hw]
theorem showC_wait (fm : Fm) (i : Nat) (d : Sd) (t : List Ev) : (showC fm i d t).1.wait = d.wait ∧ (showC fm i d t).1.quest = d.quest := by
  unfold showC
  split <;> exact ⟨rfl, rfl⟩
theorem wipeC_wait (r : Ru) (n : Str) (i : Nat) (d : Sd) (t : List Ev) : (wipeC r n i d t).1.wait = d.wait := by
  unfold wipeC
  split <;> rfl
theorem showsC_wait (fm : Fm) (d : Sd) (t : List Ev) : ∀ k, (showsC fm k d t).1.wait = d.wait ∧ (showsC fm k d t).1.quest = d.quest
  | 0 => ⟨rfl, rfl⟩
  | k + 1 => by
    obtain ⟨a, b⟩ := showsC_wait fm d t k
    obtain ⟨c, e⟩ := showC_wait fm k (showsC fm k d t).1 (showsC fm k d t).2
    exact ⟨c.trans a, e.trans b⟩
theorem enterS_sd {fm : Fm} {r : Ru} {q : Str × Fd} {w : Str} {d : Sd} (s : SdW fm d) (hw : w ∈ fm.words) (t : List Ev) : SdW fm (enterS fm r q w d t).1 ∧ (enterS fm r q w d t).1.wait = false := by
  have s1 : SdW fm (enter1 fm q w d t).1 := (s.word (fIx fm q.1) hw).endw _
  have w1 : (enter1 fm q w d t).1.wait = false := endV_wait _ _
  have s2 : SdW fm (enter2 fm r q (enter1 fm q w d t)).1 ∧ (enter2 fm r q (enter1 fm q w d t)).1.wait = false := by
    unfold enter2
    split
    · exact ⟨s1.show _ _, (showC_wait _ _ _ _).1.trans w1⟩
    · exact ⟨s1, w1⟩
  exact ⟨s2.1.wipe _ _ _ _, (wipeC_wait _ _ _ _ _).trans s2.2⟩
theorem leaveS_sd {fm : Fm} {r : Ru} {q : Str × Fd} {d : Sd} (s : SdW fm d) (t : List Ev) : SdW fm (leaveS fm r q d t).1 ∧ (leaveS fm r q d t).1.wait = d.wait ∧ (leaveS fm r q d t).1.quest = d.quest := by
  unfold leaveS
  split
  · exact ⟨s, rfl, rfl⟩
  · exact ⟨s.show _ _, (showC_wait _ _ _ _).1, (showC_wait _ _ _ _).2⟩
theorem take_sd {fm : Fm} (o : FmOk fm) {r : Ru} {q : Str × Fd} {w : Str} {nw : Bool} {d : Sd} (hp : q ∈ fm.fields) (hf : q.2.far.isSome = true) (hw : w ∈ fm.words) (s : SdW fm d) : SdW fm (takeC fm r q w nw d) ∧ (takeC fm r q w nw d).wait = d.wait ∧ (takeC fm r q w nw d).quest = d.quest := by
  unfold takeC
  split
  · have k := s.known o hp (k := some (w, farV fm q w)) fun w' e' e => by cases e; exact ⟨hf, hw, rfl⟩
    refine ⟨?_, rfl, rfl⟩
    unfold takeMess
    split
    · exact k.mess (fIx fm q.1) fun s hs => farV_nm o hp hs
    · exact k
  · exact ⟨s, rfl, rfl⟩
theorem rest_sd {fm : Fm} {snd : Str} {d : Sd} (s : SdW fm d) (hw : d.wait = true → snd = "wait") (t : List Ev) : SdOk fm snd (restC d t).1 := by
  unfold restC
  split
  · exact (s.wait false).ok fun z => by cases z
  · rename_i hn
    refine s.ok fun z => ⟨hw z, fun q => hn ⟨z, q⟩⟩
theorem quest_at {fm : Fm} {d : Sd} (o : FmOk fm) (s : SdW fm d) {i : Nat} {m w : Str} {nw : Bool} (e : d.quest[i]? = some (m, w, nw)) : ∃ q ∈ fm.fields, q.2.far.isSome = true ∧ q.1 = m ∧ w ∈ fm.words ∧ fdAt fm (.str m) = some q := by
  obtain ⟨hm, hw⟩ := s.qn _ (List.mem_of_getElem? e)
  obtain ⟨q, hp, hf, rfl⟩ := far_mem hm
  exact ⟨q, hp, hf, rfl, hw, fdAt_some o hp⟩
theorem step_ok {fm : Fm} (o : FmOk fm) {r : Ru} {d d' : Sd} {D : Dd} {t' : List Ev} (s : SdOk fm r.sending d) (k : DdOk fm D) (e : stepC fm r D d = .ok d' t') : SdOk fm r.sending d' := by
  cases D with
  | enter q w =>
    obtain ⟨hp, hw⟩ := k
    have e : enterC fm r q w d [] = .ok d' t' := e
    unfold enterC at e
    obtain ⟨s1, w1⟩ := enterS_sd (r := r) (q := q) s.w hw []
    split at e
    · cases e; exact s
    · split at e
      · obtain ⟨s2, kp⟩ := around_kept o hp s1 e
        exact s2.ok fun z => by rw [kp.wt, w1] at z; cases z
      · cases e
        exact s1.ok fun z => by rw [w1] at z; cases z
  | leave q =>
    have e : leaveC fm r q d [] = .ok d' t' := e
    obtain ⟨s1, w1, q1⟩ := leaveS_sd (r := r) (q := q) s.w []
    obtain ⟨s2, kp⟩ := around_kept o k s1 e
    refine s2.ok fun z => ?_
    rw [kp.wt, w1] at z
    refine ⟨(s.wt z).1, fun q0 => (s.wt z).2 ?_⟩
    have := kp.ql
    rw [q0, q1] at this
    exact List.length_eq_zero_iff.mp (by simpa using this)
  | send =>
    have e : sendC fm r d [] = .ok d' t' := e
    unfold sendC at e
    split at e
    · cases e; exact s
    · rename_i hw
      cases hc : checksC fm fm.fields (showsC fm fm.fields.length d []).1 (showsC fm fm.fields.length d []).2 with
      | many m => rw [hc] at e; cases e
      | ok d2 t2 =>
        rw [hc] at e
        obtain ⟨s2, kp⟩ := checks_kept o (fun q hq => hq) (s.w.shows [] fm.fields.length) hc
        have w2 : d2.wait = false := by
          rw [kp.wt, (showsC_wait fm d [] fm.fields.length).1]
          simpa using hw
        have e : Rz.ok (endSend r d2 t2).1 (endSend r d2 t2).2 = .ok d' t' := e
        injection e with e1 e2
        rw [← e1]
        unfold endSend
        split
        · exact s2.ok fun z => by rw [w2] at z; cases z
        · split
          · exact s2.ok fun z => by rw [w2] at z; cases z
          · rename_i h1
            split
            · rename_i h3
              exact (s2.wait true).ok fun _ => ⟨h3, fun z => h1 (.inl z)⟩
            · exact s2.ok fun z => by rw [w2] at z; cases z
  | answer i =>
    have e : Rz.of (answerC fm r i d []) = .ok d' t' := e
    unfold Rz.of at e
    injection e with e1 e2
    rw [← e1]
    unfold answerC
    cases hq : d.quest[i]? with
    | none => exact s
    | some x =>
      obtain ⟨m, w, nw⟩ := x
      obtain ⟨q, hp, hf, rfl, hw, ef⟩ := quest_at o s.w hq
      simp only [ef]
      have s1 : SdW fm { d with quest := d.quest.eraseIdx i } := { s.w with ql := (show ((d.quest.eraseIdx i).length : Int) ≤ fm.room by have := List.length_eraseIdx_le d.quest i; have := s.ql; omega), qn := fun u hu => s.qn u (List.mem_of_mem_eraseIdx hu) }
      obtain ⟨s2, w2, q2⟩ := take_sd o (r := r) (nw := nw) hp hf hw s1
      unfold answerP
      exact rest_sd s2 (fun z => by rw [w2] at z; exact (s.wt z).1) _
  | reset =>
    have e : Rz.of (resetV fm d []) = .ok d' t' := e
    unfold Rz.of at e
    injection e with e1 e2
    rw [← e1]
    refine SdW.ok ?_ fun z => by
      have : (resetV fm d []).1.wait = false := endV_wait _ _
      rw [this] at z; cases z
    refine SdW.endw ?_ _
    refine ⟨⟨firsts_len fm, fun s hs => ?_⟩, by simp, by simp, fun s hs => ?_, s.kl, s.kn, s.ql, s.qn⟩
    · obtain ⟨p, hp, rfl⟩ := List.mem_map.mp hs
      exact (o.fs p hp).first
    · exact absurd hs (by simp)
def EvOk (fm : Fm) : Ev → Prop
  | .entered n w => n ∈ fm.names ∧ w ∈ fm.words
  | .dropped => True
  | .opened n => n ∈ fm.names
  | .wiped n => n ∈ fm.names
  | .checked n e => n ∈ fm.names ∧ ∀ s, e = some s → Nm s
  | .asked n w => n ∈ farNames fm ∧ w ∈ fm.words
  | .answered n w e _ => ∃ q ∈ fm.fields, q.2.far.isSome = true ∧ n = q.1 ∧ w ∈ fm.words ∧ e = farV fm q w
  | .sent ws => WsOk fm ws
  | .waits => True
  | .held => True
  | .reset => True
abbrev EvsOk (fm : Fm) (t : List Ev) : Prop := ∀ e ∈ t, EvOk fm e
theorem EvsOk.snoc {fm : Fm} {t : List Ev} (h : EvsOk fm t) {e : Ev} (he : EvOk fm e) : EvsOk fm (t ++ [e]) := fun x hx => by
  rcases List.mem_append.mp hx with z | z
  · exact h x z
  · simp at z; rw [z]; exact he
theorem EvsOk.nil {fm : Fm} : EvsOk fm [] := fun x hx => by cases hx
theorem ask_evs {fm : Fm} {n w : Str} {d d' : Sd} {t t' : List Ev} (hn : n ∈ farNames fm) (hw : w ∈ fm.words) (h : EvsOk fm t) (e : askC fm n w d t = .ok d' t') : EvsOk fm t' := by
  unfold askC at e
  split at e
  · cases e; exact h
  · split at e
    · cases e
    · cases e; exact h.snoc ⟨hn, hw⟩
theorem check_evs {fm : Fm} (o : FmOk fm) {p : Str × Fd} (hp : p ∈ fm.fields) {d d' : Sd} {t t' : List Ev} (s : SdW fm d) (h : EvsOk fm t) (e : checkC fm p d t = .ok d' t') : EvsOk fm t' := by
  have h1 : EvsOk fm (t ++ [.checked p.1 (entryC fm p d).1]) := h.snoc ⟨mem_names hp, fun _ z => entry_nm o s hp z⟩
  unfold checkC at e
  split at e
  · rename_i ha
    exact ask_evs (far_names hp (entry_asks ha)) (s.ws.at (mem_names hp)).2 h1 e
  · cases e; exact h1
theorem checks_evs {fm : Fm} (o : FmOk fm) : ∀ {ps : List (Str × Fd)} {d d' : Sd} {t t' : List Ev}, (∀ p ∈ ps, p ∈ fm.fields) → SdW fm d → EvsOk fm t → checksC fm ps d t = .ok d' t' → EvsOk fm t'
  | [], d, d', t, t', _, s, h, e => by cases e; exact h
  | p :: ps, d, d', t, t', hp, s, h, e => by
    unfold checksC at e
    cases h1 : checkC fm p d t with
    | many n => rw [h1] at e; cases e
    | ok d1 t1 =>
      rw [h1] at e
      exact checks_evs o (fun q hq => hp q (.tail _ hq)) (check_kept o (hp p (.head _)) s h1).1 (check_evs o (hp p (.head _)) s h h1) e
theorem endV_evs {fm : Fm} {d : Sd} {t : List Ev} (h : EvsOk fm t) : EvsOk fm (endV d t).2 := by
  unfold endV
  split
  · exact h.snoc trivial
  · exact h
theorem showC_evs {fm : Fm} {i : Nat} (hi : i < fm.fields.length) {d : Sd} {t : List Ev} (h : EvsOk fm t) : EvsOk fm (showC fm i d t).2 := by
  unfold showC
  split
  · refine h.snoc ?_
    show W3.nameAt fm i ∈ fm.names
    have : i < fm.names.length := by simp [Fm.names, hi]
    simp [W3.nameAt, this]
  · exact h
theorem showsC_evs {fm : Fm} {d : Sd} {t : List Ev} (h : EvsOk fm t) : ∀ k, k ≤ fm.fields.length → EvsOk fm (showsC fm k d t).2
  | 0, _ => h
  | k + 1, hk => showC_evs (by omega) (showsC_evs h k (by omega))
theorem wipeC_evs {fm : Fm} {r : Ru} {n : Str} {i : Nat} {d : Sd} {t : List Ev} (hn : n ∈ fm.names) (h : EvsOk fm t) : EvsOk fm (wipeC r n i d t).2 := by
  unfold wipeC
  split
  · exact h.snoc hn
  · exact h
theorem enterS_evs {fm : Fm} {r : Ru} {q : Str × Fd} {w : Str} {d : Sd} {t : List Ev} (hp : q ∈ fm.fields) (hw : w ∈ fm.words) (h : EvsOk fm t) : EvsOk fm (enterS fm r q w d t).2 := by
  unfold enterS
  refine wipeC_evs (mem_names hp) ?_
  have h1 : EvsOk fm (enter1 fm q w d t).2 := endV_evs (h.snoc ⟨mem_names hp, hw⟩)
  unfold enter2
  split
  · exact showC_evs (fIx_lt hp) h1
  · exact h1
theorem leaveS_evs {fm : Fm} {r : Ru} {q : Str × Fd} {d : Sd} {t : List Ev} (hp : q ∈ fm.fields) (h : EvsOk fm t) : EvsOk fm (leaveS fm r q d t).2 := by
  unfold leaveS
  split
  · exact h
  · exact showC_evs (fIx_lt hp) h
theorem rest_evs {fm : Fm} {d : Sd} {t : List Ev} (w : WsOk fm d.words) (h : EvsOk fm t) : EvsOk fm (restC d t).2 ∧ (restC d t).2.length ≤ t.length + 1 := by
  unfold restC
  split
  · refine ⟨h.snoc ?_, by simp⟩
    split
    · trivial
    · exact w
  · exact ⟨h, by simp⟩
theorem endSend_evs {fm : Fm} {r : Ru} {d : Sd} {t : List Ev} (w : WsOk fm d.words) (h : EvsOk fm t) : EvsOk fm (endSend r d t).2 ∧ (endSend r d t).2.length = t.length + 1 := by
  unfold endSend
  split
  · exact ⟨h.snoc trivial, by simp⟩
  · split
    · exact ⟨h.snoc w, by simp⟩
    · split
      · exact ⟨h.snoc trivial, by simp⟩
      · exact ⟨h.snoc trivial, by simp⟩
theorem step_evs {fm : Fm} (o : FmOk fm) {r : Ru} {d d' : Sd} {D : Dd} {t' : List Ev} (s : SdOk fm r.sending d) (k : DdOk fm D) (e : stepC fm r D d = .ok d' t') : EvsOk fm t' ∧ t'.length ≤ 20 := by
  have f3 := o.f3
  cases D with
  | enter q w =>
    obtain ⟨hp, hw⟩ := k
    have e : enterC fm r q w d [] = .ok d' t' := e
    unfold enterC at e
    have l1 := enterS_len fm r q w d []
    have h1 := enterS_evs (r := r) (d := d) hp hw (EvsOk.nil (fm := fm))
    obtain ⟨s1, w1⟩ := enterS_sd (r := r) (q := q) s.w hw []
    split at e
    · cases e; exact ⟨.nil, by simp⟩
    · split at e
      · have tl := (around_kept o hp s1 e).2.tl
        simp at l1
        exact ⟨checks_evs o (around_mem hp).1 s1 h1 e, by omega⟩
      · cases e
        simp at l1
        exact ⟨h1, by omega⟩
  | leave q =>
    have e : leaveC fm r q d [] = .ok d' t' := e
    have l1 := leaveS_len fm r q d []
    simp at l1
    obtain ⟨s1, w1, q1⟩ := leaveS_sd (r := r) (q := q) s.w []
    have tl := (around_kept o k s1 e).2.tl
    exact ⟨checks_evs o (around_mem k).1 s1 (leaveS_evs k .nil) e, by omega⟩
  | send =>
    have e : sendC fm r d [] = .ok d' t' := e
    unfold sendC at e
    split at e
    · cases e; exact ⟨.nil, by simp⟩
    · cases hc : checksC fm fm.fields (showsC fm fm.fields.length d []).1 (showsC fm fm.fields.length d []).2 with
      | many m => rw [hc] at e; cases e
      | ok d2 t2 =>
        rw [hc] at e
        obtain ⟨s2, kp⟩ := checks_kept o (fun q hq => hq) (s.w.shows [] fm.fields.length) hc
        have e : Rz.ok (endSend r d2 t2).1 (endSend r d2 t2).2 = .ok d' t' := e
        injection e with e1 e2
        rw [← e2]
        have h2 := checks_evs o (fun q hq => hq) (s.w.shows [] fm.fields.length) (showsC_evs .nil _ (Nat.le_refl _)) hc
        obtain ⟨h3, l3⟩ := endSend_evs (r := r) s2.ws h2
        have l1 := showsC_len fm d [] fm.fields.length
        have tl := kp.tl
        simp at l1
        exact ⟨h3, by omega⟩
  | answer i =>
    have e : Rz.of (answerC fm r i d []) = .ok d' t' := e
    unfold Rz.of at e
    injection e with e1 e2
    rw [← e2]
    unfold answerC
    cases hq : d.quest[i]? with
    | none => exact ⟨.nil, by simp⟩
    | some x =>
      obtain ⟨m, w, nw⟩ := x
      obtain ⟨q, hp, hf, rfl, hw, ef⟩ := quest_at o s.w hq
      simp only [ef]
      unfold answerP
      have ww : WsOk fm (takeC fm r q w nw { d with quest := d.quest.eraseIdx i }).words := by
        unfold takeC
        split
        · exact s.ws
        · exact s.ws
      obtain ⟨h1, l1⟩ := rest_evs (t := [] ++ [.answered q.1 w (farV fm q w) (takenC fm r q w nw { d with quest := d.quest.eraseIdx i })]) ww (EvsOk.nil.snoc (show EvOk fm (.answered q.1 w (farV fm q w) (takenC fm r q w nw { d with quest := d.quest.eraseIdx i })) from ⟨q, hp, hf, rfl, hw, rfl⟩))
      exact ⟨h1, by simp at l1 ⊢; omega⟩
  | reset =>
    have e : Rz.of (resetV fm d []) = .ok d' t' := e
    unfold Rz.of at e
    injection e with e1 e2
    rw [← e2]
    unfold resetV
    refine ⟨endV_evs (EvsOk.nil.snoc trivial), Nat.le_trans (endV_len _ _) (by simp)⟩
theorem flat_ent (x : Ent) : flatT (tE x) = true := by cases x <;> rfl
theorem pure_ev {fm : Fm} (o : FmOk fm) {e : Ev} (h : EvOk fm e) : PureT 2 e.t := by
  have f3 := o.f3
  cases e with
  | sent ws =>
    refine PureT.tup (by simp) fun t ht => ?_
    simp at ht
    rcases ht with rfl | rfl
    · exact .inl rfl
    · refine pure_strs (fun t ht => by obtain ⟨s, _, rfl⟩ := List.mem_map.mp ht; rfl) ?_
      rw [List.length_map, (show WsOk fm ws from h).len]; omega
  | checked n e => exact pure_strs (n := 1) (fun t ht => by simp at ht; rcases ht with rfl | rfl | rfl <;> first | rfl | exact flat_ent _) (by simp)
  | answered n w e k => exact pure_strs (n := 1) (fun t ht => by simp at ht; rcases ht with rfl | rfl | rfl | rfl | rfl <;> first | rfl | exact flat_ent _) (by simp)
  | _ => exact pure_strs (n := 1) (fun t ht => by simp at ht; rcases ht with rfl | rfl | rfl <;> rfl) (by simp)
theorem pure_evs {fm : Fm} (o : FmOk fm) {t : List Ev} (h : EvsOk fm t) (hl : t.length ≤ 100) : PureT 3 (.tup (tEs t)) :=
  PureT.tup (by rw [List.length_map]; omega) fun x hx => by
    obtain ⟨e, he, rfl⟩ := List.mem_map.mp hx
    exact pure_ev o (h e he)
theorem pure_sd {fm : Fm} (o : FmOk fm) {d : Sd} (s : SdW fm d) : PureT 4 d.t := by
  have f3 := o.f3
  have ql := s.ql; have r3 := o.r3
  refine PureT.tup (by simp) fun t ht => ?_
  simp only [List.mem_cons, List.not_mem_nil, or_false] at ht
  rcases ht with rfl | rfl | rfl | rfl | rfl | rfl
  · exact pure_strs (fun t ht => by obtain ⟨s, _, rfl⟩ := List.mem_map.mp ht; rfl) (by rw [List.length_map, s.ws.len]; omega)
  · exact pure_strs (fun t ht => by obtain ⟨s, _, rfl⟩ := List.mem_map.mp ht; rfl) (by rw [List.length_map, s.sl]; omega)
  · exact pure_strs (fun t ht => by obtain ⟨s, _, rfl⟩ := List.mem_map.mp ht; exact flat_ent _) (by rw [List.length_map, s.ml]; omega)
  · refine PureT.tup (by rw [List.length_map, s.kl]; omega) fun t ht => ?_
    obtain ⟨k, _, rfl⟩ := List.mem_map.mp ht
    rcases k with _ | ⟨w, e⟩
    · exact .inl rfl
    · exact pure_strs (fun t ht => by simp at ht; rcases ht with rfl | rfl; rfl; exact flat_ent _) (by simp)
  · refine PureT.tup (by rw [List.length_map]; omega) fun t ht => ?_
    obtain ⟨k, _, rfl⟩ := List.mem_map.mp ht
    exact pure_strs (fun t ht => by simp at ht; rcases ht with rfl | rfl | rfl <;> rfl) (by simp)
  · exact .inl rfl
theorem pure_dd {fm : Fm} {D : Dd} (k : DdOk fm D) : PureT 1 D.t := wholeL_pure (dd_mem k)
end W3
end

section
namespace W3
open PySem
structure Made (h : Hh) (l ln ar lf : Nat) (fm : Fm) (r : Ru) : Prop where
  o : FmOk fm
  ro : RuOk r
  bx : IsBox h l
  nm : lstAt h ln = some (tSs fm.names)
  ra : RuleAt h ar r
  fa : FormAt h lf fm
  nl : ln ≠ l
  al : ar ≠ l
  fl : lf ≠ l
theorem Made.up {h h' : Hh} {l ln ar lf : Nat} {fm : Fm} {r : Ru} (m : Made h l ln ar lf fm r) (u : Up l h h') : Made h' l ln ar lf fm r :=
  ⟨m.o, m.ro, u.box, u.lst m.nm m.nl, m.ra.upK u m.al, m.fa.upK u m.fl, m.nl, m.al, m.fl⟩
theorem Made.app {h : Hh} {l ln ar lf : Nat} {fm : Fm} {r : Ru} (m : Made h l ln ar lf fm r) (o : Hh) : Made (h ++ o) l ln ar lf fm r := m.up (Up.app m.bx o)
theorem Made.nlt {h : Hh} {l ln ar lf : Nat} {fm : Fm} {r : Ru} (m : Made h l ln ar lf fm r) : ln < h.length := lstAt_lt m.nm
theorem Made.kp {h h' : Hh} {l ln ar lf n : Nat} {fm : Fm} {r : Ru} (m : Made h l ln ar lf fm r) (u : Kp l n h h') (hn : h.length ≤ n) : Made h' l ln ar lf fm r := by
  refine ⟨m.o, m.ro, u.box, u.lst m.nm (by have := m.nlt; omega) m.nl, ?_, ?_, m.nl, m.al, m.fl⟩
  · unfold RuleAt
    rw [u.keep ar (by have := m.ra.lt; omega) m.al]
    exact m.ra
  · unfold FormAt
    rw [u.keep lf (by have := m.fa.lt; omega) m.fl]
    exact m.fa
end W3
end

section
namespace W3
open PySem
end W3
end

section
namespace W3
open PySem
def Ev.w : Ev → Str
  | .entered _ _ => "entered"
  | .dropped => "dropped"
  | .opened _ => "opened"
  | .wiped _ => "wiped"
  | .checked _ _ => "checked"
  | .asked _ _ => "asked"
  | .answered _ _ _ _ => "answered"
  | .sent _ => "sent"
  | .waits => "waits"
  | .held => "held"
  | .reset => "reset"
def Ev.args : Ev → List T
  | .entered n w => [.str n, .str w]
  | .dropped => []
  | .opened n => [.str n]
  | .wiped n => [.str n]
  | .checked n e => [.str n, tE e]
  | .asked n w => [.str n, .str w]
  | .answered n w e k => [.str n, .str w, tE e, .bl k]
  | .sent ws => [.tup (tSs ws)]
  | .waits => []
  | .held => []
  | .reset => []
def is_sent : Ev → Bool | .sent _ => true | _ => false
end W3
end

section
namespace W3
open PySem
def topT (p : Pl) (b : Bool) : List T := [.ref p.w, .ref p.s, .ref p.m, .ref p.k, .ref p.q, .bl b]
structure LSt (n : Nat) (h : Hh) (ls : Nat) (p : Pl) (d : Sd) : Prop where
  top : lstAt h ls = some (topT p d.wait)
  ww : lstAt h p.w = some (tSs d.words)
  ss : lstAt h p.s = some (d.shown.map T.bl)
  mm : lstAt h p.m = some (d.mess.map tE)
  kk : lstAt h p.k = some (d.known.map tK)
  qq : lstAt h p.q = some (d.quest.map tQ)
  nd : (ls ≠ p.w ∧ ls ≠ p.s ∧ ls ≠ p.m ∧ ls ≠ p.k ∧ ls ≠ p.q) ∧ (p.w ≠ p.s ∧ p.w ≠ p.m ∧ p.w ≠ p.k ∧ p.w ≠ p.q) ∧ (p.s ≠ p.m ∧ p.s ≠ p.k ∧ p.s ≠ p.q) ∧ (p.m ≠ p.k ∧ p.m ≠ p.q) ∧ p.k ≠ p.q
  lo : n ≤ ls ∧ n ≤ p.w ∧ n ≤ p.s ∧ n ≤ p.m ∧ n ≤ p.k ∧ n ≤ p.q
section
variable {n : Nat} {h : Hh} {ls : Nat} {p : Pl} {d : Sd}
theorem LSt.llt (c : LSt n h ls p d) : ls < h.length := lstAt_lt c.top
theorem LSt.nl (c : LSt n h ls p d) : n ≤ h.length := Nat.le_of_lt (Nat.lt_of_le_of_lt c.lo.1 c.llt)
theorem LSt.app (c : LSt n h ls p d) (o : Hh) : LSt n (h ++ o) ls p d := ⟨lstAt_app o c.top, lstAt_app o c.ww, lstAt_app o c.ss, lstAt_app o c.mm, lstAt_app o c.kk, lstAt_app o c.qq, c.nd, c.lo⟩
theorem LSt.lts (c : LSt n h ls p d) : p.w < h.length ∧ p.s < h.length ∧ p.m < h.length ∧ p.k < h.length ∧ p.q < h.length := ⟨lstAt_lt c.ww, lstAt_lt c.ss, lstAt_lt c.mm, lstAt_lt c.kk, lstAt_lt c.qq⟩
theorem LSt.wait (c : LSt n h ls p d) (b : Bool) : LSt n (h.set ls (.lst (topT p b))) ls p { d with wait := b } := by
  obtain ⟨⟨nlw, nls, nlm, nlk, nlq⟩, _⟩ := c.nd
  exact ⟨lstAt_set_self c.llt, by rw [lstAt_set_ne nlw]; exact c.ww, by rw [lstAt_set_ne nls]; exact c.ss, by rw [lstAt_set_ne nlm]; exact c.mm, by rw [lstAt_set_ne nlk]; exact c.kk, by rw [lstAt_set_ne nlq]; exact c.qq, c.nd, c.lo⟩
end
end W3
end

section
namespace W3
open PySem
section
variable {fm : Fm} {r : Ru} {k : Nat} {s : Sd}
end
structure RpOk (fm : Fm) (s : Sd) : Prop where
  ws : WsOk fm s.words
  sl : s.shown.length = fm.fields.length
  ml : s.mess.length = fm.fields.length
  kl : s.known.length = fm.fields.length
  ql : s.quest.length ≤ 100
end W3
end

section
namespace W3
open PySem
def nearRows : Nr → List (List Ent) | .alone r => [r] | .looks _ rs => rs
def farRows : Option (List Ent) → List (List Ent) | none => [] | some r => [r]
def rowsOf (f : Fd) : List (List Ent) := nearRows f.nr ++ farRows f.far
def notesOf (f : Fd) : List Str := (rowsOf f).flatMap fun r => r.filterMap id
def MessOk (fm : Fm) (sh : List Bool) (ms : List Ent) : Prop := ∀ (i : Nat) (q : Str × Fd) (s : Str), fm.fields[i]? = some q → ms[i]? = some (some s) → sh[i]? = some true ∧ s ∈ notesOf q.2
def QuestOk (qs : List Qn) : Prop := qs.Pairwise fun a b => a.1 = b.1 → a.2.2 = false
structure Rc (fm : Fm) (d : Sd) : Prop where
  m : MessOk fm d.shown d.mess
  q : QuestOk d.quest
theorem MessOk.set {fm : Fm} (o : FmOk fm) {sh : List Bool} {ms : List Ent} (h : MessOk fm sh ms) {p : Str × Fd} (hp : p ∈ fm.fields) {e : Ent} (he : ∀ s, e = some s → sh[fIx fm p.1]? = some true ∧ s ∈ notesOf p.2) : MessOk fm sh (ms.set (fIx fm p.1) e) := by
  intro i q s hi hm
  by_cases c : fIx fm p.1 = i
  · subst c
    have ef := fIx_get o hp
    rw [ef] at hi
    cases hi
    by_cases hl : fIx fm p.1 < ms.length
    · rw [List.getElem?_set_self hl] at hm
      injection hm with hm
      exact he s hm
    · rw [List.getElem?_eq_none (by rw [List.length_set]; omega)] at hm
      cases hm
  · rw [List.getElem?_set_ne c] at hm
    exact h i q s hi hm
theorem MessOk.show {fm : Fm} {sh : List Bool} {ms : List Ent} (h : MessOk fm sh ms) (j : Nat) : MessOk fm (sh.set j true) ms := by
  intro i q s hi hm
  obtain ⟨h1, h2⟩ := h i q s hi hm
  refine ⟨?_, h2⟩
  by_cases c : j = i
  · subst c
    rw [List.getElem?_set_self (List.getElem?_eq_some_iff.mp h1).1]
  · rw [List.getElem?_set_ne c]; exact h1
theorem QuestOk.erase {qs : List Qn} (h : QuestOk qs) (i : Nat) : QuestOk (qs.eraseIdx i) := List.Pairwise.sublist (List.eraseIdx_sublist qs i) h
def startD (fm : Fm) : Sd := ⟨fm.firsts, List.replicate fm.fields.length false, List.replicate fm.fields.length none, List.replicate fm.fields.length none, [], false⟩
end W3
end

section
namespace W3
open PySem
structure Began (h : Hh) (l ln : Nat) (fm : Fm) : Prop where
  o : FmOk fm
  bx : IsBox h l
  nm : lstAt h ln = some (tSs fm.names)
  nl : ln ≠ l
theorem Began.up {h h' : Hh} {l ln : Nat} {fm : Fm} (m : Began h l ln fm) (u : Up l h h') : Began h' l ln fm := ⟨m.o, u.box, u.lst m.nm m.nl, m.nl⟩
theorem Began.app {h : Hh} {l ln : Nat} {fm : Fm} (m : Began h l ln fm) (o : Hh) : Began (h ++ o) l ln fm := m.up (Up.app m.bx o)
end W3
end

section
namespace W3
open PySem
def Rz.pre (t : List Ev) : Rz → Rz | .ok d u => .ok d (t ++ u) | .many n => .many n
def notWiped : Ev → Bool | .wiped _ => false | _ => true
def Rz.Lk : Rz → Rz → Prop
  | .ok d t, .ok d' t' => d = d' ∧ t.filter notWiped = t'.filter notWiped
  | .many n, .many m => n = m
  | _, _ => False
theorem Rz.Lk.refl (x : Rz) : x.Lk x := by cases x <;> simp [Rz.Lk]
theorem Lk.pre {x : Rz} {t u : List Ev} (h : t.filter notWiped = u.filter notWiped) : (x.pre t).Lk (x.pre u) := by
  cases x with
  | ok d v => simp [Rz.pre, Rz.Lk, h]
  | many n => simp [Rz.pre, Rz.Lk]
end W3
end

section
namespace W3
open PySem
def strT : T → Str | .str s => s | _ => ⟨#[]⟩
def blT : T → Bool | .bl b => b | _ => false
def aroT : T → Aro | .tup ts => .pairs (sortP (ts.map prOf)) | .str s => .word s | _ => .word ⟨#[]⟩
def s6 (p k : Str) (v x : T) : T := if p = k then v else x
def putR (p : Str) (v : T) (r : Ru) : Ru := { opens := if p = "opens" then strT v else r.opens, checks := if p = "checks" then strT v else r.checks, around := if p = "around" then aroT v else r.around, wipes := if p = "wipes" then blT v else r.wipes, taken := if p = "taken" then strT v else r.taken, sending := if p = "sending" then strT v else r.sending }
theorem fit_wipes (b : Bool) : fitsB "wipes" (.bl b) = true := by
  unfold fitsB
  rw [if_pos rfl]
  rfl
structure Chg (p : Str) (v : T) (r : Ru) (h : Hh) : Prop where
  ok : RuOk (putR p v r)
  ne : ruleErr PARTSL [s6 p "opens" v (.str r.opens), s6 p "checks" v (.str r.checks), s6 p "around" v r.around.t, s6 p "wipes" v (.bl r.wipes), s6 p "taken" v (.str r.taken), s6 p "sending" v (.str r.sending)] = none
  ins : ruleIns (s6 p "opens" v (.str r.opens)) (s6 p "checks" v (.str r.checks)) (s6 p "around" v r.around.t) (s6 p "wipes" v (.bl r.wipes)) (s6 p "taken" v (.str r.taken)) (s6 p "sending" v (.str r.sending)) = (putR p v r).ins
  j : ∀ x ∈ [s6 p "opens" v (.str r.opens), s6 p "checks" v (.str r.checks), s6 p "around" v r.around.t, s6 p "wipes" v (.bl r.wipes), s6 p "taken" v (.str r.taken), s6 p "sending" v (.str r.sending)], JdN 2 x h ∧ shortT x
def takesB (p v : T) : Bool := match p with | .str s => decide (s ∈ PARTSL) && fitsB s v | _ => false
def putP (p v : T) (r : Ru) : Ru := match p with | .str s => putR s v r | _ => r
def WithPW (f : Fn) : Prop := ∀ {h : Hh} {a : Nat} {r : Ru} {p v : T} {Q : T → Hh → Prop} {E : EQ}, RuleAt h a r → RuOk r → Jd p h → JdN 2 v h → shortT v → (takesB p v = true → RuOk (putP p v r) → ∀ b z, h.length ≤ b → RuleAt (h ++ z) b (putP p v r) → Q (.ref b) (h ++ z)) →
  (takesB p v = false → E "InvalidRule" [("part", p)] h) → (f [.ref a, p, v] h).wp Q E
theorem WithPW.good {f : Fn} (W : WithPW f) {h : Hh} {a : Nat} {r : Ru} {p : Str} {v : T} {Q : T → Hh → Prop} {E : EQ} (ra : RuleAt h a r) (o : RuOk r) (hp : p ∈ PARTSL) (hf : fitsB p v = true) (jv : JdN 2 v h) (sv : shortT v)
    (hq : ∀ b z, h.length ≤ b → RuOk (putR p v r) → RuleAt (h ++ z) b (putR p v r) → Q (.ref b) (h ++ z)) : (f [.ref a, .str p, v] h).wp Q E := by
  have pl : ∀ x ∈ PARTSL, x.length ≤ 1000 := by decide +kernel
  have ht : takesB (.str p) v = true := by simp only [takesB, hf, decide_eq_true hp, Bool.and_self]
  refine W ra o (show Jd (.str p) h from pl p hp) jv sv (fun _ o' b z bl ra' => hq b z bl o' ra') (fun hn => ?_)
  rw [ht] at hn
  cases hn
theorem WithPW.word {f : Fn} (W : WithPW f) {h : Hh} {a : Nat} {r : Ru} {p s : Str} {Q : T → Hh → Prop} {E : EQ} (ra : RuleAt h a r) (o : RuOk r) (hp : p ∈ PARTSL) (hf : fitsB p (.str s) = true) (hs : s.length ≤ 1000)
    (hq : ∀ b z, h.length ≤ b → RuOk (putR p (.str s) r) → RuleAt (h ++ z) b (putR p (.str s) r) → Q (.ref b) (h ++ z)) : (f [.ref a, .str p, .str s] h).wp Q E :=
  W.good ra o hp hf (jdN_str hs) (fun ts e => by cases e) hq
theorem WithPW.bool {f : Fn} (W : WithPW f) {h : Hh} {a : Nat} {r : Ru} {b : Bool} {Q : T → Hh → Prop} {E : EQ} (ra : RuleAt h a r) (o : RuOk r)
    (hq : ∀ x z, h.length ≤ x → RuOk { r with wipes := b } → RuleAt (h ++ z) x { r with wipes := b } → Q (.ref x) (h ++ z)) : (f [.ref a, .str "wipes", .bl b] h).wp Q E := by
  have e : putR "wipes" (.bl b) r = { r with wipes := b } := by kernel_rfl
  exact W.good ra o (by decide +kernel) (fit_wipes b) jdN_bl (fun ts e => by cases e) fun x z hx o' ra' => by rw [e] at o' ra'; exact hq x z hx o' ra'
theorem WithPW.pairs {f : Fn} (W : WithPW f) {h : Hh} {a : Nat} {r : Ru} {ps : Prs} {Q : T → Hh → Prop} {E : EQ} (ra : RuleAt h a r) (o : RuOk r) (po : PrsOk ps) (hl : ps.length < 64)
    (hq : ∀ x z, h.length ≤ x → RuOk { r with around := .pairs (sortP ps) } → RuleAt (h ++ z) x { r with around := .pairs (sortP ps) } → Q (.ref x) (h ++ z)) : (f [.ref a, .str "around", .tup (ps.map tPr)] h).wp Q E := by
  have e0 : putR "around" (.tup (ps.map tPr)) r = { r with around := aroT (.tup (ps.map tPr)) } := by kernel_rfl
  have e : putR "around" (.tup (ps.map tPr)) r = { r with around := .pairs (sortP ps) } := by
    rw [e0]
    simp only [aroT, prOf_tPr]
  have ml : MEN.lookup ("around" : Str) = some (["own", "looks"] : List Str) := by decide +kernel
  have hf : fitsB "around" (.tup (ps.map tPr)) = true := by
    unfold fitsB
    rw [if_neg (by decide +kernel), ml, pairsB_prs po]
    simp
  have nm : ∀ p ∈ ps, p.1.length ≤ 1000 ∧ p.2.length ≤ 1000 := fun p hp => ⟨Nat.le_trans (po.nm p hp).1.2.1 (by omega), Nat.le_trans (po.nm p hp).2.1.2.1 (by omega)⟩
  have jv : JdN 2 (.tup (ps.map tPr)) h := jdN_tup (by simp; omega) fun t ht => by
    obtain ⟨p, hp, rfl⟩ := List.mem_map.mp ht
    refine jdN_tup (by simp) fun t ht => ?_
    simp at ht
    rcases ht with rfl | rfl
    · exact jdN_str (nm p hp).1
    · exact jdN_str (nm p hp).2
  exact W.good ra o (by decide +kernel) hf jv (fun ts e => by cases e; simpa using hl) fun x z hx o' ra' => by rw [e] at o' ra'; exact hq x z hx o' ra'
theorem SameV.tup {h : Hh} {n : Nat} {ts us : List T} (hl : ts.length = us.length) (hz : ts.length ≤ 100000) (p : ∀ (i : Nat) (x y : T), ts[i]? = some x → us[i]? = some y → SameV h n x y) : SameV h (n + 1) (.tup ts) (.tup us) :=
  .inr ⟨ts, us, .inl ⟨rfl, rfl⟩, hl, hz, p⟩
end W3
end

section
namespace W3
open PySem
end W3
end

section
namespace W3
open PySem
abbrev Ft := Str × Str
def restF1 (fm : Fm) (d : Sd) (p : Str × Fd) : List Ft :=
  (if openC fm d p = true ∧ (rowAt d.mess (fIx fm p.1)).isSome = false ∧ (trueV fm d.words p).isSome = true then [(("unshown" : Str), p.1)] else []) ++
  (if openC fm d p = true ∧ (rowAt d.mess (fIx fm p.1)).isSome = true ∧ ¬ rowAt d.mess (fIx fm p.1) = trueV fm d.words p then [(("stale" : Str), p.1)] else [])
def restF (fm : Fm) (d : Sd) : List Ft := if d.quest ≠ [] ∨ d.wait = true then [] else fm.fields.flatMap (restF1 fm d)
def sentF (fm : Fm) (ws : List Str) : List Ft := (fm.fields.filter fun p => (trueV fm ws p).isSome).map fun p => (("sent" : Str), p.1)
def evF1 (fm : Fm) (d : Sd) : Ev → List Ft
  | .answered n w _ tk => if tk = true ∧ ¬ wAt fm d.words n = w then [(("elder" : Str), n)] else []
  | .sent _ => sentF fm d.words ++ (if d.quest = [] then [] else [(("early" : Str), (⟨#[]⟩ : Str))])
  | _ => []
def evF (fm : Fm) (d : Sd) (t : List Ev) : List Ft := t.flatMap (evF1 fm d)
def KINDSL : List Str := ["unshown", "stale", "elder", "sent", "early", "stuck", "full"]
def foundF (fm : Fm) (d : Sd) (t : List Ev) : List Ft := restF fm d ++ evF fm d t
def names0 (fm : Fm) : List Str := fm.names ++ [⟨#[]⟩]
def faultsF (fm : Fm) (d : Sd) (t : List Ev) : List Ft := KINDSL.flatMap fun k => ((names0 fm).filter fun n => decide ((k, n) ∈ foundF fm d t)).map fun n => (k, n)
theorem in_prl {h : Hh} {l : Nat} {ps : Prs} (a b : Str) (e : lstAt h l = some (ps.map tPr)) : oIn (.tup [.str a, .str b]) (.ref l) h = .ok (.bl (decide ((a, b) ∈ ps))) h := by
  have e1 : toD h 24 (.ref l) = some (.list (ps.map dPr)) := by
    rw [toD_lst e, optL_map (toD_prn h 21)]; rfl
  have e2 : toD h 24 (.tup [.str a, .str b]) = some (dPr (a, b)) := rfl
  have : inT (.tup [.str a, .str b]) (.ref l) h = some (decide ((a, b) ∈ ps)) := by
    show (match toD h 24 (.tup [.str a, .str b]), toD h 24 (.ref l) with
      | some d, some (.list ds) => some (ds.any fun z => PyData.eqv z d)
      | some d, some (.tuple ds) => some (ds.any fun z => PyData.eqv z d)
      | _, _ => none) = _
    rw [e1, e2]
    show some ((ps.map dPr).any fun z => PyData.eqv z (dPr (a, b))) = _
    rw [any_eqv eqv_pr]
    simp
  unfold oIn
  rw [this]
theorem StepAt.fz {h h' : Hh} {n l : Nat} {d b a e : T} (s : StepAt h l d b a e) (u : Fz n h h') (hl : l < n) : StepAt h' l d b a e := by
  unfold StepAt at s ⊢
  rw [u.2 l hl]
  exact s
end W3
namespace W3
open PySem
end W3
end

section
namespace W3
open PySem
theorem entry_congr (fm : Fm) (p : Str × Fd) {d d' : Sd} (hw : d'.words = d.words) (hk : d'.known = d.known) : entryC fm p d' = entryC fm p d := by
  unfold entryC
  rw [hw, hk]
structure Fresh (fm : Fm) (d : Sd) (p : Str × Fd) : Prop where
  m : rowAt d.mess (fIx fm p.1) = (entryC fm p d).1
  q : (entryC fm p d).2 = true → (p.1, wAt fm d.words p.1, true) ∈ d.quest
theorem Fresh.to {fm : Fm} {d d' : Sd} {p : Str × Fd} (f : Fresh fm d p) (hw : d'.words = d.words) (hk : d'.known = d.known) (hm : rowAt d'.mess (fIx fm p.1) = rowAt d.mess (fIx fm p.1)) (hq : ∀ w, (p.1, w, true) ∈ d.quest → (p.1, w, true) ∈ d'.quest) : Fresh fm d' p := by
  have e := entry_congr fm p hw hk
  refine ⟨by rw [hm, e]; exact f.m, fun h => ?_⟩
  rw [e] at h
  rw [hw]
  exact hq _ (f.q h)
end W3
end

section
namespace W3
open PySem
def AllFresh (fm : Fm) (d : Sd) : Prop := ∀ p ∈ fm.fields, Fresh fm d p ∧ openC fm d p = true
theorem Fresh.same {fm : Fm} {d d' : Sd} {p : Str × Fd} (f : Fresh fm d p) (hw : d'.words = d.words) (hk : d'.known = d.known) (hm : d'.mess = d.mess) (hq : d'.quest = d.quest) : Fresh fm d' p := f.to hw hk (by rw [hm]) fun w h => by rw [hq]; exact h
end W3
end

section
namespace W3
open PySem
structure SentOk (fm : Fm) (d : Sd) (ws : List Str) : Prop where
  w : ws = d.words
  q : d.quest = []
  t : ∀ p ∈ fm.fields, trueV fm d.words p = none
end W3
end

section
namespace W3
open PySem
structure LastV (fm : Fm) (d : Sd) (p : Str × Fd) : Prop where
  o : openC fm d p = true
  n : nearV fm d.words p = none
  c : trueV fm d.words p = none ∨ (p.1, wAt fm d.words p.1, true) ∈ d.quest ∨
    (rowAt d.mess (fIx fm p.1) = trueV fm d.words p ∧ (trueV fm d.words p).isSome = true ∧ d.known[fIx fm p.1]? = some (some (wAt fm d.words p.1, trueV fm d.words p)) ∧ ∀ w, (p.1, w, true) ∉ d.quest)
theorem LastV.to {fm : Fm} {d d' : Sd} {p : Str × Fd} (f : LastV fm d p) (ho : openC fm d' p = true) (hw : d'.words = d.words) (hk : d'.known[fIx fm p.1]? = d.known[fIx fm p.1]?) (hm : rowAt d'.mess (fIx fm p.1) = rowAt d.mess (fIx fm p.1)) (hq : ∀ w, (p.1, w, true) ∈ d.quest ↔ (p.1, w, true) ∈ d'.quest) : LastV fm d' p := by
  refine ⟨ho, by rw [hw]; exact f.n, ?_⟩
  rw [hw, hm, hk]
  rcases f.c with h | h | ⟨h1, h2, h3, h4⟩
  · exact .inl h
  · exact .inr (.inl ((hq _).mp h))
  · exact .inr (.inr ⟨h1, h2, h3, fun w hw => h4 w ((hq w).mpr hw)⟩)
end W3
end

section
namespace W3
open PySem
end W3
end

section
namespace W3
open PySem
end W3
end

section
namespace W3
open PySem
def noFar (p : Str × Fd) : Str × Fd := (p.1, { p.2 with far := none })
def Fm.bare (fm : Fm) : Fm := { fm with fields := fm.fields.map noFar }
structure Calm (fm : Fm) (d : Sd) : Prop where
  s : SdW fm d
  q : d.quest = []
  k : d.known = List.replicate fm.fields.length none
  w : d.wait = false
theorem Calm.sd {fm : Fm} {d : Sd} (c : Calm fm d) (s : Str) : SdOk fm s d := c.s.ok fun h => by rw [c.w] at h; cases h
end W3
end

section
namespace W3
open PySem
def AskedBy (fm : Fm) (d : Sd) (ps : List (Str × Fd)) : Prop := ∀ x ∈ d.quest, ∃ p ∈ ps, x = (p.1, wAt fm d.words p.1, true) ∧ p.2.far.isSome = true ∧ nearV fm d.words p = none
structure Asking (fm : Fm) (d : Sd) : Prop where
  f : AllFresh fm d
  a : AskedBy fm d fm.fields
def ansF (fm : Fm) (r : Ru) : Nat → Sd → Sd × List Ev
  | 0, d => (d, [])
  | k + 1, d => ((ansF fm r k (answerC fm r 0 d []).1).1, (answerC fm r 0 d []).2.filter is_sent ++ (ansF fm r k (answerC fm r 0 d []).1).2)
end W3
end

section
namespace W3
open PySem
def errsB (fm : Fm) (ws : List Str) : Bool := (fm.fields.map (trueV fm ws)).any fun e => e.isSome
structure Sent33 (fm : Fm) (r : Ru) (d d' : Sd) (t' : List Ev) : Prop where
  s : SdOk fm r.sending (ansF fm r 3 d').1
  a : Asking fm (ansF fm r 3 d').1
  q : (ansF fm r 3 d').1.quest = []
  w : (ansF fm r 3 d').1.words = d.words
  n : (ansF fm r 3 d').1.wait = false
  go : r.sending = "go" → errsB fm d.words = false → t'.filter is_sent ++ (ansF fm r 3 d').2 = [.sent d.words]
  wait : r.sending = "wait" → t'.filter is_sent ++ (ansF fm r 3 d').2 = if errsB fm d.words = true then [] else [.sent d.words]
end W3
end

section
namespace W3
open PySem
structure L2S (n : Nat) (h : Hh) (ls lt : Nat) (p : Pl) (d : Sd) (t : List Ev) : Prop where
  c : LSt n h ls p d
  tt : lstAt h lt = some (tEs t)
  tn : lt ≠ ls ∧ lt ≠ p.w ∧ lt ≠ p.s ∧ lt ≠ p.m ∧ lt ≠ p.k ∧ lt ≠ p.q
  tl : n ≤ lt
section
variable {n : Nat} {h : Hh} {ls lt : Nat} {p : Pl} {d : Sd} {t : List Ev}
theorem L2S.app (x : L2S n h ls lt p d t) (o : Hh) : L2S n (h ++ o) ls lt p d t := ⟨x.c.app o, lstAt_app o x.tt, x.tn, x.tl⟩
theorem L2S.told (x : L2S n h ls lt p d t) (e : Ev) : L2S n (h.set lt (.lst (tEs (t ++ [e])))) ls lt p d (t ++ [e]) := by
  obtain ⟨a, b, c, d, e, f⟩ := x.tn
  exact ⟨⟨by rw [lstAt_set_ne a]; exact x.c.top, by rw [lstAt_set_ne b]; exact x.c.ww, by rw [lstAt_set_ne c]; exact x.c.ss, by rw [lstAt_set_ne d]; exact x.c.mm, by rw [lstAt_set_ne e]; exact x.c.kk, by rw [lstAt_set_ne f]; exact x.c.qq, x.c.nd, x.c.lo⟩, lstAt_set_self (lstAt_lt x.tt), x.tn, x.tl⟩
theorem L2S.wait (x : L2S n h ls lt p d t) (b : Bool) : L2S n (h.set ls (.lst (topT p b))) ls lt p { d with wait := b } t := ⟨x.c.wait b, by rw [lstAt_set_ne (Ne.symm x.tn.1)]; exact x.tt, x.tn, x.tl⟩
end
def own (ls lt : Nat) (p : Pl) : List Nat := [ls, lt, p.w, p.s, p.m, p.k, p.q]
def Kq (ls lt : Nat) (p p' : Pl) (h h' : Hh) : Prop := h.length ≤ h'.length ∧ ∀ k, k < h.length → k ∉ own ls lt p → h'[k]? = h[k]? ∧ k ∉ own ls lt p'
section
variable {ls lt : Nat} {p p' : Pl} {h h' : Hh}
theorem Kq.refl : Kq ls lt p p h h := ⟨Nat.le_refl _, fun _ _ hk => ⟨rfl, hk⟩⟩
theorem Kq.trans {p2 : Pl} {h2 : Hh} (a : Kq ls lt p p' h h') (b : Kq ls lt p' p2 h' h2) : Kq ls lt p p2 h h2 :=
  ⟨Nat.le_trans a.1 b.1, fun k hk ho => by
    obtain ⟨e1, o1⟩ := a.2 k hk ho
    obtain ⟨e2, o2⟩ := b.2 k (by have := a.1; omega) o1
    exact ⟨e2.trans e1, o2⟩⟩
theorem Kq.app (o : Hh) : Kq ls lt p p h (h ++ o) := ⟨by simp, fun k hk ho => ⟨List.getElem?_append_left hk, ho⟩⟩
theorem Kq.set {j : Nat} (hj : j ∈ own ls lt p) (o : Ob) : Kq ls lt p p h (h.set j o) := ⟨by simp, fun k hk ho => ⟨List.getElem?_set_ne (fun e : j = k => ho (by rw [← e]; exact hj)), ho⟩⟩
theorem Kq.put (z : Hh) (o : Ob) (hp : ∀ k ∈ own ls lt p', k ∈ own ls lt p ∨ h.length ≤ k) : Kq ls lt p p' h ((h ++ z).set ls o) :=
  ⟨by simp, fun k hk ho => ⟨by
    rw [List.getElem?_set_ne (fun e => ho (by rw [← e]; exact .head _))]
    exact List.getElem?_append_left hk, fun hm => by
      rcases hp k hm with h1 | h1
      · exact ho h1
      · omega⟩⟩
theorem Kq.fz {n : Nat} {d : Sd} {t : List Ev} (a : Kq ls lt p p' h h') (x : L2S n h ls lt p d t) : Fz n h h' :=
  ⟨a.1, fun k hk => (a.2 k (by have := x.c.nl; omega) (fun hm => by
    obtain ⟨l0, l1, l2, l3, l4, l5⟩ := x.c.lo
    have := x.tl
    simp only [own, List.mem_cons, List.not_mem_nil, or_false] at hm
    omega)).1⟩
theorem Kq.lst {x : Nat} {ts : List T} (a : Kq ls lt p p' h h') (e : lstAt h x = some ts) (hx : x ∉ own ls lt p) : lstAt h' x = some ts ∧ x ∉ own ls lt p' := by
  obtain ⟨e1, o1⟩ := a.2 x (lstAt_lt e) hx
  refine ⟨?_, o1⟩
  unfold lstAt at e ⊢
  rw [e1]
  exact e
theorem L2S.out {n : Nat} {d : Sd} {t : List Ev} (x : L2S n h ls lt p d t) {y : Nat} (hy : h.length ≤ y) : y ∉ own ls lt p := fun hm => by
  have l1 := x.c.lts
  have l2 := x.c.llt
  have l3 := lstAt_lt x.tt
  simp only [own, List.mem_cons, List.not_mem_nil, or_false] at hm
  omega
end
end W3
end

section
namespace W3
open PySem
structure Two (fm : Fm) (r : Ru) (p1 p2 : Str × Fd) : Prop where
  o : FmOk fm
  ro : RuOk r
  fs : fm.fields = [p1, p2]
  ne : p1.1 ≠ p2.1
  f1 : p1.2.far = none
  rm : fm.room = 3
  rc : r.checks = "enter"
  rt : r.taken = "same"
  nf : foundC fm r p1.1 = []
structure Pre (fm : Fm) (p2 : Str × Fd) (wo : Str) (d : Sd) : Prop where
  s : SdW fm d
  w : d.wait = false
  k : d.known = List.replicate fm.fields.length none
  q : d.quest = [] ∨ (d.quest = [(p2.1, wo, true)] ∧ nearV fm d.words p2 = none)
section
variable {fm : Fm} {r : Ru} {p1 p2 : Str × Fd} {wo : Str} {d : Sd}
theorem Two.m1 (T : Two fm r p1 p2) : p1 ∈ fm.fields := by rw [T.fs]; exact .head _
theorem Two.m2 (T : Two fm r p1 p2) : p2 ∈ fm.fields := by rw [T.fs]; exact .tail _ (.head _)
end
end W3
end

section
namespace W3
open PySem
section
variable {fm : Fm} {r : Ru} {p1 p2 : Str × Fd} {wo : Str}
end
end W3
end

section
namespace W3
open PySem
structure Fq (S : Nat → Prop) (h h' : Hh) : Prop where
  le : h.length ≤ h'.length
  keep : ∀ k, k < h.length → ¬ S k → h'[k]? = h[k]?
  was : ∀ k, S k → k < h.length → ∃ ts, h[k]? = some (.lst ts)
  is_ : ∀ k, S k → k < h.length → ∃ ts, h'[k]? = some (.lst ts)
section
variable {S : Nat → Prop} {h h' h2 : Hh}
theorem Fq.trans (a : Fq S h h') (b : Fq S h' h2) : Fq S h h2 :=
  ⟨Nat.le_trans a.le b.le, fun k hk hs => (b.keep k (Nat.lt_of_lt_of_le hk a.le) hs).trans (a.keep k hk hs), a.was, fun k hs hk => b.is_ k hs (Nat.lt_of_lt_of_le hk a.le)⟩
theorem Fq.refl (hS : ∀ k, S k → k < h.length → ∃ ts, h[k]? = some (.lst ts)) : Fq S h h := ⟨Nat.le_refl _, fun _ _ _ => rfl, hS, hS⟩
theorem Fq.app (a : Fq S h h') (o : Hh) : Fq S h (h' ++ o) :=
  ⟨by have := a.le; simp; omega, fun k hk hs => (List.getElem?_append_left (Nat.lt_of_lt_of_le hk a.le)).trans (a.keep k hk hs), a.was, fun k hs hk => by
    obtain ⟨ts, e⟩ := a.is_ k hs hk
    exact ⟨ts, (List.getElem?_append_left (Nat.lt_of_lt_of_le hk a.le)).trans e⟩⟩
theorem Fq.sub {R : Nat → Prop} (a : Fq S h h') (hR : ∀ k, S k → R k) (h1 : ∀ k, R k → k < h.length → ∃ ts, h[k]? = some (.lst ts)) : Fq R h h' :=
  ⟨a.le, fun k hk hs => a.keep k hk fun z => hs (hR k z), h1, fun k hs hk => by
    by_cases q : S k
    · exact a.is_ k q hk
    · obtain ⟨ts, e⟩ := h1 k hs hk
      exact ⟨ts, (a.keep k hk q).trans e⟩⟩
theorem Fq.ins {c : Str} {fs : List (Str × T)} {k : Nat} (a : Fq S h h') (e : h[k]? = some (.ins c fs)) : h'[k]? = some (.ins c fs) := by
  have hk := (List.getElem?_eq_some_iff.mp e).1
  rw [a.keep k hk fun z => ?_]
  · exact e
  · obtain ⟨ts, e2⟩ := a.was k z hk
    rw [e] at e2
    cases e2
theorem Fq.lst {k : Nat} {ts : List T} (a : Fq S h h') (e : lstAt h k = some ts) (hn : ¬ S k) : lstAt h' k = some ts := by
  unfold lstAt at e ⊢
  have hk : k < h.length := by
    cases q : h[k]? with
    | none => rw [q] at e; cases e
    | some o => exact (List.getElem?_eq_some_iff.mp q).1
  rw [a.keep k hk hn]
  exact e
theorem Fq.form {l : Nat} {fm : Fm} (a : Fq S h h') (e : FormAt h l fm) : FormAt h' l fm := a.ins e
theorem Fq.rule {l : Nat} {r : Ru} (a : Fq S h h') (e : RuleAt h l r) : RuleAt h' l r := a.ins e
theorem Fq.step {l : Nat} {d b x e : T} (a : Fq S h h') (q : StepAt h l d b x e) : StepAt h' l d b x e := a.ins q
theorem Fq.mem {k : Nat} (a : Fq S h h') (hs : S k) (hk : k < h.length) : ∃ ts, lstAt h' k = some ts := by
  obtain ⟨ts, e⟩ := a.is_ k hs hk
  exact ⟨ts, lstAt_of e⟩
end
theorem Up.fq {l : Nat} {h h' : Hh} (b : IsBox h l) (u : Up l h h') : Fq (fun k => k = l) h h' :=
  ⟨u.le, fun k hk hn => u.keep k hk hn, fun k e _ => by
    subst e
    obtain ⟨c, cells, i, d, s, n, e, _⟩ := b
    exact ⟨_, of_lstAt e⟩, fun k e _ => by
    subst e
    obtain ⟨c, cells, i, d, s, n, e, _⟩ := u.box
    exact ⟨_, of_lstAt e⟩⟩
theorem fq_app (h o : Hh) : Fq (fun _ => False) h (h ++ o) := ⟨by simp, fun k hk _ => List.getElem?_append_left hk, fun _ f _ => f.elim, fun _ f _ => f.elim⟩
structure BxC (h : Hh) (l c : Nat) : Prop where
  b : IsBox h l
  c : BoxC h l = some c
theorem BxC.of {h : Hh} {l : Nat} (b : IsBox h l) : ∃ c, BxC h l c ∧ c < h.length := by
  have b0 := b
  obtain ⟨c, cells, i, d, s, n, e, e2, h1, h2⟩ := b
  refine ⟨c, ⟨b0, ?_⟩, lstAt_lt e2⟩
  unfold BoxC
  rw [e]
  rfl
theorem BxC.up {h h' : Hh} {l c : Nat} (x : BxC h l c) (u : Up l h h') : BxC h' l c := ⟨u.box, u.bc.trans x.c⟩
theorem BxC.app {h : Hh} {l c : Nat} (x : BxC h l c) (o : Hh) : BxC (h ++ o) l c := x.up (Up.app x.b o)
theorem BxC.fq {S : Nat → Prop} {h h' : Hh} {l c : Nat} (x : BxC h l c) (a : Fq S h h') (hl : ¬ S l) (hc : ¬ S c) : BxC h' l c := by
  obtain ⟨⟨c', cells, i, d, s, n, e, e2, h1, h2⟩, q⟩ := x
  unfold BoxC at q
  rw [e] at q
  have q : some c' = some c := q
  injection q with q
  subst q
  refine ⟨⟨c', cells, i, d, s, n, a.lst e hl, a.lst e2 hc, h1, h2⟩, ?_⟩
  unfold BoxC
  rw [a.lst e hl]
  rfl
structure Hy where
  D : Dd
  aft : Sd
  ev : List Ev
def StpAt (h : Hh) (b : Nat) (y : Hy) : Prop := ∃ bf, StepAt h b y.D.t bf y.aft.t (.tup (tEs y.ev))
def liveIns (d0 : Sd) (lf ar ls : Nat) : List (Str × T) := [("beginning", d0.t), ("form", .ref lf), ("rule", .ref ar), ("steps_done", .ref ls)]
abbrev Pc := List (Nat × Hy)
abbrev pcT (xs : Pc) : List T := xs.map fun s => T.ref s.1
structure LiveAt (h : Hh) (l lf ar ls : Nat) (d0 : Sd) (xs : Pc) : Prop where
  ins : h[l]? = some (.ins "Live" (liveIns d0 lf ar ls))
  st : lstAt h ls = some (pcT xs)
  at_ : ∀ s ∈ xs, StpAt h s.1 s.2
def liveD (d0 : Sd) (ys : List Hy) : Sd := match ys.getLast? with | none => d0 | some s => s.aft
def lastEv (ys : List Hy) : List Ev := match ys.getLast? with | none => [] | some s => s.ev
abbrev Pc.v (xs : Pc) : List Hy := xs.map Prod.snd
section
variable {S : Nat → Prop} {h h' : Hh} {l lf ar ls : Nat} {d0 : Sd} {xs : Pc}
theorem LiveAt.fq (x : LiveAt h l lf ar ls d0 xs) (a : Fq S h h') (hn : ¬ S ls) : LiveAt h' l lf ar ls d0 xs :=
  ⟨a.ins x.ins, a.lst x.st hn, fun s hs => by obtain ⟨bf, q⟩ := x.at_ s hs; exact ⟨bf, a.step q⟩⟩
theorem LiveAt.app (x : LiveAt h l lf ar ls d0 xs) (o : Hh) : LiveAt (h ++ o) l lf ar ls d0 xs := x.fq (fq_app h o) fun z => z
theorem LiveAt.i (x : LiveAt h l lf ar ls d0 xs) : insAt h l = some (("Live" : Str), liveIns d0 lf ar ls) := insAt_of x.ins
theorem LiveAt.m {m : Str} (x : LiveAt h l lf ar ls d0 xs) (hm : (liveIns d0 lf ar ls).lookup m = none) : mOk "Live" m (.ref l) h = true := mOk_of x.i hm
theorem LiveAt.len (x : LiveAt h l lf ar ls d0 xs) : (pcT xs).length = xs.length := List.length_map _
theorem LiveAt.lt (x : LiveAt h l lf ar ls d0 xs) : l < h.length := (List.getElem?_eq_some_iff.mp x.ins).1
end
structure HsOk (fm : Fm) (r : Ru) (d0 : Sd) (ys : List Hy) : Prop where
  d0 : SdOk fm r.sending d0
  sd : ∀ y ∈ ys, SdOk fm r.sending y.aft
  dk : ∀ y ∈ ys, DdOk fm y.D
  ev : ∀ y ∈ ys, EvsOk fm y.ev ∧ y.ev.length ≤ 20
theorem HsOk.now {fm : Fm} {r : Ru} {d0 : Sd} {ys : List Hy} (o : HsOk fm r d0 ys) : SdOk fm r.sending (liveD d0 ys) := by
  unfold liveD
  cases e : ys.getLast? with
  | none => exact o.d0
  | some y => exact o.sd y (List.mem_of_getLast? e)
theorem HsOk.last {fm : Fm} {r : Ru} {d0 : Sd} {ys : List Hy} (o : HsOk fm r d0 ys) : EvsOk fm (lastEv ys) ∧ (lastEv ys).length ≤ 20 := by
  unfold lastEv
  cases e : ys.getLast? with
  | none => exact ⟨.nil, by simp⟩
  | some y => exact o.ev y (List.mem_of_getLast? e)
theorem HsOk.nil {fm : Fm} {r : Ru} {d0 : Sd} (s : SdOk fm r.sending d0) : HsOk fm r d0 [] := ⟨s, fun _ q => (List.not_mem_nil q).elim, fun _ q => (List.not_mem_nil q).elim, fun _ q => (List.not_mem_nil q).elim⟩
theorem HsOk.app {fm : Fm} {r : Ru} {d0 : Sd} {ys zs : List Hy} (o : HsOk fm r d0 ys) (z : HsOk fm r d0 zs) : HsOk fm r d0 (ys ++ zs) :=
  ⟨o.d0, fun y q => (List.mem_append.mp q).elim (o.sd y) (z.sd y), fun y q => (List.mem_append.mp q).elim (o.dk y) (z.dk y), fun y q => (List.mem_append.mp q).elim (o.ev y) (z.ev y)⟩
theorem HsOk.snoc {fm : Fm} (om : FmOk fm) {r : Ru} {d0 : Sd} {ys : List Hy} (o : HsOk fm r d0 ys) {D : Dd} (dk : DdOk fm D) {d' : Sd} {t : List Ev} (e : stepC fm r D (liveD d0 ys) = .ok d' t) : HsOk fm r d0 (ys ++ [⟨D, d', t⟩]) := by
  have so := step_ok om o.now dk e
  have ev := step_evs om o.now dk e
  refine o.app ⟨o.d0, fun y q => ?_, fun y q => ?_, fun y q => ?_⟩ <;> (rw [List.mem_singleton] at q; subst q; assumption)
theorem HsOk.sub {fm : Fm} {r : Ru} {d0 : Sd} {ys zs : List Hy} (o : HsOk fm r d0 ys) (hz : ∀ y ∈ zs, y ∈ ys) : HsOk fm r d0 zs := ⟨o.d0, fun y q => o.sd y (hz y q), fun y q => o.dk y (hz y q), fun y q => o.ev y (hz y q)⟩
def messT (d : Sd) : T := .tup (d.mess.map tE)
def deedsL (ys : List Hy) : List T := ys.map fun y => y.D.t
def seenL (d0 : Sd) (ys : List Hy) : List T := messT d0 :: ys.map fun y => messT y.aft
def sentW : Ev → Option T | .sent ws => some (.tup (tSs ws)) | _ => none
def sentL (ys : List Hy) : List T := ys.flatMap fun y => y.ev.filterMap sentW
section
variable {h : Hh} {l lf ar ls : Nat} {d0 : Sd} {xs : Pc}
end
theorem flat_le {α β : Type} (f : α → List β) (k : Nat) : ∀ xs : List α, (∀ x ∈ xs, (f x).length ≤ k) → (xs.flatMap f).length ≤ k * xs.length
  | [], _ => by simp
  | x :: xs, h => by
    rw [List.flatMap_cons, List.length_append, List.length_cons, Nat.mul_succ]
    have := h x (.head _)
    have := flat_le f k xs fun y hy => h y (.tail _ hy)
    omega
inductive Dx where
  | good (D : Dd)
  | bad (t : T)
def Dx.t : Dx → T | .good D => D.t | .bad t => t
inductive Fo where
  | ok (ys : List Hy)
  | many (m : Str)
  | bad (t : T)
def Fo.pre (ys : List Hy) : Fo → Fo | .ok zs => .ok (ys ++ zs) | e => e
def StV (h : Hh) (n : Nat) (t : T) (d0 : Sd) (ys : List Hy) (tl : List T) : Prop := ∃ a b c, n ≤ a ∧ n ≤ b ∧ n ≤ c ∧ t = .tup ([(liveD d0 ys).t, .tup (tEs (lastEv ys)), .ref a, .ref b, .ref c, .int ys.length] ++ tl) ∧ lstAt h a = some (deedsL ys) ∧ lstAt h b = some (seenL d0 ys) ∧ lstAt h c = some (sentL ys)
theorem StV.fq {S : Nat → Prop} {h h' : Hh} {n : Nat} {t : T} {d0 : Sd} {ys : List Hy} {tl : List T} (x : StV h n t d0 ys tl) (a : Fq S h h') (hS : ∀ k, S k → k < n) : StV h' n t d0 ys tl := by
  obtain ⟨p, q, r, lp, lq, lr, e, e1, e2, e3⟩ := x
  refine ⟨p, q, r, lp, lq, lr, e, a.lst e1 fun z => ?_, a.lst e2 fun z => ?_, a.lst e3 fun z => ?_⟩
  · have := hS _ z; omega
  · have := hS _ z; omega
  · have := hS _ z; omega
theorem StV.mono {h : Hh} {n m : Nat} {t : T} {d0 : Sd} {ys : List Hy} {tl : List T} (x : StV h n t d0 ys tl) (hm : m ≤ n) : StV h m t d0 ys tl := by
  obtain ⟨p, q, r, lp, lq, lr, e⟩ := x
  exact ⟨p, q, r, by omega, by omega, by omega, e⟩
theorem pure_mess {fm : Fm} (o : FmOk fm) {d : Sd} (s : SdW fm d) : PureT 1 (messT d) := by
  have f3 := o.f3
  exact pure_strs (fun t ht => by obtain ⟨s, _, rfl⟩ := List.mem_map.mp ht; exact flat_ent _) (by rw [List.length_map, s.ml]; omega)
theorem deedsL_len (ys : List Hy) : (deedsL ys).length = ys.length := List.length_map _
theorem seenL_len (d0 : Sd) (ys : List Hy) : (seenL d0 ys).length = ys.length + 1 := by simp [seenL]
theorem sentL_len {fm : Fm} {r : Ru} {d0 : Sd} {ys : List Hy} (hs : HsOk fm r d0 ys) : (sentL ys).length ≤ 20 * ys.length := by
  unfold sentL
  refine flat_le _ 20 _ fun y hy => Nat.le_trans (List.length_filterMap_le _ _) (hs.ev y hy).2
theorem pure_deeds {fm : Fm} {r : Ru} {d0 : Sd} {ys : List Hy} (hs : HsOk fm r d0 ys) : ∀ x ∈ deedsL ys, PureT 1 x := fun x hx => by
  obtain ⟨y, hy, rfl⟩ := List.mem_map.mp hx
  exact pure_dd (hs.dk y hy)
theorem pure_seen {fm : Fm} (o : FmOk fm) {r : Ru} {d0 : Sd} {ys : List Hy} (hs : HsOk fm r d0 ys) : ∀ x ∈ seenL d0 ys, PureT 1 x := fun x hx => by
  rcases List.mem_cons.mp hx with rfl | hx
  · exact pure_mess o hs.d0.w
  · obtain ⟨y, hy, rfl⟩ := List.mem_map.mp hx
    exact pure_mess o (hs.sd y hy).w
theorem pure_sent {fm : Fm} (o : FmOk fm) {r : Ru} {d0 : Sd} {ys : List Hy} (hs : HsOk fm r d0 ys) : ∀ x ∈ sentL ys, PureT 1 x := fun x hx => by
  obtain ⟨y, hy, hx⟩ := List.mem_flatMap.mp hx
  obtain ⟨e, he, hx⟩ := List.mem_filterMap.mp hx
  have := (hs.ev y hy).1 e he
  have f3 := o.f3
  cases e <;> simp [sentW] at hx
  subst hx
  exact pure_strs (fun t ht => by obtain ⟨s, _, rfl⟩ := List.mem_map.mp ht; rfl) (by rw [List.length_map, (show WsOk fm _ from this).len]; omega)
theorem StV.same {fm : Fm} (o : FmOk fm) {r : Ru} {h : Hh} {n m : Nat} {t u : T} {d0 : Sd} {ys : List Hy} {tl : List T} (hs : HsOk fm r d0 ys) (hl : ys.length ≤ 1000) (htl : ∀ x ∈ tl, flatT x = true) (tl2 : tl.length ≤ 10) (x : StV h n t d0 ys tl) (y : StV h m u d0 ys tl) : SameV h 5 t u := by
  obtain ⟨a, b, c, _, _, _, rfl, e1, e2, e3⟩ := x
  obtain ⟨a', b', c', _, _, _, rfl, g1, g2, g3⟩ := y
  refine SameV.tup (by simp) (by simp; omega) fun i x y hx hy => ?_
  have ev := hs.last
  match i, hx, hy with
  | 0, hx, hy => cases hx; cases hy; exact (pure_sd o hs.now.w).same
  | 1, hx, hy => cases hx; cases hy; exact ((pure_evs o ev.1 (by omega)).up).same
  | 2, hx, hy => cases hx; cases hy; exact SameV.lists e1 g1 (by rw [deedsL_len]; omega) fun x hx => ((pure_deeds hs x hx).add 2)
  | 3, hx, hy => cases hx; cases hy; exact SameV.lists e2 g2 (by rw [seenL_len]; omega) fun x hx => ((pure_seen o hs x hx).add 2)
  | 4, hx, hy => cases hx; cases hy; exact SameV.lists e3 g3 (by have := sentL_len hs; omega) fun x hx => ((pure_sent o hs x hx).add 2)
  | 5, hx, hy => cases hx; cases hy; exact same_flat rfl
  | i + 6, hx, hy =>
    have hx : tl[i]? = some x := by simpa using hx
    have hy : tl[i]? = some y := by simpa using hy
    rw [hx] at hy
    cases hy
    exact same_flat (htl x (List.mem_of_getElem? hx))
@[simp] theorem e_lenO (cn : Str) (ff : List T → Hh → Res T) (l : Nat) (h : Hh) : fLen cn ff [.ref l] h = match insAt h l with
  | some (d, _) => if d = cn then (match ff [.ref l] h with | .ok (.int i) h' => if 0 ≤ i ∧ i < 2 ^ 63 then .ok (.int i) h' else .stk | _ => .stk) else .stk
  | none => bLen [.ref l] h := Eq.trans rfl rfl
end W3
end

section
namespace W3
open PySem
def shT : T → Prop | .str s => s.length ≤ 1000 | _ => True
def FV (l : Nat) (h : Hh) (t : T) : Prop := (flatT t = true ∧ shT t) ∨ ∃ p x, t = .ref p ∧ p ≠ l ∧ lstAt h p = some [x] ∧ flatT x = true
def WV (l : Nat) (h : Hh) (t : T) : Prop := FV l h t ∨ ∃ ts, t = .tup ts ∧ ts.length ≤ 3 ∧ ∀ x ∈ ts, FV l h x
section
variable {l : Nat} {h h' : Hh} {t : T}
theorem FV.fq {S : Nat → Prop} (v : FV l h t) (a : Fq S h h') (hS : ∀ p, S p → p = l) : FV l h' t := by
  rcases v with v | ⟨p, x, rfl, hp, e, hx⟩
  · exact .inl v
  · exact .inr ⟨p, x, rfl, hp, a.lst e fun z => hp (hS p z), hx⟩
theorem WV.fq {S : Nat → Prop} (v : WV l h t) (a : Fq S h h') (hS : ∀ p, S p → p = l) : WV l h' t := by
  rcases v with v | ⟨ts, rfl, hl, g⟩
  · exact .inl (v.fq a hS)
  · exact .inr ⟨ts, rfl, hl, fun x hx => (g x hx).fq a hS⟩
theorem FV.up (v : FV l h t) (b : IsBox h l) (u : Up l h h') : FV l h' t := v.fq (u.fq b) fun _ e => e
theorem WV.up (v : WV l h t) (b : IsBox h l) (u : Up l h h') : WV l h' t := v.fq (u.fq b) fun _ e => e
theorem FV.app (v : FV l h t) (o : Hh) : FV l (h ++ o) t := v.fq (fq_app h o) fun _ f => f.elim
theorem WV.app (v : WV l h t) (o : Hh) : WV l (h ++ o) t := v.fq (fq_app h o) fun _ f => f.elim
theorem FV.same (v : FV l h t) : SameV h 1 t t := by
  rcases v with ⟨f, _⟩ | ⟨p, x, rfl, hp, e, hx⟩
  · exact .inl ⟨rfl, f⟩
  · exact SameV.lists e e (by simp) fun y hy => by rw [List.mem_singleton] at hy; subst hy; exact hx
theorem WV.same (v : WV l h t) : SameV h 2 t t := by
  rcases v with v | ⟨ts, rfl, hl, g⟩
  · exact v.same.up
  · refine SameV.tup rfl (by omega) fun i x y hx hy => ?_
    rw [hx] at hy
    cases hy
    exact (g x (List.mem_of_getElem? hx)).same
theorem FV.flat (f : flatT t = true) (s : shT t) : FV l h t := .inl ⟨f, s⟩
theorem FV.one {p : Nat} {x : T} (hp : p ≠ l) (e : lstAt h p = some [x]) (hx : flatT x = true) : FV l h (.ref p) := .inr ⟨p, x, rfl, hp, e, hx⟩
end
theorem SameV.lists2 {h : Hh} {n a b : Nat} {ts : List T} (ea : lstAt h a = some ts) (eb : lstAt h b = some ts) (hl : ts.length ≤ 100000) (p : ∀ x ∈ ts, SameV h n x x) : SameV h (n + 1) (.ref a) (.ref b) := by
  refine .inr ⟨ts, ts, .inr ⟨.inl ⟨a, rfl, ea⟩, .inl ⟨b, rfl, eb⟩⟩, rfl, hl, fun i x y ex ey => ?_⟩
  rw [ex] at ey; cases ey
  exact p x (List.mem_of_getElem? ex)
end W3
end

section
namespace W3
open PySem
theorem Fz.lst {n k : Nat} {h h' : Hh} {ts : List T} (f : Fz n h h') (e : lstAt h k = some ts) (hk : k < n) : lstAt h' k = some ts := by
  unfold lstAt at e ⊢
  rw [f.2 k hk]
  exact e
end W3
end

section
namespace W3
open PySem
abbrev leS (a b : Str) : Bool := PySem.W.dataLe false PyData.str a b
def sortS (ss : List Str) : List Str := ss.mergeSort leS
theorem sortS_perm (ss : List Str) : (sortS ss).Perm ss := List.mergeSort_perm _ _
theorem leS_iff (a b : Str) : leS a b = decide (a.cps.toList ≤ b.cps.toList) := congrFun (congrFun (PySem.W.dataLe_str (id : Str → Str)) a) b
theorem leS_anti {a b : Str} (h1 : leS a b = true) (h2 : leS b a = true) : a = b := by
  rw [leS_iff, decide_eq_true_eq] at h1 h2
  exact Str.ext3 (List.le_antisymm h1 h2)
theorem sortS_pw (ss : List Str) : (sortS ss).Pairwise fun a b => leS a b = true :=
  PySem.W.sort_pairwise (PySem.W.sortLe_total (PyProof.Rows.listOrd PyProof.Rows.itemOrd) false (fun p : Str => PySem.W.keyToks (PyData.str p))) ss
end W3
end

section
namespace W3
open PySem
def atomT : T → Bool | .non => true | .int _ => true | .str _ => true | _ => false
def PlT : Nat → T → Prop
  | 0, t => atomT t = true
  | n + 1, t => atomT t = true ∨ ∃ ts, t = .tup ts ∧ ∀ x ∈ ts, PlT n x
theorem PlT.up {n : Nat} {t : T} (p : PlT n t) : PlT (n + 1) t := by
  induction n generalizing t with
  | zero => exact .inl p
  | succ n ih =>
    rcases p with p | ⟨ts, rfl, g⟩
    · exact .inl p
    · exact .inr ⟨ts, rfl, fun x hx => ih (g x hx)⟩
theorem PlT.add {n : Nat} {t : T} (p : PlT n t) : ∀ k, PlT (n + k) t
  | 0 => p
  | k + 1 => (p.add k).up
theorem PlT.tup {n : Nat} {ts : List T} (g : ∀ x ∈ ts, PlT n x) : PlT (n + 1) (.tup ts) := .inr ⟨ts, rfl, g⟩
end W3
end

section
namespace W3
open PySem
def atomB : T → Bool | .non => true | .bl _ => true | .str _ => true | _ => false
def PbT : Nat → T → Prop
  | 0, t => atomB t = true
  | n + 1, t => atomB t = true ∨ ∃ ts, t = .tup ts ∧ ∀ x ∈ ts, PbT n x
theorem PbT.up {n : Nat} {t : T} (p : PbT n t) : PbT (n + 1) t := by
  induction n generalizing t with
  | zero => exact .inl p
  | succ n ih =>
    rcases p with p | ⟨ts, rfl, g⟩
    · exact .inl p
    · exact .inr ⟨ts, rfl, fun x hx => ih (g x hx)⟩
theorem PbT.add {n : Nat} {t : T} (p : PbT n t) : ∀ k, PbT (n + k) t
  | 0 => p
  | k + 1 => (p.add k).up
theorem PbT.tup {n : Nat} {ts : List T} (g : ∀ x ∈ ts, PbT n x) : PbT (n + 1) (.tup ts) := .inr ⟨ts, rfl, g⟩
def RAt (h : Hh) (l : Nat) (vs : List T) : Prop := ∃ o c a w t s, vs = [o, c, a, w, t, s] ∧ h[l]? = some (.ins "Rule" (ruleIns o c a w t s))
theorem RAt.i {h : Hh} {l : Nat} {o c a w t s : T} (x : RAt h l [o, c, a, w, t, s]) : insAt h l = some (("Rule" : Str), ruleIns o c a w t s) := by
  obtain ⟨_, _, _, _, _, _, e, x⟩ := x
  cases e
  exact insAt_of x
theorem RAt.upK {h h' : Hh} {l b : Nat} {vs : List T} (x : RAt h l vs) (u : Up b h h') (hn : l ≠ b) : RAt h' l vs := by
  obtain ⟨o, c, a, w, t, s, e, x⟩ := x
  refine ⟨o, c, a, w, t, s, e, ?_⟩
  rw [u.keep l (List.getElem?_eq_some_iff.mp x).1 hn]
  exact x
theorem RAt.app {h : Hh} {l : Nat} {vs : List T} (x : RAt h l vs) (z : Hh) : RAt (h ++ z) l vs := by
  obtain ⟨o, c, a, w, t, s, e, x⟩ := x
  exact ⟨o, c, a, w, t, s, e, by rw [List.getElem?_append_left (List.getElem?_eq_some_iff.mp x).1]; exact x⟩
end W3
end

section
namespace W3
open PySem
def dtkOb (kvs : List (T × T)) : Ob := match kvs with | [] => .dic [] | _ => .dtk kvs
end W3
end

section
namespace W3
open PySem
instance instDecidableEqSd : DecidableEq Sd := fun a b =>
  if h : a.words = b.words ∧ a.shown = b.shown ∧ a.mess = b.mess ∧ a.known = b.known ∧ a.quest = b.quest ∧ a.wait = b.wait then
    isTrue (by
      obtain ⟨a1, a2, a3, a4, a5, a6⟩ := a
      obtain ⟨b1, b2, b3, b4, b5, b6⟩ := b
      obtain ⟨h1, h2, h3, h4, h5, h6⟩ := h
      simp only at h1 h2 h3 h4 h5 h6
      subst h1 h2 h3 h4 h5 h6
      rfl)
  else isFalse fun e => h (by subst e; exact ⟨rfl, rfl, rfl, rfl, rfl, rfl⟩)
structure Bs where
  rows : List Sd
  og : List (Option (Nat × Dd))
  tg : List (List (Option Nat))
  sn : List (List (Option (List Str)))
  ff : List (Ft × Nat × Dd)
def ogT : Option (Nat × Dd) → T | none => .tup [.int (-1), .non] | some (i, D) => .tup [.int i, D.t]
def tgT : Option Nat → T | none => .non | some i => .int i
def snT : Option (List Str) → T | none => .non | some ws => .tup (tSs ws)
def ffT (p : Ft × Nat × Dd) : T × T := (tPr p.1, .tup [.int p.2.1, p.2.2.t])
def rowsK (rows : List Sd) : List (T × T) := rows.zipIdx.map fun p => (p.1.t, .int p.2)
def sentEv : List Ev → Option (List Str)
  | [] => none
  | .sent ws :: _ => some ws
  | _ :: r => sentEv r
def addF (i : Nat) (D : Dd) : List Ft → List (Ft × Nat × Dd) → List (Ft × Nat × Dd)
  | [], ff => ff
  | p :: ps, ff => addF i D ps (if (ff.any fun q => decide (q.1 = p)) = true then ff else ff ++ [(p, i, D)])
def FfNd (ff : List (Ft × Nat × Dd)) : Prop := (ff.map (·.1)).Nodup
end W3
end

section
namespace W3
open PySem
structure Bp where
  bk : Nat
  ld : Nat
  rw : Nat
  pl : Nat
  og : Nat
  tg : Nat
  sn : Nat
  ff : Nat
  xs : List Nat
  ys : List Nat
  top : Nat
def bkIns (lf lr : Nat) (rs : Bool) (lim : Nat) (p : Bp) : List (Str × T) := [("form", .ref lf), ("rule", .ref lr), ("resets", .bl rs), ("limit", .int lim), ("deed_list", .ref p.ld), ("rows", .ref p.rw), ("places", .ref p.pl), ("origins", .ref p.og), ("targets", .ref p.tg), ("sents", .ref p.sn), ("first_faults", .ref p.ff)]
structure InAt (h : Hh) (lo hi : Nat) (xs : List Nat) (ls : List (List T)) : Prop where
  len : xs.length = ls.length
  at_ : ∀ (i x : Nat) (l : List T), xs[i]? = some x → ls[i]? = some l → lstAt h x = some l
  bd : ∀ x ∈ xs, lo < x ∧ x < hi
theorem InAt.nil (h : Hh) (lo hi : Nat) : InAt h lo hi [] [] := ⟨rfl, fun i x l e => by simp at e, fun x hx => by cases hx⟩
theorem InAt.keep {h h' : Hh} {lo hi hi' : Nat} {xs : List Nat} {ls : List (List T)} (q : InAt h lo hi xs ls) (hh : hi ≤ hi') (k : ∀ x, lo < x → x < hi → lstAt h' x = lstAt h x) : InAt h' lo hi' xs ls :=
  ⟨q.len, fun i x l e1 e2 => by
    obtain ⟨b1, b2⟩ := q.bd x (List.mem_of_getElem? e1)
    rw [k x b1 b2]
    exact q.at_ i x l e1 e2, fun x hx => ⟨(q.bd x hx).1, Nat.lt_of_lt_of_le (q.bd x hx).2 hh⟩⟩
theorem InAt.snoc {h : Hh} {lo hi y : Nat} {xs : List Nat} {ls : List (List T)} {l : List T} (q : InAt h lo hi xs ls) (e : lstAt h y = some l) (h1 : lo < y) (h2 : y < hi) : InAt h lo hi (xs ++ [y]) (ls ++ [l]) := by
  refine ⟨by simp [q.len], fun i x m e1 e2 => ?_, fun x hx => ?_⟩
  · by_cases hi' : i < xs.length
    · rw [List.getElem?_append_left hi'] at e1
      rw [List.getElem?_append_left (by rw [← q.len]; exact hi')] at e2
      exact q.at_ i x m e1 e2
    · have : i = xs.length := by
        have := (List.getElem?_eq_some_iff.mp e1).1
        simp at this; omega
      subst this
      rw [List.getElem?_append_right (Nat.le_refl _)] at e1
      rw [q.len, List.getElem?_append_right (Nat.le_refl _)] at e2
      simp at e1 e2
      rw [← e1, ← e2]; exact e
  · rcases List.mem_append.mp hx with z | z
    · exact q.bd x z
    · simp at z; subst z; exact ⟨h1, h2⟩
structure BkAt (n : Nat) (h : Hh) (lf lr : Nat) (rs : Bool) (lim : Nat) (tl : List (Str × T)) (Ds : List Dd) (p : Bp) (b : Bs) : Prop where
  ins : h[p.bk]? = some (.ins "Book" (bkIns lf lr rs lim p ++ tl))
  ld : lstAt h p.ld = some (Ds.map Dd.t)
  rw : lstAt h p.rw = some (b.rows.map Sd.t)
  pl : h[p.pl]? = some (dtkOb (rowsK b.rows))
  og : lstAt h p.og = some (b.og.map ogT)
  tg : lstAt h p.tg = some (p.xs.map T.ref)
  sn : lstAt h p.sn = some (p.ys.map T.ref)
  ff : h[p.ff]? = some (dtkOb (b.ff.map ffT))
  xa : InAt h p.ff p.top p.xs (b.tg.map fun f => f.map tgT)
  ya : InAt h p.ff p.top p.ys (b.sn.map fun f => f.map snT)
  o0 : n ≤ p.bk
  o1 : p.bk < p.ld
  o2 : p.ld < p.rw
  o3 : p.rw < p.pl
  o4 : p.pl < p.og
  o5 : p.og < p.tg
  o6 : p.tg < p.sn
  o7 : p.sn < p.ff
  o8 : p.ff < p.top
  o9 : p.top ≤ h.length
structure BsOk (fm : Fm) (snd : Str) (lim : Nat) (b : Bs) : Prop where
  nd : b.rows.Nodup
  le : b.rows.length ≤ lim
  ol : b.og.length = b.rows.length
  sd : ∀ d ∈ b.rows, SdOk fm snd d
section
variable {n lf lr lim : Nat} {rs : Bool} {tl : List (Str × T)} {Ds : List Dd} {p : Bp} {b : Bs} {h h' : Hh}
theorem BkAt.keep (q : BkAt n h lf lr rs lim tl Ds p b) (hl : h.length ≤ h'.length) (k : ∀ x, x < p.top → h'[x]? = h[x]?) : BkAt n h' lf lr rs lim tl Ds p b := by
  have kl : ∀ x, x < p.top → lstAt h' x = lstAt h x := fun x hx => by unfold lstAt; rw [k x hx]
  have := q.o1; have := q.o2; have := q.o3; have := q.o4; have := q.o5; have := q.o6; have := q.o7; have := q.o8; have := q.o9
  exact ⟨by rw [k _ (by omega)]; exact q.ins, by rw [kl _ (by omega)]; exact q.ld, by rw [kl _ (by omega)]; exact q.rw, by rw [k _ (by omega)]; exact q.pl, by rw [kl _ (by omega)]; exact q.og, by rw [kl _ (by omega)]; exact q.tg,
    by rw [kl _ (by omega)]; exact q.sn, by rw [k _ (by omega)]; exact q.ff, q.xa.keep (Nat.le_refl _) fun x _ hx => kl x hx, q.ya.keep (Nat.le_refl _) fun x _ hx => kl x hx, q.o0, q.o1, q.o2, q.o3, q.o4, q.o5, q.o6, q.o7, q.o8, Nat.le_trans q.o9 hl⟩
theorem BkAt.app (q : BkAt n h lf lr rs lim tl Ds p b) (z : Hh) : BkAt n (h ++ z) lf lr rs lim tl Ds p b :=
  q.keep (by simp) fun x hx => List.getElem?_append_left (by have := q.o9; omega)
theorem BkAt.set (q : BkAt n h lf lr rs lim tl Ds p b) {k : Nat} (hk : p.top ≤ k) (o : Ob) : BkAt n (h.set k o) lf lr rs lim tl Ds p b :=
  q.keep (by simp) fun x hx => List.getElem?_set_ne (by omega)
theorem ins_eq (q : BkAt n h lf lr rs lim tl Ds p b) : insAt h p.bk = some (("Book" : Str), bkIns lf lr rs lim p ++ tl) := insAt_of q.ins
end
end W3
end

section
namespace W3
open PySem
def keysU (fm : Fm) : List Ft := KINDSL.flatMap fun k => (names0 fm).map fun n => (k, n)
theorem keysU_len {fm : Fm} (o : FmOk fm) : (keysU fm).length ≤ 28 := by
  have h3 := o.f3
  have : (names0 fm).length ≤ 4 := by
    unfold names0 Fm.names
    simp
    exact h3
  unfold keysU KINDSL
  simp only [List.flatMap_cons, List.flatMap_nil, List.length_append, List.length_map, List.length_nil]
  omega
theorem nodup_le {α : Type} [DecidableEq α] : ∀ {l m : List α}, l.Nodup → (∀ x ∈ l, x ∈ m) → l.length ≤ m.length
  | [], m, _, _ => Nat.zero_le _
  | a :: l, m, nd, h => by
    rw [List.nodup_cons] at nd
    have ha := h a List.mem_cons_self
    have := nodup_le (l := l) (m := m.erase a) nd.2 fun x hx => (List.mem_erase_of_ne (fun (e : x = a) => nd.1 (by rw [← e]; exact hx))).mpr (h x (List.mem_cons_of_mem _ hx))
    rw [List.length_erase_of_mem ha] at this
    have : 0 < m.length := List.length_pos_of_mem ha
    simp only [List.length_cons]
    omega
structure FfOk (fm : Fm) (ff : List (Ft × Nat × Dd)) : Prop where
  nd : FfNd ff
  ks : ∀ q ∈ ff, q.1 ∈ keysU fm
theorem FfOk.len {fm : Fm} (o : FmOk fm) {ff : List (Ft × Nat × Dd)} (f : FfOk fm ff) : ff.length ≤ 28 := by
  have := nodup_le (l := ff.map (fun q : Ft × Nat × Dd => q.1)) (m := keysU fm) f.nd fun x hx => by
    obtain ⟨q, hq, rfl⟩ := List.mem_map.mp hx
    exact f.ks q hq
  rw [List.length_map] at this
  have := keysU_len o
  omega
theorem FfOk.one {fm : Fm} {ff : List (Ft × Nat × Dd)} (f : FfOk fm ff) {p : Ft} {i : Nat} {D : Dd} (hp : p ∈ keysU fm) : FfOk fm (if (ff.any fun q => decide (q.1 = p)) = true then ff else ff ++ [(p, i, D)]) := by
  split
  · exact f
  · rename_i z
    refine ⟨?_, fun q hq => ?_⟩
    · unfold FfNd
      rw [List.map_append, List.nodup_append]
      refine ⟨f.nd, by simp, fun a ha b hb => ?_⟩
      simp at hb
      subst hb
      obtain ⟨q, hq, rfl⟩ := List.mem_map.mp ha
      intro e
      apply z
      rw [List.any_eq_true]
      exact ⟨q, hq, by simpa using e⟩
    · rcases List.mem_append.mp hq with w | w
      · exact f.ks q w
      · simp at w; subst w; exact hp
theorem FfOk.add {fm : Fm} {i : Nat} {D : Dd} : ∀ {ps : List Ft} {ff : List (Ft × Nat × Dd)}, FfOk fm ff → (∀ p ∈ ps, p ∈ keysU fm) → FfOk fm (addF i D ps ff)
  | [], ff, f, _ => f
  | p :: ps, ff, f, h => by
    unfold addF
    exact FfOk.add (f.one (h p List.mem_cons_self)) fun q hq => h q (List.mem_cons_of_mem _ hq)
@[simp] theorem e_ssKSub (so si sv : SE) (σ : St3) (h : Hh) : ssKSub so si sv σ h = (sv σ h).flo σ fun y h1 => (so σ h1).flo σ fun x h2 => (si σ h2).flo σ fun k h3 => match x with
  | .ref l => (match h3[l]? with
    | some o => (match kPut o k y with | some o' => .nx σ (h3.set l o') | none => .stk)
    | none => .stk)
  | _ => .stk := Eq.trans rfl rfl
end W3
end

section
namespace W3
open PySem
def iT (i : Nat) : T := .int i
def calmB : Dd → Bool | .leave _ => true | .send => true | .answer _ => true | _ => false
def stk1 (i : Nat) (s : List (List Nat) × List Nat) (x : Dd × Option Nat × Option (List Str)) : List (List Nat) × List Nat :=
  match x.2.1 with
  | none => s
  | some t => if calmB x.1 = true then (s.1.modify t (fun l => l ++ [i]), if x.2.2.isSome = true ∧ i ∉ s.2.drop (s.2.length - 1) then s.2 ++ [i] else s.2) else s
def stkRow (i : Nat) (xs : List (Dd × Option Nat × Option (List Str))) (s : List (List Nat) × List Nat) : List (List Nat) × List Nat := xs.foldl (stk1 i) s
def stkAll (N : Nat) (Ds : List Dd) (tg : List (List (Option Nat))) (sn : List (List (Option (List Str)))) : Nat → List (List Nat) × List Nat
  | 0 => (List.replicate N [], [])
  | k + 1 => stkRow k (Ds.zip ((tg[k]?.getD []).zip (sn[k]?.getD []))) (stkAll N Ds tg sn k)
def bfs1 (xs : List Nat) (fd : List Nat) : List Nat := xs.foldl (fun fd s => if s ∈ fd then fd else fd ++ [s]) fd
def bfsR (src : List (List Nat)) : Nat → Nat → List Nat → List Nat
  | 0, _, fd => fd
  | k + 1, a, fd => match fd[a]? with
    | none => fd
    | some j => bfsR src k (a + 1) (bfs1 (src[j]?.getD []) fd)
def wrongB (fm : Fm) (d : Sd) : Bool := fm.fields.any fun p => (trueV fm d.words p).isSome
def stuckF (fm : Fm) (Ds : List Dd) (b : Bs) : List Nat :=
  (List.range b.rows.length).filter fun i => !decide (i ∈ bfsR (stkAll b.rows.length Ds b.tg b.sn b.rows.length).1 (b.rows.length + 1) 0 (stkAll b.rows.length Ds b.tg b.sn b.rows.length).2) && !(((b.rows[i]?).map (wrongB fm)).getD true)
structure StkOk (N i c : Nat) (s : List (List Nat) × List Nat) : Prop where
  len : s.1.length = N
  rg : ∀ l ∈ s.1, ∀ x ∈ l, x < N
  cap : ∀ l ∈ s.1, l.length ≤ c
  asc : s.2.Pairwise (· < ·)
  le : ∀ x ∈ s.2, x ≤ i
theorem StkOk.up {N i c : Nat} {s : List (List Nat) × List Nat} (q : StkOk N i c s) {i' c' : Nat} (hi : i ≤ i') (hc : c ≤ c') : StkOk N i' c' s := ⟨q.len, q.rg, fun l hl => Nat.le_trans (q.cap l hl) hc, q.asc, fun x hx => Nat.le_trans (q.le x hx) hi⟩
structure TgOk (N m : Nat) (tg : List (List (Option Nat))) (sn : List (List (Option (List Str)))) : Prop where
  fl : ∀ f ∈ tg, f.length = m ∧ ∀ t, some t ∈ f → t < N
  wl : ∀ w ∈ sn, w.length = m
  sl : sn.length = tg.length
theorem TgOk.up {N N' m : Nat} {tg : List (List (Option Nat))} {sn : List (List (Option (List Str)))} (q : TgOk N m tg sn) (h : N ≤ N') : TgOk N' m tg sn := ⟨fun f hf => ⟨(q.fl f hf).1, fun t ht => Nat.lt_of_lt_of_le ((q.fl f hf).2 t ht) h⟩, q.wl, q.sl⟩
end W3
end

section
namespace W3
open PySem
def SrcAt (h : Hh) (base : Nat) (src : List (List Nat)) : Prop := ∀ t l, src[t]? = some l → lstAt h (base + t) = some (l.map iT)
theorem SrcAt.app {h : Hh} {base : Nat} {src : List (List Nat)} (q : SrcAt h base src) (z : Hh) : SrcAt (h ++ z) base src := fun t l e => lstAt_app z (q t l e)
theorem SrcAt.put {h : Hh} {base t : Nat} {src : List (List Nat)} {l : List Nat} (q : SrcAt h base src) (e : src[t]? = some l) (i : Nat) : SrcAt (h.set (base + t) (.lst (l.map iT ++ [.int i]))) base (src.modify t (fun l => l ++ [i])) := fun u m em => by
  rw [List.getElem?_modify] at em
  by_cases hu : t = u
  · subst hu
    have em : l ++ [i] = m := by simpa [e] using em
    rw [lstAt_set_self (lstAt_lt (q t l e)), ← em, List.map_append]
    rfl
  · rw [lstAt_set_ne (by omega)]
    exact q u m (by simpa [hu] using em)
end W3
end

section
namespace W3
open PySem
def deedsD (fm : Fm) (rs : Bool) : List Dd := (fm.fields.flatMap fun p => fm.words.map fun w => Dd.enter p w) ++ fm.fields.map Dd.leave ++ [.send, .answer 0, .answer 1, .answer 2] ++ (if rs = true then [.reset] else [])
theorem deedsD_ok (fm : Fm) (rs : Bool) : ∀ D ∈ deedsD fm rs, DdOk fm D := by
  intro D hD
  unfold deedsD at hD
  rcases List.mem_append.mp hD with h | h
  · rcases List.mem_append.mp h with h | h
    · rcases List.mem_append.mp h with h | h
      · obtain ⟨p, hp, h⟩ := List.mem_flatMap.mp h
        obtain ⟨w, hw, rfl⟩ := List.mem_map.mp h
        exact ⟨hp, hw⟩
      · obtain ⟨p, hp, rfl⟩ := List.mem_map.mp h
        exact hp
    · simp at h
      rcases h with rfl | rfl | rfl | rfl
      · trivial
      · show 0 < 3; omega
      · show 1 < 3; omega
      · show 2 < 3; omega
  · cases rs with
    | true => simp at h; subst h; trivial
    | false => simp at h
structure BookOk (fm : Fm) (snd : Str) (lim m : Nat) (b : Bs) : Prop where
  ok : BsOk fm snd lim b
  fo : FfOk fm b.ff
  tk : TgOk b.rows.length m b.tg b.sn
end W3
end

section
namespace W3
open PySem
end W3
end

section
namespace W3
open PySem
def BookAt (h : Hh) (l a : Nat) (rs : Bool) (lim bk : Nat) (fm : Fm) (r : Ru) (b : Bs) : Prop :=
  ∃ (n : Nat) (p : Bp) (st : Nat), BkAt n h l a rs lim [("stuck_rows", .ref st)] (deedsD fm rs) p b ∧ p.bk = bk ∧ lstAt h st = some ((stuckF fm (deedsD fm rs) b).map iT) ∧ BookOk fm r.sending lim (deedsD fm rs).length b ∧ b.tg.length = b.rows.length ∧ 1 ≤ b.rows.length ∧ b.rows[0]? = some (startD fm)
theorem BookAt.app {h : Hh} {l a lim bk : Nat} {rs : Bool} {fm : Fm} {r : Ru} {b : Bs} (q : BookAt h l a rs lim bk fm r b) (z : Hh) : BookAt (h ++ z) l a rs lim bk fm r b := by
  obtain ⟨n, p, st, q1, q2, q3, q4⟩ := q
  exact ⟨n, p, st, q1.app z, q2, lstAt_app z q3, q4⟩
def runR (og : List (Option (Nat × Dd))) : Nat → Nat → List Dd
  | 0, _ => []
  | k + 1, i => match og[i]? with
    | some (some (j, D)) => D :: runR og k j
    | _ => []
def runD (og : List (Option (Nat × Dd))) (i : Nat) : List Dd := (runR og (i + 1) i).reverse
def OgOk (og : List (Option (Nat × Dd))) : Prop := ∀ (i j : Nat) (D : Dd), og[i]? = some (some (j, D)) → j < i
theorem runR_more {og : List (Option (Nat × Dd))} (o : OgOk og) : ∀ {k i : Nat}, i < k → runR og k i = runR og (i + 1) i
  | 0, i, h => by omega
  | k + 1, i, h => by
    unfold runR
    cases e : og[i]? with
    | none => rfl
    | some x =>
      cases x with
      | none => rfl
      | some y =>
        obtain ⟨j, D⟩ := y
        have hj := o i j D e
        simp only
        rw [runR_more o (show j < k by omega), ← runR_more o (show j < i by omega)]
end W3
end

section
namespace W3
open PySem
structure OgFull (fm : Fm) (r : Ru) (Ds : List Dd) (rows : List Sd) (og : List (Option (Nat × Dd))) : Prop where
  st : ∀ (k j : Nat) (D : Dd), og[k]? = some (some (j, D)) → j < k ∧ D ∈ Ds ∧ ∃ dj dk t, rows[j]? = some dj ∧ rows[k]? = some dk ∧ stepC fm r D dj = .ok dk t
  z : ∀ k, og[k]? = some none → k = 0
theorem OgFull.og {fm : Fm} {r : Ru} {Ds : List Dd} {rows : List Sd} {og : List (Option (Nat × Dd))} (q : OgFull fm r Ds rows og) : OgOk og := fun i j D e => (q.st i j D e).1
def ToOk (fm : Fm) (r : Ru) (rows : List Sd) (d : Sd) (D : Dd) (o : Option Nat) (w : Option (List Str)) : Prop := match stepC fm r D d with
  | .many _ => o = none ∧ w = none
  | .ok d' t => ∃ k, o = some k ∧ rows[k]? = some d' ∧ w = sentEv t
theorem ToOk.up {fm : Fm} {r : Ru} {rows rows' : List Sd} {d : Sd} {D : Dd} {o : Option Nat} {w : Option (List Str)} (q : ToOk fm r rows d D o w) (h : ∀ (j : Nat) (y : Sd), rows[j]? = some y → rows'[j]? = some y) : ToOk fm r rows' d D o w := by
  unfold ToOk at q ⊢
  split at q
  · exact q
  · obtain ⟨k, e1, e2, e3⟩ := q
    exact ⟨k, e1, h k _ e2, e3⟩
structure BkFull (fm : Fm) (r : Ru) (Ds : List Dd) (b : Bs) : Prop where
  og : OgFull fm r Ds b.rows b.og
  to : ∀ (i : Nat) (f : List (Option Nat)), b.tg[i]? = some f → ∃ d w, b.rows[i]? = some d ∧ b.sn[i]? = some w ∧ ∀ (k : Nat) (D : Dd), Ds[k]? = some D → ∃ o x, f[k]? = some o ∧ w[k]? = some x ∧ ToOk fm r b.rows d D o x
end W3
namespace W3
open PySem
end W3
namespace W3
open PySem
theorem BookAt.ins {h : Hh} {l a lim bk : Nat} {rs : Bool} {fm : Fm} {r : Ru} {b : Bs} (q : BookAt h l a rs lim bk fm r b) : ∃ fs, insAt h bk = some (("Book" : Str), fs) := by
  obtain ⟨n, p, st, q1, rfl, _⟩ := q
  exact ⟨_, ins_eq q1⟩
end W3
end

section
namespace W3
open PySem
def goes (fm : Fm) (r : Ru) : Sd → List Dd → Sd → Prop
  | d, [], e => d = e
  | d, D :: Ds, e => ∃ d' t, stepC fm r D d = .ok d' t ∧ goes fm r d' Ds e
theorem goes_snoc {fm : Fm} {r : Ru} {D : Dd} {e e' : Sd} {t : List Ev} (hs : stepC fm r D e = .ok e' t) : ∀ {Ds : List Dd} {d : Sd}, goes fm r d Ds e → goes fm r d (Ds ++ [D]) e'
  | [], d, h => by
    have h : d = e := h
    subst h
    exact ⟨e', t, hs, rfl⟩
  | E :: Ds, d, ⟨d', t', h1, h2⟩ => ⟨d', t', h1, goes_snoc hs h2⟩
theorem runD_zero {og : List (Option (Nat × Dd))} {i : Nat} (h : og[i]? = some none) : runD og i = [] := by
  unfold runD runR
  rw [h]
  rfl
theorem runD_succ {og : List (Option (Nat × Dd))} (o : OgOk og) {i j : Nat} {D : Dd} (h : og[i]? = some (some (j, D))) : runD og i = runD og j ++ [D] := by
  have hj := o i j D h
  have e : runR og (i + 1) i = D :: runR og (j + 1) j := by
    show (match og[i]? with | some (some (j, D)) => D :: runR og i j | _ => []) = _
    rw [h]
    simp only
    rw [runR_more o hj]
  unfold runD
  rw [e, List.reverse_cons]
theorem run_goes {fm : Fm} {r : Ru} {Ds : List Dd} {rows : List Sd} {og : List (Option (Nat × Dd))} (q : OgFull fm r Ds rows og) (hl : og.length = rows.length) {d0 : Sd} (h0 : rows[0]? = some d0) : ∀ (n i : Nat), i < n → ∀ d, rows[i]? = some d → goes fm r d0 (runD og i) d ∧ (runD og i).length ≤ i ∧ ∀ D ∈ runD og i, D ∈ Ds
  | 0, i, h, _, _ => by omega
  | n + 1, i, h, d, hd => by
    have hi := (List.getElem?_eq_some_iff.mp hd).1
    obtain ⟨x, hx⟩ : ∃ x, og[i]? = some x := ⟨_, List.getElem?_eq_getElem (by omega)⟩
    cases x with
    | none =>
      have hz := q.z i hx
      subst hz
      rw [h0] at hd
      cases hd
      rw [runD_zero hx]
      exact ⟨rfl, Nat.le_refl _, fun D hD => by cases hD⟩
    | some y =>
      obtain ⟨j, D⟩ := y
      obtain ⟨h1, h2, dj, dk, t, r1, r2, r3⟩ := q.st i j D hx
      rw [hd] at r2
      cases r2
      obtain ⟨g1, g2, g3⟩ := run_goes q hl h0 n j (by omega) dj r1
      rw [runD_succ q.og hx]
      refine ⟨goes_snoc r3 g1, by simp; omega, fun E hE => ?_⟩
      rcases List.mem_append.mp hE with z | z
      · exact g3 E z
      · simp at z; subst z; exact h2
end W3
end

section
namespace W3
open PySem
def dAt : Dd → List (Str ⊕ Int)
  | .enter p w => [.inl "enter", .inl p.1, .inl w]
  | .leave p => [.inl "leave", .inl p.1]
  | .send => [.inl "send"]
  | .answer i => [.inl "answer", .inr i]
  | .reset => [.inl "reset"]
end W3
end

section
namespace W3
open PySem
end W3
end

section
namespace W3
open PySem
def dIx (Ds : List Dd) (D : Dd) : Nat := Ds.findIdx fun E => decide (dAt E = dAt D)
def IxOk (Ds : List Dd) : Prop := ∀ (j : Nat) (D : Dd), Ds[j]? = some D → dIx Ds D = j
structure OgOrd (Ds : List Dd) (og : List (Option (Nat × Dd))) (i n : Nat) : Prop where
  ord : ∀ (k k' j j' : Nat) (D D' : Dd), og[k]? = some (some (j, D)) → og[k']? = some (some (j', D')) → k < k' → j < j' ∨ (j = j' ∧ dIx Ds D < dIx Ds D')
  bd : ∀ (k j : Nat) (D : Dd), og[k]? = some (some (j, D)) → j < i ∨ (j = i ∧ dIx Ds D < n)
theorem OgOrd.up {Ds : List Dd} {og : List (Option (Nat × Dd))} {i n i' n' : Nat} (q : OgOrd Ds og i n) (h : i < i' ∨ (i = i' ∧ n ≤ n')) : OgOrd Ds og i' n' :=
  ⟨q.ord, fun k j D e => by rcases q.bd k j D e with z | ⟨z, w⟩ <;> omega⟩
theorem OgOrd.snoc {Ds : List Dd} {og : List (Option (Nat × Dd))} {i n : Nat} {D : Dd} (q : OgOrd Ds og i n) (hD : dIx Ds D = n) : OgOrd Ds (og ++ [some (i, D)]) i (n + 1) := by
  have at_ : ∀ {k : Nat} {x : Option (Nat × Dd)}, (og ++ [some (i, D)])[k]? = some x → (og[k]? = some x ∧ k < og.length) ∨ (k = og.length ∧ x = some (i, D)) := fun {k x} h => by
    by_cases hk : k < og.length
    · rw [List.getElem?_append_left hk] at h
      exact .inl ⟨h, hk⟩
    · have hk2 : k = og.length := by
        have := (List.getElem?_eq_some_iff.mp h).1
        simp at this; omega
      subst hk2
      rw [List.getElem?_append_right (Nat.le_refl _)] at h
      simp at h
      exact .inr ⟨rfl, h.symm⟩
  refine ⟨fun k k' j j' E E' h1 h2 hk => ?_, fun k j E h => ?_⟩
  · rcases at_ h1 with ⟨g1, l1⟩ | ⟨g0, g1⟩
    · rcases at_ h2 with ⟨g2, l2⟩ | ⟨_, g2⟩
      · exact q.ord k k' j j' E E' g1 g2 hk
      · injection g2 with g2
        injection g2 with g3 g4
        subst g3 g4
        rcases q.bd k j E g1 with z | ⟨z, w⟩
        · exact .inl z
        · exact .inr ⟨z, by omega⟩
    · rcases at_ h2 with ⟨g2, l2⟩ | ⟨g2, _⟩ <;> omega
  · rcases at_ h with ⟨g, l⟩ | ⟨_, g⟩
    · rcases q.bd k j E g with z | ⟨z, w⟩
      · exact .inl z
      · exact .inr ⟨z, by omega⟩
    · injection g with g
      injection g with g3 g4
      subst g3 g4
      exact .inr ⟨rfl, by omega⟩
def Early (fm : Fm) (r : Ru) (Ds : List Dd) (rows : List Sd) (og : List (Option (Nat × Dd))) (d : Sd) (i : Nat) (D : Dd) : Prop :=
  ∀ d' t, stepC fm r D d = .ok d' t → ∃ (k : Nat) (x : Option (Nat × Dd)), rows[k]? = some d' ∧ og[k]? = some x ∧ (x = none ∨ ∃ j E, x = some (j, E) ∧ (j < i ∨ (j = i ∧ dIx Ds E ≤ dIx Ds D)))
theorem Early.up {fm : Fm} {r : Ru} {Ds : List Dd} {rows rows' : List Sd} {og og' : List (Option (Nat × Dd))} {d : Sd} {i : Nat} {D : Dd} (q : Early fm r Ds rows og d i D) (h1 : ∀ (j : Nat) (y : Sd), rows[j]? = some y → rows'[j]? = some y) (h2 : ∀ (j : Nat) (y : Option (Nat × Dd)), og[j]? = some y → og'[j]? = some y) : Early fm r Ds rows' og' d i D := fun d' t e => by
  obtain ⟨k, x, e1, e2, e3⟩ := q d' t e
  exact ⟨k, x, h1 k _ e1, h2 k _ e2, e3⟩
structure BkOrd (fm : Fm) (r : Ru) (Ds : List Dd) (b : Bs) : Prop where
  og : OgOrd Ds b.og b.tg.length 0
  to : ∀ (i : Nat) (d : Sd) (D : Dd), i < b.tg.length → b.rows[i]? = some d → D ∈ Ds → Early fm r Ds b.rows b.og d i D
end W3
end

section
namespace W3
open PySem
end W3
namespace W3
open PySem
def metK (rows : List Sd) : List (T × T) := rows.map fun d => (d.t, T.bl true)
end W3
end

section
namespace W3
open PySem
def sentX (fm : Fm) (r : Ru) (D : Dd) (d : Sd) : Option (List Str) := match stepC fm r D d with | .ok _ t => sentEv t | .many _ => none
def SntP (fm : Fm) (r : Ru) (Ds : List Dd) (b : Bs) (i j : Nat) : Prop := ∃ d D, b.rows[i]? = some d ∧ Ds[j]? = some D ∧ (sentX fm r D d).isSome = true
def SntV (fm : Fm) (r : Ru) (Ds : List Dd) (b : Bs) (t : T) : Prop := (t = .non ∧ ∀ i j, ¬ SntP fm r Ds b i j) ∨
  ∃ i j D, SntP fm r Ds b i j ∧ Ds[j]? = some D ∧ (∀ i' j', SntP fm r Ds b i' j' → i < i' ∨ (i = i' ∧ j ≤ j')) ∧ t = .tup ((runD b.og i ++ [D]).map Dd.t)
theorem SntV.uniq {fm : Fm} {r : Ru} {Ds : List Dd} {b : Bs} {t u : T} (p : SntV fm r Ds b t) (q : SntV fm r Ds b u) : t = u := by
  rcases p with ⟨rfl, p⟩ | ⟨i, j, D, p1, p2, p3, rfl⟩
  · rcases q with ⟨rfl, q⟩ | ⟨i, j, D, q1, q2, q3, rfl⟩
    · rfl
    · exact absurd q1 (p i j)
  · rcases q with ⟨rfl, q⟩ | ⟨i', j', D', q1, q2, q3, rfl⟩
    · exact absurd p1 (q i j)
    · have e : i = i' ∧ j = j' := by
        rcases p3 i' j' q1 with z | ⟨z, w⟩ <;> rcases q3 i j p1 with z' | ⟨z', w'⟩ <;> omega
      obtain ⟨rfl, rfl⟩ := e
      rw [p2] at q2
      cases q2
      rfl
def ShwP (b : Bs) (p : Nat) (m : Str) (i : Nat) : Prop := ∃ d, b.rows[i]? = some d ∧ d.mess[p]? = some (some m)
def ShwV (b : Bs) (p : Nat) (m : Str) (t : T) : Prop := (t = .non ∧ ∀ i, ¬ ShwP b p m i) ∨ ∃ i, ShwP b p m i ∧ (∀ i', ShwP b p m i' → i ≤ i') ∧ t = .tup ((runD b.og i).map Dd.t)
theorem ShwV.uniq {b : Bs} {p : Nat} {m : Str} {t u : T} (x : ShwV b p m t) (q : ShwV b p m u) : t = u := by
  rcases x with ⟨rfl, x⟩ | ⟨i, x1, x2, rfl⟩
  · rcases q with ⟨rfl, q⟩ | ⟨i, q1, q2, rfl⟩
    · rfl
    · exact absurd q1 (x i)
  · rcases q with ⟨rfl, q⟩ | ⟨i', q1, q2, rfl⟩
    · exact absurd x1 (q i)
    · have e : i = i' := by have := x2 i' q1; have := q2 i x1; omega
      subst e
      rfl
theorem pure_run {fm : Fm} {r : Ru} {rs : Bool} {b : Bs} (full : BkFull fm r (deedsD fm rs) b) (ol : b.og.length = b.rows.length) (h0 : b.rows[0]? = some (startD fm)) (hl : b.rows.length ≤ 900) {i : Nat} {d : Sd} (hi : b.rows[i]? = some d) {tl : List Dd} (ht : ∀ D ∈ tl, D ∈ deedsD fm rs) (htl : tl.length ≤ 1) : PureT 5 (.tup ((runD b.og i ++ tl).map Dd.t)) := by
  obtain ⟨_, gl, gm⟩ := run_goes full.og ol h0 (i + 1) i (by omega) d hi
  have hil := (List.getElem?_eq_some_iff.mp hi).1
  refine .inr ⟨_, rfl, by simp; omega, fun x hx => ?_⟩
  obtain ⟨D, hD, rfl⟩ := List.mem_map.mp hx
  rcases List.mem_append.mp hD with z | z
  · exact (pure_dd (deedsD_ok fm rs D (gm D z))).add 3
  · exact (pure_dd (deedsD_ok fm rs D (ht D z))).add 3
theorem SntV.pure {fm : Fm} {r : Ru} {rs : Bool} {b : Bs} {t : T} (v : SntV fm r (deedsD fm rs) b t) (full : BkFull fm r (deedsD fm rs) b) (ol : b.og.length = b.rows.length) (h0 : b.rows[0]? = some (startD fm)) (hl : b.rows.length ≤ 900) : PureT 5 t := by
  rcases v with ⟨rfl, _⟩ | ⟨i, j, D, ⟨d, D', hi, hj, _⟩, p2, _, rfl⟩
  · exact .inl rfl
  · exact pure_run full ol h0 hl hi (fun E hE => by simp at hE; subst hE; exact List.mem_of_getElem? p2) (by simp)
theorem ShwV.pure {fm : Fm} {r : Ru} {rs : Bool} {b : Bs} {p : Nat} {m : Str} {t : T} (v : ShwV b p m t) (full : BkFull fm r (deedsD fm rs) b) (ol : b.og.length = b.rows.length) (h0 : b.rows[0]? = some (startD fm)) (hl : b.rows.length ≤ 900) : PureT 5 t := by
  rcases v with ⟨rfl, _⟩ | ⟨i, ⟨d, hi, _⟩, _, rfl⟩
  · exact .inl rfl
  · have := pure_run full ol h0 hl hi (tl := []) (fun E hE => by cases hE) (by simp)
    rw [List.append_nil] at this
    exact this
end W3
end

section
namespace W3
open PySem
def prK (ps : List Ft) : List (T × T) := ps.map fun p => (tPr p, T.bl true)
end W3
namespace W3
open PySem
structure Nv (h g : Hh) (ps : List Ft) : Prop where
  out : ∃ z, g = h ++ z
  at_ : g[h.length]? = some (dtkOb (prK ps))
section
variable {h g : Hh} {ps : List Ft}
theorem Nv.lt (q : Nv h g ps) : h.length < g.length := (List.getElem?_eq_some_iff.mp q.at_).1
theorem Nv.app (q : Nv h g ps) (z : Hh) : Nv h (g ++ z) ps := ⟨by obtain ⟨y, rfl⟩ := q.out; exact ⟨y ++ z, List.append_assoc _ _ _⟩, by rw [List.getElem?_append_left q.lt]; exact q.at_⟩
theorem Nv.put (q : Nv h g ps) (qs : List Ft) : Nv h (g.set h.length (dtkOb (prK qs))) qs := by
  refine ⟨?_, List.getElem?_set_self q.lt⟩
  obtain ⟨y, rfl⟩ := q.out
  exact ⟨y.set 0 (dtkOb (prK qs)), by rw [List.set_append_right _ _ (Nat.le_refl _)]; simp⟩
theorem Nv.new (h : Hh) : Nv h (h ++ [.dic []]) [] := ⟨⟨_, rfl⟩, by rw [List.getElem?_append_right (Nat.le_refl _)]; simp [prK, dtkOb]⟩
end
end W3
namespace W3
open PySem
end W3
end

section
namespace W3
open PySem
def fltX (fm : Fm) (r : Ru) (d : Sd) (D : Dd) : List Ft := match stepC fm r D d with | .many m => [("full", m)] | .ok d' t => faultsF fm d' t
structure FltOk (fm : Fm) (r : Ru) (Ds : List Dd) (rows : List Sd) (ff : List (Ft × Nat × Dd)) (i n : Nat) : Prop where
  so : ∀ q ∈ ff, ∃ d, rows[q.2.1]? = some d ∧ q.2.2 ∈ Ds ∧ q.1 ∈ fltX fm r d q.2.2 ∧ (q.2.1 < i ∨ (q.2.1 = i ∧ dIx Ds q.2.2 < n))
  co : ∀ (j : Nat) (d : Sd) (D : Dd), rows[j]? = some d → D ∈ Ds → (j < i ∨ (j = i ∧ dIx Ds D < n)) → ∀ p ∈ fltX fm r d D, ∃ q ∈ ff, q.1 = p ∧ (q.2.1 < j ∨ (q.2.1 = j ∧ dIx Ds q.2.2 ≤ dIx Ds D))
theorem FltOk.up {fm : Fm} {r : Ru} {Ds : List Dd} (ix : IxOk Ds) {rows : List Sd} {ff : List (Ft × Nat × Dd)} {i : Nat} (q : FltOk fm r Ds rows ff i Ds.length) : FltOk fm r Ds rows ff (i + 1) 0 :=
  ⟨fun x hx => by
    obtain ⟨d, a1, a2, a3, a4⟩ := q.so x hx
    exact ⟨d, a1, a2, a3, .inl (by rcases a4 with a | ⟨a, _⟩ <;> omega)⟩, fun j d D hj hD hlt p hp => by
    refine q.co j d D hj hD ?_ p hp
    obtain ⟨m, hm⟩ := List.getElem?_of_mem hD
    have := ix m D hm
    have := (List.getElem?_eq_some_iff.mp hm).1
    rcases hlt with z | ⟨z, w⟩
    · by_cases h : j < i
      · exact .inl h
      · exact .inr ⟨by omega, by omega⟩
    · omega⟩
structure BkFlt (fm : Fm) (r : Ru) (Ds : List Dd) (b : Bs) : Prop where
  so : ∀ q ∈ b.ff, ∃ d, b.rows[q.2.1]? = some d ∧ q.2.2 ∈ Ds ∧ q.1 ∈ fltX fm r d q.2.2
  co : ∀ (j : Nat) (d : Sd) (D : Dd), b.rows[j]? = some d → D ∈ Ds → ∀ p ∈ fltX fm r d D, ∃ q ∈ b.ff, q.1 = p ∧ (q.2.1 < j ∨ (q.2.1 = j ∧ dIx Ds q.2.2 ≤ dIx Ds D))
end W3
end

section
namespace W3
open PySem
inductive SndC (fm : Fm) (r : Ru) : Sd → Prop
  | here {d d' : Sd} {D : Dd} {t : List Ev} (k : DdOk fm D) (c : calmB D = true) (e : stepC fm r D d = .ok d' t) (s : (sentEv t).isSome = true) : SndC fm r d
  | there {d d' : Sd} {D : Dd} {t : List Ev} (k : DdOk fm D) (c : calmB D = true) (e : stepC fm r D d = .ok d' t) (s : SndC fm r d') : SndC fm r d
end W3
end

section
namespace W3
open PySem
def ClosL (fm : Fm) (r : Ru) (Ds : List Dd) (B : List Sd) : Prop := ∀ d ∈ B, ∀ D ∈ Ds, ∀ d' t, stepC fm r D d = .ok d' t → d' ∈ B
end W3
end

section
namespace W3
open PySem
abbrev Sr := List Sd × List (List Dd)
def sr1 (fm : Fm) (r : Ru) (d : Sd) (P : List Dd) (s : Sr) (D : Dd) : Sr := match stepC fm r D d with
  | .many _ => s
  | .ok d' _ => if d' ∈ s.1 then s else (s.1 ++ [d'], s.2 ++ [P ++ [D]])
structure SrOk (fm : Fm) (snd : Str) (Ds : List Dd) (s : Sr) : Prop where
  nd : s.1.Nodup
  sd : ∀ d ∈ s.1, SdOk fm snd d
  ln : s.2.length = s.1.length
  rl : ∀ (i : Nat) (P : List Dd), s.2[i]? = some P → P.length ≤ i ∧ ∀ D ∈ P, D ∈ Ds
end W3
namespace W3
open PySem
structure R56 (h g : Hh) (fl rl dl : Nat) (s : Sr) : Prop where
  out : ∃ z, g = h ++ z
  f : lstAt g fl = some (s.1.map Sd.t)
  r : lstAt g rl = some (s.2.map fun P => T.tup (P.map Dd.t))
  d : g[dl]? = some (dtkOb (metK s.1))
  hf : h.length ≤ fl
  hr : h.length ≤ rl
  hd : h.length ≤ dl
  fr : fl ≠ rl
section
variable {h g : Hh} {fl rl dl : Nat} {s : Sr}
theorem R56.app (q : R56 h g fl rl dl s) (z : Hh) : R56 h (g ++ z) fl rl dl s :=
  ⟨by obtain ⟨y, rfl⟩ := q.out; exact ⟨y ++ z, List.append_assoc _ _ _⟩, lstAt_app z q.f, lstAt_app z q.r, by rw [List.getElem?_append_left (List.getElem?_eq_some_iff.mp q.d).1]; exact q.d, q.hf, q.hr, q.hd, q.fr⟩
theorem out_set {x : Nat} {o : Ob} (q : ∃ z, g = h ++ z) (hx : h.length ≤ x) : ∃ z, g.set x o = h ++ z := by
  obtain ⟨z, rfl⟩ := q
  exact ⟨_, List.set_append_right _ _ hx⟩
theorem R56.df (q : R56 h g fl rl dl s) : fl ≠ dl := fun e => by
  have a := of_lstAt q.f
  have b := q.d
  rw [e, b] at a
  cases hm : metK s.1 <;> rw [hm] at a <;> cases a
theorem R56.dr (q : R56 h g fl rl dl s) : rl ≠ dl := fun e => by
  have a := of_lstAt q.r
  have b := q.d
  rw [e, b] at a
  cases hm : metK s.1 <;> rw [hm] at a <;> cases a
theorem R56.add (q : R56 h g fl rl dl s) (d : Sd) (P : List Dd) : R56 h (((g.set dl (dtkOb (metK (s.1 ++ [d])))).set fl (.lst ((s.1 ++ [d]).map Sd.t))).set rl (.lst ((s.2 ++ [P]).map fun P => T.tup (P.map Dd.t)))) fl rl dl (s.1 ++ [d], s.2 ++ [P]) := by
  have l1 := lstAt_lt q.f
  have l2 := lstAt_lt q.r
  have l3 := (List.getElem?_eq_some_iff.mp q.d).1
  refine ⟨out_set (out_set (out_set q.out q.hd) q.hf) q.hr, ?_, ?_, ?_, q.hf, q.hr, q.hd, q.fr⟩
  · rw [lstAt_set_ne q.fr.symm, lstAt_set_self (by rw [List.length_set]; exact l1)]
  · rw [lstAt_set_self (by rw [List.length_set, List.length_set]; exact l2)]
  · rw [List.getElem?_set_ne q.dr, List.getElem?_set_ne q.df, List.getElem?_set_self l3]
end
end W3
namespace W3
open PySem
end W3
namespace W3
open PySem
end W3
end

section
namespace W3
open PySem
end W3
namespace W3
open PySem
end W3
namespace W3
open PySem
end W3
namespace W3
open PySem
structure Nk (h g : Hh) (kvs : List (T × T)) : Prop where
  out : ∃ z, g = h ++ z
  at_ : g[h.length]? = some (dtkOb kvs)
section
variable {h g : Hh} {kvs : List (T × T)}
theorem Nk.lt (q : Nk h g kvs) : h.length < g.length := (List.getElem?_eq_some_iff.mp q.at_).1
theorem Nk.app (q : Nk h g kvs) (z : Hh) : Nk h (g ++ z) kvs := ⟨by obtain ⟨y, rfl⟩ := q.out; exact ⟨y ++ z, List.append_assoc _ _ _⟩, by rw [List.getElem?_append_left q.lt]; exact q.at_⟩
theorem Nk.put (q : Nk h g kvs) (qs : List (T × T)) : Nk h (g.set h.length (dtkOb qs)) qs := by
  refine ⟨?_, List.getElem?_set_self q.lt⟩
  obtain ⟨y, rfl⟩ := q.out
  exact ⟨y.set 0 (dtkOb qs), by rw [List.set_append_right _ _ (Nat.le_refl _)]; simp⟩
theorem Nk.new (h : Hh) : Nk h (h ++ [.dic []]) [] := ⟨⟨_, rfl⟩, by rw [List.getElem?_append_right (Nat.le_refl _)]; simp [dtkOb]⟩
end
end W3
namespace W3
open PySem
end W3
end

section
namespace W3
open PySem
def Bad57 (h : Hh) (v : T) : Prop := (∃ i : Int, v = .int i ∧ (i < 1 ∨ 10000 < i)) ∨ (∃ b, v = .bl b) ∨ v = .non ∨ (∃ s, v = .str s) ∨ v = .tup [] ∨ ∃ l ts, v = .ref l ∧ lstAt h l = some ts ∧ ts.length ≤ 100000 ∧ ∀ x ∈ ts, flatT x = true
theorem Bad57.app {h : Hh} {v : T} (q : Bad57 h v) (z : Hh) : Bad57 (h ++ z) v := by
  rcases q with q | q | q | q | q | ⟨l, ts, e, el, hl, q⟩
  · exact .inl q
  · exact .inr (.inl q)
  · exact .inr (.inr (.inl q))
  · exact .inr (.inr (.inr (.inl q)))
  · exact .inr (.inr (.inr (.inr (.inl q))))
  · exact .inr (.inr (.inr (.inr (.inr ⟨l, ts, e, lstAt_app z el, hl, q⟩))))
theorem Bad57.same {h : Hh} {v : T} (q : Bad57 h v) (n : Nat) : SameV h (n + 1) v v := by
  rcases q with ⟨i, rfl, _⟩ | ⟨b, rfl⟩ | rfl | ⟨s, rfl⟩ | rfl | ⟨l, ts, rfl, el, hl, q⟩
  · exact .inl ⟨rfl, rfl⟩
  · exact .inl ⟨rfl, rfl⟩
  · exact .inl ⟨rfl, rfl⟩
  · exact .inl ⟨rfl, rfl⟩
  · exact SameV.tup rfl (Nat.zero_le _) (fun i x y e => by simp at e)
  · exact SameV.lists2 el el hl fun x hx => (by
      have f := q x hx
      cases n with
      | zero => exact ⟨rfl, f⟩
      | succ n => exact .inl ⟨rfl, f⟩)
end W3
end

section
namespace W3
open PySem
structure InvR (fm : Fm) (r : Ru) (rows R : List Sd) : Prop where
  nd : R.Nodup
  s : ∀ d ∈ R, d ∈ rows ∧ SndC fm r d
end W3
end

section
namespace W3
open PySem
structure Cp where
  n : Nat
  rw : Nat
  pl : Nat
  tg : Nat
  sn : Nat
  fk : Nat
def clIns (lf lr ld : Nat) (p : Cp) : List (Str × T) := [("form", .ref lf), ("rule", .ref lr), ("deed_list", .ref ld), ("rows", .ref p.rw), ("places", .ref p.pl), ("targets", .ref p.tg), ("sents", .ref p.sn), ("fault_kinds", .ref p.fk)]
structure C63 (h g : Hh) (lf lr ld : Nat) (p : Cp) (rows : List Sd) (kt kf : Nat) : Prop where
  out : ∃ z, g = h ++ z
  ins : g[p.n]? = some (.ins "ClosedList" (clIns lf lr ld p))
  rw : lstAt g p.rw = some (rows.map Sd.t)
  pl : g[p.pl]? = some (dtkOb (rowsK rows))
  tg : ∃ ts, lstAt g p.tg = some ts ∧ ts.length ≤ kt
  sn : ∃ ts, lstAt g p.sn = some ts ∧ ts.length ≤ kt
  fk : ∃ ts, lstAt g p.fk = some ts ∧ ts.length ≤ kf
  o : h.length ≤ p.n ∧ p.n < p.rw ∧ p.rw < p.pl ∧ p.pl < p.tg ∧ p.tg < p.sn ∧ p.sn < p.fk
section
variable {h g : Hh} {lf lr ld : Nat} {p : Cp} {rows : List Sd} {kt kf : Nat}
theorem C63.len (q : C63 h g lf lr ld p rows kt kf) : p.fk < g.length := by obtain ⟨ts, e, _⟩ := q.fk; exact lstAt_lt e
theorem C63.app (q : C63 h g lf lr ld p rows kt kf) (z : Hh) : C63 h (g ++ z) lf lr ld p rows kt kf := by
  have l := q.len
  have o := q.o
  obtain ⟨t1, e1, l1⟩ := q.tg
  obtain ⟨t2, e2, l2⟩ := q.sn
  obtain ⟨t3, e3, l3⟩ := q.fk
  refine ⟨?_, by rw [List.getElem?_append_left (by omega)]; exact q.ins, lstAt_app z q.rw, by rw [List.getElem?_append_left (by omega)]; exact q.pl, ⟨t1, lstAt_app z e1, l1⟩, ⟨t2, lstAt_app z e2, l2⟩, ⟨t3, lstAt_app z e3, l3⟩, o⟩
  obtain ⟨y, rfl⟩ := q.out
  exact ⟨y ++ z, List.append_assoc _ _ _⟩
end
theorem C63.mono {h g : Hh} {lf lr ld : Nat} {p : Cp} {rows : List Sd} {kt kf kf' : Nat} (q : C63 h g lf lr ld p rows kt kf) (hk : kf ≤ kf') : C63 h g lf lr ld p rows kt kf' := by
  obtain ⟨t3, e3, l3⟩ := q.fk
  exact ⟨q.out, q.ins, q.rw, q.pl, q.tg, q.sn, ⟨t3, e3, by omega⟩, q.o⟩
theorem ClosL.same {fm : Fm} {r : Ru} {Ds : List Dd} {A B : List Sd} (e : ∀ d, d ∈ A ↔ d ∈ B) (q : ClosL fm r Ds A) : ClosL fm r Ds B := fun d hd D hD d' t es => (e d').mp (q d ((e d).mpr hd) D hD d' t es)
end W3
end

section
namespace W3
open PySem
structure C65 (h g : Hh) (lf lr ld : Nat) (p : Cp) (tl : List (Str × T)) (rows : List Sd) (TG : List (List (Option Nat))) (SN : List (List (Option (List Str)))) (FK : List Str) (xs ys : List Nat) : Prop where
  out : ∃ z, g = h ++ z
  ins : g[p.n]? = some (.ins "ClosedList" (clIns lf lr ld p ++ tl))
  rw : lstAt g p.rw = some (rows.map Sd.t)
  pl : g[p.pl]? = some (dtkOb (rowsK rows))
  tg : lstAt g p.tg = some (xs.map T.ref)
  sn : lstAt g p.sn = some (ys.map T.ref)
  fk : lstAt g p.fk = some (tSs FK)
  xa : InAt g p.fk g.length xs (TG.map fun f => f.map tgT)
  ya : InAt g p.fk g.length ys (SN.map fun f => f.map snT)
  o : h.length ≤ p.n ∧ p.n < p.rw ∧ p.rw < p.pl ∧ p.pl < p.tg ∧ p.tg < p.sn ∧ p.sn < p.fk
section
variable {h g : Hh} {lf lr ld : Nat} {p : Cp} {tl : List (Str × T)} {rows : List Sd} {tg : List (List (Option Nat))} {sn : List (List (Option (List Str)))} {fk : List Str} {xs ys : List Nat}
theorem C65.len (q : C65 h g lf lr ld p tl rows tg sn fk xs ys) : p.fk < g.length := lstAt_lt q.fk
theorem C65.app (q : C65 h g lf lr ld p tl rows tg sn fk xs ys) (z : Hh) : C65 h (g ++ z) lf lr ld p tl rows tg sn fk xs ys := by
  have l := q.len
  have o := q.o
  have hl : g.length ≤ (g ++ z).length := by simp
  have kp : ∀ x, p.fk < x → x < g.length → lstAt (g ++ z) x = lstAt g x := fun x _ hx => by unfold lstAt; rw [List.getElem?_append_left hx]
  refine ⟨?_, by rw [List.getElem?_append_left (by omega)]; exact q.ins, lstAt_app z q.rw, by rw [List.getElem?_append_left (by omega)]; exact q.pl, lstAt_app z q.tg, lstAt_app z q.sn, lstAt_app z q.fk, q.xa.keep hl kp, q.ya.keep hl kp, o⟩
  obtain ⟨y, rfl⟩ := q.out
  exact ⟨y ++ z, List.append_assoc _ _ _⟩
theorem C65.add (q : C65 h g lf lr ld p tl rows tg sn fk xs ys) {x y : Nat} {f : List (Option Nat)} {w : List (Option (List Str))} (ex : lstAt g x = some (f.map tgT)) (ey : lstAt g y = some (w.map snT)) (hx : p.fk < x) (hy : p.fk < y) : C65 h ((g.set p.tg (.lst ((xs ++ [x]).map T.ref))).set p.sn (.lst ((ys ++ [y]).map T.ref))) lf lr ld p tl rows (tg ++ [f]) (sn ++ [w]) fk (xs ++ [x]) (ys ++ [y]) := by
  have ho := q.o
  have l := q.len
  have lx := lstAt_lt ex
  have ly := lstAt_lt ey
  have kp : ∀ x, p.fk < x → x < g.length → lstAt ((g.set p.tg (.lst ((xs ++ [x]).map T.ref))).set p.sn (.lst ((ys ++ [y]).map T.ref))) x = lstAt g x := fun x hx _ => by rw [lstAt_set_ne (by omega), lstAt_set_ne (by omega)]
  have kp2 : ∀ v, p.fk < v → lstAt ((g.set p.tg (.lst ((xs ++ [x]).map T.ref))).set p.sn (.lst ((ys ++ [y]).map T.ref))) v = lstAt g v := fun v hv => by rw [lstAt_set_ne (by omega), lstAt_set_ne (by omega)]
  have hl : ((g.set p.tg (.lst ((xs ++ [x]).map T.ref))).set p.sn (.lst ((ys ++ [y]).map T.ref))).length = g.length := by simp
  refine ⟨out_set (out_set q.out (by omega)) (by omega), by rw [List.getElem?_set_ne (by omega), List.getElem?_set_ne (by omega)]; exact q.ins, by rw [lstAt_set_ne (by omega), lstAt_set_ne (by omega)]; exact q.rw, by rw [List.getElem?_set_ne (by omega), List.getElem?_set_ne (by omega)]; exact q.pl,
    by rw [lstAt_set_ne (by omega), lstAt_set_self (by omega)], by rw [lstAt_set_self (by rw [List.length_set]; omega)], by rw [lstAt_set_ne (by omega), lstAt_set_ne (by omega)]; exact q.fk, ?_, ?_, ho⟩
  · have e : (tg ++ [f]).map (fun f => f.map tgT) = tg.map (fun f => f.map tgT) ++ [f.map tgT] := by simp
    rw [hl, e]
    exact (q.xa.keep (Nat.le_refl _) fun v hv _ => kp2 v hv).snoc (by rw [kp2 x hx]; exact ex) hx lx
  · have e : (sn ++ [w]).map (fun f => f.map snT) = sn.map (fun f => f.map snT) ++ [w.map snT] := by simp
    rw [hl, e]
    exact (q.ya.keep (Nat.le_refl _) fun v hv _ => kp2 v hv).snoc (by rw [kp2 y hy]; exact ey) hy ly
end
structure LkI (fm : Fm) (r : Ru) (Ds : List Dd) (rows : List Sd) (i : Nat) (tg : List (List (Option Nat))) (sn : List (List (Option (List Str)))) : Prop where
  tl : tg.length = i
  sl : sn.length = i
  to : ∀ (i : Nat) (f : List (Option Nat)), tg[i]? = some f → ∃ d w, rows[i]? = some d ∧ sn[i]? = some w ∧ f.length = Ds.length ∧ w.length = Ds.length ∧ ∀ (k : Nat) (D : Dd), Ds[k]? = some D → ∃ o x, f[k]? = some o ∧ w[k]? = some x ∧ ToOk fm r rows d D o x
structure FwI (fm : Fm) (r : Ru) (Ds : List Dd) (rows : List Sd) (d : Sd) (j : Nat) (f : List (Option Nat)) (w : List (Option (List Str))) : Prop where
  fl : f.length = j
  wl : w.length = j
  to : ∀ (k : Nat) (D : Dd), k < j → Ds[k]? = some D → ∃ o x, f[k]? = some o ∧ w[k]? = some x ∧ ToOk fm r rows d D o x
theorem FwI.add {fm : Fm} {r : Ru} {Ds : List Dd} {rows : List Sd} {d : Sd} {j : Nat} {f : List (Option Nat)} {w : List (Option (List Str))} (q : FwI fm r Ds rows d j f w) {D : Dd} (hD : Ds[j]? = some D) {o : Option Nat} {x : Option (List Str)} (t : ToOk fm r rows d D o x) : FwI fm r Ds rows d (j + 1) (f ++ [o]) (w ++ [x]) := by
  refine ⟨by simp [q.fl], by simp [q.wl], fun k E hk hE => ?_⟩
  by_cases h : k < j
  · obtain ⟨o', x', e1, e2, e3⟩ := q.to k E h hE
    exact ⟨o', x', by rw [List.getElem?_append_left (by rw [q.fl]; exact h)]; exact e1, by rw [List.getElem?_append_left (by rw [q.wl]; exact h)]; exact e2, e3⟩
  · have : k = j := by omega
    subst this
    rw [hD] at hE
    cases hE
    exact ⟨o, x, by rw [List.getElem?_append_right (by rw [q.fl]; exact Nat.le_refl _), q.fl, Nat.sub_self]; rfl, by rw [List.getElem?_append_right (by rw [q.wl]; exact Nat.le_refl _), q.wl, Nat.sub_self]; rfl, t⟩
theorem LkI.add {fm : Fm} {r : Ru} {Ds : List Dd} {rows : List Sd} {i : Nat} {tg : List (List (Option Nat))} {sn : List (List (Option (List Str)))} (q : LkI fm r Ds rows i tg sn) {d : Sd} (hd : rows[i]? = some d) {f : List (Option Nat)} {w : List (Option (List Str))} (t : FwI fm r Ds rows d Ds.length f w) : LkI fm r Ds rows (i + 1) (tg ++ [f]) (sn ++ [w]) := by
  refine ⟨by simp [q.tl], by simp [q.sl], fun k f' hk => ?_⟩
  by_cases h : k < i
  · rw [List.getElem?_append_left (by rw [q.tl]; exact h)] at hk
    obtain ⟨d', w', e1, e2, e3⟩ := q.to k f' hk
    exact ⟨d', w', e1, by rw [List.getElem?_append_left (by rw [q.sl]; exact h)]; exact e2, e3⟩
  · have hk2 : k = i := by
      have := (List.getElem?_eq_some_iff.mp hk).1
      simp [q.tl] at this; omega
    subst hk2
    rw [List.getElem?_append_right (by rw [q.tl]; exact Nat.le_refl _), q.tl, Nat.sub_self] at hk
    cases hk
    exact ⟨d, w, hd, by rw [List.getElem?_append_right (by rw [q.sl]; exact Nat.le_refl _), q.sl, Nat.sub_self]; rfl, t.fl, t.wl, fun k D hD => t.to k D (List.getElem?_eq_some_iff.mp hD).1 hD⟩
end W3
end

section
namespace W3
open PySem
abbrev S64 := List Sd × List Sd
structure S64Ok (fm : Fm) (r : Ru) (Ds : List Dd) (s : S64) : Prop where
  nd : s.1.Nodup
  sd : ∀ d ∈ s.1, SdOk fm r.sending d
  tg : ∀ e ∈ s.2, e ∈ s.1 ∧ ∃ d ∈ s.1, ∃ D ∈ Ds, ∃ t, stepC fm r D d = .ok e t ∧ e ≠ d
end W3
end

section
namespace W3
open PySem
structure Pz where
  f : Fm
  r : Ru
structure PqAt (h : Hh) (l a : Nat) (P : Pz) : Prop where
  fa : FormAt h l P.f
  o : FmOk P.f
  ra : RuleAt h a P.r
  ro : RuOk P.r
theorem PqAt.app {h : Hh} {l a : Nat} {P : Pz} (q : PqAt h l a P) (z : Hh) : PqAt (h ++ z) l a P := ⟨q.fa.app z, q.o, q.ra.app z, q.ro⟩
theorem PqAt.fz {h h' : Hh} {n l a : Nat} {P : Pz} (q : PqAt h l a P) (z : Fz n h h') (h1 : l < n) (h2 : a < n) : PqAt h' l a P := ⟨q.fa.fz z h1, q.o, q.ra.fz z h2, q.ro⟩
structure Alk (P S : Pz) : Prop where
  w : P.f.words = S.f.words
  n : P.f.names = S.f.names
theorem Alk.symm {P S : Pz} (q : Alk P S) : Alk S P := ⟨q.w.symm, q.n.symm⟩
def reF (fm : Fm) (p : Str × Fd) : Str × Fd := (fm.fields.find? fun q => decide (q.1 = p.1)).getD p
def reD (fm : Fm) : Dd → Dd
  | .enter p w => .enter (reF fm p) w
  | .leave p => .leave (reF fm p)
  | .send => .send
  | .answer i => .answer i
  | .reset => .reset
abbrev Mv := Option (Sd × Option (List Str))
def movC (P : Pz) (D : Dd) (d : Sd) : Mv := match stepC P.f P.r D d with | .many _ => none | .ok d' t => some (d', sentEv t)
abbrev SameL (d e : Sd) : Prop := d.shown = e.shown ∧ d.mess = e.mess
def partsB : Mv → Mv → Bool
  | none, none => false
  | some x, some y => !decide (SameL x.1 y.1) || !decide (x.2 = y.2)
  | _, _ => true
abbrev Jn := Sd × Sd
structure Cz where
  jn : List Jn
  og : List (Option (Nat × Dd))
inductive Go where
  | lim
  | part (D : Dd) (c : Cz)
  | on (c : Cz)
inductive Cr where
  | lim
  | part (run : List Dd) (c : Cz)
  | done (c : Cz)
structure CzOk (P S : Pz) (lim : Nat) (c : Cz) : Prop where
  nd : c.jn.Nodup
  le : c.jn.length ≤ lim
  ol : c.og.length = c.jn.length
  sd : ∀ e ∈ c.jn, SdOk P.f P.r.sending e.1 ∧ SdOk S.f S.r.sending e.2
  og : OgOk c.og
def jnT (e : Jn) : T := .tup [e.1.t, e.2.t]
def jnK (js : List Jn) : List (T × T) := js.zipIdx.map fun p => (jnT p.1, .int p.2)
structure Cmp where
  a : Nat
  jn : Nat
  pl : Nat
  og : Nat
def cmIns (t1 t2 : T) (lim : Nat) (p : Cmp) : List (Str × T) := [("first", t1), ("second", t2), ("most_tuples", .int lim), ("joined", .ref p.jn), ("joined_places", .ref p.pl), ("origins", .ref p.og)]
structure CmAt (n : Nat) (h : Hh) (t1 t2 : T) (lim : Nat) (v : T) (p : Cmp) (c : Cz) : Prop where
  ins : h[p.a]? = some (.ins "Comparison" (cmIns t1 t2 lim p ++ [(("parted" : Str), v)]))
  jn : lstAt h p.jn = some (c.jn.map jnT)
  pl : h[p.pl]? = some (dtkOb (jnK c.jn))
  og : lstAt h p.og = some (c.og.map ogT)
  o0 : n ≤ p.a
  o1 : p.a < p.jn
  o2 : p.jn < p.pl
  o3 : p.pl < p.og
  o4 : p.og < h.length
structure Fp (p : Cmp) (h h' : Hh) : Prop where
  le : h.length ≤ h'.length
  keep : ∀ x, x < h.length → x ≠ p.a → x ≠ p.jn → x ≠ p.pl → x ≠ p.og → h'[x]? = h[x]?
theorem Fp.refl (p : Cmp) (h : Hh) : Fp p h h := ⟨Nat.le_refl _, fun _ _ _ _ _ _ => rfl⟩
theorem Fp.trans {p : Cmp} {h h1 h2 : Hh} (a : Fp p h h1) (b : Fp p h1 h2) : Fp p h h2 :=
  ⟨Nat.le_trans a.le b.le, fun x hx h1 h2 h3 h4 => (b.keep x (Nat.lt_of_lt_of_le hx a.le) h1 h2 h3 h4).trans (a.keep x hx h1 h2 h3 h4)⟩
theorem Fp.app (p : Cmp) (h z : Hh) : Fp p h (h ++ z) := ⟨by simp, fun x hx _ _ _ _ => List.getElem?_append_left hx⟩
section
variable {n lim : Nat} {t1 t2 v : T} {p : Cmp} {c : Cz} {h h' : Hh}
theorem CmAt.fz (q : CmAt n h t1 t2 lim v p c) (f : Fp p h h') : Fz n h h' :=
  have := q.o0; have := q.o1; have := q.o2; have := q.o3; have := q.o4
  ⟨f.le, fun x hx => f.keep x (by omega) (by omega) (by omega) (by omega) (by omega)⟩
theorem CmAt.lst (q : CmAt n h t1 t2 lim v p c) (f : Fp p h h') {x : Nat} {ts : List T} (e : lstAt h x = some ts) (hx : p.og < x) : lstAt h' x = some ts := by
  have := q.o1; have := q.o2; have := q.o3
  unfold lstAt at e ⊢
  rw [f.keep x (lstAt_lt e) (by omega) (by omega) (by omega) (by omega)]
  exact e
theorem CmAt.app (q : CmAt n h t1 t2 lim v p c) (z : Hh) : CmAt n (h ++ z) t1 t2 lim v p c := by
  have := q.o1; have := q.o2; have := q.o3; have := q.o4
  have k : ∀ x, x < h.length → (h ++ z)[x]? = h[x]? := fun x hx => List.getElem?_append_left hx
  exact ⟨by rw [k _ (by omega)]; exact q.ins, lstAt_app z q.jn, by rw [k _ (by omega)]; exact q.pl, lstAt_app z q.og, q.o0, q.o1, q.o2, q.o3, by simp; omega⟩
theorem CmAt.i (q : CmAt n h t1 t2 lim v p c) : insAt h p.a = some (("Comparison" : Str), cmIns t1 t2 lim p ++ [(("parted" : Str), v)]) := insAt_of q.ins
def keepH (h : Hh) (p : Cmp) (c : Cz) (e : Jn) (o : Option (Nat × Dd)) : Hh :=
  ((h.set p.pl (dtkOb (jnK (c.jn ++ [e])))).set p.jn (.lst (c.jn.map jnT ++ [jnT e]))).set p.og (.lst (c.og.map ogT ++ [ogT o]))
theorem CmAt.keep (q : CmAt n h t1 t2 lim v p c) (e : Jn) (o : Option (Nat × Dd)) : CmAt n (keepH h p c e o) t1 t2 lim v p ⟨c.jn ++ [e], c.og ++ [o]⟩ ∧ Fp p h (keepH h p c e o) := by
  have := q.o1; have := q.o2; have := q.o3; have := q.o4
  have ne : ∀ x, x ≠ p.pl → x ≠ p.jn → x ≠ p.og → (keepH h p c e o)[x]? = h[x]? := fun x h1 h2 h3 => by
    unfold keepH
    rw [List.getElem?_set_ne (Ne.symm h3), List.getElem?_set_ne (Ne.symm h2), List.getElem?_set_ne (Ne.symm h1)]
  have ln : (keepH h p c e o).length = h.length := by unfold keepH; simp
  refine ⟨⟨by rw [ne _ (by omega) (by omega) (by omega)]; exact q.ins, ?_, ?_, ?_, q.o0, q.o1, q.o2, q.o3, by rw [ln]; exact q.o4⟩, by rw [ln]; exact Nat.le_refl _, fun x _ _ h2 h3 h4 => ne x h3 h2 h4⟩
  · unfold keepH
    rw [lstAt_set_ne (by omega), lstAt_set_self (by simp; omega), List.map_append]
    rfl
  · unfold keepH
    rw [List.getElem?_set_ne (by omega), List.getElem?_set_ne (by omega), List.getElem?_set_self (by omega)]
  · unfold keepH
    rw [lstAt_set_self (by simp; omega), List.map_append]
    rfl
theorem CmAt.part (q : CmAt n h t1 t2 lim v p c) (u : T) {fs : List (Str × T)} (e : fs = cmIns t1 t2 lim p ++ [(("parted" : Str), u)]) : CmAt n (h.set p.a (.ins "Comparison" fs)) t1 t2 lim u p c ∧ Fp p h (h.set p.a (.ins "Comparison" fs)) := by
  have := q.o1; have := q.o2; have := q.o3; have := q.o4
  exact ⟨⟨by rw [List.getElem?_set_self (by omega), e], by rw [lstAt_set_ne (by omega)]; exact q.jn, by rw [List.getElem?_set_ne (by omega)]; exact q.pl, by rw [lstAt_set_ne (by omega)]; exact q.og, q.o0, q.o1, q.o2, q.o3, by simp; exact q.o4⟩,
    by simp, fun x _ h1 _ _ _ => List.getElem?_set_ne (Ne.symm h1)⟩
end
end W3
end

section
namespace W3
open PySem
end W3
end

section
namespace W3
open PySem
def nextJ (P S : Pz) (D : Dd) (e : Jn) : Jn := match movC P D e.1, movC S (reD S.f D) e.2 with
  | some x, some y => (x.1, y.1)
  | _, _ => e
abbrev prt (P S : Pz) (D : Dd) (e : Jn) : Bool := partsB (movC P D e.1) (movC S (reD S.f D) e.2)
structure CzFullE (e0 : Jn) (P S : Pz) (Ds : List Dd) (c : Cz) : Prop where
  st : ∀ (k j : Nat) (D : Dd), c.og[k]? = some (some (j, D)) → j < k ∧ D ∈ Ds ∧ ∃ ej, c.jn[j]? = some ej ∧ prt P S D ej = false ∧ c.jn[k]? = some (nextJ P S D ej)
  z : ∀ k, c.og[k]? = some none → k = 0
  s0 : c.jn[0]? = some e0
def dep (c : Cz) (i : Nat) : Nat := (runD c.og i).length
def ToJ (P S : Pz) (c : Cz) (k : Nat) (e : Jn) (D : Dd) : Prop := prt P S D e = false ∧ ∃ k', c.jn[k']? = some (nextJ P S D e) ∧ dep c k' ≤ dep c k + 1
structure CzBfs (P S : Pz) (Ds : List Dd) (c : Cz) (i : Nat) : Prop where
  done : ∀ (k : Nat) (e : Jn), k < i → c.jn[k]? = some e → ∀ D ∈ Ds, ToJ P S c k e D
  mono : ∀ j k : Nat, j ≤ k → k < c.jn.length → dep c j ≤ dep c k
  bd : i < c.jn.length → ∀ k : Nat, k < c.jn.length → dep c k ≤ dep c i + 1
structure CzMid (e0 : Jn) (P S : Pz) (Es : List Dd) (c : Cz) (i : Nat) (e : Jn) (seen : List Dd) : Prop where
  full : CzFullE e0 P S Es c
  bfs : CzBfs P S Es c i
  here : ∀ D ∈ seen, ToJ P S c i e D
inductive CrOkE (e0 : Jn) (P S : Pz) (Ds : List Dd) (lim : Nat) : Cr → Prop where
  | lim : CrOkE e0 P S Ds lim .lim
  | part (c : Cz) (i : Nat) (e : Jn) (D : Dd) : CzOk P S lim c → CzFullE e0 P S Ds c → CzBfs P S Ds c i → c.jn[i]? = some e → D ∈ Ds → prt P S D e = true → CrOkE e0 P S Ds lim (.part (runD c.og i ++ [D]) c)
  | done (c : Cz) : CzOk P S lim c → CzFullE e0 P S Ds c → CzBfs P S Ds c c.jn.length → CrOkE e0 P S Ds lim (.done c)
def shwF (P S : Pz) : List Dd → Jn → Option Nat
  | [], _ => none
  | D :: Ds, e => if prt P S D e = true then some 1 else (shwF P S Ds (nextJ P S D e)).map (· + 1)
end W3
end

section
namespace W3
open PySem
def swJ (e : Jn) : Jn := (e.2, e.1)
def swO (fm : Fm) : Option (Nat × Dd) → Option (Nat × Dd) := fun o => o.map fun p => (p.1, reD fm p.2)
def swC (fm : Fm) (c : Cz) : Cz := ⟨c.jn.map swJ, c.og.map (swO fm)⟩
inductive GoSw (fm : Fm) : Go → Go → Prop where
  | lim : GoSw fm .lim .lim
  | part (D : Dd) (c : Cz) : GoSw fm (.part D c) (.part (reD fm D) (swC fm c))
  | on (c : Cz) : GoSw fm (.on c) (.on (swC fm c))
inductive CrSw : Cr → Cr → Prop where
  | lim : CrSw .lim .lim
  | part (r r' : List Dd) (c c' : Cz) : CrSw (.part r c) (.part r' c')
  | done (c : Cz) (fm : Fm) : CrSw (.done c) (.done (swC fm c))
structure PairL (P S : Pz) (rs : Bool) (L : List Jn) : Prop where
  sd : ∀ e ∈ L, SdOk P.f P.r.sending e.1 ∧ SdOk S.f S.r.sending e.2 ∧ SameL e.1 e.2
  st : (startD P.f, startD S.f) ∈ L
  cl : ∀ e ∈ L, ∀ D ∈ deedsD P.f rs, prt P S D e = false ∧ nextJ P S D e ∈ L
theorem PairL.same {P S : Pz} {rs : Bool} {L M : List Jn} (q : PairL P S rs L) (h : ∀ e, e ∈ M ↔ e ∈ L) : PairL P S rs M :=
  ⟨fun e he => q.sd e ((h e).mp he), (h _).mpr q.st, fun e he D hD => ⟨(q.cl e ((h e).mp he) D hD).1, (h _).mpr (q.cl e ((h e).mp he) D hD).2⟩⟩
def SameR (P S : Pz) (Ds : List Dd) (e : Jn) : Prop := ∀ w : List Dd, (∀ D ∈ w, D ∈ Ds) → shwF P S w e = none
theorem SameR.step {P S : Pz} {Ds : List Dd} {e : Jn} (q : SameR P S Ds e) {D : Dd} (hD : D ∈ Ds) : prt P S D e = false ∧ SameR P S Ds (nextJ P S D e) := by
  have h1 : prt P S D e = false := by
    have := q [D] fun E hE => by simp at hE; subst hE; exact hD
    unfold shwF at this
    split at this
    · cases this
    · rename_i h
      cases hp : prt P S D e with
      | false => rfl
      | true => exact absurd hp h
  refine ⟨h1, fun w hw => ?_⟩
  have := q (D :: w) fun E hE => by
    rcases List.mem_cons.mp hE with rfl | hE
    · exact hD
    · exact hw E hE
  unfold shwF at this
  rw [if_neg (by rw [h1]; exact Bool.false_ne_true)] at this
  cases h : shwF P S w (nextJ P S D e) with
  | none => rfl
  | some n => rw [h] at this; cases this
end W3
end

section
namespace W3
open PySem
end W3
end

section
namespace W3
open PySem
end W3
namespace W3
open PySem
end W3
end

section
namespace W3
open PySem
end W3
end

section
namespace W3
open PySem
structure W72 where
  K : List Jn
  g : Bool
  T : List Jn
structure B72 (P S : Pz) (Ds : List Dd) (s : W72) : Prop where
  nd : s.K.Nodup
  sd : ∀ e ∈ s.K, SdOk P.f P.r.sending e.1 ∧ SdOk S.f S.r.sending e.2
  st : (startD P.f, startD S.f) ∈ s.K
  tg : ∀ t ∈ s.T, t ∈ s.K ∧ (t = (startD P.f, startD S.f) ∨ ∃ e ∈ s.K, ∃ D ∈ Ds, ∃ x y, movC P D e.1 = some x ∧ movC S (reD S.f D) e.2 = some y ∧ t = (x.1, y.1) ∧ t ≠ e)
  tn : s.T ≠ []
def Cl72 (P S : Pz) (Ds : List Dd) (K : List Jn) (e : Jn) : Prop := ∀ D ∈ Ds, ∀ x y, movC P D e.1 = some x → movC S (reD S.f D) e.2 = some y → (x.1, y.1) ∈ K
structure I72 (P S : Pz) (Ds : List Dd) (n : Nat) (s : W72) : Prop where
  b : B72 P S Ds s
  l : s.K.length ≤ 40 + Ds.length
  d : s.K.length ≤ 40 → (∀ (k : Nat) (e : Jn), k < n → s.K[k]? = some e → Cl72 P S Ds s.K e) ∧ (s.g = true ↔ ∀ (k : Nat) (e : Jn), k < n → s.K[k]? = some e → SameL e.1 e.2 ∧ ∀ D ∈ Ds, prt P S D e = false)
end W3
end

section
namespace W3
open PySem
abbrev A77 := Nat → Nat → Option Bool
def homeL (a : A77) (l k : Nat) : Option Nat := (List.range (min l k)).find? fun i => decide (a i k = some true)
def home (a : A77) (k : Nat) : Option Nat := homeL a k k
def leadL (a : A77) (l k : Nat) : Nat := (homeL a l k).getD k
def lead (a : A77) (k : Nat) : Nat := leadL a k k
abbrev Gs := List (Nat × List Nat)
structure Eq77 (a : A77) (n : Nat) : Prop where
  tr : ∀ i j k, i < j → j < k → k < n → a i j = some true → a j k = some true → a i k = some true
structure GOk (a : A77) (k : Nat) (G : Gs) : Prop where
  nd : (G.map (·.1)).Nodup
  ld : ∀ g ∈ G, home a g.1 = none ∧ g.1 < k
  mm : ∀ g ∈ G, ∀ x, x ∈ g.2 ↔ x < k ∧ lead a x = g.1
  al : ∀ x, x < k → lead a x ∈ G.map (·.1)
abbrev Gu := List (Nat × Nat × List Nat)
def natsT (l : List Nat) : List T := l.map fun i => T.int (i : Nat)
def outU (G : Gu) : Gs := G.map fun g => (g.1, g.2.2)
def updU (G : Gu) (m k : Nat) : Gu := G.map fun g => if g.1 = m then (g.1, g.2.1, g.2.2 ++ [k]) else g
theorem nodup_inj {α β : Type} {f : α → β} : ∀ {l : List α}, (l.map f).Nodup → ∀ {a b : α}, a ∈ l → b ∈ l → f a = f b → a = b
  | x :: l, nd, a, b, ha, hb, e => by
    rw [List.map_cons, List.nodup_cons] at nd
    rcases List.mem_cons.mp ha with ea | ha
    · rcases List.mem_cons.mp hb with eb | hb
      · rw [ea, eb]
      · exact absurd (List.mem_map.mpr ⟨b, hb, by rw [← e, ea]⟩) nd.1
    · rcases List.mem_cons.mp hb with eb | hb
      · exact absurd (List.mem_map.mpr ⟨a, ha, by rw [e, eb]⟩) nd.1
      · exact nodup_inj nd.2 ha hb e
structure HU (h : Hh) (n : Nat) (G : Gu) : Prop where
  ks : (G.map (·.1)).Nodup
  us : (G.map (·.2.1)).Nodup
  at_ : ∀ g ∈ G, lstAt h g.2.1 = some (natsT g.2.2)
  lo : ∀ g ∈ G, n ≤ g.2.1
theorem HU.nil (h : Hh) (n : Nat) : HU h n [] := ⟨List.nodup_nil, List.nodup_nil, fun g h => (by cases h), fun g h => (by cases h)⟩
theorem HU.app {h : Hh} {n : Nat} {G : Gu} (q : HU h n G) (z : Hh) : HU (h ++ z) n G := ⟨q.ks, q.us, fun g hg => lstAt_app z (q.at_ g hg), q.lo⟩
theorem updU_ks (G : Gu) (m k : Nat) : (updU G m k).map (·.1) = G.map (·.1) := by
  unfold updU
  rw [List.map_map]
  refine List.map_congr_left fun x _ => ?_
  show (if x.1 = m then (x.1, x.2.1, x.2.2 ++ [k]) else x).1 = x.1
  split <;> rfl
theorem updU_us (G : Gu) (m k : Nat) : (updU G m k).map (·.2.1) = G.map (·.2.1) := by
  unfold updU
  rw [List.map_map]
  refine List.map_congr_left fun x _ => ?_
  show (if x.1 = m then (x.1, x.2.1, x.2.2 ++ [k]) else x).2.1 = x.2.1
  split <;> rfl
theorem HU.upd {h : Hh} {n k : Nat} {G : Gu} (q : HU h n G) {g0 : Nat × Nat × List Nat} (h0 : g0 ∈ G) : HU (h.set g0.2.1 (.lst (natsT (g0.2.2 ++ [k])))) n (updU G g0.1 k) := by
  refine ⟨by rw [updU_ks]; exact q.ks, by rw [updU_us]; exact q.us, fun g hg => ?_, fun g hg => ?_⟩
  · obtain ⟨x, hx, rfl⟩ := List.mem_map.mp hg
    split
    · rename_i e
      have := nodup_inj q.ks hx h0 e
      subst this
      exact lstAt_set_self (lstAt_lt (q.at_ x hx))
    · rename_i e
      have ne : x.2.1 ≠ g0.2.1 := fun z => e (by rw [nodup_inj q.us hx h0 z])
      rw [lstAt_set_ne (fun z => ne z.symm)]
      exact q.at_ x hx
  · obtain ⟨x, hx, rfl⟩ := List.mem_map.mp hg
    split
    · exact q.lo x hx
    · exact q.lo x hx
theorem HU.new {h : Hh} {n m r : Nat} {l : List Nat} {G : Gu} (q : HU h n G) (hm : m ∉ G.map (·.1)) (hr : ∀ g ∈ G, g.2.1 ≠ r) (e : lstAt h r = some (natsT l)) (hn : n ≤ r) : HU h n (G ++ [(m, r, l)]) := by
  refine ⟨?_, ?_, fun g hg => ?_, fun g hg => ?_⟩
  · rw [List.map_append]
    exact List.nodup_append.mpr ⟨q.ks, by simp, fun a ha b hb z => by simp at hb; subst hb; subst z; exact hm ha⟩
  · rw [List.map_append]
    exact List.nodup_append.mpr ⟨q.us, by simp, fun a ha b hb z => by
      simp at hb; subst hb; subst z
      obtain ⟨g, hg, e⟩ := List.mem_map.mp ha
      exact hr g hg e⟩
  · rcases List.mem_append.mp hg with h | h
    · exact q.at_ g h
    · simp at h; subst h; exact e
  · rcases List.mem_append.mp hg with h | h
    · exact q.lo g h
    · simp at h; subst h; exact hn
def GrpAt (h : Hh) (y : Nat) (gs : List (List Nat)) : Prop := ∃ us : List Nat, lstAt h y = some (us.map T.ref) ∧ us.length = gs.length ∧ ∀ (j u : Nat) (g : List Nat), us[j]? = some u → gs[j]? = some g → lstAt h u = some (natsT g)
theorem GrpAt.app {h : Hh} {y : Nat} {gs : List (List Nat)} (q : GrpAt h y gs) (z : Hh) : GrpAt (h ++ z) y gs := by
  obtain ⟨us, e, l, m⟩ := q
  exact ⟨us, lstAt_app z e, l, fun j u g h1 h2 => lstAt_app z (m j u g h1 h2)⟩
theorem GrpAt.of {h : Hh} {n y : Nat} {G : Gu} (q : HU h n G) (e : lstAt h y = some (G.map fun g => T.ref g.2.1)) : GrpAt h y ((outU G).map (·.2)) := by
  refine ⟨G.map (·.2.1), by rw [List.map_map]; exact e, by unfold outU; simp, fun j u g h1 h2 => ?_⟩
  rw [List.getElem?_map] at h1
  unfold outU at h2
  rw [List.map_map, List.getElem?_map] at h2
  cases ex : G[j]? with
  | none => rw [ex] at h1; cases h1
  | some x =>
    rw [ex] at h1 h2
    cases h1; cases h2
    exact q.at_ x (List.mem_of_getElem? ex)
theorem GrpAt.same {h : Hh} {y y' n : Nat} {gs : List (List Nat)} (a : GrpAt h y gs) (b : GrpAt h y' gs) (hl : gs.length ≤ 1000) (hg : ∀ g ∈ gs, g.length ≤ 1000) : SameV h (n + 2) (.ref y) (.ref y') := by
  obtain ⟨us, e, l, m⟩ := a
  obtain ⟨us', e', l', m'⟩ := b
  refine .inr ⟨us.map T.ref, us'.map T.ref, .inr ⟨.inl ⟨y, rfl, e⟩, .inl ⟨y', rfl, e'⟩⟩, by simp [l, l'], by simp; omega, fun i s t es et => ?_⟩
  rw [List.getElem?_map] at es et
  cases eu : us[i]? with
  | none => rw [eu] at es; cases es
  | some u =>
    cases eu' : us'[i]? with
    | none => rw [eu'] at et; cases et
    | some u' =>
      rw [eu] at es; rw [eu'] at et
      cases es; cases et
      have hi : i < gs.length := by have := (List.getElem?_eq_some_iff.mp eu).1; omega
      have eg := List.getElem?_eq_getElem hi
      have h1 := m i u _ eu eg
      have h2 := m' i u' _ eu' eg
      refine SameV.lists h1 h2 (by unfold natsT; have := hg _ (List.mem_of_getElem? eg); simp; omega) fun x hx => ?_
      unfold natsT at hx
      obtain ⟨k, _, rfl⟩ := List.mem_map.mp hx
      exact pure_flat rfl
@[simp] theorem e_setD (so se sf : SE) (σ : St3) (h : Hh) : sSetD so se sf σ h = (so σ h).bind fun x h1 => if isDic x h1 = true then (se σ h1).bind fun k h2 => (sf σ h2).bind fun t h3 => setDT x k t h3 else .stk := Eq.trans rfl rfl
@[simp] theorem e_lRg (a : SE) (σ : St3) (h : Hh) : sLRg a σ h = (a σ h).bind fun x h1 => match x with
  | .int n => if 0 ≤ n ∧ n ≤ 1000000 then alloc (.lst (rangeT 0 n.toNat)) h1 else .stk
  | _ => .stk := Eq.trans rfl rfl
@[simp] theorem e_lVals (so : SE) (σ : St3) (h : Hh) : sLVals so σ h = (so σ h).bind fun x h1 => match obAt h1 x with
  | some (.dic kvs) => alloc (.lst (kvs.map (·.2))) h1
  | _ => .stk := Eq.trans rfl rfl
@[simp] theorem e_ssForEn (a : SA) (g : SG) (b : SS) (σ : St3) (h : Hh) : ssForEn a g b σ h = (a σ h).flo σ fun xs h1 => match xs with
  | [.ref l] => (match lstAt h1 l with | some ts => forEn l g b ts.length 0 σ h1 | none => .stk)
  | _ => .stk := Eq.trans rfl rfl
end W3
end

section
namespace W3
open PySem
abbrev Rt := List (Nat × List Dd)
abbrev Tz := Nat → List (Dd × Option Nat)
def Wk (tz : Tz) : Nat → List Dd → Nat → Prop
  | i, [], j => i = j
  | i, D :: r, j => ∃ i', (D, some i') ∈ tz i ∧ Wk tz i' r j
theorem Wk.snoc {tz : Tz} : ∀ {p : List Dd} {i j j' : Nat} {D : Dd}, Wk tz i p j → (D, some j') ∈ tz j → Wk tz i (p ++ [D]) j'
  | [], i, j, j', D, h, e => by cases h; exact ⟨j', e, rfl⟩
  | E :: r, i, j, j', D, h, e => by
    obtain ⟨i', h1, h2⟩ := h
    exact ⟨i', h1, Wk.snoc h2 e⟩
structure RtOk (tz : Tz) (s n : Nat) (R : Rt) : Prop where
  nd : (R.map (·.1)).Nodup
  lt : ∀ e ∈ R, e.1 < n
  hd : R[0]? = some (s, [])
  pl : ∀ (m : Nat) (e : Nat × List Dd), R[m]? = some e → e.2.length ≤ m ∧ (e.2 = [] ↔ e.1 = s) ∧ Wk tz s e.2 e.1
end W3
end

section
namespace W3
open PySem PySem.Spec PyProof.Rows
open L2
def txE (e : Int × Value) : Str := PyProof.Rows.strOf e.2
structure SzOk (w : World) (es : Array (Int × Value)) (t : SetTable) : Prop where
  b : es.size < scanBound
  f : t.fits es.size = true
  r : Ris t.place.toList
  l : w.params.followText "set-order" = true ∨ t.led = true
  g : ∀ e ∈ es.toList, ∃ k tk, e = (hashStr w k, Value.str k tk)
  n : (es.toList.map txE).Nodup
def Sz (w : World) (D : Addr) (acc : List Str) (h : Heap) : Prop := ∃ o es ep t, h.get? D = some o ∧ o.ExactSet ∧ o.data = .set es ep t ∧ SzOk w es t ∧ ∀ k, k ∈ es.toList.map txE ↔ k ∈ acc
theorem Sz.same {w : World} {D : Addr} {acc : List Str} {h h' : Heap} (q : Sz w D acc h) (k : ∀ o, h.get? D = some o → h'.get? D = some o) : Sz w D acc h' := by
  obtain ⟨o, es, ep, t, ho, z⟩ := q
  exact ⟨o, es, ep, t, k o ho, z⟩
section
variable {P : Program} {w : World} {A : Around} {E : Value → Shared → Prop} {s : Shared} {D : Addr}
theorem tx_elems {l : List (Int × Value)} (g : ∀ e ∈ l, ∃ k tk, e = (hashStr w k, Value.str k tk)) : ElemsOf (PySem.strKind P w) l := fun e he => by
  obtain ⟨k, tk, rfl⟩ := g e he
  exact ⟨⟨k, strKind_is P w k tk, rfl⟩, rfl⟩
theorem tx_iff {e : Int × Value} {k : Str} (g : ∃ k tk, e = (hashStr w k, Value.str k tk)) : (PySem.strKind P w).is k e.2 = true ↔ txE e = k := by
  obtain ⟨k0, tk, rfl⟩ := g
  show ((k0 == k) = true) ↔ k0 = k
  exact beq_iff_eq
theorem tx_some {l : List (Int × Value)} {k : Str} (g : ∀ e ∈ l, ∃ k tk, e = (hashStr w k, Value.str k tk)) : k ∈ l.map txE ↔ ∃ e ∈ l, (PySem.strKind P w).is k e.2 = true := by
  rw [List.mem_map]
  exact exists_congr fun e => and_congr_right fun he => (tx_iff (P := P) (g e he)).symm
theorem nodupS_le : ∀ {l m : List Str}, l.Nodup → (∀ x ∈ l, x ∈ m) → l.length ≤ m.length
  | [], m, _, _ => Nat.zero_le _
  | a :: l, m, nd, h => by
    rw [List.nodup_cons] at nd
    have ha := h a List.mem_cons_self
    have := nodupS_le (l := l) (m := m.erase a) nd.2 fun x hx => (List.mem_erase_of_ne (fun (e : x = a) => nd.1 (by rw [← e]; exact hx))).mpr (h x (List.mem_cons_of_mem _ hx))
    rw [List.length_erase_of_mem ha] at this
    have : 0 < m.length := List.length_pos_of_mem ha
    simp only [List.length_cons]
    omega
theorem sz_store {f : Bool → Sem Unit} (hf : ∀ (b : Bool) (z : Shared) (Q : Unit → Shared → Prop), Q () z → wpAny (model P w) A (f b) Q E z) {o : Obj} {es es1 : Array (Int × Value)} {ep : Nat} {t t1 : SetTable} {acc : List Str} (ho : s.heap.get? D = some o) (hex : o.ExactSet) (hd : o.data = .set es ep t)
    (ok : SzOk w es1 t1) (hm : ∀ k, k ∈ es1.toList.map txE ↔ k ∈ acc) {dm : Bool} {R : Option Bool → Shared → Prop} (hR : ∀ h', Heap.SameBut D s.heap h' → Sz w D acc h' → R (some true) { s with heap := h' }) :
    wpAny (model P w) A (do
      storeSet D es1 t1
      if (!dm && t1.tooFull) = true then do
          f (relayAll t1 es1 (SetTable.grown es1.size)).2.2
          storeSet D (relayAll t1 es1 (SetTable.grown es1.size)).1 (relayAll t1 es1 (SetTable.grown es1.size)).2.1
          pure (some true)
        else pure (some true)) R E s := by
  have put : ∀ {h : Heap} {o : Obj} {es0 : Array (Int × Value)} {p0 : Nat} {t0 : SetTable} (es2 : Array (Int × Value)) (t2 : SetTable), h.get? D = some o → o.data = .set es0 p0 t0 → (h.update D (Obj.putSet es2 t2)).get? D = some { o with data := .set es2 (p0 + 1) t2 } := by
    intro h o es0 p0 t0 es2 t2 e1 e2
    have z := Heap.get?_update_self (Obj.putSet es2 t2) e1 (by rw [putSet_of es2 t2 e2]; rfl)
    rwa [putSet_of es2 t2 e2] at z
  refine wpAny_bind (wpAny_storeSet_of ho hd ?_ (fits_of_scanBound ok.b))
  have o1 := put es1 t1 ho hd
  have b1 := Heap.SameBut.update s.heap D (Obj.putSet es1 t1)
  by_cases full : (!dm && t1.tooFull) = true
  · rw [if_pos full]
    have p1 := relayAll_perm t1 es1 (SetTable.grown es1.size)
    have p2 := relayAll_fits t1 es1 (SetTable.grown es1.size)
    have p3 := relayAll_ris t1 es1 (SetTable.grown es1.size)
    have p4 := relayAll_led t1 es1 (SetTable.grown es1.size)
    generalize relayAll t1 es1 (SetTable.grown es1.size) = Y at p1 p2 p3 p4 ⊢
    obtain ⟨es2, t2, gv⟩ := Y
    simp only at p1 p2 p3 p4 ⊢
    have z2 : es2.size = es1.size := by simpa using p1.length_eq
    have ok2 : SzOk w es2 t2 := ⟨by rw [z2]; exact ok.b, p2, p3, ok.l.imp id fun q => by rw [p4]; exact q, fun e he => ok.g e (p1.mem_iff.mp he), ((p1.map txE).nodup_iff).mpr ok.n⟩
    refine wpAny_bind (hf _ _ _ ?_)
    refine wpAny_bind (wpAny_storeSet_of o1 rfl ?_ (fits_of_scanBound ok2.b))
    exact wpAny_pure (hR _ (b1.trans (Heap.SameBut.update _ D _)) ⟨_, es2, _, t2, put es2 t2 o1 rfl, hex, rfl, ok2, fun k => ((p1.map txE).mem_iff).trans (hm k)⟩)
  · rw [if_neg full]
    exact wpAny_pure (hR _ b1 ⟨_, es1, _, t1, o1, hex, rfl, ok, hm⟩)
theorem sz_hashed {acc : List Str} {k : Str} {tk : Tok} {Q : Bool → Shared → Prop} (q : Sz w D acc s.heap) (room : acc.length + 1 < scanBound)
    (hQ : ∀ b h', Heap.SameBut D s.heap h' → Sz w D (acc ++ [k]) h' → Q b { s with heap := h' }) : wpAny (model P w) A (setAddHashed D (.str k tk) (hashStr w k)) Q E s := by
  obtain ⟨o, es, ep, t, ho, hex, hd, ok, hm⟩ := q
  have hkey : (PySem.strKind P w).is k (.str k tk) = true := strKind_is P w k tk
  have hsc : (Value.str k tk).scannable = true := rfl
  have hel : ElemsOf (PySem.strKind P w) es.toList := tx_elems ok.g
  have le : es.size ≤ acc.length := by
    have := nodupS_le ok.n fun x hx => (hm x).mp hx
    simpa using this
  show wpAny _ _ (setAddHashed D (.str k tk) ((PySem.strKind P w).hash k)) _ _ _
  unfold setAddHashed setAddHashedIn
  refine wpAny_holding (wpAny_bind (wpAny_setState_of ho hd ok.f ?_))
  simp only
  rw [byScan_of hsc ok.b hel, if_pos rfl]
  unfold setAddByScan
  refine wpAny_bind (wpAny_bind (wpAny_rule (wpAny_bind (wpAny_setScan_of hkey ho hd ok.f hel ?_))))
  cases hfi : List.findIdx? (fun e => (PySem.strKind P w).is k e.2) es.toList with
  | some j =>
    obtain ⟨hj, pj, _⟩ := List.findIdx?_eq_some_iff_getElem.mp hfi
    have hin : k ∈ acc := (hm k).mp ((tx_some (P := P) ok.g).mpr ⟨_, List.getElem_mem hj, pj⟩)
    refine wpAny_pure (wpAny_pure (hQ _ s.heap (Heap.SameBut.refl D s.heap) ⟨o, es, ep, t, ho, hex, hd, ok, fun i => ?_⟩))
    rw [hm i, List.mem_append, List.mem_singleton]
    exact ⟨.inl, fun z => z.elim id fun e => e ▸ hin⟩
  | none =>
    have hno : k ∉ es.toList.map txE := fun z => by
      obtain ⟨e, he, y⟩ := (tx_some (P := P) ok.g).mp z
      have := List.findIdx?_eq_none_iff.mp hfi e he
      rw [y] at this
      cases this
    have say : ∀ (b : Bool) {z : Shared} {Q' : Unit → Shared → Prop}, Q' () z → wpAny (model P w) A (match b with | true => rule "set.scan.the-table-gave-way" | false => pure ()) Q' E z := by
      intro b z Q' y
      cases b
      · exact wpAny_pure y
      · exact wpAny_rule y
    have p1 := layNew_perm t es ((PySem.strKind P w).hash k) (.str k tk)
    have p2 := layNew_fits t es ((PySem.strKind P w).hash k) (.str k tk)
    have p3 := layNew_ris t es ((PySem.strKind P w).hash k) (.str k tk) ok.r
    have p4 := layNew_led t es ((PySem.strKind P w).hash k) (.str k tk)
    generalize layNew t es ((PySem.strKind P w).hash k) (.str k tk) = Y at p1 p2 p3 p4 ⊢
    obtain ⟨es1, t1, dm, gv⟩ := Y
    simp only at p1 p2 p3 p4 ⊢
    rw [Array.toList_push] at p1
    have p1 : es1.toList.Perm (es.toList ++ [(hashStr w k, Value.str k tk)]) := p1
    have pk : (es1.toList.map txE).Perm (es.toList.map txE ++ [k]) := by simpa [txE, PyProof.Rows.strOf] using p1.map txE
    have z1 : es1.size = es.size + 1 := by simpa using p1.length_eq
    have nd1 : (es.toList.map txE ++ [k]).Nodup := List.nodup_append.mpr ⟨ok.n, by simp, fun a ha b hb e => by
      rw [List.mem_singleton] at hb
      rw [hb] at e
      exact hno (e ▸ ha)⟩
    have ok1 : ∀ t2 : SetTable, t2.fits es1.size = true → t2.place = t1.place → t2.led = t1.led → SzOk w es1 t2 := fun t2 h1 h2 h3 => ⟨by omega, h1, by rw [h2]; exact p3, ok.l.imp id fun y => by rw [h3, p4]; exact y, fun e he => by
      rcases List.mem_append.mp (p1.mem_iff.mp he) with y | y
      · exact ok.g e y
      · rw [List.mem_singleton] at y; exact ⟨k, tk, y⟩, (pk.nodup_iff).mpr nd1⟩
    have hm1 : ∀ i, i ∈ es1.toList.map txE ↔ i ∈ acc ++ [k] := fun i => by
      rw [pk.mem_iff, List.mem_append, List.mem_append, hm i]
    refine wpAny_bind (say _ ?_)
    split
    · refine wpAny_bind ?_
      rw [hashByValue_scannable 8 hsc]
      refine wpAny_pure ?_
      refine sz_store (acc := acc ++ [k]) (fun b z Q' y => by cases b; exact wpAny_pure y; exact wpAny_rule y) ho hex hd (ok1 _ ?_ ?_ ?_) hm1 fun h' sb y => wpAny_pure (hQ _ h' sb y)
      · first | (split <;> first | exact p2 | exact SetTable.fits_plain_off p2) | exact p2
      · first | rfl | (split <;> rfl)
      · first | rfl | (split <;> rfl)
    · refine wpAny_bind (wpAny_pure ?_)
      simp only [↓reduceIte]
      exact sz_store (acc := acc ++ [k]) (fun b z Q' y => by cases b; exact wpAny_pure y; exact wpAny_rule y) ho hex hd (ok1 t1 p2 rfl rfl) hm1 fun h' sb y => wpAny_pure (hQ _ h' sb y)
theorem sz_add {acc : List Str} {k : Str} {tk : Tok} {Q : Value → Shared → Prop} (q : Sz w D acc s.heap) (room : acc.length + 1 < scanBound) (hQ : ∀ h', Heap.SameBut D s.heap h' → Sz w D (acc ++ [k]) h' → Q .none { s with heap := h', toks := s.toks + 1 }) :
    wpAny (model P w) A (call (.builtin "set.add") [.ref D, .str k tk]) Q E s := by
  have ty : s.TypeIs (.ref D) "set" := by
    obtain ⟨o, es, ep, t, ho, hex, _⟩ := q
    exact ⟨o, ho, hex.1⟩
  refine wpAny_call_entry F.slot_set_add ty F.entry_set_add ?_ (F.args_set_add_2 _ _)
  unfold Builtin.«set.add» Builtin.Frozenset.oneOther
  simp only [List.isEmpty_nil, bind_assoc]
  unfold Builtin.Frozenset.addrOf setAdd
  refine wpAny_bind (wpAny_pure ?_)
  refine wpAny_bind (wpAny_pure ?_)
  refine wpAny_bind (wpAny_holding (wpAny_bind ((PySem.strKind P w).pyHash (k := k) (strKind_is P w k tk) ?_)))
  refine sz_hashed (s := { s with toks := s.toks + 1 }) q room fun b h' sb y => ?_
  exact wpAny_pure ⟨_, rfl, hQ h' sb y⟩
end
def SzO (w : World) (D : Addr) (acc : List Str) : HO := .ext (Sz w D acc)
section
variable {X : Cx}
def tSz (w : World) (wi : TI) (g : TG) (tt : TT) (te : TE) (vs : List Nat) : TE := fun σ H Q => wi σ H fun J H1 => ∀ D, H1 D = none →
  ∃ V : Nat → Nat → Hp → Prop, (∃ m, V 0 m (upd H1 D (SzO w D []))) ∧ ∀ i m H, V i m H →
    (J.stop i H ∧ Q (.ref D) H) ∨ (J.go i H ∧ ∃ Nx : Hp → Prop, (∀ H', Nx H' → ∃ m', m' < m ∧ V (i + 1) m' H') ∧ ∀ x H', J.yld i H x H' →
      g x (wipe σ vs) H' fun σ2 H2 => wipe σ2 vs = wipe σ vs ∧ tt σ2 H2 fun b H3 => if b = true then te σ2 H3 fun y H4 =>
        ∃ (k : Str) (acc : List Str), y = .str k ∧ H4 D = some (SzO w D acc) ∧ acc.length + 1 < scanBound ∧ Nx (upd H4 D (SzO w D (acc ++ [k]))) else Nx H3)
theorem szO_fresh {h : Heap} {P : Program} {w : World} {H : Hp} :
    ObjOk P w H (h.push { cls := .type "set", dict := none, data := .set #[] 0 (.fresh 0 0 (!w.params.followText "set-order")) }) h.objs.size (SzO w h.objs.size []) := by
  have e : (h.push { cls := .type "set", dict := none, data := .set #[] 0 (.fresh 0 0 (!w.params.followText "set-order")) }).get? h.objs.size = some { cls := .type "set", dict := none, data := .set #[] 0 (.fresh 0 0 (!w.params.followText "set-order")) } := Heap.get?_push_size _ rfl
  refine ⟨⟨_, #[], 0, _, e, ⟨rfl, rfl, rfl⟩, rfl, ⟨by decide, rfl, List.Pairwise.nil, ?_, fun e he => by simp at he, by simp⟩, fun k => by simp⟩, ⟨_, e⟩, fun h1 h2 p k => Sz.same p k⟩
  show _ ∨ (!w.params.followText "set-order") = true
  cases w.params.followText "set-order"
  · exact .inr rfl
  · exact .inl rfl
theorem szO_add {pins : List (Addr × Obj)} {σ : L2.St} {H : Hp} {s : Shared} {D : Addr} {acc : List Str} {k : Str} {v : Value} {Q : Value → Shared → Prop} (I : L2.Inv X pins σ H s) (hD : H D = some (SzO X.w D acc)) (rv : RelV (.str k) v)
    (room : acc.length + 1 < scanBound) (q : ∀ s', L2.Inv X pins σ (upd H D (SzO X.w D (acc ++ [k]))) s' → Q .none s') : wpAny (model X.prog X.w) X.A (call (.builtin "set.add") [.ref D, v]) Q X.xe s := by
  obtain ⟨tk, rfl⟩ := rv
  have z : Sz X.w D acc s.heap := (I.hok D _ hD).1
  refine sz_add z room fun h' sb new => ?_
  have ob : ∃ u, h'.get? D = some u := by
    have ⟨o, _, _, _, ho, _⟩ := new
    exact ⟨o, ho⟩
  exact q _ (I.write (e := D) (t' := s.toks + 1) (by rw [hD]; trivial) (.inl rfl) (fun b u hb hu => (sb.2 b hb).trans hu) ob ⟨new, ob, fun h1 h2 p k => Sz.same p k⟩)
open PpSet in
theorem pe_sz {elt tg iter : Expr} {ifs : List Expr} {scope : Scope} {own : List (PySem.Str × Nat)} {pos : Pos} {wi : TI} {g : TG} {tt : TT} {te : TE} (hc : X.calm = true) (hN : X.N.Nodup) (hi : PI X tg iter wi) (ok : BlkOk X.N X.env.scope scope own)
    (hg : ∀ (z : Shared) (L : Hp) (C : Addr) (cl : List (PySem.Str × Addr)) (fp : List Addr), PG (X.blk z L scope (compEnvC scope cl C X.env) fp) tg g)
    (ht : ∀ (z : Shared) (L : Hp) (C : Addr) (cl : List (PySem.Str × Addr)) (fp : List Addr), PTs (X.blk z L scope (compEnvC scope cl C X.env) fp) ifs tt)
    (he : ∀ (z : Shared) (L : Hp) (C : Addr) (cl : List (PySem.Str × Addr)) (fp : List Addr), PE (X.blk z L scope (compEnvC scope cl C X.env) fp) elt te) (hs : ∀ x, foldedSetIterable iter X.env x = pure x) :
    PE X (.SetComp elt [⟨tg, iter, ifs, 0⟩] scope pos) (tSz X.w wi g tt te (own.map (·.2))) := by
  refine ⟨fun pins s σ H Q I hw => ?_⟩
  rw [eval_SetComp]
  have fr : ∀ y ∈ scope.names, y.2 = .free → ∃ c, X.env.cells.lookup y.1 = some c := by
    intro y hy e
    cases ok.free y hy e with
    | inl k => exact I.ok.has _ (.inl k)
    | inr k => exact I.ok.has _ (.inr k)
  refine wpAny_comprehension_free (use := none) rfl hs (closure_ok fr) ok.kind (fun y hy e => (ok.uniq y hy).trans (congrArg some e)) ?_
  refine thn (hi.run pins s σ H _ I hw) fun xv s1 hx => thn hx fun itv s2 hz => ?_
  obtain ⟨it, fp, tn, J, L2', e, J2, Tn, a2, b2, q⟩ := hz
  subst e
  refine newSet_ok (newEnv_comp ?_)
  generalize hD : s2.heap.objs.size = D
  have nD : L2' D = none := J2.hok.fresh (Nat.le_of_eq hD)
  obtain ⟨V, ⟨m0, w0⟩, turn⟩ := q D nD
  generalize hs3 : ({ s2 with heap := s2.heap.push { cls := .type "set", dict := none, data := .set #[] 0 (.fresh 0 0 (!X.w.params.followText "set-order")) } } : Shared) = s3
  have kp3 : ∀ b o, s2.heap.get? b = some o → s3.heap.get? b = some o := by
    intro b o e
    rw [← hs3]
    exact Heap.get?_push_of_some _ e
  generalize hL3 : upd L2' D (SzO X.w D []) = L3 at w0
  have J3 : L2.Inv X pins σ L3 s3 := by
    rw [← hL3, ← hs3]
    refine J2.laid (t' := s2.toks) (fun b o e => Heap.get?_push_of_some _ e) (Nat.le_of_eq hD) ?_
    rw [← hD]
    exact szO_fresh
  have old : ∀ b ∈ fp, b < s2.heap.objs.size := fun b hb => (Tn.obj _ _ a2 b hb).elim fun o z => Heap.lt_size z.1
  have b3 : ∀ b ∈ fp, FpOk X pins L3 b ∧ b < s3.heap.objs.size := by
    intro b hb
    have lt := old b hb
    refine ⟨⟨?_, (b2 b hb).2⟩, ?_⟩
    · rw [← hL3, upd_ne (by rw [← hD]; exact Nat.ne_of_lt lt)]
      exact (b2 b hb).1
    · rw [← hs3]
      show b < (Heap.push _ _).objs.size
      rw [Heap.size_push]
      exact Nat.lt_succ_of_lt lt
  have a3 : tn 0 s3.heap := Tn.keep _ _ _ a2 fun b _ o e => kp3 b o e
  have J4 := block_start J3 ok hN b3
  generalize hcl : cellsFrom (s3.heap.objs.size + 1) scope.names (cloFrom X.env.cells scope.names []) = cl at J4 ⊢
  have pg := hg s3 L3 s3.heap.objs.size cl fp
  have pt := ht s3 L3 s3.heap.objs.size cl fp
  have pe := he s3 L3 s3.heap.objs.size cl fp
  show codeAny _ _ (.compStart (.SetComp elt [⟨tg, iter, ifs, 0⟩] scope pos) 0 (.ref it) (.ref D) (compEnvC scope cl s3.heap.objs.size X.env))
    (compPost (model X.prog X.w) X.A X.xe none (EP X pins σ Q) (.ref D) s3.heap.objs.size) _
  generalize hce : compEnvC scope cl s3.heap.objs.size X.env = ce at J4 pg pt pe ⊢
  have cL : ce.locals = s3.heap.objs.size := by rw [← hce]; rfl
  have n3 : ∀ b ∈ fp, L3 b = none := fun b hb => (b3 b hb).1.1
  generalize hs4 : ({ s3 with heap := pushCells (s3.heap.push { cls := .type "dict", data := .dict #[] }) scope.names } : Shared) = s4 at J4 ⊢
  have a4 : tn 0 s4.heap := Tn.keep _ _ _ a3 fun b _ o e => by
    rw [← hs4]
    exact pushCells_keeps _ _ _ _ (Heap.get?_push_of_some _ e)
  have stat : ∀ {τ : L2.St} {L : Hp} {z : Shared}, L2.Inv (X.blk s3 L3 scope ce fp) [] τ L z → (∀ b ∈ fp, L b = none) → ∀ b ∈ fp, FpOk (X.blk s3 L3 scope ce fp) [] L b := by
    intro τ L z J' hn b hb
    refine ⟨hn b hb, (J'.ok.exf b hb).1, J'.ok.exfs b hb, .inl hb, (J'.ok.exf b hb).2, fun p hp => ?_⟩
    have : p ∈ ([] : List (Addr × Obj)) := hp
    cases this
  have loop : codeAny (model X.prog X.w) X.A (.compLoop (.SetComp elt [⟨tg, iter, ifs, 0⟩] scope pos) 0 (.ref it) (.ref D) ce)
      (compPost (model X.prog X.w) X.A X.xe none (EP X pins σ Q) (.ref D) s3.heap.objs.size) s4 := by
    refine compLoopS_any (fun n z => ∃ i L, L2.Inv (X.blk s3 L3 scope ce fp) [] (wipe σ (own.map (·.2))) L z ∧ tn i z.heap ∧ (∀ b ∈ fp, L b = none) ∧ V i n L) ?_ m0 ⟨0, L3, J4, a4, n3, w0⟩
    intro n s5 h5
    obtain ⟨i, L5, J5, a5, n5, w5⟩ := h5
    cases turn i n L5 w5 with
    | inl hstop =>
      refine thnF (Tn.done (X.blk s3 L3 scope ce fp) rfl rfl rfl hc i [] s5 _ L5 (fun _ _ => False) J5 (stat J5 n5) a5 hstop.1) fun r s6 h6 => ?_
      obtain ⟨hr, J6⟩ := h6
      subst hr
      have J7 : L2.Inv X pins σ L5 s6 := J3.call' (ch := fp) J6.os J6.base J6.hok J6.bare fun b hb => by
        have z := (b3 b hb).1.2
        exact ⟨z.2.2.1, z.1, z.2.2.2.1, z.2.2.2.2⟩
      have nC : L5 s3.heap.objs.size = none := by rw [← cL]; exact J6.free
      obtain ⟨mm, hn, _⟩ := J6.loc
      have hn' : s6.heap.Ns s3.heap.objs.size mm := by rw [← cL]; exact hn
      have fC := J3.fpOk (Nat.le_refl s3.heap.objs.size) nC
      obtain ⟨c0, c1, _, c3, c4, c5⟩ := fC
      exact ⟨mm, hn', fun h'' sb => ⟨.ref D, L5, J7.turned (t' := s6.toks) (fun b o hb e => (sb.2 b hb).trans e) c0 c1 c3 c4 c5, rfl, hstop.2⟩⟩
    | inr hgo =>
      obtain ⟨go, Nx, hNx, step⟩ := hgo
      refine thnF (Tn.item (X.blk s3 L3 scope ce fp) rfl rfl rfl hc i [] s5 _ L5 (fun _ _ => False) J5 (stat J5 n5) a5 go) fun r s6 h6 => ?_
      obtain ⟨u, hr, h6⟩ := h6
      subst hr
      refine thnF h6 fun _ s7 h7 => ?_
      obtain ⟨x, L7, J7, r7, y7, a7, n7⟩ := h7
      refine thnF (pg.run _ s7 _ L7 x u _ (J7.pinned (stat J7 n7) (Tn.obj _ _ a7)) r7 (step x L7 y7)) fun _ s8 h8 => ?_
      obtain ⟨σ8, L8, J8, hw8, q8⟩ := h8
      refine thnF (pt.run _ s8 σ8 L8 _ J8 q8) fun b s9 h9 => ?_
      obtain ⟨L9, J9, q9⟩ := h9
      have fin : ∀ {z : Shared} {L : Hp}, L2.Inv (X.blk s3 L3 scope ce fp) ([] ++ pinsAt fp s7.heap) σ8 L z → Nx L →
          ∃ m, m < n ∧ ∃ i L, L2.Inv (X.blk s3 L3 scope ce fp) [] (wipe σ (own.map (·.2))) L z ∧ tn i z.heap ∧ (∀ b ∈ fp, L b = none) ∧ V i m L := by
        intro z L J' nx
        obtain ⟨m', hm, w'⟩ := hNx L nx
        have held : ∀ b ∈ fp, ∀ o, s7.heap.get? b = some o → z.heap.get? b = some o ∧ L b = none := by
          intro b hb o e
          have k := J'.pin (b, o) (List.mem_append_right _ (List.mem_append_right _ (mem_pinsAt hb e)))
          exact ⟨k.1, k.2.1⟩
        refine ⟨m', hm, i + 1, L, (J'.unpinned (pins := [])).weak (by rw [← hw8, wipe_length]) (fun j v e => ?_), Tn.keep _ _ _ a7 fun b hb o e => (held b hb o e).1, fun b hb => ?_, w'⟩
        · rw [← hw8] at e
          exact (wipe_some e).1
        · obtain ⟨o, e, _⟩ := Tn.obj _ _ a7 b hb
          exact (held b hb o e).2
      cases b with
      | false => exact fin J9 q9
      | true =>
        refine thnF (pe.run _ s9 σ8 L9 _ J9 q9) fun z s10 h10 => ?_
        obtain ⟨yv, L10, J10, r10, k, acc, ey, hD10, room, nx⟩ := h10
        subst ey
        exact thnF (szO_add (X := X.blk s3 L3 scope ce fp) (Q := fun u z => u = .none ∧ L2.Inv (X.blk s3 L3 scope ce fp) ([] ++ pinsAt fp s7.heap) σ8 (upd L10 D (SzO X.w D (acc ++ [k]))) z) J10 hD10 r10 room fun s11 J11 => ⟨rfl, J11⟩) fun _ s11 h11 => fin h11.2 nx
  exact codeAny_compStart_set loop (Tn.self X.A 0 _ _ _ a4 loop)
end
def uqS (ks : List Str) : List Str := ks.foldl (fun acc k => if k ∈ acc then acc else acc ++ [k]) []
theorem uqS_mem (ks : List Str) (k : Str) : k ∈ uqS ks ↔ k ∈ ks := by
  suffices h : ∀ (l acc : List Str), (k ∈ l.foldl (fun acc k => if k ∈ acc then acc else acc ++ [k]) acc ↔ k ∈ acc ∨ k ∈ l) by
    have := h ks []
    simpa [uqS] using this
  intro l
  induction l with
  | nil => intro acc; simp
  | cons x l ih =>
    intro acc
    rw [List.foldl_cons, ih]
    by_cases hx : x ∈ acc
    · rw [if_pos hx, List.mem_cons]
      exact ⟨fun h => h.imp id .inr, fun h => h.elim .inl fun h => h.elim (fun e => .inl (e ▸ hx)) .inr⟩
    · rw [if_neg hx, List.mem_append, List.mem_singleton, List.mem_cons]
      exact ⟨fun h => h.elim (fun h => h.elim .inl fun e => .inr (.inl e)) fun h => .inr (.inr h), fun h => h.elim (fun h => .inl (.inl h)) fun h => h.elim (fun e => .inl (.inr e)) .inr⟩
theorem uqS_nodup (ks : List Str) : (uqS ks).Nodup := by
  suffices h : ∀ (l acc : List Str), acc.Nodup → (l.foldl (fun acc k => if k ∈ acc then acc else acc ++ [k]) acc).Nodup from h ks [] List.nodup_nil
  intro l
  induction l with
  | nil => intro acc h; exact h
  | cons x l ih =>
    intro acc h
    rw [List.foldl_cons]
    by_cases hx : x ∈ acc
    · rw [if_pos hx]; exact ih _ h
    · rw [if_neg hx]
      exact ih _ (List.nodup_append.mpr ⟨h, by simp, fun a ha b hb e => by rw [List.mem_singleton] at hb; rw [hb] at e; exact hx (e ▸ ha)⟩)
theorem uqS_len (ks : List Str) : (uqS ks).length ≤ ks.length := nodupS_le (uqS_nodup ks) fun x hx => (uqS_mem ks x).mp hx
theorem sortS_eq {a b : List Str} (ha : a.Nodup) (hb : b.Nodup) (h : ∀ k, k ∈ a ↔ k ∈ b) : sortS a = sortS b :=
  List.Perm.eq_of_pairwise (fun x y _ _ h1 h2 => leS_anti h1 h2) (sortS_pw a) (sortS_pw b) ((sortS_perm a).trans (((List.perm_ext_iff_of_nodup ha hb).mpr h).trans (sortS_perm b).symm))
section
variable {prog : Program} {w : World} {A : Around} {E : Value → Shared → Prop} {s : Shared} {D : Addr}
abbrev TxIs : List Value → List Str → Prop := PySem.W.EachIs fun v k => ∃ tk, v = Value.str k tk
theorem tx_map : ∀ (vs : List Value), (∀ v ∈ vs, ∃ k tk, v = Value.str k tk) → TxIs vs (vs.map PyProof.Rows.strOf)
  | [], _ => .nil
  | v :: vs, g => by
    obtain ⟨k, tk, rfl⟩ := g v List.mem_cons_self
    exact .cons ⟨tk, rfl⟩ (tx_map vs fun x hx => g x (List.mem_cons_of_mem _ hx))
theorem sorted_sz {acc : List Str} {Q : Value → Shared → Prop} (q : Sz w D acc s.heap) (hh : A.handled = none) (hu : A.units + 65 < cLine)
    (fin : ∀ s' p (out : List Value) (c : Nat), (∀ b o, s.heap.get? b = some o → s'.heap.get? b = some o) → s'.gens = s.gens → s'.os = s.os → s.heap.objs.size ≤ p → s'.heap.get? p = some (seqObj "list" out.toArray c) → TxIs out (sortS (uqS acc)) → Q (.ref p) s') :
    wpAny (model prog w) A (call (.builtin "sorted") [.ref D]) Q E s := by
  obtain ⟨o, es, ep, t, ho, hex, hd, ok, hm⟩ := q
  refine PySem.Calls.call_function_entry kind_sorted plain_sorted entry_sorted (args_sorted1 _) ?_
  unfold Builtin.«sorted»
  refine wpAny_bind (m := checkCount "sorted" 1 1 _) (wpAny_pure ?_)
  refine wpAny_bind (collect_set (A := A.in1) hh ⟨o, ho, hex.1, hd⟩ ok.f ok.b ok.r ok.l fun s1 vs k1 z1 g1 o1 pm => ?_)
  have tv : ∀ v ∈ vs, ∃ k tk, v = Value.str k tk := fun v hv => by
    obtain ⟨e, he, y⟩ := List.mem_map.mp (pm.mem_iff.mp hv)
    obtain ⟨k, tk, rfl⟩ := ok.g e he
    exact ⟨k, tk, y.symm⟩
  have pk : (vs.map PyProof.Rows.strOf).Perm (es.toList.map txE) := by
    have := pm.map PyProof.Rows.strOf
    rw [List.map_map] at this
    exact this
  have hz : vs.length ≤ sizeLine := by rw [pm.length_eq, List.length_map, Array.length_toList]; exact fits_of_scanBound ok.b
  have e := tx_map vs tv
  generalize hks : vs.map PyProof.Rows.strOf = ks at e pk
  have er : ∀ h : Heap, PySem.W.EachIs (fun v (b : Str) => ∃ as, Reads h v (PyData.str b) as) vs ks := fun h => e.mono fun v k ⟨tk, y⟩ => ⟨[], by rw [y]; exact .str _ _⟩
  have hal : PySem.W.AllAlike (ks.map PyData.str) := fun d hd d' hd' => by
    obtain ⟨a, _, rfl⟩ := List.mem_map.mp hd
    obtain ⟨b, _, rfl⟩ := List.mem_map.mp hd'
    simp [PySem.W.alike]
  have hk : PySem.W.Sortable (ks.map PyData.str) := .inr fun d hd => by
    obtain ⟨a, _, rfl⟩ := List.mem_map.mp hd
    exact ⟨fun y => (by cases y), fun _ y => (by cases y)⟩
  refine wpAny_bind (wpAny_newList ?_ hz)
  have hoL : (s1.heap.push (seqObj "list" vs.toArray 0)).get? s1.heap.objs.size = some (seqObj "list" vs.toArray 0) := Heap.get?_push_size _ rfl
  have S := PySem.W.SortsAt.data (prog := prog) (w := w) (A := A.in1.in1) (s := { s1 with heap := PySem.W.sortingHeap (s1.heap.push (seqObj "list" vs.toArray 0)) s1.heap.objs.size vs }) (PySem.W.each_map (R := fun v d => ∃ as, Reads (PySem.W.sortingHeap (s1.heap.push (seqObj "list" vs.toArray 0)) s1.heap.objs.size vs) v d as) PyData.str (er _)) hal hk (PySem.W.bound_map fun b hb => by
    have : (PyData.str b).depth = 0 := rfl
    show A.units + 2 + _ < _
    omega)
  refine wpAny_bind (wpAny_holding (wpAny_call_entry slot_list_sort ⟨_, hoL, rfl⟩ entry_list_sort (PySem.W.list_sort_vals (s := { s1 with heap := s1.heap.push (seqObj "list" vs.toArray 0) }) hoL S hz ⟨_, rfl, ?_⟩) (args_list_sort _)))
  have so := PySem.W.sortVals_data (h' := PySem.W.sortingHeap (s1.heap.push (seqObj "list" vs.toArray 0)) s1.heap.objs.size vs) (enc := PyData.str) false e (er _) hal
  have es2 : ks.mergeSort (PySem.W.dataLe false PyData.str) = sortS (uqS acc) := sortS_eq (pk.nodup_iff.mpr ok.n) (uqS_nodup acc) fun k => by rw [pk.mem_iff, hm k, uqS_mem]
  rw [es2] at so
  obtain ⟨c, hc⟩ := sortedHeap_at (vs := vs) (out := (PySem.W.sortVals (PySem.W.dataKind (PySem.W.sortingHeap (s1.heap.push (seqObj "list" vs.toArray 0)) s1.heap.objs.size vs) (ks.map PyData.str)) false vs vs).toArray) hoL
  refine wpAny_pure ⟨_, rfl, fin _ s1.heap.objs.size _ c (fun b u y => ?_) g1 o1 z1 hc so⟩
  have y1 := k1 b u y
  have lt := Heap.lt_size y1
  show (sortedHeap (s1.heap.push (seqObj "list" vs.toArray 0)) s1.heap.objs.size vs _).get? b = some u
  rw [sortedHeap_old (Nat.ne_of_lt lt) (by rw [size_push']; exact Nat.lt_succ_of_lt lt)]
  exact Heap.get?_push_of_some _ y1
end
def strsT : List T → Option (List Str)
  | [] => some []
  | .str s :: ts => (strsT ts).map (s :: ·)
  | _ :: _ => none
theorem strs_pre : ∀ {as bs : List T} {ks : List Str}, strsT (as ++ bs) = some ks → ∃ k1 k2, strsT as = some k1 ∧ strsT bs = some k2 ∧ ks = k1 ++ k2
  | [], bs, ks, e => ⟨[], ks, rfl, e, rfl⟩
  | t :: as, bs, ks, e => by
    cases t with
    | str s =>
      have e : (strsT (as ++ bs)).map (s :: ·) = some ks := e
      obtain ⟨k, e1, rfl⟩ := Option.map_eq_some_iff.mp e
      obtain ⟨k1, k2, h1, h2, rfl⟩ := strs_pre e1
      exact ⟨s :: k1, k2, by show (strsT as).map (s :: ·) = _; rw [h1]; rfl, h2, rfl⟩
    | _ => cases e
theorem strs_snoc : ∀ {as : List T} {ks : List Str}, strsT as = some ks → ∀ k, strsT (as ++ [.str k]) = some (ks ++ [k])
  | [], ks, e, k => by cases e; rfl
  | t :: as, ks, e, k => by
    cases t with
    | str s =>
      have e : (strsT as).map (s :: ·) = some ks := e
      obtain ⟨k1, e1, rfl⟩ := Option.map_eq_some_iff.mp e
      show (strsT (as ++ [.str k])).map (s :: ·) = _
      rw [strs_snoc e1 k]; rfl
    | _ => cases e
def bSortSet (ts : List T) (h : Hh) : Res T := match strsT ts with
  | some ss => if ss.length ≤ 1000 then alloc (.lst ((sortS (uqS ss)).map T.str)) h else .stk
  | none => .stk
section
variable {X : Cx} {P : Pq} {W : WX} {a b c o e tg iter : Expr} {sa sb sc so : SE} {pos pos' apos cpos p p2 q2 : Pos} {es : List Expr} {ar : SA} {si : SI}
theorem HR.outZ {K : PySem.W.Frag} {mg : Str → Option Value} {wd : World} {m : Mp} {H : Hp} {h : Hh} (R : HR K mg wd m h H) {D : Addr} {w : World} {as bs : List Str} (e : H D = some (SzO w D as)) (n : ∀ l, m l ≠ some D) : HR K mg wd m h (upd H D (SzO w D bs)) where
  dom := R.dom
  inj := R.inj
  ob := fun l u q => by
    obtain ⟨a, e1, r⟩ := R.ob l u q
    have T : Tr m H m (upd H D (SzO w D bs)) := ⟨fun _ _ q => q, fun a us q => by rw [upd_ne (ne_of q e (by intro z; cases z))]; exact q, fun a o u q => by rw [upd_ne (ne_of q e (by intro z; cases z))]; exact q⟩
    exact ⟨a, e1, r.moveT T (upd_ne (fun z => n l (by rw [← z]; exact e1)))⟩
def rSortZ (w : World) : List V → Hp → VK → Prop := fun xs H Q => ∃ D acc, xs = [.ref D] ∧ H D = some (SzO w D acc) ∧ ∀ p, H p = none → Q (.ref p) (upd H p (.lst ((sortS (uqS acc)).map V.str)))
theorem tx_vals : ∀ {us : List Value} {ks : List Str}, TxIs us ks → Vals (ks.map V.str) us
  | _, _, .nil => .nil
  | _, _, .cons h r => by
    obtain ⟨tk, rfl⟩ := h
    exact .cons ⟨tk, rfl⟩ (tx_vals r)
theorem cr_sortZ (hc : X.calm = true) (hu : X.A.units + 65 < cLine) : CallR X (.builtin "sorted") (rSortZ X.w) := by
  intro pins s σ H xs us Q I ru hq
  obtain ⟨D, acc, rfl, hD, q⟩ := hq
  rw [Vals.ref1 ru]
  have z : Sz X.w D acc s.heap := (I.hok D _ hD).1
  refine sorted_sz z (I.ok.hd hc) hu fun s' p out c k g o hp hg ht => ?_
  have hn : H p = none := I.hok.fresh hp
  have hv := tx_vals ht
  have hlen : ((sortS (uqS acc)).map V.str).length ≤ sizeLine := by
    obtain ⟨ob, es, ep, t, ho, hex, hd, ok, hm⟩ := z
    have l1 : (sortS (uqS acc)).length = (uqS acc).length := (sortS_perm _).length_eq
    have l2 : (uqS acc).length ≤ (es.toList.map txE).length := nodupS_le (uqS_nodup acc) fun x hx => (hm x).mpr ((uqS_mem acc x).mp hx)
    have l3 := fits_of_scanBound ok.b
    have l4 : es.toList.length = es.size := Array.length_toList
    have l5 : (es.toList.map txE).length = es.toList.length := List.length_map _
    rw [List.length_map, l1]
    exact Nat.le_trans l2 (by rw [l5, l4]; exact l3)
  have J : L2.Inv X pins σ (upd H p (.lst ((sortS (uqS acc)).map V.str))) { s with heap := s'.heap, gens := s'.gens, drawn := s'.drawn, toks := s'.toks } :=
    I.call (ch := []) (Un.laid k hp hn) (I.hok.laid k hp ⟨hlen, out, c, hv, hg⟩) (by rw [g]; exact I.bare) (fun _ z => nomatch z)
  have e : s' = { s with heap := s'.heap, gens := s'.gens, drawn := s'.drawn, toks := s'.toks } := by
    cases s'
    cases s
    cases o
    rfl
  rw [e]
  exact ⟨.ref p, _, J, rfl, q p hn⟩
theorem sz_read {is vs : List Nat} {g : SG} {tt : ST} {te : SE} (his : ∀ i ∈ is, i ∈ vs) {σV : L2.St} {H : Hp} {Q : VK} (h : tI X.K X.mg X.w P W (sOver bSortSet (saLc si g tt te vs)) σV H Q) :
    tSz X.w (tG X.K X.mg X.w (SrcJ X.K X.mg X.w) P W si) (tTg X.K X.mg X.w P is g) (tTst X.K X.mg X.w P WF tt) (tI X.K X.mg X.w P WF te) vs σV H (fun v H1 => rSortZ X.w [v] H1 Q) := by
  obtain ⟨m, h, σ, A, o⟩ := h
  have o : Out X.K X.mg X.w (RT X.K X.mg) W σV Q m H ((si σ h).bind fun s h1 => (lcRun s g tt te (wipeT σ vs) (s.len h1) 0 [] h1).bind bSortSet) := by
    have e : sOver bSortSet (saLc si g tt te vs) σ h = ((si σ h).bind fun s h1 => (lcRun s g tt te (wipeT σ vs) (s.len h1) 0 [] h1).bind bSortSet) := by
      unfold sOver saLc
      cases si σ h <;> rfl
    rw [e] at o; exact o
  refine A.first (rel1 := SrcJ X.K X.mg X.w) o fun m1 h1 s J H1 E1 S A1 o1 D hD => ?_
  refine ⟨fun i k H' => ∃ m' h' acc accK, Ext m1 H1 m' H' ∧ HR X.K X.mg X.w m' h' H' ∧ H' D = some (SzO X.w D accK) ∧ strsT acc = some accK ∧ (∀ k ∈ accK, PyData.strOk k = true) ∧ (∀ l, m' l ≠ some D) ∧
    Out X.K X.mg X.w (RT X.K X.mg) W σV Q m1 H1 ((lcRun s g tt te (wipeT σ vs) k i acc h').bind bSortSet), ⟨s.len h1, m1, h1, [], [], Ext.garbage A1.hr hD, A1.hr.garbage hD, upd_same, rfl, fun k hk => (by cases hk), fun l e => ?_, o1⟩, ?_⟩
  · obtain ⟨u, e2, _⟩ := A1.hr.tracked e
    rw [hD] at e2; cases e2
  rintro i k H' ⟨m', h', acc, accK, E', R', hDl, hK, hS, nD, o'⟩
  unfold lcRun at o'
  cases es : s.at h' i with
  | none => rw [es] at o'; exact False.elim o'
  | some ox =>
    cases ox with
    | none =>
      rw [es] at o'
      have o2 : Out X.K X.mg X.w (RT X.K X.mg) W σV Q m1 H1 (bSortSet acc h') := o'
      unfold bSortSet at o2
      rw [hK] at o2
      dsimp only at o2
      split at o2
      · rename_i room
        have nD' : ∀ p, H' p = none → p ≠ D := fun p hp z => by rw [z, hDl] at hp; cases hp
        refine .inl ⟨S.stop m' h' H' i E'.tr R' es, D, accK, rfl, hDl, fun p hp => ?_⟩
        have rr : RTs X.K X.mg m' H' ((sortS (uqS accK)).map T.str) ((sortS (uqS accK)).map V.str) := by
          have all : ∀ k ∈ sortS (uqS accK), PyData.strOk k = true := fun k hk => hS k ((uqS_mem accK k).mp ((sortS_perm _).mem_iff.mp hk))
          generalize sortS (uqS accK) = L at all
          induction L with
          | nil => exact .nil
          | cons k L ih => exact .cons (.str (all k List.mem_cons_self)) (ih fun x hx => all x (List.mem_cons_of_mem _ hx))
        exact o2 _ _ _ (E'.trans (Ext.alloc R' hp)) (.ref Mp.put_same) (R'.alloc hp ⟨_, upd_same, rr.ext (Ext.alloc R' hp)⟩)
      · exact False.elim o2
    | some x =>
      rw [es] at o'
      cases k with
      | zero => exact False.elim o'
      | succ k =>
        obtain ⟨jg, jy⟩ := S.go m' h' H' i x E'.tr R' es
        refine .inr ⟨jg, _, fun H'' q => ⟨k, Nat.lt_succ_self k, q⟩, fun y H2 hy => ?_⟩
        obtain ⟨E2, R2, rx⟩ := jy y H2 hy
        have A2 : At X.K X.mg X.w P m' H2 (L2.wipe σV vs) (wipeT σ vs) h' := ⟨((A1.sr.ext (E'.trans E2)).wipe vs), R2, P.st (E'.trans E2) A1.pr⟩
        refine ⟨m', h', wipeT σ vs, x, A2, rx, ?_⟩
        have keepD : ∀ {m3 H3}, Ext m' H2 m3 H3 → H3 D = some (SzO X.w D accK) ∧ ∀ l, m3 l ≠ some D := fun {m3 H3} E3 => by
          have d2 : H2 D = some (SzO X.w D accK) := E2.keep D _ hDl nD
          refine ⟨E3.keep D _ d2 nD, fun l e => ?_⟩
          rcases E3.fresh l D e with z | z
          · exact nD l z
          · rw [d2] at z; cases z
        dsimp only at o'
        cases eg : g x (wipeT σ vs) with
        | none => rw [eg] at o'; exact False.elim o'
        | some σ1 =>
          rw [eg] at o'
          intro σV1 s1 only
          refine ⟨wipe_only his only, m', h', σ1, ⟨s1, R2, A2.pr⟩, ?_⟩
          dsimp only at o'
          cases et : tt σ1 h' with
          | exc c fs h3 => rw [et] at o'; exact False.elim o'
          | stk => rw [et] at o'; exact False.elim o'
          | ok b h3 =>
            rw [et] at o'
            dsimp only at o'
            intro b' m3 H3 E3 eb R3
            subst eb
            cases b with
            | false =>
              rw [if_neg Bool.false_ne_true] at o' ⊢
              obtain ⟨d3, n3⟩ := keepD E3
              exact ⟨m3, h3, acc, accK, (E'.trans E2).trans E3, R3, d3, hK, hS, n3, o'⟩
            | true =>
              rw [if_pos rfl] at o' ⊢
              refine ⟨m3, h3, σ1, ⟨s1.ext E3, R3, P.st E3 A2.pr⟩, ?_⟩
              cases ee : te σ1 h3 with
              | exc c fs h4 => rw [ee] at o'; exact False.elim o'
              | stk => rw [ee] at o'; exact False.elim o'
              | ok t h4 =>
                rw [ee] at o'
                dsimp only at o'
                intro y' m4 H4 E4 rt R4
                obtain ⟨d4, n4⟩ := keepD (E3.trans E4)
                split at o'
                · 
                  have key : ∃ kt, t = .str kt ∧ accK.length + 1 < scanBound := by
                    cases el : lcRun s g tt te (wipeT σ vs) k (i + 1) (acc ++ [t]) h4 with
                    | exc c fs h5 => exact absurd el (lcRun_nx _ _ _ _ _ _ _)
                    | stk => rw [el] at o'; exact False.elim o'
                    | ok ts h5 =>
                      rw [el] at o'
                      obtain ⟨r, er⟩ := lcRun_pre _ _ _ _ _ _ el
                      have o2 : Out X.K X.mg X.w (RT X.K X.mg) W σV Q m1 H1 (bSortSet ts h5) := o'
                      unfold bSortSet at o2
                      cases eks : strsT ts with
                      | none => rw [eks] at o2; exact False.elim o2
                      | some ks =>
                        rw [eks] at o2
                        dsimp only at o2
                        split at o2
                        · rename_i room
                          rw [er] at eks
                          obtain ⟨k1, k2, e1, _, e3⟩ := strs_pre eks
                          obtain ⟨k3, k4, e4, e5, e6⟩ := strs_pre e1
                          rw [hK] at e4; cases e4
                          cases t with
                          | str kt =>
                            refine ⟨kt, rfl, ?_⟩
                            have : k4 = [kt] := (Option.some.inj e5).symm
                            have sb : (1001 : Nat) < scanBound := by decide
                            rw [e3, e6, this] at room
                            simp only [List.length_append, List.length_singleton] at room
                            omega
                          | _ => cases e5
                        · exact False.elim o2
                  obtain ⟨kt, rfl, room⟩ := key
                  cases rt with
                  | str hs =>
                    refine ⟨kt, accK, rfl, d4, room, m4, h4, acc ++ [.str kt], accK ++ [kt], ?_, ?_, upd_same, strs_snoc hK kt, fun x hx => ?_, n4, o'⟩
                    · exact Ext.out (((E'.trans E2).trans E3).trans E4) hD
                    · exact R4.outZ d4 n4
                    · rcases List.mem_append.mp hx with z | z
                      · exact hS x z
                      · rw [List.mem_singleton] at z; rw [z]; exact hs
                · exact False.elim o'
theorem de_sortSc {elt : Expr} {ifs : List Expr} {scope : Scope} {own : List (Str × Nat)} {is : List Nat} {g : SG} {tt : ST} {te : SE} (hc : X.calm = true) (hu : X.A.units + 65 < cLine) (hN : X.N.Nodup) (hg' : Gl X "sorted") (hm : X.mg "sorted" = none) (hi : DI X P W tg iter si) (ok : BlkOk X.N X.env.scope scope own)
    (hg : ∀ (s : Shared) (H : Hp) (C : Addr) (cl : List (Str × Addr)) (fp : List Addr), DG (X.blk s H scope (compEnvC scope cl C X.env) fp) P tg is g)
    (ht : ∀ (s : Shared) (H : Hp) (C : Addr) (cl : List (Str × Addr)) (fp : List Addr), DTs (X.blk s H scope (compEnvC scope cl C X.env) fp) P WF ifs tt)
    (he : ∀ (s : Shared) (H : Hp) (C : Addr) (cl : List (Str × Addr)) (fp : List Addr), DE (X.blk s H scope (compEnvC scope cl C X.env) fp) P WF elt te)
    (his : ∀ i ∈ is, i ∈ own.map (·.2) := by decide) (hs : ∀ x, foldedSetIterable iter X.env x = pure x := by intro _; rfl)
    (he2 : starEach [.SetComp elt [⟨tg, iter, ifs, 0⟩] scope p2] X.env = (false, eval (.SetComp elt [⟨tg, iter, ifs, 0⟩] scope p2) X.env) :: starEach [] X.env := by rfl) (hpl2 : (backTo pos (starEach [] X.env)).any (·.1) = false := by rfl) :
    DE X P W (.Call (.Name "sorted" p) [.SetComp elt [⟨tg, iter, ifs, 0⟩] scope p2] [] pos) (sOver bSortSet (saLc si g tt te (own.map (·.2)))) :=
  PE.imp (pe_callB (cr_sortZ hc hu) hg' hm boot_sorted (pa_cons (pe_sz (own := own) (wi := tG X.K X.mg X.w (SrcJ X.K X.mg X.w) P W si) (g := tTg X.K X.mg X.w P is g) (tt := tTst X.K X.mg X.w P WF tt) (te := tI X.K X.mg X.w P WF te) hc hN hi ok hg ht he hs) pa_nil he2) (by decide) (by decide) he2 hpl2)
    fun σV H Q h => sz_read his h
end
end W3
end

section
namespace W3
open PySem PySem.Spec PyProof.Rows
open L2
def forTu (ts : List T) (g : SG) (b : SS) : Nat → Nat → St3 → Hh → Flo
  | k, i, σ, h => match ts[i]? with
    | none => .nx σ h
    | some t => match k with
      | 0 => .stk
      | k + 1 => match g (.tup [.int (i : Nat), t]) σ with
        | none => .stk
        | some σ1 => match b σ1 h with
          | .nx σ2 h2 => forTu ts g b k (i + 1) σ2 h2
          | .ct σ2 h2 => forTu ts g b k (i + 1) σ2 h2
          | .bk σ2 h2 => .nx σ2 h2
          | r => r
def enG (v : T) (g : SG) (b : SS) (σ : St3) (h : Hh) : Flo := match v with
  | .ref l => (match lstAt h l with | some ts => forEn l g b ts.length 0 σ h | none => .stk)
  | .tup ts => forTu ts g b ts.length 0 σ h
  | _ => .stk
def ssForEnG (a : SA) (g : SG) (b : SS) : SS := fun σ h => (a σ h).flo σ fun xs h1 => match xs with
  | [v] => enG v g b σ h1
  | _ => .stk
section
variable {X : Cx} {P : Pq} {W : WX} {ar : SA} {a : Expr} {pos p tpos cpos : Pos} {body : List Stmt} {x1 : SS} {elts : List Expr} {kk : Nat}
end
end W3
end

section
namespace W3
open PySem PySem.Spec PyProof.Rows
open L2
def sTL (a : SE) : ST := fun σ h => (a σ h).bind fun x h1 => match x with
  | .ref l => (match lstAt h1 l with | some ts => .ok (!ts.isEmpty) h1 | none => .stk)
  | _ => .stk
section
variable {X : Cx} {P : Pq} {W : WX} {a : Expr} {sa : SE}
end
end W3
end

section
namespace OwLen
open PySem PySem.Spec PyProof.Rows PySem.W
section
variable {prog : Program} {w : World} {A : Around} {E : Value → Shared → Prop} {s : Shared} {K : PySem.W.Frag} {x C D f : Addr} {ox od : Obj} {odd : Option Obj}
theorem bool_own2 {m : Str → Option Value} {L : Addr} {h₀ : Heap} {Q : Value → Shared → Prop} (F : Fr h₀ L s.heap m) (X₀ : K.In h₀) (I : PySem.W.InstAt s.heap x ox C odd) (hs : PySem.W.findIn K (.ref C) "__bool__" = some (some (.ref f))) (hf : PySem.W.isFn K (.ref f) = true)
    (h : wpAny (model prog w) A.in1.in1 (call (.ref f) [.ref x]) (PySem.W.BoolBack fun k s₁ => Q (.bool k) s₁) E s) : wpAny (model prog w) A (call (.type "bool") [.ref x]) Q E s := by
  refine callType_codes (T := "bool") (Bi := Builtin.«object.__init__») (Q₁ := fun r s₁ => ∃ y, r = .bool y ∧ Q r s₁) PySem.F.called_bool (PySem.F.typeCall_bool_1 _) PySem.F.entry_object_init ?_ ?_
  · refine codeAny_of_tree ?_
    show wpAny _ A.in1.in1 (do checkBuiltinCall "bool.__new__" ⟨[.type "bool", .ref x], []⟩; again (.builtin "bool.__new__" ⟨[.type "bool", .ref x], []⟩)) _ _ s
    refine wpAny_bind (wpAny_of_eq (PySem.F.newCall_bool_1 _) (wpAny_pure ⟨plainId_quiet (by decide +kernel) _, codeAny_builtin PySem.F.entry_bool_new ?_⟩))
    rw [Around.under_plainId (by decide +kernel) _]
    unfold Builtin.«bool.__new__»
    have hT := truthy_K (A := A.in1.in1) (E := E) (Q := fun k s₁ => Q (.bool k) s₁) F X₀ I hs hf h
    obtain ⟨hp, g, d, tk, os⟩ := s
    have f1 := PySem.F.conv_sub_bool
    repeat (any_goals (first | assumption | (with_reducible refine wpAny_bind (m := truthy (.ref x)) (wpAny_mono hT (fun k s' hk => ?_) fun _ _ e => e)) | wp_step))
    exact ⟨_, rfl, hk⟩
  · rintro obj s₁ ⟨y, rfl, hq⟩
    exact ⟨rfl, PySem.F.args_object_init_2 _ _, object_init_meets PySem.F.called_bool.init.lookup PySem.F.called_bool.made (by decide) prog w A.in1 _ s₁ ⟨rfl, rfl, hq⟩⟩
end
end OwLen
namespace L2
open PySem PySem.Spec PyProof.Rows
section
variable {X : Cx} {CX : CXT} {k : Nat} {C g : Addr} {fd : FuncData} {ps : List Str} {sp : Sp} {E : XK}
def rBoolOwn2 (C : Addr) (sp : Sp) (E : XK) : List V → Hp → VK → Prop := fun xs H Q => ∃ a dx fs, xs = [V.ref a] ∧ H a = some (.ins C dx fs) ∧ sp [.ref a] H (fun z H' => ∃ b, z = .bl b ∧ Q z H') E
theorem call_boolOwn2 (hs : PySem.W.findIn X.K (.ref C) "__bool__" = some (some (.ref g))) (hf : PySem.W.isFn X.K (.ref g) = true) (F : FnOk X.prog X.w X.K X.mg X.base CX k g fd ps sp) (hr : Room (k + 2) X.A) (hb : Binds X.K fd ps []) (hx : Passes CX X E) : CallR X (.type "bool") (rBoolOwn2 C sp E) := by
  intro pins s σ H xs us Q I r h
  obtain ⟨a, dx, fs, rfl, ea, q⟩ := h
  obtain ⟨u, rfl, ru⟩ := r.one
  cases (show u = Value.ref a from ru)
  obtain ⟨mA, O, _, _, _, _⟩ := ins_get I.hok ea
  obtain ⟨od, J, _⟩ := O.look
  obtain ⟨mf, hF⟩ := I.fr
  have hl : ([Value.ref a] ++ ([] : List Value)).length = ps.length := by
    rw [← F.len _ _ _ _ q]
    rfl
  have run : wpAny (model X.prog X.w) X.A.in1.in1 (call (.ref g) [.ref a]) (EP X pins σ (fun z H' => ∃ b, z = .bl b ∧ Q z H')) X.xe s := by
    refine wpAny_call (codeAny_mono (F.run X.A.in1.in1 X.stack s H ⟨[.ref a], []⟩ [.ref a] [.ref a] _ E hr.in1.in1 I.env0.in1.in1 (hb _ [.ref a] I.kIn hl) (.cons rfl .nil) q) fun r s' hq => ?_)
    cases r with
    | error e => exact hx pins σ H s e s' I hq
    | ok fl =>
      cases fl with
      | ret u => exact I.after hq
      | next => exact False.elim hq
      | brk => exact False.elim hq
      | cont => exact False.elim hq
  refine OwLen.bool_own2 hF I.ok.mod.kin J hs hf (wpAny_mono run (fun w s' z => ?_) fun _ _ x => x)
  obtain ⟨z', H', I', rz, b, eb, qz⟩ := z
  subst eb
  cases rz
  exact ⟨.bl b, H', I', rfl, qz⟩
end
end L2
namespace W3
open PySem PySem.Spec PyProof.Rows
open L2
def fBool (cn : Str) (ff : List T → Hh → Res T) (xs : List T) (h : Hh) : Res T := match xs with
  | [.ref l] => (match insAt h l with
    | some (d, _) => if d = cn then (match ff [.ref l] h with
      | .ok (.int i) h' => if 0 ≤ i ∧ i < 2 ^ 63 then .ok (.bl (i != 0)) h' else .stk
      | _ => .stk) else .stk
    | none => .stk)
  | _ => .stk
def fBool2 (cn : Str) (ff : List T → Hh → Res T) (xs : List T) (h : Hh) : Res T := match xs with
  | [.ref l] => (match insAt h l with
    | some (d, _) => if d = cn then (match ff [.ref l] h with
      | .ok (.bl b) h' => .ok (.bl b) h'
      | _ => .stk) else .stk
    | none => .stk)
  | _ => .stk
theorem nx_boolO2 {cn : Str} {ff : List T → Hh → Res T} : NoXL (fBool2 cn ff) := fun xs h c fs h' e => by
  unfold fBool2 at e
  (repeat' split at e) <;> cases e
theorem cs_boolO2 {X : Cx} {cn : Str} {C g : Addr} {k : Nat} {fd : FuncData} {ps : List Str} {ff : List T → Hh → Res T} (hC : X.mg cn = some (.ref C)) (hs : PySem.W.findIn X.K (.ref C) "__bool__" = some (some (.ref g))) (hf : PySem.W.isFn X.K (.ref g) = true)
    (F : FnOk X.prog X.w X.K X.mg X.base (L2.CX X.prog X.w) k g fd ps (spT X.K X.mg X.w 1 ff)) (hr : Room (k + 2) X.A) (hb : Binds X.K fd ps []) : CallR X (.type "bool") (rPL X.K X.mg X.w (fBool2 cn ff)) := by
  intro pins s σ H xs us Q I ru ⟨m, h, ts, r, R, o⟩
  unfold fBool2 at o
  split at o
  · rename_i l
    split at o
    · rename_i d ffs q1
      split at o
      · rename_i hd
        subst hd
        split at o
        · rename_i b h' eff
          cases r with
          | cons rv rest =>
            cases rest
            cases rv with
            | @ref _ a e1 =>
              obtain ⟨C', dx, fv, g1, g2, rf⟩ := R.ins e1 q1
              rw [hC] at g1
              cases g1
              refine call_boolOwn2 (C := C) (sp := spT X.K X.mg X.w 1 ff) (E := fun _ _ _ => False) hs hf F hr hb (fun pins σ H s e s' I c => passAt (takesWF X) σ pins H s e s' I c) pins s σ H _ us Q I ru ⟨a, dx, fv, rfl, g2, ⟨rfl, m, h, [.ref l], .cons (.ref e1) .nil, R, ?_⟩⟩
              rw [eff]
              intro v m' H' E rt R'
              cases rt
              exact ⟨b, rfl, o _ m' H' E (.bl _) R'⟩
        · exact False.elim o
      · exact False.elim o
    · exact False.elim o
  · exact False.elim o
def bBoolL (xs : List T) (h : Hh) : Res T := match xs with
  | [.ref l] => (match lstAt h l with | some ts => .ok (.bl (!ts.isEmpty)) h | none => .stk)
  | _ => .stk
theorem nx_boolL : NoXL bBoolL := fun xs h c fs h' e => by
  unfold bBoolL at e
  (repeat' split at e) <;> cases e
theorem cs_boolL {X : Cx} : CallR X (.type "bool") (rPL X.K X.mg X.w bBoolL) := by
  intro pins s σ H xs us Q I ru ⟨m, h, ts, r, R, o⟩
  unfold bBoolL at o
  split at o
  · rename_i l
    split at o
    · rename_i zs el
      cases r with
      | cons rv rest =>
        cases rest
        cases rv with
        | @ref _ a e1 =>
          obtain ⟨vs, gq, rr⟩ := R.lst e1 el
          refine call_boolL pins s σ H _ us Q I ru ⟨a, vs, rfl, SqL.of gq, ?_⟩
          have e : zs.isEmpty = vs.isEmpty := by
            have := rr.length
            cases zs with
            | nil => cases vs with
              | nil => rfl
              | cons _ _ => simp at this
            | cons _ _ => cases vs with
              | nil => simp at this
              | cons _ _ => rfl
          rw [← e]
          exact o _ m H (Ext.refl _ _) (.bl _) R
    · exact False.elim o
  · exact False.elim o
end W3
end

section
namespace OwBin
open PySem PySem.Spec PyProof.Rows PySem.W
section
variable {prog : Program} {w : World} {A : Around} {E : Value → Shared → Prop} {s : Shared} {K : PySem.W.Frag} {x y C f : Addr} {ox oy : Obj} {od od2 : Option Obj} {h₀ : Heap} {L : Addr} {m : Str → Option Value}
theorem bin1 {nm : String} {Q : Value → Shared → Prop} (X : K.In s.heap) (I : InstAt s.heap x ox C od) (J : InstAt s.heap y oy C od2) (hc : selfFirst K C = true)
    (hs : findIn K (.ref C) (PySem.dunder nm) = some (some (.ref f))) (hf : isFn K (.ref f) = true)
    (h : wpAny (model prog w) A (call (.ref f) [.ref x, .ref y]) (PySem.W.CmpBack Q) E s) : wpAny (model prog w) A (binaryOp1 nm (.ref x) (.ref y)) (fun r s' => ∃ v, r = some v ∧ Q v s') E s := by
  obtain ⟨cd, rest, hcd, hm⟩ := ksp_first hc
  have one := ksp_try X I hs hf h
  obtain ⟨hh, g, d, tt, os⟩ := s
  have L1 : Looks (model prog w) hh (typeOf (.ref x)) (.ref C) := I.type
  have L2 : Looks (model prog w) hh (typeOf (.ref y)) (.ref C) := J.type
  have L3 : Looks (model prog w) hh (fillsNumberSlot (.ref C) nm) true := fills_K X hcd hm hs
  unfold binaryOp1
  refine wpAny_bind (L1.at (wpAny_bind (L2.at (wpAny_bind (L3.at ?_)))))
  simp only [beq_self_eq_true, if_true]
  ksp_lk
  refine wpAny_mono one (fun r s' hr' => ?_) fun _ _ e => e
  obtain ⟨v, rfl, hq⟩ := hr'
  ksp_lk
  exact ⟨v, rfl, hq⟩
theorem bin_same {op : Operator} {Q : Value → Shared → Prop} (X : K.In s.heap) (I : InstAt s.heap x ox C od) (J : InstAt s.heap y oy C od2) (hc : selfFirst K C = true)
    (hs : findIn K (.ref C) (PySem.dunder op.info.2) = some (some (.ref f))) (hf : isFn K (.ref f) = true)
    (h : wpAny (model prog w) A (call (.ref f) [.ref x, .ref y]) (PySem.W.CmpBack Q) E s) : wpAny (model prog w) A (binaryOp op (.ref x) (.ref y)) Q E s := by
  rcases hi : op.info with ⟨sym, nm'⟩
  rw [hi] at hs
  simp only [binaryOp, hi]
  refine wpAny_holding (wpAny_bind ?_)
  refine wpAny_mono (bin1 X I J hc hs hf h) (fun r s' hr' => ?_) fun _ _ e => e
  obtain ⟨v, rfl, hq⟩ := hr'
  ksp_lk
  exact hq
def mroTwo (K : Frag) (C : Addr) : Bool := (clsIn K C).any fun cd => cd.mro == [.ref C, .type "object"]
theorem mro_two (hc : mroTwo K C = true) : ∃ cd, clsIn K C = some cd ∧ cd.mro = [.ref C, .type "object"] := by
  obtain ⟨cd, hcd, hm⟩ := any_some hc
  exact ⟨cd, hcd, beq_iff_eq.mp hm⟩
theorem fills_no {nm : String} {h : Heap} {cd : ClassData} {add : Bool} (X : K.In h) (hc : clsIn K C = some cd) (hm : cd.mro = [.ref C, .type "object"]) (h1 : findIn K (.ref C) (dunderI nm) = some none) (h2 : findIn K (.type "object") (dunderI nm) = some none) : Looks (model prog w) h (fillsInplaceSlot (.ref C) nm add) false := by
  intro A Q E s k q
  have Lm : Looks (model prog w) h (mroOf (.ref C)) cd.mro := (looks_clsIn X hc).andThen (f := fun cd => pure cd.mro) .now
  have Lm' := Lm.keeps k
  obtain ⟨hh, g, d, tt, os⟩ := s
  have X' : K.In hh := X.keeps k
  have L1 : Looks (model prog w) hh (typeLookup (.ref C) (dunderI nm)) none := looks_findIn X' h1
  have L2 : Looks (model prog w) hh (typeLookup (.type "object") (dunderI nm)) none := looks_findIn X' h2
  unfold fillsInplaceSlot
  refine wpAny_bind (Lm'.at ?_)
  rw [hm, List.anyM_cons]
  refine wpAny_bind ?_
  refine wpAny_bind (L1.at ?_)
  refine wpAny_pure ?_
  rw [List.anyM_cons]
  refine wpAny_bind (wpAny_bind (L2.at (wpAny_pure ?_)))
  rw [List.anyM_nil]
  exact wpAny_pure q
theorem inplace_same {op : Operator} {Q : Value → Shared → Prop} (X : K.In s.heap) (I : InstAt s.heap x ox C od) (J : InstAt s.heap y oy C od2) (hc : mroTwo K C = true) (h1 : findIn K (.ref C) (dunderI op.info.2) = some none) (h2 : findIn K (.type "object") (dunderI op.info.2) = some none)
    (hs : findIn K (.ref C) (PySem.dunder op.info.2) = some (some (.ref f))) (hf : isFn K (.ref f) = true)
    (h : wpAny (model prog w) A (call (.ref f) [.ref x, .ref y]) (PySem.W.CmpBack Q) E s) : wpAny (model prog w) A (inplaceOp op (.ref x) (.ref y)) Q E s := by
  obtain ⟨cd, hcd, hm⟩ := mro_two hc
  have hself : selfFirst K C = true := by
    unfold selfFirst
    rw [hcd]
    show (cd.mro.head? == some (.ref C)) = true
    rw [hm]
    exact beq_self_eq_true _
  have one := bin1 X I J hself hs hf h
  obtain ⟨hh, g, d, tt, os⟩ := s
  have L1 : Looks (model prog w) hh (typeOf (.ref x)) (.ref C) := I.type
  have L2 : Looks (model prog w) hh (fillsInplaceSlot (.ref C) op.info.2 (op == .Add)) false := fills_no X hcd hm h1 h2
  unfold inplaceOp
  refine wpAny_holding ?_
  refine wpAny_bind (L1.at (wpAny_bind (L2.at ?_)))
  simp only [Bool.false_eq_true, if_false]
  refine wpAny_bind (wpAny_mono one (fun r s' hr' => ?_) fun _ _ e => e)
  obtain ⟨v, rfl, hq⟩ := hr'
  exact wpAny_pure hq
end
end OwBin
namespace W3
open PySem PySem.Spec PyProof.Rows
open L2
def fBin (cn : Str) (ff : List T → Hh → Res T) (x y : T) (h : Hh) : Res T := match x, y with
  | .ref l, .ref j => (match insAt h l, insAt h j with
    | some (d, _), some (e, _) => if d = cn ∧ e = cn then (match ff [.ref l, .ref j] h with
      | .ok (.ref k) h' => .ok (.ref k) h'
      | _ => .stk) else .stk
    | _, _ => .stk)
  | _, _ => .stk
theorem nx_bin {cn : Str} {ff : List T → Hh → Res T} : NoX2 (fBin cn ff) := fun x y h c fs h' e => by
  unfold fBin at e
  (repeat' split at e) <;> cases e
section
variable {X : Cx} {P : Pq} {W : WX} {a : Expr} {sa : SE} {pos : Pos} {cn : Str} {C g : Addr} {k : Nat} {fd : FuncData} {ps : List Str} {ff : List T → Hh → Res T}
theorem op_bin {op : Operator} {nm : Str} (hnm : PySem.dunder op.info.2 = nm) (hC : X.mg cn = some (.ref C)) (hself : PySem.W.selfFirst X.K C = true) (hs : PySem.W.findIn X.K (.ref C) nm = some (some (.ref g))) (hf : PySem.W.isFn X.K (.ref g) = true)
    (F : FnOk X.prog X.w X.K X.mg X.base (L2.CX X.prog X.w) k g fd ps (spT X.K X.mg X.w 2 ff)) (hr : Room k X.A) (hb : Binds X.K fd ps []) : OpR X (binaryOp op) (rP2 X.K X.mg X.w (fBin cn ff)) := by
  subst hnm
  intro pins s σ H x y u v Q I rx ry ⟨m, h, tx, ty, r1, r2, R, o⟩
  unfold fBin at o
  split at o
  · rename_i l j
    split at o
    · rename_i d fs e' fs' q1 q2
      split at o
      · rename_i hd
        obtain ⟨hd1, hd2⟩ := hd
        subst hd1
        subst hd2
        split at o
        · rename_i b h' eff
          cases r1 with
          | @ref _ ad e1 =>
            cases r2 with
            | @ref _ ae e2 =>
              obtain ⟨C', dx, fv, g1, g2, rf⟩ := R.ins e1 q1
              obtain ⟨C2, dx2, fv2, g3, g4, rf2⟩ := R.ins e2 q2
              rw [hC] at g1 g3
              cases g1
              cases g3
              cases rx
              cases ry
              obtain ⟨mA, O, _, _, _, _⟩ := ins_get I.hok g2
              obtain ⟨mB, O2, _, _, _, _⟩ := ins_get I.hok g4
              obtain ⟨od, J, _⟩ := O.look
              obtain ⟨od2, J2, _⟩ := O2.look
              have sp : spT X.K X.mg X.w 2 ff [.ref ad, .ref ae] H (fun z H' => (∃ p, z = .ref p) ∧ Q z H') (fun _ _ _ => False) := by
                refine ⟨rfl, m, h, [.ref l, .ref j], .cons (.ref e1) (.cons (.ref e2) .nil), R, ?_⟩
                rw [eff]
                intro z m' H' E rt R'
                cases rt with
                | ref e3 => exact ⟨⟨_, rfl⟩, o _ m' H' E (.ref e3) R'⟩
              refine OwBin.bin_same I.kIn J J2 hself hs hf (wpAny_mono (run_fn (vs := [.ref ad, .ref ae]) (dvs := []) (ds := []) F hr hb .nil (fun pins σ H s e s' I c => passAt (takesWF X) σ pins H s e s' I c) I (.cons rfl (.cons rfl .nil)) sp) (fun w s' z => ?_) fun _ _ x => x)
              obtain ⟨z', H', I', rz, ⟨p, ez⟩, qz⟩ := z
              subst ez
              cases rz
              exact ⟨.ref p, H', I', rfl, qz⟩
        · exact False.elim o
      · exact False.elim o
    · exact False.elim o
  · exact False.elim o
def ssAugB (cn : Str) (ff : List T → Hh → Res T) (i : Nat) (a : SE) : SS := fun σ h => match σ[i]? with
  | some (some (.ref l)) => (a σ h).flo σ fun y h1 => (fBin cn ff (.ref l) y h1).flo σ fun t h2 => .nx (σ.set i (some t)) h2
  | _ => .stk
theorem ds_augB {i : Nat} {x nm inm : Str} {pos' : Pos} {op : Operator} (hnm : PySem.dunder op.info.2 = nm) (hinm : dunderI op.info.2 = inm) (hN : X.N.Nodup) (hi : X.N[i]? = some x) (hx : Loc X.env.scope x) (hC : X.mg cn = some (.ref C)) (hm2 : OwBin.mroTwo X.K C = true)
    (hi1 : PySem.W.findIn X.K (.ref C) inm = some none) (hi2 : PySem.W.findIn X.K (.type "object") inm = some none) (hs0 : PySem.W.findIn X.K (.ref C) nm = some (some (.ref g))) (hf : PySem.W.isFn X.K (.ref g) = true)
    (F : FnOk X.prog X.w X.K X.mg X.base (L2.CX X.prog X.w) k g fd ps (spT X.K X.mg X.w 2 ff)) (hr : Room k X.A) (hb : Binds X.K fd ps []) (ha : DE X P W a sa)
    (hfn : X.fn x = true ∨ X.env.scope.names.lookup x = some .local := by first | exact .inl rfl | exact .inr rfl | assumption) : DS X P W (.AugAssign (.Name x pos') op a pos) (ssAugB cn ff i sa) := by
  subst hnm hinm
  refine ⟨fun pins s σV H D I ⟨m, h, σ, A, o⟩ => ?_⟩
  unfold ssAugB at o
  split at o
  · rename_i l eσ
    obtain ⟨v, e1, rv⟩ := A.sr.2 i _ eσ
    have pre : tI X.K X.mg X.w P W sa σV H fun y H1 => ∃ m1 h1 t1, RT X.K X.mg m1 H1 t1 y ∧ RT X.K X.mg m1 H1 (.ref l) v ∧ At X.K X.mg X.w P m1 H1 σV σ h1 ∧ OutS X.K X.mg X.w W D m1 H1 ((fBin cn ff (.ref l) t1 h1).flo σ fun t h2 => .nx (σ.set i (some t)) h2) := A.flo (rel1 := RT X.K X.mg) o fun m1 h1 t1 y H1 E1 r1 A1 o1 => ⟨m1, h1, t1, r1, rv.ext E1, A1, o1⟩
    obtain ⟨mN, hn, hl⟩ := I.loc
    have vis : Vis X.env.scope x := by rcases hx with k | k; exact .inl k; exact .inr (.inl k)
    obtain ⟨u, r, lk⟩ := hl i x v hi e1 vis
    refine wpAny_AugAssign_Name ?_
    have go : wpAny (model X.prog X.w) X.A (eval a X.env) (fun w s₂ => wpAny (model X.prog X.w) X.A (inplaceOp op u w) (fun r s₃ => wpAny (model X.prog X.w) X.A (storeName X.env x r) (fun _ => SP X pins D .next) X.xe s₃) X.xe s₂) X.xe s := by
      refine thn (ha.run pins s σV H _ I pre) fun w s1 ⟨y, H1, I1, r1, m1, h1, t1, rt1, rv1, A1, o1⟩ => ?_
      cases rv1 with
      | @ref _ ad e2 =>
        cases r
        unfold fBin at o1
        split at o1
        · rename_i l0 j hl0
          cases hl0
          split at o1
          · rename_i d fs e' fs' q1 q2
            split at o1
            · rename_i hd
              obtain ⟨hd1, hd2⟩ := hd
              subst hd1
              subst hd2
              split at o1
              · rename_i b h4 eff
                cases rt1 with
                | @ref _ ae e3 =>
                  cases r1
                  obtain ⟨C', dx, fv, g1, g2, rf⟩ := A1.hr.ins e2 q1
                  obtain ⟨C2, dx2, fv2, g3, g4, rf2⟩ := A1.hr.ins e3 q2
                  rw [hC] at g1 g3
                  cases g1
                  cases g3
                  obtain ⟨mA, O, _, _, _, _⟩ := ins_get I1.hok g2
                  obtain ⟨mB, O2, _, _, _, _⟩ := ins_get I1.hok g4
                  obtain ⟨od, J, _⟩ := O.look
                  obtain ⟨od2, J2, _⟩ := O2.look
                  have sp : spT X.K X.mg X.w 2 ff [.ref ad, .ref ae] H1 (fun z H2 => (∃ p, z = .ref p) ∧ D.nx (σV.set i (some z)) H2) (fun _ _ _ => False) := by
                    refine ⟨rfl, m1, h1, [.ref l, .ref j], .cons (.ref e2) (.cons (.ref e3) .nil), A1.hr, ?_⟩
                    rw [eff]
                    intro z m' H' E rt R'
                    cases rt with
                    | ref e4 => exact ⟨⟨_, rfl⟩, o1 (σV.set i (some _)) m' H' E ((A1.sr.ext E).set (.ref e4) i) R'⟩
                  refine OwBin.inplace_same I1.kIn J J2 hm2 hi1 hi2 hs0 hf (wpAny_mono (run_fn (vs := [.ref ad, .ref ae]) (dvs := []) (ds := []) F hr hb .nil (fun pins σ H s e s' I c => passAt (takesWF X) σ pins H s e s' I c) I1 (.cons rfl (.cons rfl .nil)) sp) (fun w2 s2 z => ?_) fun _ _ x => x)
                  obtain ⟨zv, H2, I2, r2, ⟨p, ez⟩, q2⟩ := z
                  subst ez
                  have fin : wpAny (model X.prog X.w) X.A (storeName X.env x w2) (fun _ => SP X pins D .next) X.xe s2 := store_ok I2 hN hi hx r2 (fun s3 I3 => ⟨_, H2, I3, q2⟩) hfn
                  cases r2
                  exact fin
              · exact False.elim o1
            · exact False.elim o1
          · exact False.elim o1
        · exact False.elim o1
    rcases lk with ⟨hk, hm⟩ | ⟨hk, c, hc, hcell⟩
    · exact wpAny_loadName_local I.ok.kind hk hn hm go
    · rcases hk with hk | hk
      · exact wpAny_loadName_cell I.ok.kind hk hc hcell go
      · rcases hx with k | k
        · have : X.env.scope.names.lookup x = some .free := hk
          rw [k] at this; cases this
        · have : X.env.scope.names.lookup x = some .free := hk
          rw [k] at this; cases this
  · exact False.elim o
end
def bMin2 (xs : List T) (h : Hh) : Res T := match xs with | [.int i, .int j] => .ok (.int (if j < i then j else i)) h | _ => .stk
theorem nx_min2 : NoXL bMin2 := fun x h c fs h' e => by unfold bMin2 at e; split at e <;> cases e
theorem cs_min2 {X : Cx} (hc : X.calm = true) : CallR X (.builtin "min") (rPL X.K X.mg X.w bMin2) := by
  intro pins s σ H xs us Q I ru ⟨m, h, ts, r, R, o⟩
  unfold bMin2 at o
  split at o
  · rename_i i j
    cases r with
    | cons r1 rr =>
      cases rr with
      | cons r2 rn =>
        cases rn
        cases r1
        cases r2
        exact call_min2 hc pins s σ H _ us Q I ru ⟨i, j, rfl, o _ m H (Ext.refl _ _) (.int _) R⟩
  · exact False.elim o
end W3
end

section
namespace W3
open PySem
end W3
end

section
namespace W3
open PySem
inductive PtOk (P : Pz) (Ds : List Dd) (e : Jn) : Option (List Dd) → Prop where
  | now : ¬ SameL e.1 e.2 → PtOk P Ds e (some [])
  | part (run : List Dd) : SameL e.1 e.2 → run ≠ [] → (∀ D ∈ run, D ∈ Ds) → shwF P P run e = some run.length → (∀ (w : List Dd) (n : Nat), (∀ D ∈ w, D ∈ Ds) → shwF P P w e = some n → run.length ≤ n) → PtOk P Ds e (some run)
  | never : SameL e.1 e.2 → SameR P P Ds e → PtOk P Ds e none
end W3
end

section
namespace W3
open PySem
theorem wp_lc2h {s : Src} {ts : List T} {g : SG} {si1 : SI} {g1 : SG} {te : SE} {vs1 : List Nat} {σ : St3} {h : Hh} {Q : List T → Hh → Prop} {E : EQ} (us : T → List T) (f : T → T → T) (hz : (ts.flatMap us).length ≤ sizeLine) (hI : ∀ z, s.Is ts (h ++ z))
    (hs : ∀ x ∈ ts, ∃ σ1, g x σ = some σ1 ∧ ∀ z, ∃ s1 z2, si1 σ1 (h ++ z) = .ok s1 (h ++ z2) ∧ s1.Is (us x) (h ++ z2) ∧ ∀ y ∈ us x, ∃ σ2, g1 y (wipeT σ1 vs1) = some σ2 ∧ te σ2 (h ++ z2) = .ok (f x y) (h ++ z2)) (k : ∀ z, Q (ts.flatMap fun x => (us x).map (f x)) (h ++ z)) :
    (lc2Run s g stYes si1 g1 stYes te vs1 σ (s.len h) 0 [] h).wp Q E := by
  have inner : ∀ (h : Hh) (x : T) (s1 : Src) (σ1 : St3) (ys : List T), s1.Is ys h → (∀ y ∈ ys, ∃ σ2, g1 y (wipeT σ1 vs1) = some σ2 ∧ te σ2 h = .ok (f x y) h) → ∀ k i acc, i + k = ys.length → acc.length + k ≤ sizeLine →
      lcRun s1 g1 stYes te (wipeT σ1 vs1) k i acc h = .ok (acc ++ (ys.drop i).map (f x)) h := by
    intro h x s1 σ1 ys hI hy k
    induction k with
    | zero =>
      intro i acc e _
      unfold lcRun
      rw [hI.at, List.getElem?_eq_none (by omega), List.drop_eq_nil_of_le (by omega)]
      simp
    | succ k ih =>
      intro i acc e hz
      have hl : i < ys.length := by omega
      have ex : ys[i]? = some ys[i] := by simp [hl]
      obtain ⟨σ2, e1, e2⟩ := hy _ (List.mem_of_getElem? ex)
      unfold lcRun
      rw [hI.at, ex]
      simp only [e1, e_stYes, if_true, e2]
      rw [if_pos (by omega), ih (i + 1) _ (by omega) (by simp; omega), List.drop_eq_getElem_cons hl, List.map_cons, List.append_assoc]
      rfl
  have outer : ∀ k i acc z, i + k = ts.length → acc.length + ((ts.drop i).flatMap us).length ≤ sizeLine → ∃ z2, lc2Run s g stYes si1 g1 stYes te vs1 σ k i acc (h ++ z) = .ok (acc ++ (ts.drop i).flatMap fun x => (us x).map (f x)) (h ++ z2) := by
    intro k
    induction k with
    | zero =>
      intro i acc z e _
      refine ⟨z, ?_⟩
      unfold lc2Run
      rw [(hI z).at, List.getElem?_eq_none (by omega), List.drop_eq_nil_of_le (by omega)]
      simp
    | succ k ih =>
      intro i acc z e hz
      have hl : i < ts.length := by omega
      have ex : ts[i]? = some ts[i] := by simp [hl]
      obtain ⟨σ1, e1, hh⟩ := hs _ (List.mem_of_getElem? ex)
      obtain ⟨s1, z2, e2, e3, e4⟩ := hh z
      rw [List.drop_eq_getElem_cons hl, List.flatMap_cons, List.length_append] at hz
      obtain ⟨z3, e5⟩ := ih (i + 1) (acc ++ (us ts[i]).map (f ts[i])) z2 (by omega) (by rw [List.length_append, List.length_map]; omega)
      refine ⟨z3, ?_⟩
      unfold lc2Run
      rw [(hI z).at, ex]
      simp only [e1, e_stYes, if_true, e2]
      rw [e3.len, inner (h ++ z2) ts[i] s1 σ1 _ e3 e4 _ 0 acc (by omega) (by omega)]
      simp only []
      rw [List.drop_zero, e5, List.drop_eq_getElem_cons hl, List.flatMap_cons, List.append_assoc]
  have h0 := hI []
  rw [List.append_nil] at h0
  obtain ⟨z2, e⟩ := outer (s.len h) 0 [] [] (by rw [h0.len]; omega) (by simpa using hz)
  rw [List.append_nil] at e
  rw [e]
  simpa using k z2
def fieldsK (ps : List Ft) (k : Str) : List Str := (ps.filter fun p => decide (p.1 = k)).map (·.2)
theorem fieldsK_mem {ps : List Ft} {k n : Str} : n ∈ fieldsK ps k ↔ (k, n) ∈ ps := by
  unfold fieldsK
  rw [List.mem_map]
  constructor
  · rintro ⟨⟨a, b⟩, hm, rfl⟩
    obtain ⟨h1, h2⟩ := List.mem_filter.mp hm
    have h2 : a = k := of_decide_eq_true h2
    subst h2
    exact h1
  · intro h
    exact ⟨(k, n), List.mem_filter.mpr ⟨h, decide_eq_true rfl⟩, rfl⟩
theorem fieldsK_len (ps : List Ft) (k : Str) : (fieldsK ps k).length ≤ ps.length := by
  unfold fieldsK
  rw [List.length_map]
  exact List.length_filter_le _ _
def vrd (ps : List Ft) : List Ft := KINDSL.flatMap fun k => (sortS (uqS (fieldsK ps k))).map fun n => (k, n)
theorem vrd_mem {ps : List Ft} {p : Ft} : p ∈ vrd ps ↔ p ∈ ps ∧ p.1 ∈ KINDSL := by
  unfold vrd
  rw [List.mem_flatMap]
  constructor
  · rintro ⟨k, hk, h⟩
    obtain ⟨n, hn, rfl⟩ := List.mem_map.mp h
    exact ⟨fieldsK_mem.mp ((uqS_mem _ n).mp ((sortS_perm _).mem_iff.mp hn)), hk⟩
  · rintro ⟨h, hk⟩
    exact ⟨p.1, hk, List.mem_map.mpr ⟨p.2, (sortS_perm _).mem_iff.mpr ((uqS_mem _ p.2).mpr (fieldsK_mem.mpr h)), rfl⟩⟩
theorem vrd_nd (ps : List Ft) : (vrd ps).Nodup := by
  have kn : KINDSL.Nodup := by decide +kernel
  unfold vrd List.Nodup
  rw [List.pairwise_flatMap]
  refine ⟨fun k _ => ?_, kn.imp fun {a c} h x hx y hy e => ?_⟩
  · rw [List.pairwise_map]
    have := ((sortS_perm (uqS (fieldsK ps k))).nodup_iff).mpr (uqS_nodup _)
    exact List.Pairwise.imp (fun h e => h (by injection e)) this
  · obtain ⟨n, _, rfl⟩ := List.mem_map.mp hx
    obtain ⟨m, _, rfl⟩ := List.mem_map.mp hy
    injection e with e1 e2
    exact h e1
theorem vrd_le (ps : List Ft) : (vrd ps).length ≤ ps.length := nodup_le (l := vrd ps) (m := ps) (vrd_nd ps) fun x hx => (vrd_mem.mp hx).1
def VerdAt (h : Hh) (v : Nat) (ps : List Ft) : Prop := ∃ x, h[v]? = some (.ins "Verdict" [(("rows" : Str), T.ref x)]) ∧ lstAt h x = some (ps.map tPr)
theorem VerdAt.lt {h : Hh} {v : Nat} {ps : List Ft} (q : VerdAt h v ps) : v < h.length := by
  obtain ⟨x, e, _⟩ := q
  exact (List.getElem?_eq_some_iff.mp e).1
theorem VerdAt.app {h : Hh} {v : Nat} {ps : List Ft} (q : VerdAt h v ps) (z : Hh) : VerdAt (h ++ z) v ps := by
  have hl := q.lt
  obtain ⟨x, e, l⟩ := q
  exact ⟨x, by rw [List.getElem?_append_left hl]; exact e, lstAt_app z l⟩
def VdLenE (f : Fn) : Prop := ∀ {h : Hh} {v : Nat} {ps : List Ft}, VerdAt h v ps → f [.ref v] h = .ok (.int ps.length) h
def VdInE (f : Fn) : Prop := ∀ {h : Hh} {v : Nat} {ps : List Ft} {p : Ft}, VerdAt h v ps → f [.ref v, tPr p] h = .ok (.bl (decide (p ∈ ps))) h
def KindW (f : Fn) : Prop := ∀ {k : Str} {h : Hh} {Q : T → Hh → Prop} {E : EQ}, (k ∈ KINDSL → Q .non h) → (k ∉ KINDSL → E "InvalidKind" [("kind", .str k)] h) → (f [.str k] h).wp Q E
end W3
end

section
namespace W3
open PySem
def RV (h : Hh) (v : T) (ts : List T) : Prop := (∃ x, v = .ref x ∧ lstAt h x = some ts) ∨ v = .tup ts
theorem RV.app {h : Hh} {v : T} {ts : List T} (q : RV h v ts) (z : Hh) : RV (h ++ z) v ts := by
  rcases q with ⟨x, rfl, e⟩ | rfl
  · exact .inl ⟨x, rfl, lstAt_app z e⟩
  · exact .inr rfl
theorem RV.len {h : Hh} {v : T} {ts : List T} (q : RV h v ts) : bLen [v] h = .ok (.int ts.length) h := by
  rcases q with ⟨x, rfl, e⟩ | rfl
  · rw [e_len_ref, e]
  · rfl
theorem RV.ix {h : Hh} {v : T} {ts : List T} (q : RV h v ts) {i : Nat} {t : T} (e : ts[i]? = some t) : oIx v (.int (i : Nat)) h = .ok t h := by
  have ea : L2.atI ts (i : Int) = some t := atI_nat e
  rcases q with ⟨x, rfl, el⟩ | rfl
  · simp [el, ea]
  · simp [ea]
def rvSrc (v : T) : Src := match v with | .ref x => .live x | .tup ts => .its ts | _ => .its []
theorem RV.src {h : Hh} {v : T} {ts : List T} (q : RV h v ts) : srcOf v h = .ok (rvSrc v) h := by
  rcases q with ⟨x, rfl, e⟩ | rfl
  · simp [srcOf, e, rvSrc]
  · simp [srcOf, rvSrc]
theorem RV.is {h : Hh} {v : T} {ts : List T} (q : RV h v ts) : (rvSrc v).Is ts h := by
  rcases q with ⟨x, rfl, e⟩ | rfl
  · exact e
  · exact rfl
@[simp] theorem e_sTL (a : SE) (σ : St3) (h : Hh) : sTL a σ h = (a σ h).bind fun x h1 => match x with
  | .ref l => (match lstAt h1 l with | some ts => .ok (!ts.isEmpty) h1 | none => .stk)
  | _ => .stk := Eq.trans rfl rfl
@[simp] theorem e_ssForEnG (a : SA) (g : SG) (b : SS) (σ : St3) (h : Hh) : ssForEnG a g b σ h = (a σ h).flo σ fun xs h1 => match xs with
  | [v] => enG v g b σ h1
  | _ => .stk := Eq.trans rfl rfl
def RsOk (h : Hh) (xs : List (Ru × Nat)) : Prop := ∀ x ∈ xs, RuleAt h x.2 x.1 ∧ RuOk x.1
theorem RsOk.app {h : Hh} {xs : List (Ru × Nat)} (q : RsOk h xs) (z : Hh) : RsOk (h ++ z) xs := fun x hx => ⟨(q x hx).1.app z, (q x hx).2⟩
end W3
end

section
namespace W3
open PySem
section
variable {fm : Fm} (o : FmOk fm) {r : Ru} {rs : Bool} {lim : Nat} {b : Bs} (bo : BookOk fm r.sending lim (deedsD fm rs).length b) (full : BkFull fm r (deedsD fm rs) b) (flt : BkFlt fm r (deedsD fm rs) b) (r0 : b.rows[0]? = some (startD fm))
include o bo full flt r0
end
section
variable {fm : Fm} (o : FmOk fm) {r : Ru} (hc : r.checks = "enter") (w : Bool)
end
end W3
end

section
namespace LW
open PySem W3
noncomputable section
def CS : List (Str × List Str) := [("Verdict", ["rows"])]
def XS : XSub := [("InvalidKind", ["InvalidKind", "ShownError"])]
def FL : List Str := []
structure FF where
  check_kind : List T → Hh → Res T
  Verdict_init : List T → Hh → Res T
  Verdict_pairs : List T → Hh → Res T
  Verdict___or__ : List T → Hh → Res T
  Verdict___and__ : List T → Hh → Res T
  Verdict___sub__ : List T → Hh → Res T
  Verdict___xor__ : List T → Hh → Res T
  Verdict___eq__ : List T → Hh → Res T
  Verdict___len__ : List T → Hh → Res T
  Verdict___contains__ : List T → Hh → Res T
  Verdict___bool__ : List T → Hh → Res T
  _law_same : List T → Hh → Res T
  _law_pair : List T → Hh → Res T
  _law_rows : List T → Hh → Res T
  _law_holds : List T → Hh → Res T
  _law_is_kept : List T → Hh → Res T
  law : List T → Hh → Res T
def b_check_kind_1 (F : FF) : SS :=
  ssCons (ssRaiseX "InvalidKind" ["kind"] (saCons (sVar 0) (saNil)))
  (ssNil)
def b_check_kind (F : FF) : SS :=
  ssCons (ssIf (sT (s2 oNotIn (sVar 0) (sC (.tup ((["unshown", "stale", "elder", "sent", "early", "stuck", "full"] : List Str).map T.str)))))
  (b_check_kind_1 F)
  (ssNil))
  (ssNil)
def b_Verdict_init_1 (F : FF) : SS :=
  ssCons (ssExpr (sCl (arN 1 F.check_kind) (saCons (s2 oIx (sVar 2) (sC (.int 0))) (saNil))))
  (ssNil)
def b_Verdict_init_2 (F : FF) : SS :=
  ssCons (ssFldC CS (sVar 0) (sLc (saLc2 (siE (sC (.tup ((["unshown", "stale", "elder", "sent", "early", "stuck", "full"] : List Str).map T.str)))) (sgName 3) (stYes) (siE (sOver bSortSet (saLc (siE (sVar 1)) (sgName 2) (sT (s2 oEq (s2 oIx (sVar 2) (sC (.int 0))) (sVar 3))) (s2 oIx (sVar 2) (sC (.int 1))) [2]))) (sgName 4) (stYes) (sTup (saCons (sVar 3) (saCons (sVar 4) (saNil)))) [3, 4] [4])) "rows")
  (ssNil)
def b_Verdict_init (F : FF) : SS :=
  ssCons (ssFor (siE (sVar 1)) (sgName 2)
  (b_Verdict_init_1 F))
  (b_Verdict_init_2 F)
def b_Verdict_pairs (F : FF) : SS :=
  ssCons (ssRet (sCl bList (saCons (s1 (oFldC CS "rows") (sVar 0)) (saNil))))
  (ssNil)
def b_Verdict___or__ (F : FF) : SS :=
  ssCons (ssRet (sCl (bMake "Verdict" 2 F.Verdict_init) (saCons (sLst (saStar (s1 (oFldC CS "rows") (sVar 0)) (saStar (s1 (oFldC CS "rows") (sVar 1)) (saNil)))) (saNil))))
  (ssNil)
def b_Verdict___and__ (F : FF) : SS :=
  ssCons (ssRet (sCl (bMake "Verdict" 2 F.Verdict_init) (saCons (sLc (saLc (siE (s1 (oFldC CS "rows") (sVar 0))) (sgName 2) (sT (s2 oIn (sVar 2) (s1 (oFldC CS "rows") (sVar 1)))) (sVar 2) [2])) (saNil))))
  (ssNil)
def b_Verdict___sub__ (F : FF) : SS :=
  ssCons (ssRet (sCl (bMake "Verdict" 2 F.Verdict_init) (saCons (sLc (saLc (siE (s1 (oFldC CS "rows") (sVar 0))) (sgName 2) (sT (s2 oNotIn (sVar 2) (s1 (oFldC CS "rows") (sVar 1)))) (sVar 2) [2])) (saNil))))
  (ssNil)
def b_Verdict___xor___2 (F : FF) : SS :=
  ssCons (ssRet (sCl (bMake "Verdict" 2 F.Verdict_init) (saCons (sLst (saStar (sVar 2) (saStar (sVar 4) (saNil)))) (saNil))))
  (ssNil)
def b_Verdict___xor___1 (F : FF) : SS :=
  ssCons (ssAsg (sLc (saLc (siE (s1 (oFldC CS "rows") (sVar 1))) (sgName 3) (sT (s2 oNotIn (sVar 3) (s1 (oFldC CS "rows") (sVar 0)))) (sVar 3) [3])) (sgName 4))
  (b_Verdict___xor___2 F)
def b_Verdict___xor__ (F : FF) : SS :=
  ssCons (ssAsg (sLc (saLc (siE (s1 (oFldC CS "rows") (sVar 0))) (sgName 3) (sT (s2 oNotIn (sVar 3) (s1 (oFldC CS "rows") (sVar 1)))) (sVar 3) [3])) (sgName 2))
  (b_Verdict___xor___1 F)
def b_Verdict___eq__ (F : FF) : SS :=
  ssCons (ssRet (sIf (sT (s1 (oIsO "Verdict") (sVar 1))) (s2 oEq (s1 (oFldC CS "rows") (sVar 0)) (s1 (oFldC CS "rows") (sVar 1))) (sC (.bl false))))
  (ssNil)
def b_Verdict___len__ (F : FF) : SS :=
  ssCons (ssRet (sCl bLen (saCons (s1 (oFldC CS "rows") (sVar 0)) (saNil))))
  (ssNil)
def b_Verdict___contains__ (F : FF) : SS :=
  ssCons (ssRet (s2 oIn (sVar 1) (s1 (oFldC CS "rows") (sVar 0))))
  (ssNil)
def b_Verdict___bool__ (F : FF) : SS :=
  ssCons (ssRet (sCl bBoolL (saCons (s1 (oFldC CS "rows") (sVar 0)) (saNil))))
  (ssNil)
def b__law_same_2 (F : FF) : SS :=
  ssCons (ssRet (sC (.bl false)))
  (ssNil)
def b__law_same_4 (F : FF) : SS :=
  ssCons (ssRet (sC (.bl false)))
  (ssNil)
def b__law_same_7 (F : FF) : SS :=
  ssCons (ssRet (sC (.bl false)))
  (ssNil)
def b__law_same_6 (F : FF) : SS :=
  ssCons (ssIf (stNot (sT (sCl (arN 2 F._law_same) (saCons (s2 oIx (sVar 0) (sVar 2)) (saCons (s2 oIx (sVar 1) (sVar 2)) (saNil))))))
    (b__law_same_7 F)
    (ssNil))
  (ssNil)
def b__law_same_8 (F : FF) : SS :=
  ssCons (ssRet (sC (.bl true)))
  (ssNil)
def b__law_same_5 (F : FF) : SS :=
  ssCons (ssFor (siRange1 (saCons (sCl bLen (saCons (sVar 0) (saNil))) (saNil))) (sgName 2)
   (b__law_same_6 F))
  (b__law_same_8 F)
def b__law_same_3 (F : FF) : SS :=
  ssCons (ssIf (sT (s2 oNe (sCl bLen (saCons (sVar 0) (saNil))) (sCl bLen (saCons (sVar 1) (saNil)))))
   (b__law_same_4 F)
   (ssNil))
  (b__law_same_5 F)
def b__law_same_1 (F : FF) : SS :=
  ssCons (ssIf (stOr (sT (s2 oNe (s1 (oIsK .tuple) (sVar 0)) (s1 (oIsK .tuple) (sVar 1)))) (sT (s2 oNe (s1 (oIsK .list) (sVar 0)) (s1 (oIsK .list) (sVar 1)))))
   (b__law_same_2 F)
   (ssNil))
  (b__law_same_3 F)
def b__law_same_9 (F : FF) : SS :=
  ssCons (ssRet (sIf (sT (s2 oEq (s1 (oIsK .bool) (sVar 0)) (s1 (oIsK .bool) (sVar 1)))) (s2 oEq (sVar 0) (sVar 1)) (sC (.bl false))))
  (ssNil)
def b__law_same (F : FF) : SS :=
  ssCons (ssIf (stOr (sT (s1 (oIsK2 .tuple .list) (sVar 0))) (sT (s1 (oIsK2 .tuple .list) (sVar 1))))
  (b__law_same_1 F)
  (ssNil))
  (b__law_same_9 F)
def b__law_pair_4 (F : FF) : SS :=
  ssCons (ssAsg (s2 oAdd (sVar 3) (s2 oIx (sVar 2) (s2 oMod (sCl bInt (saCons (s2 oDiv (sVar 0) (sC (.int 728))) (saNil))) (sC (.int 26))))) (sgName 3))
  (ssNil)
def b__law_pair_5 (F : FF) : SS :=
  ssCons (ssRet (sTup (saCons (s2 oIx (sVar 1) (s2 oMod (sCl bInt (saCons (sVar 0) (saNil))) (sC (.int 7)))) (saCons (sVar 3) (saNil)))))
  (ssNil)
def b__law_pair_3 (F : FF) : SS :=
  ssCons (ssIf (sT (s2 oEq (s2 oMod (sCl bInt (saCons (s2 oDiv (sVar 0) (sC (.int 182))) (saNil))) (sC (.int 4))) (sC (.int 1))))
  (b__law_pair_4 F)
  (ssNil))
  (b__law_pair_5 F)
def b__law_pair_2 (F : FF) : SS :=
  ssCons (ssAsg (s2 oIx (sVar 2) (s2 oMod (sCl bInt (saCons (s2 oDiv (sVar 0) (sC (.int 7))) (saNil))) (sC (.int 26)))) (sgName 3))
  (b__law_pair_3 F)
def b__law_pair_1 (F : FF) : SS :=
  ssCons (ssAsg (sC (.str "abcdefghijklmnopqrstuvwxyz")) (sgName 2))
  (b__law_pair_2 F)
def b__law_pair (F : FF) : SS :=
  ssCons (ssAsg (sLst (saCons (sC (.str "unshown")) (saCons (sC (.str "stale")) (saCons (sC (.str "elder")) (saCons (sC (.str "sent")) (saCons (sC (.str "early")) (saCons (sC (.str "stuck")) (saCons (sC (.str "full")) (saNil))))))))) (sgName 1))
  (b__law_pair_1 F)
def b__law_rows (F : FF) : SS :=
  ssCons (ssRet (sLc (saLc (siRange1 (saCons (sCl bMin2 (saCons (sC (.int 60)) (saCons (sCl bLen (saCons (sVar 0) (saNil))) (saNil)))) (saNil))) (sgName 2) (stOr (sT (s2 oEq (s2 oMod (sCl bInt (saCons (sVar 2) (saNil))) (sC (.int 3))) (sVar 1))) (sT (s2 oEq (s2 oMod (sCl bInt (saCons (s2 oIx (sVar 0) (sVar 2)) (saNil))) (sC (.int 9))) (sC (.int 3))))) (sCl (arN 1 F._law_pair) (saCons (s2 oIx (sVar 0) (sVar 2)) (saNil))) [2])))
  (ssNil)
def b__law_holds_2 (F : FF) : SS :=
  ssCons (ssRet (sC (.bl false)))
  (ssNil)
def b__law_holds_5 (F : FF) : SS :=
  ssCons (ssRet (sC (.bl false)))
  (ssNil)
def b__law_holds_4 (F : FF) : SS :=
  ssCons (ssIf (stOr (sT (s2 oNotIn (sVar 3) (sVar 1))) (sT (s2 oIsNot (s2 (fIn "Verdict" F.Verdict___contains__) (sVar 3) (sVar 0)) (sC (.bl true)))))
   (b__law_holds_5 F)
   (ssNil))
  (ssNil)
def b__law_holds_8 (F : FF) : SS :=
  ssCons (ssRet (sC (.bl false)))
  (ssNil)
def b__law_holds_7 (F : FF) : SS :=
  ssCons (ssIf (sT (s2 oNotIn (sVar 3) (sVar 2)))
   (b__law_holds_8 F)
   (ssNil))
  (ssNil)
def b__law_holds_9 (F : FF) : SS :=
  ssCons (ssRet (s2 oEq (sCl bLen (saCons (sLc (saLc (siRange1 (saCons (sCl bLen (saCons (sVar 2) (saNil))) (saNil))) (sgName 4) (sT (s2 oIn (s2 oIx (sVar 2) (sVar 4)) (sSl (sVar 2) (soNone) (soSome (sVar 4))))) (sVar 4) [4])) (saNil))) (sC (.int 0))))
  (ssNil)
def b__law_holds_6 (F : FF) : SS :=
  ssCons (ssFor (siE (sVar 1)) (sgName 3)
  (b__law_holds_7 F))
  (b__law_holds_9 F)
def b__law_holds_3 (F : FF) : SS :=
  ssCons (ssFor (siE (sVar 2)) (sgName 3)
  (b__law_holds_4 F))
  (b__law_holds_6 F)
def b__law_holds_1 (F : FF) : SS :=
  ssCons (ssIf (stOr (sT (s2 oNe (sCl bLen (saCons (sVar 2) (saNil))) (sCl (fLen "Verdict" F.Verdict___len__) (saCons (sVar 0) (saNil))))) (sT (s2 oNe (sCl (fBool2 "Verdict" F.Verdict___bool__) (saCons (sVar 0) (saNil))) (s2 oGt (sCl bLen (saCons (sVar 2) (saNil))) (sC (.int 0))))))
  (b__law_holds_2 F)
  (ssNil))
  (b__law_holds_3 F)
def b__law_holds (F : FF) : SS :=
  ssCons (ssAsg (sMeth "Verdict" "pairs" 1 F.Verdict_pairs (sVar 0) saNil) (sgName 2))
  (b__law_holds_1 F)
def b__law_is_kept_3 (F : FF) : SS :=
  ssCons (ssRet (sC (.bl false)))
  (ssNil)
def b__law_is_kept_7 (F : FF) : SS :=
  ssCons (ssRet (sC (.bl false)))
  (ssNil)
def b__law_is_kept_11 (F : FF) : SS :=
  ssCons (ssRet (sC (.bl false)))
  (ssNil)
def b__law_is_kept_15 (F : FF) : SS :=
  ssCons (ssRet (sIf (sT (sCl (arN 2 F._law_holds) (saCons (sVar 4) (saCons (sVar 6) (saNil))))) (sIf (sT (sCl (arN 2 F._law_holds) (saCons (sVar 0) (saCons (sVar 2) (saNil))))) (sCl (arN 2 F._law_holds) (saCons (sVar 1) (saCons (sVar 3) (saNil)))) (sC (.bl false))) (sC (.bl false))))
  (ssNil)
def b__law_is_kept_14 (F : FF) : SS :=
  ssCons (ssAsg (s2 oAdd (sLc (saLc (siE (sVar 2)) (sgName 5) (sT (s2 oNotIn (sVar 5) (sVar 3))) (sVar 5) [5])) (sLc (saLc (siE (sVar 3)) (sgName 5) (sT (s2 oNotIn (sVar 5) (sVar 2))) (sVar 5) [5]))) (sgName 6))
  (b__law_is_kept_15 F)
def b__law_is_kept_13 (F : FF) : SS :=
  ssCons (ssAugB "Verdict" F.Verdict___xor__ 4 (sVar 1))
  (b__law_is_kept_14 F)
def b__law_is_kept_12 (F : FF) : SS :=
  ssCons (ssAsg (sVar 0) (sgName 4))
  (b__law_is_kept_13 F)
def b__law_is_kept_10 (F : FF) : SS :=
  ssCons (ssIf (stOr (stNot (sT (sCl (arN 2 F._law_holds) (saCons (sVar 4) (saCons (sLc (saLc (siE (sVar 2)) (sgName 5) (sT (s2 oNotIn (sVar 5) (sVar 3))) (sVar 5) [5])) (saNil)))))) (stNot (sT (sCl (arN 2 F._law_holds) (saCons (sVar 0) (saCons (sVar 2) (saNil)))))))
  (b__law_is_kept_11 F)
  (ssNil))
  (b__law_is_kept_12 F)
def b__law_is_kept_9 (F : FF) : SS :=
  ssCons (ssAugB "Verdict" F.Verdict___sub__ 4 (sVar 1))
  (b__law_is_kept_10 F)
def b__law_is_kept_8 (F : FF) : SS :=
  ssCons (ssAsg (sVar 0) (sgName 4))
  (b__law_is_kept_9 F)
def b__law_is_kept_6 (F : FF) : SS :=
  ssCons (ssIf (stOr (stNot (sT (sCl (arN 2 F._law_holds) (saCons (sVar 4) (saCons (sLc (saLc (siE (sVar 2)) (sgName 5) (sT (s2 oIn (sVar 5) (sVar 3))) (sVar 5) [5])) (saNil)))))) (stNot (sT (sCl (arN 2 F._law_holds) (saCons (sVar 0) (saCons (sVar 2) (saNil)))))))
  (b__law_is_kept_7 F)
  (ssNil))
  (b__law_is_kept_8 F)
def b__law_is_kept_5 (F : FF) : SS :=
  ssCons (ssAugB "Verdict" F.Verdict___and__ 4 (sVar 1))
  (b__law_is_kept_6 F)
def b__law_is_kept_4 (F : FF) : SS :=
  ssCons (ssAsg (sVar 0) (sgName 4))
  (b__law_is_kept_5 F)
def b__law_is_kept_2 (F : FF) : SS :=
  ssCons (ssIf (stOr (stNot (sT (sCl (arN 2 F._law_holds) (saCons (sVar 4) (saCons (s2 oAdd (sVar 2) (sVar 3)) (saNil)))))) (stNot (sT (sCl (arN 2 F._law_holds) (saCons (sVar 0) (saCons (sVar 2) (saNil)))))))
  (b__law_is_kept_3 F)
  (ssNil))
  (b__law_is_kept_4 F)
def b__law_is_kept_1 (F : FF) : SS :=
  ssCons (ssAugB "Verdict" F.Verdict___or__ 4 (sVar 1))
  (b__law_is_kept_2 F)
def b__law_is_kept (F : FF) : SS :=
  ssCons (ssAsg (sVar 0) (sgName 4))
  (b__law_is_kept_1 F)
def b_law_5 (F : FF) : SS :=
  ssCons (ssRet (sC (.bl false)))
  (ssNil)
def b_law_7 (F : FF) : SS :=
  ssCons (ssRet (sC (.bl false)))
  (ssNil)
def b_law_9 (F : FF) : SS :=
  ssCons (ssRet (sC (.bl false)))
  (ssNil)
def b_law_11 (F : FF) : SS :=
  ssCons (ssRet (sC (.bl false)))
  (ssNil)
def b_law_14 (F : FF) : SS :=
  ssCons (ssRet (sC (.bl false)))
  (ssNil)
def b_law_16 (F : FF) : SS :=
  ssCons (ssRet (sC (.bl false)))
  (ssNil)
def b_law_18 (F : FF) : SS :=
  ssCons (ssRet (sC (.bl false)))
  (ssNil)
def b_law_20 (F : FF) : SS :=
  ssCons (ssRet (sC (.bl false)))
  (ssNil)
def b_law_22 (F : FF) : SS :=
  ssCons (ssRet (sC (.bl false)))
  (ssNil)
def b_law_23 (F : FF) : SS :=
  ssCons (ssRet (sCl (arN 4 F._law_is_kept) (saCons (sVar 4) (saCons (sVar 5) (saCons (sVar 1) (saCons (sVar 2) (saNil)))))))
  (ssNil)
def b_law_21 (F : FF) : SS :=
  ssCons (ssIf (stOr (stNot (sT (sCl (arN 2 F._law_holds) (saCons (sVar 4) (saCons (sVar 1) (saNil)))))) (stOr (stNot (sT (sCl (arN 2 F._law_holds) (saCons (sVar 5) (saCons (sVar 2) (saNil)))))) (stNot (sT (sCl (arN 2 F._law_holds) (saCons (sVar 6) (saCons (sVar 3) (saNil))))))))
  (b_law_22 F)
  (ssNil))
  (b_law_23 F)
def b_law_19 (F : FF) : SS :=
  ssCons (ssIf (stNot (sT (sCl (arN 2 F._law_same) (saCons (sLst (saCons (s2 (fEq "Verdict" F.Verdict___eq__) (sVar 4) (sVar 5)) (saCons (s2 (fEq "Verdict" F.Verdict___eq__) (sVar 5) (sVar 4)) (saNil)))) (saCons (sLst (saCons (s2 oEq (sCl bLen (saCons (sVar 8) (saNil))) (sC (.int 0))) (saCons (s2 oEq (sCl bLen (saCons (sVar 8) (saNil))) (sC (.int 0))) (saNil)))) (saNil))))))
  (b_law_20 F)
  (ssNil))
  (b_law_21 F)
def b_law_17 (F : FF) : SS :=
  ssCons (ssIf (stOr (stNot (sT (s2 (fEq "Verdict" F.Verdict___eq__) (sVar 4) (sCl (bMake "Verdict" 2 F.Verdict_init) (saCons (s2 oAdd (sVar 1) (sVar 1)) (saNil)))))) (stOr (stNot (sT (s2 (fEq "Verdict" F.Verdict___eq__) (s2 (fBin "Verdict" F.Verdict___sub__) (sVar 4) (sVar 4)) (sCl (bMake "Verdict" 2 F.Verdict_init) (saCons (sLst (saNil)) (saNil)))))) (stNot (sT (s2 (fEq "Verdict" F.Verdict___eq__) (s2 (fBin "Verdict" F.Verdict___xor__) (sVar 4) (sVar 4)) (sCl (bMake "Verdict" 2 F.Verdict_init) (saCons (sTup (saNil)) (saNil))))))))
  (b_law_18 F)
  (ssNil))
  (b_law_19 F)
def b_law_15 (F : FF) : SS :=
  ssCons (ssIf (stNot (sT (s2 (fEq "Verdict" F.Verdict___eq__) (s2 (fBin "Verdict" F.Verdict___and__) (sVar 4) (s2 (fBin "Verdict" F.Verdict___or__) (sVar 5) (sVar 6))) (s2 (fBin "Verdict" F.Verdict___or__) (s2 (fBin "Verdict" F.Verdict___and__) (sVar 4) (sVar 5)) (s2 (fBin "Verdict" F.Verdict___and__) (sVar 4) (sVar 6))))))
  (b_law_16 F)
  (ssNil))
  (b_law_17 F)
def b_law_13 (F : FF) : SS :=
  ssCons (ssIf (stOr (stNot (sT (sCl (arN 2 F._law_holds) (saCons (s2 (fBin "Verdict" F.Verdict___xor__) (sVar 4) (sVar 5)) (saCons (sVar 8) (saNil)))))) (stNot (sT (s2 (fEq "Verdict" F.Verdict___eq__) (s2 (fBin "Verdict" F.Verdict___xor__) (sVar 4) (sVar 5)) (s2 (fBin "Verdict" F.Verdict___sub__) (s2 (fBin "Verdict" F.Verdict___or__) (sVar 4) (sVar 5)) (s2 (fBin "Verdict" F.Verdict___and__) (sVar 4) (sVar 5)))))))
  (b_law_14 F)
  (ssNil))
  (b_law_15 F)
def b_law_12 (F : FF) : SS :=
  ssCons (ssAsg (s2 oAdd (sLc (saLc (siE (sVar 1)) (sgName 7) (sT (s2 oNotIn (sVar 7) (sVar 2))) (sVar 7) [7])) (sLc (saLc (siE (sVar 2)) (sgName 7) (sT (s2 oNotIn (sVar 7) (sVar 1))) (sVar 7) [7]))) (sgName 8))
  (b_law_13 F)
def b_law_10 (F : FF) : SS :=
  ssCons (ssIf (stNot (sT (sCl (arN 2 F._law_holds) (saCons (s2 (fBin "Verdict" F.Verdict___sub__) (sVar 5) (sVar 4)) (saCons (sLc (saLc (siE (sVar 2)) (sgName 7) (sT (s2 oNotIn (sVar 7) (sVar 1))) (sVar 7) [7])) (saNil))))))
  (b_law_11 F)
  (ssNil))
  (b_law_12 F)
def b_law_8 (F : FF) : SS :=
  ssCons (ssIf (stNot (sT (sCl (arN 2 F._law_holds) (saCons (s2 (fBin "Verdict" F.Verdict___sub__) (sVar 4) (sVar 5)) (saCons (sLc (saLc (siE (sVar 1)) (sgName 7) (sT (s2 oNotIn (sVar 7) (sVar 2))) (sVar 7) [7])) (saNil))))))
  (b_law_9 F)
  (ssNil))
  (b_law_10 F)
def b_law_6 (F : FF) : SS :=
  ssCons (ssIf (stNot (sT (sCl (arN 2 F._law_holds) (saCons (s2 (fBin "Verdict" F.Verdict___and__) (sVar 4) (sVar 5)) (saCons (sLc (saLc (siE (sVar 1)) (sgName 7) (sT (s2 oIn (sVar 7) (sVar 2))) (sVar 7) [7])) (saNil))))))
  (b_law_7 F)
  (ssNil))
  (b_law_8 F)
def b_law_4 (F : FF) : SS :=
  ssCons (ssIf (stOr (stNot (sT (sCl (arN 2 F._law_holds) (saCons (s2 (fBin "Verdict" F.Verdict___or__) (sVar 4) (sVar 5)) (saCons (s2 oAdd (sVar 1) (sVar 2)) (saNil)))))) (stNot (sT (sCl (arN 2 F._law_holds) (saCons (s2 (fBin "Verdict" F.Verdict___or__) (sVar 5) (sVar 6)) (saCons (s2 oAdd (sVar 2) (sVar 3)) (saNil)))))))
  (b_law_5 F)
  (ssNil))
  (b_law_6 F)
def b_law_3 (F : FF) : SS :=
  ssCons (ssPar3 4 5 6 (saCons (sCl (bMake "Verdict" 2 F.Verdict_init) (saCons (sVar 1) (saNil))) (saCons (sCl (bMake "Verdict" 2 F.Verdict_init) (saCons (sVar 2) (saNil))) (saCons (sCl (bMake "Verdict" 2 F.Verdict_init) (saCons (sVar 3) (saNil))) (saNil)))))
  (b_law_4 F)
def b_law_2 (F : FF) : SS :=
  ssCons (ssAsg (sCl (arN 2 F._law_rows) (saCons (sVar 0) (saCons (sC (.int 2)) (saNil)))) (sgName 3))
  (b_law_3 F)
def b_law_1 (F : FF) : SS :=
  ssCons (ssAsg (sCl (arN 2 F._law_rows) (saCons (sVar 0) (saCons (sC (.int 1)) (saNil)))) (sgName 2))
  (b_law_2 F)
def b_law (F : FF) : SS :=
  ssCons (ssAsg (sCl (arN 2 F._law_rows) (saCons (sVar 0) (saCons (sC (.int 0)) (saNil)))) (sgName 1))
  (b_law_1 F)
def FF.stk : FF := ⟨fun _ _ => .stk, fun _ _ => .stk, fun _ _ => .stk, fun _ _ => .stk, fun _ _ => .stk, fun _ _ => .stk, fun _ _ => .stk, fun _ _ => .stk, fun _ _ => .stk, fun _ _ => .stk, fun _ _ => .stk, fun _ _ => .stk, fun _ _ => .stk, fun _ _ => .stk, fun _ _ => .stk, fun _ _ => .stk, fun _ _ => .stk⟩
def stepF (F : FF) : FF where
  check_kind := defRun 1 (b_check_kind F)
  Verdict_init := defRun 5 (b_Verdict_init F)
  Verdict_pairs := defRun 1 (b_Verdict_pairs F)
  Verdict___or__ := defRun 2 (b_Verdict___or__ F)
  Verdict___and__ := defRun 3 (b_Verdict___and__ F)
  Verdict___sub__ := defRun 3 (b_Verdict___sub__ F)
  Verdict___xor__ := defRun 5 (b_Verdict___xor__ F)
  Verdict___eq__ := defRun 2 (b_Verdict___eq__ F)
  Verdict___len__ := defRun 1 (b_Verdict___len__ F)
  Verdict___contains__ := defRun 2 (b_Verdict___contains__ F)
  Verdict___bool__ := defRun 1 (b_Verdict___bool__ F)
  _law_same := defRun 3 (b__law_same F)
  _law_pair := defRun 4 (b__law_pair F)
  _law_rows := defRun 3 (b__law_rows F)
  _law_holds := defRun 5 (b__law_holds F)
  _law_is_kept := defRun 7 (b__law_is_kept F)
  law := defRun 9 (b_law F)
def runF : Nat → FF
  | 0 => FF.stk
  | k + 1 => stepF (runF k)
end
end LW
end

section
namespace LW
open PySem W3
theorem cs_verd : CS.lookup ("Verdict" : Str) = some (["rows"] : List Str) := by decide +kernel
theorem kk_verd : ([T.str "unshown", .str "stale", .str "elder", .str "sent", .str "early", .str "stuck", .str "full"] : List T) = tSs KINDSL := rfl
theorem f_vrows {h : Hh} {v : Nat} {ps : List Ft} (q : VerdAt h v ps) : ∃ x, oFldC CS "rows" (.ref v) h = .ok (.ref x) h ∧ lstAt h x = some (ps.map tPr) := by
  obtain ⟨x, e, l⟩ := q
  exact ⟨x, fld_of (insAt_of e) cs_verd (by decide +kernel) rfl, l⟩
theorem strs_tSs : ∀ ks : List Str, strsT (tSs ks) = some ks
  | [] => rfl
  | k :: ks => by
    show (strsT (tSs ks)).map (k :: ·) = _
    rw [strs_tSs ks]
    rfl
theorem ok_check_kindW {F : FF} : KindW (defRun 1 (b_check_kind F)) := by
  intro k h Q E hk hn
  have e : oNotIn (.str k) (.tup (tSs KINDSL)) h = .ok (.bl (!decide (k ∈ KINDSL))) h := oNotIn_tup
  simp [b_check_kind]
  rw [kk_verd]
  by_cases hd : k ∈ KINDSL
  · simp [e, hd]
    exact hk hd
  · simp [e, hd, b_check_kind_1]
    exact hn hd
def VerdFr (h : Hh) (v : Nat) (ps : List Ft) : Prop := ∃ x, v ≤ x ∧ h[v]? = some (.ins "Verdict" [(("rows" : Str), T.ref x)]) ∧ lstAt h x = some (ps.map tPr)
theorem VerdFr.va {h : Hh} {v : Nat} {ps : List Ft} (q : VerdFr h v ps) : VerdAt h v ps := by
  obtain ⟨x, _, a, b⟩ := q
  exact ⟨x, a, b⟩
def VdInitRW (f : Fn) : Prop := ∀ {h : Hh} {pv : T} {ps : List Ft} {Q : T → Hh → Prop} {E : EQ}, RV h pv (ps.map tPr) → ps.length ≤ 200 → ((∀ p ∈ ps, p.1 ∈ KINDSL) → ∀ z, VerdFr (h ++ z) h.length (vrd ps) → Q .non (h ++ z)) →
  (∀ k, (ps.map (·.1)).find? (fun k => decide (k ∉ KINDSL)) = some k → ∀ z, E "InvalidKind" [("kind", .str k)] (h ++ z)) → (f [.ref h.length, pv] (h ++ [.ins "Verdict" []])).wp Q E
theorem ok_Verdict_initR {F : FF} (Ck : KindW F.check_kind) : VdInitRW (defRun 5 (b_Verdict_init F)) := by
  intro h pv ps Q E rv hl hq he
  have hsz := sz
  have rv1 := rv.app [.ins "Verdict" []]
  have en : (h ++ [Ob.ins "Verdict" []])[h.length]? = some (.ins "Verdict" []) := by simp
  simp [b_Verdict_init, rv1.src]
  refine wp_for (s := rvSrc pv) (ts := ps.map tPr) (fun i σ g => (∃ a2 a3 a4, σ = [some (.ref h.length), some pv, a2, a3, a4]) ∧ g = h ++ [.ins "Verdict" []] ∧ ∀ p ∈ ps.take i, p.1 ∈ KINDSL) (fun i σ g q => by rw [q.2.1]; exact rv1.is) ⟨⟨_, _, _, rfl⟩, rfl, fun p hp => by cases hp⟩ (fun i y σ g hy q => ?_) (fun σ g q => ?_)
  · obtain ⟨⟨a2, a3, a4, rfl⟩, rfl, al⟩ := q
    rw [List.getElem?_map] at hy
    cases hp : ps[i]? with
    | none => rw [hp] at hy; cases hy
    | some p =>
      rw [hp] at hy
      have hy : tPr p = y := Option.some.inj hy
      subst hy
      refine ⟨_, rfl, ?_⟩
      have i0 : L2.atI [T.str p.1, .str p.2] 0 = some (.str p.1) := rfl
      simp [b_Verdict_init_1, tPr, i0]
      have et : ps.take (i + 1) = ps.take i ++ [p] := by rw [List.take_add_one, hp]; rfl
      refine Ck (fun hm => ?_) (fun hn => ?_)
      · have al2 : ∀ q ∈ ps.take (i + 1), q.1 ∈ KINDSL := fun q hq => by
          rw [et] at hq
          rcases List.mem_append.mp hq with z | z
          · exact al q z
          · have : q = p := by simpa using z
            rw [this]; exact hm
        simp
        exact fun a b hab => al2 (a, b) hab
      · refine he p.1 ?_ _
        have hil := (List.getElem?_eq_some_iff.mp hp).1
        have es : ps = ps.take i ++ p :: ps.drop (i + 1) := by
          have := List.take_append_drop i ps
          rw [List.drop_eq_getElem_cons hil] at this
          rw [List.getElem?_eq_getElem hil] at hp
          rw [← Option.some.inj hp]
          exact this.symm
        rw [es, List.map_append, List.map_cons, List.find?_append, List.find?_eq_none.mpr fun x hx => by
          obtain ⟨q, hq, rfl⟩ := List.mem_map.mp hx
          simpa using al q hq]
        simp [hn]
  · obtain ⟨⟨a2, a3, a4, rfl⟩, rfl, al⟩ := q
    have lT : (ps.map tPr).length = ps.length := List.length_map _
    rw [lT, List.take_length] at al
    have hq := hq al
    simp [b_Verdict_init_2]
    rw [kk_verd]
    refine wp_lc2h (s := .its (tSs KINDSL)) (ts := tSs KINDSL) (fun x => match x with | .str k => tSs (sortS (uqS (fieldsK ps k))) | _ => []) (fun x y => .tup [x, y]) ?_ (fun _ => rfl) (fun y hy => ?_) (fun z => ?_)
    · refine Nat.le_trans (flat_le _ ps.length (tSs KINDSL) fun y hy => ?_) (?_ : ps.length * (tSs KINDSL).length ≤ sizeLine)
      · obtain ⟨k, _, rfl⟩ := List.mem_map.mp hy
        show (tSs (sortS (uqS (fieldsK ps k)))).length ≤ _
        unfold tSs
        rw [List.length_map, (sortS_perm _).length_eq]
        exact Nat.le_trans (uqS_len _) (fieldsK_len ps k)
      · have k7 : (tSs KINDSL).length = 7 := by decide +kernel
        rw [k7]
        omega
    · obtain ⟨k, _, rfl⟩ := List.mem_map.mp hy
      refine ⟨_, rfl, fun z => ?_⟩
      have rv2 := rv1.app z
      simp only [List.append_assoc, List.cons_append, List.nil_append] at rv2
      refine ⟨.live (h ++ [Ob.ins "Verdict" []] ++ z).length, z ++ [.lst (tSs (sortS (uqS (fieldsK ps k))))], ?_, ?_, fun n hn => ?_⟩
      · simp [rv2.src]
        have lc := lc_filter (s := rvSrc pv) (ts := ps.map tPr) (g := sgName 2) (tt := sT (s2 oEq (s2 oIx (sVar 2) (sC (T.int 0))) (sVar 3))) (te := s2 oIx (sVar 2) (sC (T.int 1))) (σ := [some (T.ref (List.length h)), some pv, none, some (T.str k), none]) (h := h ++ Ob.ins "Verdict" [] :: z)
          (fun t => match t with | .tup (.str a :: _) => decide (a = k) | _ => false) (fun t => match t with | .tup [_, b] => b | _ => .non) (szle (by rw [List.length_map]; omega)) rv2.is (fun y hy => by
            obtain ⟨p, _, rfl⟩ := List.mem_map.mp hy
            have i0 : L2.atI [T.str p.1, .str p.2] 0 = some (.str p.1) := rfl
            have i1 : L2.atI [T.str p.1, .str p.2] 1 = some (.str p.2) := rfl
            exact ⟨_, rfl, by simp [tPr, i0], by simp [tPr, i1]⟩)
        rw [lc]
        have em : ((ps.map tPr).filter fun t => match t with | .tup (.str a :: _) => decide (a = k) | _ => false).map (fun t => match t with | .tup [_, b] => b | _ => .non) = tSs (fieldsK ps k) := by
          unfold tSs fieldsK
          rw [List.filter_map, List.map_map, List.map_map]
          rfl
        rw [em]
        have fl := fieldsK_len ps k
        simp [bSortSet, strs_tSs, show (fieldsK ps k).length ≤ 1000 by omega]
      · rw [← List.append_assoc]
        exact lstAt_new
      · obtain ⟨m, _, rfl⟩ := List.mem_map.mp hn
        exact ⟨_, rfl, by simp⟩
    · have em : ((tSs KINDSL).flatMap fun x => (match x with | .str k => tSs (sortS (uqS (fieldsK ps k))) | _ => []).map fun y => T.tup [x, y]) = (vrd ps).map tPr := by
        unfold vrd tSs
        rw [List.flatMap_map, List.map_flatMap]
        simp only [List.map_map]
        rfl
      rw [em]
      have ln : (vrd ps).length ≤ sizeLine := by have := vrd_le ps; omega
      have fin : VerdFr (h ++ (.ins "Verdict" [("rows", .ref (h.length + (z.length + 1)))] :: (z ++ [.lst ((vrd ps).map tPr)]))) h.length (vrd ps) := by
        refine ⟨h.length + (z.length + 1), by omega, by simp, ?_⟩
        simp [lstAt]
      have := hq _ fin
      have ia : insAt (h ++ Ob.ins "Verdict" [] :: (z ++ [Ob.lst ((vrd ps).map tPr)])) h.length = some (("Verdict" : Str), []) := insAt_of (by simp)
      simp [ln]
      rw [sfld_of ia cs_verd (by decide +kernel) (by decide +kernel)]
      simp [putT]
      exact this
end LW
end

section
namespace LW
open PySem W3
theorem vd_m {h : Hh} {v : Nat} {ps : List Ft} {m : Str} (q : VerdAt h v ps) (hm : ∀ x : T, [(("rows" : Str), x)].lookup m = none) : mOk "Verdict" m (.ref v) h = true := by
  obtain ⟨x, ei, lx⟩ := q
  exact mOk_of (insAt_of ei) (hm _)
theorem ok_Verdict_len {F : FF} : VdLenE (defRun 1 (b_Verdict___len__ F)) := by
  intro h v ps q
  obtain ⟨x, fx, lx⟩ := f_vrows q
  apply eq_of_wp
  simp [b_Verdict___len__, fx, lx]
theorem ok_Verdict_in {F : FF} : VdInE (defRun 2 (b_Verdict___contains__ F)) := by
  intro h v ps p q
  obtain ⟨x, fx, lx⟩ := f_vrows q
  obtain ⟨p1, p2⟩ := p
  have e := in_prl p1 p2 lx
  apply eq_of_wp
  simp [b_Verdict___contains__, fx, tPr, e]
def VdPairsW (f : Fn) : Prop := ∀ {h : Hh} {v : Nat} {ps : List Ft} {Q : T → Hh → Prop} {E : EQ}, VerdAt h v ps → ps.length ≤ 200 → (∀ z x, h.length ≤ x → lstAt (h ++ z) x = some (ps.map tPr) → Q (.ref x) (h ++ z)) → (f [.ref v] h).wp Q E
theorem ok_Verdict_pairs {F : FF} : VdPairsW (defRun 1 (b_Verdict_pairs F)) := by
  intro h v ps Q E q hl hq
  have hsz := sz
  obtain ⟨x, fx, lx⟩ := f_vrows q
  simp [b_Verdict_pairs, fx, lx, show ps.length ≤ sizeLine by omega]
  exact hq _ h.length (Nat.le_refl _) lstAt_new
def PairLW (f : Fn) : Prop := ∀ {i : Int} {h : Hh} {Q : T → Hh → Prop} {E : EQ}, (∀ (p : Ft) z, p.1 ∈ KINDSL → Q (tPr p) (h ++ z)) → (f [.int i] h).wp Q E
def VdBoolE (f : Fn) : Prop := ∀ {h : Hh} {v : Nat} {ps : List Ft}, VerdAt h v ps → f [.ref v] h = .ok (.bl (decide (0 < ps.length))) h
theorem ok_Verdict_bool {F : FF} : VdBoolE (defRun 1 (b_Verdict___bool__ F)) := by
  intro h v ps q
  obtain ⟨x, fx, lx⟩ := f_vrows q
  have e : bBoolL [.ref x] h = .ok (.bl (decide (0 < ps.length))) h := by
    show (match lstAt h x with | some ts => Res.ok (T.bl (!ts.isEmpty)) h | none => .stk) = _
    rw [lx]
    cases ps <;> rfl
  apply eq_of_wp
  simp [b_Verdict___bool__, fx, e]
end LW
end

section
namespace LW
open PySem W3
theorem ok_law_pair68 {F : FF} : PairLW (defRun 4 (b__law_pair F)) := by
  intro i h Q E hq
  have hsz := sz
  have ln : lstAt (h ++ [.lst (tSs KINDSL)]) h.length = some (tSs KINDSL) := lstAt_new
  have g0 := Int.emod_nonneg (i / 7) (show (26 : Int) ≠ 0 by decide)
  have g1 := Int.emod_lt_of_pos (i / 7) (show (0 : Int) < 26 by decide)
  obtain ⟨c, hc, ec⟩ := lets_at g0 g1
  have h0 := Int.emod_nonneg i (show (7 : Int) ≠ 0 by decide)
  have h1 := Int.emod_lt_of_pos i (show (0 : Int) < 7 by decide)
  obtain ⟨j, hj⟩ : ∃ j : Nat, i % 7 = j := ⟨(i % 7).toNat, by omega⟩
  have k7 : KINDSL.length = 7 := by decide +kernel
  obtain ⟨k, hk⟩ : ∃ k, KINDSL[j]? = some k := ⟨_, List.getElem?_eq_getElem (by omega)⟩
  have i1 : L2.atI (tSs KINDSL) (j : Int) = some (.str k) := atI_nat (by unfold tSs; rw [List.getElem?_map, hk]; rfl)
  have fin : ∀ s : Str, (b__law_pair_5 F [some (.int i), some (.ref h.length), some (.str "abcdefghijklmnopqrstuvwxyz"), some (.str s)] (h ++ [.lst (tSs KINDSL)])).wp (FQ.df Q E) := fun s => by
    simp [b__law_pair_5, ln, hj, i1, show 2 ≤ sizeLine by omega]
    exact hq (k, s) _ (List.mem_of_getElem? hk)
  simp [b__law_pair, show 7 ≤ sizeLine by omega, b__law_pair_1, b__law_pair_2, ec, show 26 ≤ sizeLine by omega]
  rw [kk_verd]
  by_cases c1 : i / 182 % 4 = 1
  · have g2 := Int.emod_nonneg (i / 728) (show (26 : Int) ≠ 0 by decide)
    have g3 := Int.emod_lt_of_pos (i / 728) (show (0 : Int) < 26 by decide)
    obtain ⟨c2, hc2, ec2⟩ := lets_at g2 g3
    simp [b__law_pair_3, c1, b__law_pair_4, ec2, show 26 ≤ sizeLine by omega, show 2 ≤ sizeLine by omega]
    exact fin _
  · simp [b__law_pair_3, c1]
    exact fin _
def RowsLW (f : Fn) : Prop := ∀ {ns : List Int} {k : Nat} {h : Hh} {Q : T → Hh → Prop} {E : EQ}, ns.length ≤ 63 → (∀ (ps : List Ft) x z, (∀ p ∈ ps, p.1 ∈ KINDSL) → ps.length ≤ 60 → h.length ≤ x → lstAt (h ++ z) x = some (ps.map tPr) → Q (.ref x) (h ++ z)) → (f [.fl (ns.map T.int), .int (k : Nat)] h).wp Q E
theorem ok_law_rows {F : FF} (Pa : PairLW F._law_pair) : RowsLW (defRun 3 (b__law_rows F)) := by
  intro ns k h Q E hns hq
  have hsz := sz
  have eL : bLen [.fl (ns.map T.int)] h = .ok (.int ns.length) h := by
    show Res.ok (T.int ((ns.map T.int).length : Nat)) h = _
    rw [List.length_map]
  obtain ⟨m, hm, m60, mn⟩ : ∃ m : Nat, bMin2 [.int 60, .int ns.length] h = .ok (.int m) h ∧ m ≤ 60 ∧ m ≤ ns.length := by
    by_cases c : (ns.length : Int) < 60
    · exact ⟨ns.length, by show Res.ok (T.int (if (ns.length : Int) < 60 then (ns.length : Int) else 60)) h = _; rw [if_pos c], by omega, Nat.le_refl _⟩
    · exact ⟨60, by show Res.ok (T.int (if (ns.length : Int) < 60 then (ns.length : Int) else 60)) h = _; rw [if_neg c]; rfl, Nat.le_refl _, by omega⟩
  simp [b__law_rows, eL, hm]
  rw [e_rng (by omega) (by omega)]
  simp
  refine wp_lc (ts := rangeT 0 m) (szle (by simp; omega)) (fun i acc g => (∃ z, g = h ++ z) ∧ ∃ ps : List Ft, acc = ps.map tPr ∧ (∀ p ∈ ps, p.1 ∈ KINDSL) ∧ ps.length ≤ i) (fun i acc g q => rfl) ⟨⟨[], by simp⟩, [], rfl, fun p hp => (by cases hp), Nat.le_refl _⟩ (fun i v acc g hv q => ?_) (fun acc g q => ?_)
  · obtain ⟨⟨z, rfl⟩, ps, rfl, al, pl⟩ := q
    obtain ⟨rfl, hi⟩ := range_at hv
    refine ⟨_, rfl, ?_⟩
    obtain ⟨c, hc⟩ : ∃ c, ns[i]? = some c := ⟨_, List.getElem?_eq_getElem (by omega)⟩
    have ei : L2.atI (ns.map T.int) (i : Int) = some (.int c) := atI_nat (by rw [List.getElem?_map, hc]; rfl)
    have yes : ((F._law_pair [.int c] (h ++ z)).wp (fun t h2 => (∃ z, h2 = h ++ z) ∧ ∃ ps2 : List Ft, ps.map tPr ++ [t] = ps2.map tPr ∧ (∀ p ∈ ps2, p.1 ∈ KINDSL) ∧ ps2.length ≤ i + 1) noE) := by
      refine Pa fun p z2 hp => ⟨⟨z ++ z2, by simp⟩, ps ++ [p], by simp, fun q hq => ?_, by simp; omega⟩
      rcases List.mem_append.mp hq with h | h
      · exact al q h
      · have : q = p := by simpa using h
        rw [this]; exact hp
    have no : (∃ z1, h ++ z = h ++ z1) ∧ ∃ ps2 : List Ft, ps.map tPr = ps2.map tPr ∧ (∀ p ∈ ps2, p.1 ∈ KINDSL) ∧ ps2.length ≤ i + 1 := ⟨⟨z, rfl⟩, ps, rfl, al, by omega⟩
    by_cases c1 : (i : Int) % 3 = (k : Int)
    · simp [c1, ei]
      simpa using yes
    · by_cases c2 : c % 9 = 3
      · simp [c1, c2, ei]
        simpa using yes
      · simp [c1, c2, ei]
        simpa using no
  obtain ⟨⟨z, rfl⟩, ps, rfl, al, pl⟩ := q
  rw [range_length] at pl
  have := hq ps (h ++ z).length (z ++ [.lst (ps.map tPr)]) al (by omega) (by simp) (by rw [← List.append_assoc]; exact lstAt_new)
  simp [show ps.length ≤ sizeLine by omega]
  simpa using this
end LW
end

section
namespace LW
open PySem W3
theorem flatMap_congr68 {α β : Type} {f g : α → List β} : ∀ {l : List α}, (∀ x ∈ l, f x = g x) → l.flatMap f = l.flatMap g
  | [], _ => rfl
  | x :: l, h => by rw [List.flatMap_cons, List.flatMap_cons, h x List.mem_cons_self, flatMap_congr68 fun y hy => h y (List.mem_cons_of_mem _ hy)]
theorem vrd_eq68 {A B : List Ft} (h : ∀ p : Ft, p.1 ∈ KINDSL → (p ∈ A ↔ p ∈ B)) : vrd A = vrd B := by
  unfold vrd
  refine flatMap_congr68 fun k hk => ?_
  congr 1
  refine sortS_eq (uqS_nodup _) (uqS_nodup _) fun n => ?_
  rw [uqS_mem, uqS_mem, fieldsK_mem, fieldsK_mem]
  exact h (k, n) hk
def VOut (h : Hh) (r : Res T) (ps : List Ft) : Prop := ∃ z y, r = .ok (.ref y) (h ++ z) ∧ VerdAt (h ++ z) y (vrd ps)
theorem out_of_wp {r : Res T} {h : Hh} {ps : List Ft} (w : r.wp (fun t h2 => ∃ z y, t = .ref y ∧ h2 = h ++ z ∧ VerdAt h2 y (vrd ps)) noE) : VOut h r ps := by
  cases r with
  | ok a h2 =>
    obtain ⟨z, y, rfl, rfl, q⟩ := w
    exact ⟨z, y, rfl, q⟩
  | exc c fs h2 => exact False.elim w
  | stk => exact False.elim w
theorem nin_prl {h : Hh} {l : Nat} {ps : Prs} (a b : Str) (e : lstAt h l = some (ps.map tPr)) : oNotIn (.tup [.str a, .str b]) (.ref l) h = .ok (.bl (!decide ((a, b) ∈ ps))) h := by
  have e1 := in_prl a b e
  unfold oIn at e1
  unfold oNotIn
  cases hi : inT (.tup [.str a, .str b]) (.ref l) h with
  | none => rw [hi] at e1; cases e1
  | some c =>
    rw [hi] at e1
    have : c = decide ((a, b) ∈ ps) := by simpa using e1
    rw [this]
def pIn (B : List Ft) (t : T) : Bool := match t with | .tup [.str a, .str b] => decide ((a, b) ∈ B) | _ => false
def pNo (B : List Ft) (t : T) : Bool := match t with | .tup [.str a, .str b] => !decide ((a, b) ∈ B) | _ => false
def gAnd (A B : List Ft) : List Ft := A.filter fun p => decide (p ∈ B)
def gSub (A B : List Ft) : List Ft := A.filter fun p => !decide (p ∈ B)
def gXor (A B : List Ft) : List Ft := gSub A B ++ gSub B A
theorem em_in (A B : List Ft) : ((A.map tPr).filter (pIn B)).map (fun t => t) = (gAnd A B).map tPr := by
  rw [List.filter_map, List.map_map]
  rfl
theorem em_no (A B : List Ft) : ((A.map tPr).filter (pNo B)).map (fun t => t) = (gSub A B).map tPr := by
  rw [List.filter_map, List.map_map]
  rfl
theorem gAnd_le (A B : List Ft) : (gAnd A B).length ≤ A.length := List.length_filter_le _ _
theorem gSub_le (A B : List Ft) : (gSub A B).length ≤ A.length := List.length_filter_le _ _
theorem gAnd_mem {A B : List Ft} {p : Ft} : p ∈ gAnd A B ↔ p ∈ A ∧ p ∈ B := by unfold gAnd; rw [List.mem_filter, decide_eq_true_eq]
theorem gSub_mem {A B : List Ft} {p : Ft} : p ∈ gSub A B ↔ p ∈ A ∧ p ∉ B := by unfold gSub; rw [List.mem_filter]; simp
theorem gXor_mem {A B : List Ft} {p : Ft} : p ∈ gXor A B ↔ (p ∈ A ∧ p ∉ B) ∨ (p ∈ B ∧ p ∉ A) := by unfold gXor; rw [List.mem_append, gSub_mem, gSub_mem]
theorem mk_tail {f : Fn} (Vi : VdInitRW f) {h : Hh} {M : List Ft} {Q : T → Hh → Prop} {E : EQ} (al : ∀ p ∈ M, p.1 ∈ KINDSL) (hl : M.length ≤ 200) (k : ∀ z, VerdAt (h ++ z) (h.length + 1) (vrd M) → Q .non (h ++ z)) :
    (f [.ref (h.length + 1), .ref h.length] (h ++ [.lst (M.map tPr), .ins "Verdict" []])).wp Q E := by
  have ln : lstAt (h ++ [.lst (M.map tPr)]) h.length = some (M.map tPr) := lstAt_new
  have hk := fun (z : Hh) => k ([.lst (M.map tPr)] ++ z)
  simp only [← List.append_assoc] at hk
  rw [show h ++ [Ob.lst (M.map tPr), Ob.ins "Verdict" []] = (h ++ [Ob.lst (M.map tPr)]) ++ [Ob.ins "Verdict" []] by simp]
  have hl1 : h.length + 1 = (h ++ [Ob.lst (M.map tPr)]).length := by simp
  rw [hl1] at hk ⊢
  generalize h ++ [Ob.lst (M.map tPr)] = h1 at *
  refine Vi (.inl ⟨_, rfl, ln⟩) hl (fun _ z va => hk z va.va) (fun k hk z => ?_)
  have h3 := List.find?_some hk
  obtain ⟨p, hp, rfl⟩ := List.mem_map.mp (List.mem_of_find?_eq_some hk)
  exact absurd (al p hp) (of_decide_eq_true h3)
theorem vkd (ps : List Ft) : ∀ p ∈ vrd ps, p.1 ∈ KINDSL := fun p hp => (vrd_mem.mp hp).2
def BinE (g : List Ft → List Ft → List Ft) (f : Fn) : Prop := ∀ {h : Hh} {v w : Nat} {ps qs : List Ft}, VerdAt h v (vrd ps) → VerdAt h w (vrd qs) → ps.length + qs.length ≤ 200 → VOut h (f [.ref v, .ref w] h) (g ps qs)
theorem ok_or68 {F : FF} (Vi : VdInitRW F.Verdict_init) : BinE (fun a b => a ++ b) (defRun 2 (b_Verdict___or__ F)) := by
  intro h v w ps qs qv qw hl
  have hsz := sz
  have la := vrd_le ps
  have lb := vrd_le qs
  have al : ∀ p ∈ vrd ps ++ vrd qs, p.1 ∈ KINDSL := fun p hp => (List.mem_append.mp hp).elim (vkd ps p) (vkd qs p)
  have ev : vrd (vrd ps ++ vrd qs) = vrd (ps ++ qs) := vrd_eq68 fun p hp => by simp only [List.mem_append, vrd_mem, hp, and_true]
  unfold VOut
  simp only []
  rw [← ev]
  generalize vrd ps = A at *
  generalize vrd qs = B at *
  obtain ⟨x, fx, lx⟩ := f_vrows qv
  obtain ⟨y, fy, ly⟩ := f_vrows qw
  apply out_of_wp
  have sx : seqOf (.ref x) h = some (A.map tPr) := by simp [seqOf, lx]
  have sy : seqOf (.ref y) h = some (B.map tPr) := by simp [seqOf, ly]
  simp [b_Verdict___or__, fx, fy, sx, sy, show A.length ≤ sizeLine by omega, show A.length + B.length ≤ sizeLine by omega]
  rw [← List.map_append]
  refine mk_tail Vi al (by simp; omega) fun z va => ?_
  simp
  exact va
theorem ok_and68 {F : FF} (Vi : VdInitRW F.Verdict_init) : BinE gAnd (defRun 3 (b_Verdict___and__ F)) := by
  intro h v w ps qs qv qw hl
  have hsz := sz
  have la := vrd_le ps
  have al : ∀ p ∈ gAnd (vrd ps) (vrd qs), p.1 ∈ KINDSL := fun p hp => vkd ps p (gAnd_mem.mp hp).1
  have ev : vrd (gAnd (vrd ps) (vrd qs)) = vrd (gAnd ps qs) := vrd_eq68 fun p hp => by simp only [gAnd_mem, vrd_mem, hp, and_true]
  unfold VOut
  rw [← ev]
  generalize vrd ps = A at *
  generalize vrd qs = B at *
  obtain ⟨x, fx, lx⟩ := f_vrows qv
  obtain ⟨y, fy, ly⟩ := f_vrows qw
  apply out_of_wp
  simp [b_Verdict___and__, fx, srcOf, lx]
  refine wp_lcf (s := .live x) (ts := A.map tPr) (pIn B) (fun t => t) (szle (by rw [List.length_map]; omega)) lx (fun t ht => ?_) ?_
  · obtain ⟨p, _, rfl⟩ := List.mem_map.mp ht
    have e := in_prl p.1 p.2 ly
    exact ⟨_, rfl, by simp [tPr, fy, e, pIn], by simp⟩
  rw [em_in]
  have fl := gAnd_le A B
  generalize gAnd A B = M at *
  simp [show M.length ≤ sizeLine by omega]
  refine mk_tail Vi al (by omega) fun z va => ?_
  simp
  exact va
theorem ok_sub68 {F : FF} (Vi : VdInitRW F.Verdict_init) : BinE gSub (defRun 3 (b_Verdict___sub__ F)) := by
  intro h v w ps qs qv qw hl
  have hsz := sz
  have la := vrd_le ps
  have al : ∀ p ∈ gSub (vrd ps) (vrd qs), p.1 ∈ KINDSL := fun p hp => vkd ps p (gSub_mem.mp hp).1
  have ev : vrd (gSub (vrd ps) (vrd qs)) = vrd (gSub ps qs) := vrd_eq68 fun p hp => by simp only [gSub_mem, vrd_mem, hp, and_true]
  unfold VOut
  rw [← ev]
  generalize vrd ps = A at *
  generalize vrd qs = B at *
  obtain ⟨x, fx, lx⟩ := f_vrows qv
  obtain ⟨y, fy, ly⟩ := f_vrows qw
  apply out_of_wp
  simp [b_Verdict___sub__, fx, srcOf, lx]
  refine wp_lcf (s := .live x) (ts := A.map tPr) (pNo B) (fun t => t) (szle (by rw [List.length_map]; omega)) lx (fun t ht => ?_) ?_
  · obtain ⟨p, _, rfl⟩ := List.mem_map.mp ht
    have e := nin_prl p.1 p.2 ly
    exact ⟨_, rfl, by simp [tPr, fy, e, pNo], by simp⟩
  rw [em_no]
  have fl := gSub_le A B
  generalize gSub A B = M at *
  simp [show M.length ≤ sizeLine by omega]
  refine mk_tail Vi al (by omega) fun z va => ?_
  simp
  exact va
theorem ok_xor68 {F : FF} (Vi : VdInitRW F.Verdict_init) : BinE gXor (defRun 5 (b_Verdict___xor__ F)) := by
  intro h v w ps qs qv qw hl
  have hsz := sz
  have la := vrd_le ps
  have lb := vrd_le qs
  have al : ∀ p ∈ gXor (vrd ps) (vrd qs), p.1 ∈ KINDSL := fun p hp => by
    rcases gXor_mem.mp hp with h | h
    · exact vkd ps p h.1
    · exact vkd qs p h.1
  have ev : vrd (gXor (vrd ps) (vrd qs)) = vrd (gXor ps qs) := vrd_eq68 fun p hp => by simp only [gXor_mem, vrd_mem, hp, and_true]
  unfold VOut
  rw [← ev]
  generalize vrd ps = A at *
  generalize vrd qs = B at *
  have f1 := gSub_le A B
  have f2 := gSub_le B A
  apply out_of_wp
  obtain ⟨x, fx, lx⟩ := f_vrows qv
  obtain ⟨y, fy, ly⟩ := f_vrows qw
  simp [b_Verdict___xor__, fx, srcOf, lx]
  refine wp_lcf (s := .live x) (ts := A.map tPr) (pNo B) (fun t => t) (szle (by rw [List.length_map]; omega)) lx (fun t ht => ?_) ?_
  · obtain ⟨p, _, rfl⟩ := List.mem_map.mp ht
    have e := nin_prl p.1 p.2 ly
    exact ⟨_, rfl, by simp [tPr, fy, e, pNo], by simp⟩
  rw [em_no]
  have q1 := qv.app [.lst ((gSub A B).map tPr)]
  have q2 := qw.app [.lst ((gSub A B).map tPr)]
  have l1 : lstAt (h ++ [.lst ((gSub A B).map tPr)]) h.length = some ((gSub A B).map tPr) := lstAt_new
  simp [show (gSub A B).length ≤ sizeLine by omega]
  obtain ⟨g1, hg1⟩ : ∃ g, h ++ [Ob.lst ((gSub A B).map tPr)] = g := ⟨_, rfl⟩
  rw [hg1] at q1 q2 l1 ⊢
  obtain ⟨x, fx, lx⟩ := f_vrows q1
  obtain ⟨y, fy, ly⟩ := f_vrows q2
  simp [b_Verdict___xor___1, fy, srcOf, ly]
  refine wp_lcf (s := .live y) (ts := B.map tPr) (pNo A) (fun t => t) (szle (by rw [List.length_map]; omega)) ly (fun t ht => ?_) ?_
  · obtain ⟨p, _, rfl⟩ := List.mem_map.mp ht
    have e := nin_prl p.1 p.2 lx
    exact ⟨_, rfl, by simp [tPr, fx, e, pNo], by simp⟩
  rw [em_no]
  have l2 := lstAt_app [.lst ((gSub B A).map tPr)] l1
  have l3 : lstAt (g1 ++ [.lst ((gSub B A).map tPr)]) g1.length = some ((gSub B A).map tPr) := lstAt_new
  simp [show (gSub B A).length ≤ sizeLine by omega]
  obtain ⟨g2, hg2⟩ : ∃ g, g1 ++ [Ob.lst ((gSub B A).map tPr)] = g := ⟨_, rfl⟩
  rw [hg2] at l2 l3 ⊢
  have out : ∀ z, ∃ w, g2 ++ z = h ++ w := fun z => ⟨_, by rw [← hg2, ← hg1]; simp; rfl⟩
  have sx : seqOf (.ref h.length) g2 = some ((gSub A B).map tPr) := by simp [seqOf, l2]
  have sy : seqOf (.ref g1.length) g2 = some ((gSub B A).map tPr) := by simp [seqOf, l3]
  simp [b_Verdict___xor___2, sx, sy, show (gSub A B).length ≤ sizeLine by omega, show (gSub A B).length + (gSub B A).length ≤ sizeLine by omega]
  rw [← List.map_append]
  refine mk_tail Vi al (by simp; omega) fun z va => ?_
  simp
  exact ⟨out z, va⟩
theorem eq_prl {h : Hh} {x y : Nat} {A B : List Ft} (ex : lstAt h x = some (A.map tPr)) (ey : lstAt h y = some (B.map tPr)) : oEq (.ref x) (.ref y) h = .ok (.bl (decide (A = B))) h := by
  have e1 : toD h 24 (.ref x) = some (.list (A.map dPr)) := by rw [toD_lst ex, optL_map (toD_prn h 21)]; rfl
  have e2 : toD h 24 (.ref y) = some (.list (B.map dPr)) := by rw [toD_lst ey, optL_map (toD_prn h 21)]; rfl
  have key : ∀ A B : List Ft, PyData.eqvAll (A.map dPr) (B.map dPr) = decide (A = B) := by
    intro A
    induction A with
    | nil => intro B; cases B <;> simp [PyData.eqvAll]
    | cons a A ih =>
      intro B
      cases B with
      | nil => simp [PyData.eqvAll]
      | cons b B => simp [PyData.eqvAll, ih, eqv_pr]
  unfold oEq
  rw [e1, e2]
  show Res.ok (T.bl (PyData.eqv (.list (A.map dPr)) (.list (B.map dPr)))) h = _
  rw [← key]
  simp [PyData.eqv]
def EqE (f : Fn) : Prop := ∀ {h : Hh} {v w : Nat} {A B : List Ft}, VerdAt h v A → VerdAt h w B → f [.ref v, .ref w] h = .ok (.bl (decide (A = B))) h
theorem ok_eq68 {F : FF} : EqE (defRun 2 (b_Verdict___eq__ F)) := by
  intro h v w A B qv qw
  obtain ⟨x, fx, lx⟩ := f_vrows qv
  obtain ⟨y, fy, ly⟩ := f_vrows qw
  have e := eq_prl lx ly
  have io : oIsO "Verdict" (.ref w) h = .ok (.bl true) h := by
    obtain ⟨z, a, _⟩ := qw
    exact isO_of (insAt_of a)
  apply eq_of_wp
  simp [b_Verdict___eq__, fx, fy, e, io]
theorem f_bin68 {f : Fn} {h h2 : Hh} {v w y : Nat} {A B : List Ft} (qv : VerdAt h v A) (qw : VerdAt h w B) (e : f [.ref v, .ref w] h = .ok (.ref y) h2) : fBin "Verdict" f (.ref v) (.ref w) h = .ok (.ref y) h2 := by
  obtain ⟨x, a, _⟩ := qv
  obtain ⟨x2, b, _⟩ := qw
  unfold fBin
  simp only [insAt_of a, insAt_of b, and_self, if_true, e]
theorem f_eq68 {f : Fn} (Ve : EqE f) {h : Hh} {v w : Nat} {A B : List Ft} (qv : VerdAt h v A) (qw : VerdAt h w B) : fEq "Verdict" f (.ref v) (.ref w) h = .ok (.bl (decide (A = B))) h := by
  have e := Ve qv qw
  obtain ⟨x, a, _⟩ := qv
  obtain ⟨x2, b, _⟩ := qw
  unfold fEq
  simp only [insAt_of a, insAt_of b, and_self, if_true, e]
theorem bin68 {g : List Ft → List Ft → List Ft} {f : Fn} (Vo : BinE g f) {h : Hh} {v w : Nat} {ps qs : List Ft} (qv : VerdAt h v (vrd ps)) (qw : VerdAt h w (vrd qs)) (hl : ps.length + qs.length ≤ 200) :
    ∃ z y, fBin "Verdict" f (.ref v) (.ref w) h = .ok (.ref y) (h ++ z) ∧ VerdAt (h ++ z) y (vrd (g ps qs)) := by
  obtain ⟨z, y, e, q⟩ := Vo qv qw hl
  exact ⟨z, y, f_bin68 qv qw e, q⟩
end LW
end

section
namespace LW
open PySem W3
def HoldsE (f : Fn) : Prop := ∀ {h : Hh} {v d : Nat} {ps qs : List Ft}, VerdAt h v (vrd ps) → lstAt h d = some (qs.map tPr) → (∀ p : Ft, p.1 ∈ KINDSL → (p ∈ ps ↔ p ∈ qs)) → (∀ p ∈ qs, p.1 ∈ KINDSL) → ps.length ≤ 200 → qs.length ≤ 200 → ∃ z, f [.ref v, .ref d] h = .ok (.bl true) (h ++ z)
theorem tr_of_wp {r : Res T} {h : Hh} (w : r.wp (fun t h2 => ∃ z, t = .bl true ∧ h2 = h ++ z) noE) : ∃ z, r = .ok (.bl true) (h ++ z) := by
  cases r with
  | ok a h2 =>
    obtain ⟨z, rfl, rfl⟩ := w
    exact ⟨z, rfl⟩
  | exc c fs h2 => exact False.elim w
  | stk => exact False.elim w
theorem f_len68 {f : Fn} (Vl : VdLenE f) {h : Hh} {v : Nat} {ps : List Ft} (q : VerdAt h v ps) (hl : ps.length ≤ 200) : fLen "Verdict" f [.ref v] h = .ok (.int ps.length) h := by
  have e := Vl q
  obtain ⟨x, ei, lx⟩ := q
  unfold fLen
  simp only [insAt_of ei, if_true, e]
  rw [if_pos ⟨by omega, by omega⟩]
theorem f_bool68 {f : Fn} (Vb : VdBoolE f) {h : Hh} {v : Nat} {ps : List Ft} (q : VerdAt h v ps) : fBool2 "Verdict" f [.ref v] h = .ok (.bl (decide (0 < ps.length))) h := by
  have e := Vb q
  obtain ⟨x, ei, lx⟩ := q
  unfold fBool2
  simp only [insAt_of ei, if_true, e]
theorem f_in68 {f : Fn} {h : Hh} {v : Nat} {ps : List Ft} {t : T} {b : Bool} (q : VerdAt h v ps) (e : f [.ref v, t] h = .ok (.bl b) h) : fIn "Verdict" f t (.ref v) h = .ok (.bl b) h := by
  obtain ⟨x, ei, lx⟩ := q
  unfold fIn
  simp only [insAt_of ei, if_true, e]
theorem ne_bl68 (a : Bool) (h : Hh) : oNe (.bl a) (.bl a) h = .ok (.bl false) h := by cases a <;> rfl
theorem ok_holds68 {F : FF} (Vp : VdPairsW F.Verdict_pairs) (Vl : VdLenE F.Verdict___len__) (Vc : VdInE F.Verdict___contains__) (Vb : VdBoolE F.Verdict___bool__) : HoldsE (defRun 5 (b__law_holds F)) := by
  intro h v d ps qs qv ld he hk pl ql
  have hsz := sz
  have nd := vrd_nd ps
  have hv1 : ∀ p ∈ vrd ps, p ∈ qs := fun p hp => (he p (vkd ps p hp)).mp (vrd_mem.mp hp).1
  have hv2 : ∀ p ∈ qs, p ∈ vrd ps := fun p hp => vrd_mem.mpr ⟨(he p (hk p hp)).mpr hp, hk p hp⟩
  have vl := vrd_le ps
  generalize vrd ps = V at *
  have mk := vd_m (m := "pairs") qv (fun _ => rfl)
  apply tr_of_wp
  simp [b__law_holds, mk]
  refine Vp qv (by omega) fun z x _ lx => ?_
  have qv1 := qv.app z
  have ld1 := lstAt_app z ld
  have out : ∀ w, ∃ w2, h ++ z ++ w = h ++ w2 := fun w => ⟨z ++ w, List.append_assoc ..⟩
  generalize h ++ z = g at *
  have e1 := f_len68 Vl qv1 (by omega)
  have e2 := f_bool68 Vb qv1
  have lV : (V.map tPr).length = V.length := List.length_map _
  have eN : oNe (.int V.length) (.int V.length) g = .ok (.bl false) g := by simp
  simp [-e_lenO, b__law_holds_1, lx, e1, e2, ne_bl68]
  simp [b__law_holds_3, srcOf, lx]
  refine wp_for (s := .live x) (ts := V.map tPr) (fun j σ g2 => (∃ a3 a4, σ = [some (.ref v), some (.ref d), some (.ref x), a3, a4]) ∧ g2 = g) (fun j σ g2 q => by rw [q.2]; exact lx) ⟨⟨_, _, rfl⟩, rfl⟩ (fun j y σ g2 hy q => ?_) (fun σ g2 q => ?_)
  · obtain ⟨⟨a3, a4, rfl⟩, rfl⟩ := q
    rw [List.getElem?_map] at hy
    cases hp : V[j]? with
    | none => rw [hp] at hy; cases hy
    | some p =>
      rw [hp] at hy
      have hy : tPr p = y := Option.some.inj hy
      subst hy
      refine ⟨_, rfl, ?_⟩
      have pm : p ∈ V := List.mem_of_getElem? hp
      have e5 : oNotIn (tPr p) (.ref d) g2 = .ok (.bl false) g2 := by
        have := nin_prl p.1 p.2 ld1
        rw [show ((p.1, p.2) : Ft) = p from rfl, decide_eq_true (hv1 p pm)] at this
        exact this
      have e6 : fIn "Verdict" F.Verdict___contains__ (tPr p) (.ref v) g2 = .ok (.bl true) g2 := by
        have e := Vc (p := p) qv1
        rw [decide_eq_true pm] at e
        exact f_in68 qv1 e
      simp [-e_fIn, b__law_holds_4, e5, e6]
  obtain ⟨⟨a3, a4, rfl⟩, rfl⟩ := q
  simp [b__law_holds_6, srcOf, ld1]
  refine wp_for (s := .live d) (ts := qs.map tPr) (fun j σ g => (∃ a3 a4, σ = [some (.ref v), some (.ref d), some (.ref x), a3, a4]) ∧ g = g2) (fun j σ g q => by rw [q.2]; exact ld1) ⟨⟨_, _, rfl⟩, rfl⟩ (fun j y σ g hy q => ?_) (fun σ g q => ?_)
  · obtain ⟨⟨a3, a4, rfl⟩, rfl⟩ := q
    rw [List.getElem?_map] at hy
    cases hp : qs[j]? with
    | none => rw [hp] at hy; cases hy
    | some p =>
      rw [hp] at hy
      have hy : tPr p = y := Option.some.inj hy
      subst hy
      refine ⟨_, rfl, ?_⟩
      have pm := hv2 p (List.mem_of_getElem? hp)
      have e5 : oNotIn (tPr p) (.ref x) g = .ok (.bl false) g := by
        have := nin_prl p.1 p.2 lx
        rw [show ((p.1, p.2) : Ft) = p from rfl, decide_eq_true pm] at this
        exact this
      simp [b__law_holds_7, e5]
  obtain ⟨⟨a3, a4, rfl⟩, rfl⟩ := q
  simp [b__law_holds_9, lx]
  rw [e_rng (by omega) (by omega)]
  simp
  refine wp_lc (ts := rangeT 0 V.length) (szle (by simp; omega)) (fun i acc g2 => (∃ z, g2 = g ++ z) ∧ acc = []) (fun i acc g q => rfl) ⟨⟨[], by simp⟩, rfl⟩ (fun i y acc g2 hy q => ?_) (fun acc g2 q => ?_)
  · obtain ⟨⟨z, rfl⟩, rfl⟩ := q
    obtain ⟨rfl, hi⟩ := range_at hy
    refine ⟨_, rfl, ?_⟩
    have lx3 := lstAt_app z lx
    obtain ⟨p, hp⟩ : ∃ p, V[i]? = some p := ⟨_, List.getElem?_eq_getElem (by omega)⟩
    have ei : L2.atI (V.map tPr) (i : Int) = some (tPr p) := atI_nat (by rw [List.getElem?_map, hp]; rfl)
    have c1 : cutT (V.map tPr) none (some (i : Int)) = (V.take i).map tPr := by rw [cut_to, List.map_take]
    have hn : p ∉ V.take i := fun hm => by
      have es : V = V.take i ++ p :: V.drop (i + 1) := by
        have h1 := (List.take_append_drop i V).symm
        have hil : i < V.length := by omega
        rw [List.drop_eq_getElem_cons hil] at h1
        rw [List.getElem?_eq_getElem hil] at hp
        rw [← Option.some.inj hp]
        exact h1
      rw [es, List.nodup_append] at nd
      exact nd.2.2 p hm p List.mem_cons_self rfl
    have ln : lstAt (g ++ z ++ [.lst ((V.take i).map tPr)]) (g ++ z).length = some ((V.take i).map tPr) := lstAt_new
    have e7 := in_prl p.1 p.2 ln
    rw [show ((p.1, p.2) : Ft) = p from rfl, decide_eq_false hn] at e7
    have e7 : oIn (tPr p) (.ref (g ++ z).length) (g ++ z ++ [.lst ((V.take i).map tPr)]) = .ok (.bl false) (g ++ z ++ [.lst ((V.take i).map tPr)]) := e7
    have out2 : ∃ w, g ++ z ++ [Ob.lst ((V.take i).map tPr)] = g ++ w := ⟨z ++ [Ob.lst ((V.take i).map tPr)], by simp⟩
    generalize (V.take i).map tPr = TK at *
    generalize g ++ z = g3 at *
    simp [lx3, ei, c1, e7]
    exact out2
  obtain ⟨⟨z, rfl⟩, rfl⟩ := q
  simp
  simpa using out (z ++ [.lst []])
end LW
end

section
namespace LW
open PySem W3
structure G268 (g : Hh) (v w ra rb : Nat) (A B : List Ft) : Prop where
  va : VerdAt g v (vrd A)
  vb : VerdAt g w (vrd B)
  la : lstAt g ra = some (A.map tPr)
  lb : lstAt g rb = some (B.map tPr)
theorem G268.app {g : Hh} {v w ra rb : Nat} {A B : List Ft} (q : G268 g v w ra rb A B) (z : Hh) : G268 (g ++ z) v w ra rb A B := ⟨q.va.app z, q.vb.app z, lstAt_app z q.la, lstAt_app z q.lb⟩
def KeptW (f : Fn) : Prop := ∀ {g : Hh} {v w ra rb : Nat} {A B : List Ft} {Q : T → Hh → Prop} {E : EQ}, G268 g v w ra rb A B → (∀ p ∈ A, p.1 ∈ KINDSL) → (∀ p ∈ B, p.1 ∈ KINDSL) → A.length ≤ 60 → B.length ≤ 60 → (∀ h, Q (.bl true) h) → (f [.ref v, .ref w, .ref ra, .ref rb] g).wp Q E
theorem ok_kept68 {F : FF} (Bo : BinE (fun a b => a ++ b) F.Verdict___or__) (Ba : BinE gAnd F.Verdict___and__) (Bs : BinE gSub F.Verdict___sub__) (Bx : BinE gXor F.Verdict___xor__) (Ho : HoldsE F._law_holds) : KeptW (defRun 7 (b__law_is_kept F)) := by
  intro g v w ra rb A B Q E q ka kb la lb hq
  have hsz := sz
  have kab : ∀ p ∈ A ++ B, p.1 ∈ KINDSL := fun p hp => (List.mem_append.mp hp).elim (ka p) (kb p)
  have kan : ∀ p ∈ gAnd A B, p.1 ∈ KINDSL := fun p hp => ka p (gAnd_mem.mp hp).1
  have ksu : ∀ p ∈ gSub A B, p.1 ∈ KINDSL := fun p hp => ka p (gSub_mem.mp hp).1
  have kxo : ∀ p ∈ gXor A B, p.1 ∈ KINDSL := fun p hp => (gXor_mem.mp hp).elim (fun h => ka p h.1) (fun h => kb p h.1)
  have f1 := gAnd_le A B
  have f2 := gSub_le A B
  have f3 := gSub_le B A
  obtain ⟨z1, y1, e1, k1⟩ := bin68 Bo q.va q.vb (by omega)
  have k1 : VerdAt (g ++ z1) y1 (vrd (A ++ B)) := k1
  have q1 := q.app z1
  simp [b__law_is_kept, b__law_is_kept_1, ssAugB, e1]
  clear e1 q
  generalize g ++ z1 = g1 at *
  simp [b__law_is_kept_2, q1.la, q1.lb, show A.length + B.length ≤ sizeLine by omega]
  rw [← List.map_append]
  have q2 := q1.app [.lst ((A ++ B).map tPr)]
  have k2 := k1.app [.lst ((A ++ B).map tPr)]
  have ln : lstAt (g1 ++ [.lst ((A ++ B).map tPr)]) g1.length = some ((A ++ B).map tPr) := lstAt_new
  clear q1 k1
  generalize g1 ++ [Ob.lst ((A ++ B).map tPr)] = g2 at *
  obtain ⟨z3, e3⟩ := Ho k2 ln (fun p _ => Iff.rfl) kab (by simp; omega) (by simp; omega)
  have q3 := q2.app z3
  simp [e3]
  clear e3 q2 k2 ln
  generalize g2 ++ z3 = g3 at *
  obtain ⟨z4, e4⟩ := Ho q3.va q3.la (fun _ _ => Iff.rfl) ka (by omega) (by omega)
  have q4 := q3.app z4
  simp [e4]
  clear e4 q3
  generalize g3 ++ z4 = g4 at *
  obtain ⟨z1, y1, e1, k1⟩ := bin68 Ba q4.va q4.vb (by omega)
  have q1 := q4.app z1
  simp [b__law_is_kept_4, b__law_is_kept_5, ssAugB, e1]
  clear e1 q4
  generalize g4 ++ z1 = g1 at *
  simp [b__law_is_kept_6, srcOf, q1.la]
  refine wp_lcf (s := .live ra) (ts := A.map tPr) (pIn B) (fun t => t) (szle (by rw [List.length_map]; omega)) q1.la (fun t ht => ?_) ?_
  · obtain ⟨p, _, rfl⟩ := List.mem_map.mp ht
    have e := in_prl p.1 p.2 q1.lb
    exact ⟨_, rfl, by simp [tPr, e, pIn], by simp⟩
  rw [em_in]
  have q2 := q1.app [.lst ((gAnd A B).map tPr)]
  have k2 := k1.app [.lst ((gAnd A B).map tPr)]
  have ln : lstAt (g1 ++ [.lst ((gAnd A B).map tPr)]) g1.length = some ((gAnd A B).map tPr) := lstAt_new
  clear q1 k1
  simp [show (gAnd A B).length ≤ sizeLine by omega]
  generalize g1 ++ [Ob.lst ((gAnd A B).map tPr)] = g2 at *
  obtain ⟨z3, e3⟩ := Ho k2 ln (fun p _ => Iff.rfl) kan (by omega) (by omega)
  have q3 := q2.app z3
  simp [e3]
  clear e3 q2 k2 ln
  generalize g2 ++ z3 = g3 at *
  obtain ⟨z4, e4⟩ := Ho q3.va q3.la (fun _ _ => Iff.rfl) ka (by omega) (by omega)
  have q4 := q3.app z4
  simp [e4]
  clear e4 q3
  generalize g3 ++ z4 = g4 at *
  obtain ⟨z1, y1, e1, k1⟩ := bin68 Bs q4.va q4.vb (by omega)
  have q1 := q4.app z1
  simp [b__law_is_kept_8, b__law_is_kept_9, ssAugB, e1]
  clear e1 q4
  generalize g4 ++ z1 = g1 at *
  simp [b__law_is_kept_10, srcOf, q1.la]
  refine wp_lcf (s := .live ra) (ts := A.map tPr) (pNo B) (fun t => t) (szle (by rw [List.length_map]; omega)) q1.la (fun t ht => ?_) ?_
  · obtain ⟨p, _, rfl⟩ := List.mem_map.mp ht
    have e := nin_prl p.1 p.2 q1.lb
    exact ⟨_, rfl, by simp [tPr, e, pNo], by simp⟩
  rw [em_no]
  have q2 := q1.app [.lst ((gSub A B).map tPr)]
  have k2 := k1.app [.lst ((gSub A B).map tPr)]
  have ln : lstAt (g1 ++ [.lst ((gSub A B).map tPr)]) g1.length = some ((gSub A B).map tPr) := lstAt_new
  clear q1 k1
  simp [show (gSub A B).length ≤ sizeLine by omega]
  generalize g1 ++ [Ob.lst ((gSub A B).map tPr)] = g2 at *
  obtain ⟨z3, e3⟩ := Ho k2 ln (fun p _ => Iff.rfl) ksu (by omega) (by omega)
  have q3 := q2.app z3
  simp [e3]
  clear e3 q2 k2 ln
  generalize g2 ++ z3 = g3 at *
  obtain ⟨z4, e4⟩ := Ho q3.va q3.la (fun _ _ => Iff.rfl) ka (by omega) (by omega)
  have q4 := q3.app z4
  simp [e4]
  clear e4 q3
  generalize g3 ++ z4 = g4 at *
  obtain ⟨z1, y1, e1, k1⟩ := bin68 Bx q4.va q4.vb (by omega)
  have q1 := q4.app z1
  simp [b__law_is_kept_12, b__law_is_kept_13, ssAugB, e1]
  clear e1 q4
  generalize g4 ++ z1 = g1 at *
  simp [b__law_is_kept_14, srcOf, q1.la]
  refine wp_lcf (s := .live ra) (ts := A.map tPr) (pNo B) (fun t => t) (szle (by rw [List.length_map]; omega)) q1.la (fun t ht => ?_) ?_
  · obtain ⟨p, _, rfl⟩ := List.mem_map.mp ht
    have e := nin_prl p.1 p.2 q1.lb
    exact ⟨_, rfl, by simp [tPr, e, pNo], by simp⟩
  rw [em_no]
  have q2 := q1.app [.lst ((gSub A B).map tPr)]
  have k2 := k1.app [.lst ((gSub A B).map tPr)]
  have l1 : lstAt (g1 ++ [.lst ((gSub A B).map tPr)]) g1.length = some ((gSub A B).map tPr) := lstAt_new
  clear q1 k1
  simp [show (gSub A B).length ≤ sizeLine by omega]
  generalize g1 ++ [Ob.lst ((gSub A B).map tPr)] = g2 at *
  simp [srcOf, q2.lb]
  refine wp_lcf (s := .live rb) (ts := B.map tPr) (pNo A) (fun t => t) (szle (by rw [List.length_map]; omega)) q2.lb (fun t ht => ?_) ?_
  · obtain ⟨p, _, rfl⟩ := List.mem_map.mp ht
    have e := nin_prl p.1 p.2 q2.la
    exact ⟨_, rfl, by simp [tPr, e, pNo], by simp⟩
  rw [em_no]
  have q3 := q2.app [.lst ((gSub B A).map tPr)]
  have k3 := k2.app [.lst ((gSub B A).map tPr)]
  have l2 := lstAt_app [.lst ((gSub B A).map tPr)] l1
  have l3 : lstAt (g2 ++ [.lst ((gSub B A).map tPr)]) g2.length = some ((gSub B A).map tPr) := lstAt_new
  clear q2 k2 l1
  simp [show (gSub B A).length ≤ sizeLine by omega]
  obtain ⟨g3, hg3⟩ : ∃ g3, g2 ++ [Ob.lst ((gSub B A).map tPr)] = g3 := ⟨_, rfl⟩
  rw [hg3] at q3 k3 l2 l3
  simp [hg3, l2, l3, show (gSub A B).length + (gSub B A).length ≤ sizeLine by omega]
  have f4 : (gXor A B).length ≤ 120 := by unfold gXor; rw [List.length_append]; omega
  have e4 : g2 ++ [Ob.lst (List.map tPr (gSub B A)), Ob.lst (List.map tPr (gSub A B) ++ List.map tPr (gSub B A))] = g3 ++ [.lst ((gXor A B).map tPr)] := by rw [← hg3]; simp [gXor]
  have hl : g2.length + 1 = g3.length := by rw [← hg3]; simp
  rw [e4, hl]
  have q4 := q3.app [.lst ((gXor A B).map tPr)]
  have k4 := k3.app [.lst ((gXor A B).map tPr)]
  have ln : lstAt (g3 ++ [.lst ((gXor A B).map tPr)]) g3.length = some ((gXor A B).map tPr) := lstAt_new
  clear q3 k3 l2 l3 e4 hl hg3
  generalize g3 ++ [Ob.lst ((gXor A B).map tPr)] = g4 at *
  obtain ⟨z5, e5⟩ := Ho k4 ln (fun p _ => Iff.rfl) kxo (by omega) (by omega)
  have q5 := q4.app z5
  simp [b__law_is_kept_15, e5]
  clear e5 q4 k4 ln
  generalize g4 ++ z5 = g5 at *
  obtain ⟨z6, e6⟩ := Ho q5.va q5.la (fun _ _ => Iff.rfl) ka (by omega) (by omega)
  have q6 := q5.app z6
  simp [e6]
  clear e6 q5
  generalize g5 ++ z6 = g6 at *
  obtain ⟨z7, e7⟩ := Ho q6.vb q6.lb (fun _ _ => Iff.rfl) kb (by omega) (by omega)
  simp [e7]
  exact hq _
end LW
end

section
namespace LW
open PySem W3
theorem e_isK2 (k1 k2 : Kd) {x : T} {h : Hh} {b1 b2 : Bool} (h1 : oIsK k1 x h = .ok (.bl b1) h) (h2 : oIsK k2 x h = .ok (.bl b2) h) : oIsK2 k1 k2 x h = .ok (.bl (b1 || b2)) h := by
  unfold oIsK at h1 h2
  unfold oIsK2 isK2
  cases e1 : isK k1 x h with
  | none => rw [e1] at h1; cases h1
  | some c1 =>
    cases e2 : isK k2 x h with
    | none => rw [e2] at h2; cases h2
    | some c2 =>
      rw [e1] at h1; rw [e2] at h2
      cases h1; cases h2
      rfl
@[simp] theorem e_isK2_non (h : Hh) : oIsK2 .tuple .list .non h = .ok (.bl false) h := Eq.trans rfl rfl
@[simp] theorem e_isK2_str (s : Str) (h : Hh) : oIsK2 .tuple .list (.str s) h = .ok (.bl false) h := Eq.trans rfl rfl
@[simp] theorem e_isK2_int (s : Int) (h : Hh) : oIsK2 .tuple .list (.int s) h = .ok (.bl false) h := Eq.trans rfl rfl
@[simp] theorem e_isK2_bl (s : Bool) (h : Hh) : oIsK2 .tuple .list (.bl s) h = .ok (.bl false) h := Eq.trans rfl rfl
@[simp] theorem e_isK2_tup (s : List T) (h : Hh) : oIsK2 .tuple .list (.tup s) h = .ok (.bl true) h := Eq.trans rfl rfl
theorem isK2_lst {h : Hh} {t : T} {ts : List T} (k : LstT h t ts) : oIsK2 .tuple .list t h = .ok (.bl true) h := e_isK2 _ _ (k.isK _) (k.isK _)
theorem ok_same60_0 (F : FF) : SameW 0 (defRun 3 (b__law_same F)) := by
  intro t u h ⟨e, hf⟩
  subst e
  apply eq_of_wp
  cases t <;> simp [flatT] at hf <;> simp [b__law_same, b__law_same_9, show oEq T.non T.non h = .ok (.bl true) h from rfl]
theorem ok_same60 {F : FF} {n : Nat} (ih : SameW n F._law_same) : SameW (n + 1) (defRun 3 (b__law_same F)) := by
  intro t u h q
  rcases q with ⟨e, hf⟩ | ⟨ts, us, hk, hl, hz, hs⟩
  · exact ok_same60_0 F (h := h) ⟨e, hf⟩
  · have hsz := sz
    have at1 : ∀ i : Nat, i < us.length → ∃ x y, L2.atI us (i : Int) = some y ∧ L2.atI ts (i : Int) = some x ∧ F._law_same [x, y] h = .ok (.bl true) h := fun i hi => by
      have e1 : us[i]? = some us[i] := by simp [hi]
      have e2 : ts[i]? = some (ts[i]'(by omega)) := by simp [show i < ts.length by omega]
      exact ⟨_, _, atI_nat e1, atI_nat e2, ih (hs i _ _ e2 e1)⟩
    apply eq_of_wp
    rcases hk with ⟨rfl, rfl⟩ | ⟨k1, k2⟩
    · simp [b__law_same, b__law_same_1, b__law_same_3, b__law_same_5, hl]
      rw [e_rng (by omega) (by omega)]
      simp
      refine wp_for (ts := rangeT 0 us.length) (fun i σ h' => h' = h ∧ ∃ a2, σ = [some (.tup ts), some (.tup us), a2]) (fun i σ h' q => rfl) ⟨rfl, none, rfl⟩ (fun i x σ h' hx q => ?_) (fun σ h' q => ?_)
      · obtain ⟨rfl, a2, rfl⟩ := q
        obtain ⟨rfl, hi⟩ := range_at hx
        obtain ⟨x, y, p1, p2, p3⟩ := at1 i hi
        exact ⟨_, rfl, by simp [b__law_same_6, p1, p2, p3]⟩
      · obtain ⟨rfl, a2, rfl⟩ := q
        simp [b__law_same_8]
    · simp [b__law_same, b__law_same_1, b__law_same_3, b__law_same_5, isK2_lst k1, isK2_lst k2, k1.isK, k2.isK, k1.len, k2.len, hl]
      rw [e_rng (by omega) (by omega)]
      simp
      refine wp_for (ts := rangeT 0 us.length) (fun i σ h' => h' = h ∧ ∃ a2, σ = [some t, some u, a2]) (fun i σ h' q => rfl) ⟨rfl, none, rfl⟩ (fun i x σ h' hx q => ?_) (fun σ h' q => ?_)
      · obtain ⟨rfl, a2, rfl⟩ := q
        obtain ⟨rfl, hi⟩ := range_at hx
        obtain ⟨x, y, p1, p2, p3⟩ := at1 i hi
        exact ⟨_, rfl, by simp [b__law_same_6, k1.ix, k2.ix, p1, p2, p3]⟩
      · obtain ⟨rfl, a2, rfl⟩ := q
        simp [b__law_same_8]
end LW
end

section
namespace LW
open PySem W3
structure G3 (g : Hh) (v w u ra rb rc : Nat) (A B C : List Ft) : Prop where
  va : VerdAt g v (vrd A)
  vb : VerdAt g w (vrd B)
  vc : VerdAt g u (vrd C)
  la : lstAt g ra = some (A.map tPr)
  lb : lstAt g rb = some (B.map tPr)
  lc : lstAt g rc = some (C.map tPr)
theorem G3.app {g : Hh} {v w u ra rb rc : Nat} {A B C : List Ft} (q : G3 g v w u ra rb rc A B C) (z : Hh) : G3 (g ++ z) v w u ra rb rc A B C := ⟨q.va.app z, q.vb.app z, q.vc.app z, lstAt_app z q.la, lstAt_app z q.lb, lstAt_app z q.lc⟩
structure K3 (A B C : List Ft) : Prop where
  ka : ∀ p ∈ A, p.1 ∈ KINDSL
  kb : ∀ p ∈ B, p.1 ∈ KINDSL
  kc : ∀ p ∈ C, p.1 ∈ KINDSL
  la : A.length ≤ 60
  lb : B.length ≤ 60
  lc : C.length ≤ 60
theorem law68_21 {F : FF} (Ho : HoldsE F._law_holds) (Ke : KeptW F._law_is_kept) {ns s7 s8 : Option T} {g : Hh} {v w u ra rb rc : Nat} {A B C : List Ft} (q : G3 g v w u ra rb rc A B C) (k : K3 A B C) :
    (b_law_21 F [ns, some (.ref ra), some (.ref rb), some (.ref rc), some (.ref v), some (.ref w), some (.ref u), s7, s8] g).wp (FQ.df (fun a _ => a = .bl true) noE) := by
  have hsz := sz
  obtain ⟨ka, kb, kc, la, lb, lc⟩ := k
  obtain ⟨z1, e1⟩ := Ho q.va q.la (fun _ _ => Iff.rfl) ka (by omega) (by omega)
  have q1 := q.app z1
  simp [b_law_21, e1]
  clear e1 q
  generalize g ++ z1 = g1 at *
  obtain ⟨z2, e2⟩ := Ho q1.vb q1.lb (fun _ _ => Iff.rfl) kb (by omega) (by omega)
  have q2 := q1.app z2
  simp [e2]
  clear e2 q1
  generalize g1 ++ z2 = g2 at *
  obtain ⟨z3, e3⟩ := Ho q2.vc q2.lc (fun _ _ => Iff.rfl) kc (by omega) (by omega)
  have q3 := q2.app z3
  simp [e3]
  clear e3 q2
  generalize g2 ++ z3 = g3 at *
  simp [b_law_23]
  exact Ke ⟨q3.va, q3.vb, q3.la, q3.lb⟩ ka kb la lb fun _ => by simp
theorem law68_19 {F : FF} (Ve : EqE F.Verdict___eq__) (Ho : HoldsE F._law_holds) (Ke : KeptW F._law_is_kept) (Sa : SameW 1 F._law_same) {ns s7 : Option T} {g : Hh} {v w u ra rb rc dl : Nat} {A B C : List Ft} (q : G3 g v w u ra rb rc A B C) (k : K3 A B C) (ld : lstAt g dl = some ((gXor A B).map tPr)) :
    (b_law_19 F [ns, some (.ref ra), some (.ref rb), some (.ref rc), some (.ref v), some (.ref w), some (.ref u), s7, some (.ref dl)] g).wp (FQ.df (fun a _ => a = .bl true) noE) := by
  have hsz := sz
  have key : vrd A = vrd B ↔ gXor A B = [] := by
    rw [List.eq_nil_iff_forall_not_mem]
    constructor
    · intro h p hp
      rcases gXor_mem.mp hp with x | x
      · have := vrd_mem.mpr ⟨x.1, k.ka p x.1⟩
        rw [h] at this
        exact x.2 (vrd_mem.mp this).1
      · have := vrd_mem.mpr ⟨x.1, k.kb p x.1⟩
        rw [← h] at this
        exact x.2 (vrd_mem.mp this).1
    · intro h
      refine vrd_eq68 fun p _ => ⟨fun a => ?_, fun b => ?_⟩
      · by_cases m : p ∈ B
        · exact m
        · exact absurd (gXor_mem.mpr (.inl ⟨a, m⟩)) (h p)
      · by_cases m : p ∈ A
        · exact m
        · exact absurd (gXor_mem.mpr (.inr ⟨b, m⟩)) (h p)
  obtain ⟨b, hb⟩ : ∃ b, decide (gXor A B = []) = b := ⟨_, rfl⟩
  have e1 : fEq "Verdict" F.Verdict___eq__ (.ref v) (.ref w) g = .ok (.bl b) g := by
    rw [f_eq68 Ve q.va q.vb, ← hb, decide_eq_decide.mpr key]
  have e2 : fEq "Verdict" F.Verdict___eq__ (.ref w) (.ref v) g = .ok (.bl b) g := by
    rw [f_eq68 Ve q.vb q.va, ← hb, decide_eq_decide.mpr (show vrd B = vrd A ↔ gXor A B = [] from ⟨fun h => key.mp h.symm, fun h => (key.mpr h).symm⟩)]
  have q1 := q.app [.lst [.bl b, .bl b], .lst [.bl b, .bl b]]
  have ld1 := lstAt_app [.lst [.bl b, .bl b]] ld
  have hb2 : decide ((gXor A B).length = 0) = b := by rw [← hb]; exact decide_eq_decide.mpr List.length_eq_zero_iff
  have hb3 : decide (((gXor A B).length : Int) = 0) = b := by rw [← hb2]; exact decide_eq_decide.mpr (by omega)
  have sm := Sa (SameV.lists (h := g ++ [.lst [.bl b, .bl b], .lst [.bl b, .bl b]]) (a := g.length) (b := g.length + 1) (n := 0) (ts := [.bl b, .bl b]) (by simp [lstAt]) (by simp [lstAt]) (by simp) (fun x hx => by simp at hx; subst hx; rfl))
  simp [b_law_19, e1, e2, ld1, hb, hb2, hb3, show 2 ≤ sizeLine by omega]
  simp [sm]
  exact law68_21 Ho Ke q1 k
theorem bl68 {A B : List Ft} (h : ∀ p : Ft, p.1 ∈ KINDSL → (p ∈ A ↔ p ∈ B)) : decide (vrd A = vrd B) = true := decide_eq_true (vrd_eq68 h)
theorem law68_17 {F : FF} (Vi : VdInitRW F.Verdict_init) (Bs : BinE gSub F.Verdict___sub__) (Bx : BinE gXor F.Verdict___xor__) (Ve : EqE F.Verdict___eq__) (Ho : HoldsE F._law_holds) (Ke : KeptW F._law_is_kept) (Sa : SameW 1 F._law_same) {ns s7 : Option T} {g : Hh} {v w u ra rb rc dl : Nat} {A B C : List Ft} (q : G3 g v w u ra rb rc A B C) (k : K3 A B C) (ld : lstAt g dl = some ((gXor A B).map tPr)) :
    (b_law_17 F [ns, some (.ref ra), some (.ref rb), some (.ref rc), some (.ref v), some (.ref w), some (.ref u), s7, some (.ref dl)] g).wp (FQ.df (fun a _ => a = .bl true) noE) := by
  have hsz := sz
  have kla := k.la
  simp [b_law_17, q.la, show A.length + A.length ≤ sizeLine by omega]
  rw [← List.map_append]
  refine mk_tail Vi (fun p hp => (List.mem_append.mp hp).elim (k.ka p) (k.ka p)) (by simp; omega) fun z va => ?_
  have q1 := q.app z
  have ld1 := lstAt_app z ld
  clear q ld
  generalize g.length + 1 = y0 at *
  generalize g ++ z = g1 at *
  have e1 := f_eq68 Ve q1.va va
  rw [bl68 (A := A) (B := A ++ A) (fun p _ => by simp)] at e1
  simp [e1]
  clear e1 va
  obtain ⟨z2, y2, e2, k2⟩ := bin68 Bs q1.va q1.va (by omega)
  have q2 := q1.app z2
  have ld2 := lstAt_app z2 ld1
  generalize g1 ++ z2 = g2 at *
  simp [e2]
  clear e2 q1 ld1
  refine mk_tail Vi (M := []) (fun p hp => by cases hp) (by simp) fun z va => ?_
  have q3 := q2.app z
  have ld3 := lstAt_app z ld2
  have k3 := k2.app z
  clear q2 ld2 k2
  generalize g2.length + 1 = y3 at *
  generalize g2 ++ z = g3 at *
  have e3 := f_eq68 Ve k3 va
  rw [bl68 (A := gSub A A) (B := []) (fun p _ => by rw [gSub_mem]; simp)] at e3
  simp [e3]
  clear e3 va k3
  obtain ⟨z4, y4, e4, k4⟩ := bin68 Bx q3.va q3.va (by omega)
  have q4 := q3.app z4
  have ld4 := lstAt_app z4 ld3
  generalize g3 ++ z4 = g4 at *
  simp [e4]
  clear e4 q3 ld3
  refine Vi (ps := []) (.inr rfl) (by simp) (fun _ z va => ?_) (fun k hk z => by simp at hk)
  have va := va.va
  have q5 := q4.app z
  have ld5 := lstAt_app z ld4
  have k5 := k4.app z
  clear q4 ld4 k4
  generalize g4.length = y5 at *
  generalize g4 ++ z = g5 at *
  have e5 := f_eq68 Ve k5 va
  rw [bl68 (A := gXor A A) (B := []) (fun p _ => by rw [gXor_mem]; simp)] at e5
  simp [e5]
  exact law68_19 Ve Ho Ke Sa q5 k ld5
theorem law68_15 {F : FF} (Vi : VdInitRW F.Verdict_init) (Bo : BinE (fun a b => a ++ b) F.Verdict___or__) (Ba : BinE gAnd F.Verdict___and__) (Bs : BinE gSub F.Verdict___sub__) (Bx : BinE gXor F.Verdict___xor__) (Ve : EqE F.Verdict___eq__) (Ho : HoldsE F._law_holds) (Ke : KeptW F._law_is_kept) (Sa : SameW 1 F._law_same) {ns s7 : Option T} {g : Hh} {v w u ra rb rc dl : Nat} {A B C : List Ft} (q : G3 g v w u ra rb rc A B C) (k : K3 A B C) (ld : lstAt g dl = some ((gXor A B).map tPr)) :
    (b_law_15 F [ns, some (.ref ra), some (.ref rb), some (.ref rc), some (.ref v), some (.ref w), some (.ref u), s7, some (.ref dl)] g).wp (FQ.df (fun a _ => a = .bl true) noE) := by
  have hsz := sz
  have kla := k.la
  have klb := k.lb
  have klc := k.lc
  have f1 := gAnd_le A B
  have f2 := gAnd_le A C
  have f3 := gAnd_le A (B ++ C)
  obtain ⟨z1, y1, e1, k1⟩ := bin68 Bo q.vb q.vc (by omega)
  have k1 : VerdAt (g ++ z1) y1 (vrd (B ++ C)) := k1
  have q1 := q.app z1
  have ld1 := lstAt_app z1 ld
  generalize g ++ z1 = g1 at *
  simp [b_law_15, e1]
  clear e1 q ld
  obtain ⟨z2, y2, e2, k2⟩ := bin68 Ba q1.va k1 (by simp; omega)
  have q2 := q1.app z2
  have ld2 := lstAt_app z2 ld1
  generalize g1 ++ z2 = g2 at *
  simp [e2]
  clear e2 q1 ld1 k1
  obtain ⟨z3, y3, e3, k3⟩ := bin68 Ba q2.va q2.vb (by omega)
  have q3 := q2.app z3
  have ld3 := lstAt_app z3 ld2
  have k2 := k2.app z3
  generalize g2 ++ z3 = g3 at *
  simp [e3]
  clear e3 q2 ld2
  obtain ⟨z4, y4, e4, k4⟩ := bin68 Ba q3.va q3.vc (by omega)
  have q4 := q3.app z4
  have ld4 := lstAt_app z4 ld3
  have k2 := k2.app z4
  have k3 := k3.app z4
  generalize g3 ++ z4 = g4 at *
  simp [e4]
  clear e4 q3 ld3
  obtain ⟨z5, y5, e5, k5⟩ := bin68 Bo k3 k4 (by omega)
  have k5 : VerdAt (g4 ++ z5) y5 (vrd (gAnd A B ++ gAnd A C)) := k5
  have q5 := q4.app z5
  have ld5 := lstAt_app z5 ld4
  have k2 := k2.app z5
  generalize g4 ++ z5 = g5 at *
  simp [e5]
  clear e5 q4 ld4 k3 k4
  have e6 := f_eq68 Ve k2 k5
  rw [bl68 (A := gAnd A (B ++ C)) (B := gAnd A B ++ gAnd A C) (fun p _ => by simp only [gAnd_mem, List.mem_append]; exact and_or_left)] at e6
  simp [e6]
  exact law68_17 Vi Bs Bx Ve Ho Ke Sa q5 k ld5
theorem law68_13 {F : FF} (Vi : VdInitRW F.Verdict_init) (Bo : BinE (fun a b => a ++ b) F.Verdict___or__) (Ba : BinE gAnd F.Verdict___and__) (Bs : BinE gSub F.Verdict___sub__) (Bx : BinE gXor F.Verdict___xor__) (Ve : EqE F.Verdict___eq__) (Ho : HoldsE F._law_holds) (Ke : KeptW F._law_is_kept) (Sa : SameW 1 F._law_same) {ns s7 : Option T} {g : Hh} {v w u ra rb rc dl : Nat} {A B C : List Ft} (q : G3 g v w u ra rb rc A B C) (k : K3 A B C) (ld : lstAt g dl = some ((gXor A B).map tPr)) :
    (b_law_13 F [ns, some (.ref ra), some (.ref rb), some (.ref rc), some (.ref v), some (.ref w), some (.ref u), s7, some (.ref dl)] g).wp (FQ.df (fun a _ => a = .bl true) noE) := by
  have hsz := sz
  have kla := k.la
  have klb := k.lb
  have f1 := gAnd_le A B
  have f2 := gSub_le A B
  have f3 := gSub_le B A
  have f4 : (gXor A B).length ≤ 120 := by unfold gXor; rw [List.length_append]; omega
  have kxo : ∀ p ∈ gXor A B, p.1 ∈ KINDSL := fun p hp => (gXor_mem.mp hp).elim (fun h => k.ka p h.1) (fun h => k.kb p h.1)
  obtain ⟨z1, y1, e1, k1⟩ := bin68 Bx q.va q.vb (by omega)
  have q1 := q.app z1
  have ld1 := lstAt_app z1 ld
  generalize g ++ z1 = g1 at *
  simp [b_law_13, e1]
  clear e1 q ld
  obtain ⟨z2, e2⟩ := Ho k1 ld1 (fun _ _ => Iff.rfl) kxo (by omega) (by omega)
  have q2 := q1.app z2
  have ld2 := lstAt_app z2 ld1
  generalize g1 ++ z2 = g2 at *
  simp [e2]
  clear e2 q1 ld1 k1
  obtain ⟨z3, y3, e3, k3⟩ := bin68 Bx q2.va q2.vb (by omega)
  have q3 := q2.app z3
  have ld3 := lstAt_app z3 ld2
  generalize g2 ++ z3 = g3 at *
  simp [e3]
  clear e3 q2 ld2
  obtain ⟨z4, y4, e4, k4⟩ := bin68 Bo q3.va q3.vb (by omega)
  have k4 : VerdAt (g3 ++ z4) y4 (vrd (A ++ B)) := k4
  have q4 := q3.app z4
  have ld4 := lstAt_app z4 ld3
  have k3 := k3.app z4
  generalize g3 ++ z4 = g4 at *
  simp [e4]
  clear e4 q3 ld3
  obtain ⟨z5, y5, e5, k5⟩ := bin68 Ba q4.va q4.vb (by omega)
  have q5 := q4.app z5
  have ld5 := lstAt_app z5 ld4
  have k3 := k3.app z5
  have k4 := k4.app z5
  generalize g4 ++ z5 = g5 at *
  simp [e5]
  clear e5 q4 ld4
  obtain ⟨z6, y6, e6, k6⟩ := bin68 Bs k4 k5 (by simp; omega)
  have q6 := q5.app z6
  have ld6 := lstAt_app z6 ld5
  have k3 := k3.app z6
  generalize g5 ++ z6 = g6 at *
  simp [e6]
  clear e6 q5 ld5 k4 k5
  have e7 := f_eq68 Ve k3 k6
  rw [bl68 (A := gXor A B) (B := gSub (A ++ B) (gAnd A B)) (fun p _ => by
    rw [gXor_mem, gSub_mem, gAnd_mem, List.mem_append]
    by_cases a : p ∈ A <;> by_cases b : p ∈ B <;> simp [a, b])] at e7
  simp [e7]
  exact law68_15 Vi Bo Ba Bs Bx Ve Ho Ke Sa q6 k ld6
theorem law68_12 {F : FF} (Vi : VdInitRW F.Verdict_init) (Bo : BinE (fun a b => a ++ b) F.Verdict___or__) (Ba : BinE gAnd F.Verdict___and__) (Bs : BinE gSub F.Verdict___sub__) (Bx : BinE gXor F.Verdict___xor__) (Ve : EqE F.Verdict___eq__) (Ho : HoldsE F._law_holds) (Ke : KeptW F._law_is_kept) (Sa : SameW 1 F._law_same) {ns s8 : Option T} {g : Hh} {v w u ra rb rc : Nat} {A B C : List Ft} (q : G3 g v w u ra rb rc A B C) (k : K3 A B C) :
    (b_law_12 F [ns, some (.ref ra), some (.ref rb), some (.ref rc), some (.ref v), some (.ref w), some (.ref u), none, s8] g).wp (FQ.df (fun a _ => a = .bl true) noE) := by
  have hsz := sz
  have kla := k.la
  have klb := k.lb
  have f2 := gSub_le A B
  have f3 := gSub_le B A
  simp [b_law_12, srcOf, q.la]
  refine wp_lcf (s := .live ra) (ts := A.map tPr) (pNo B) (fun t => t) (szle (by rw [List.length_map]; omega)) q.la (fun t ht => ?_) ?_
  · obtain ⟨p, _, rfl⟩ := List.mem_map.mp ht
    have e := nin_prl p.1 p.2 q.lb
    exact ⟨_, rfl, by simp [tPr, e, pNo], by simp⟩
  rw [em_no]
  have q2 := q.app [.lst ((gSub A B).map tPr)]
  have l1 : lstAt (g ++ [.lst ((gSub A B).map tPr)]) g.length = some ((gSub A B).map tPr) := lstAt_new
  clear q
  simp [show (gSub A B).length ≤ sizeLine by omega]
  generalize g ++ [Ob.lst ((gSub A B).map tPr)] = g2 at *
  simp [srcOf, q2.lb]
  refine wp_lcf (s := .live rb) (ts := B.map tPr) (pNo A) (fun t => t) (szle (by rw [List.length_map]; omega)) q2.lb (fun t ht => ?_) ?_
  · obtain ⟨p, _, rfl⟩ := List.mem_map.mp ht
    have e := nin_prl p.1 p.2 q2.la
    exact ⟨_, rfl, by simp [tPr, e, pNo], by simp⟩
  rw [em_no]
  have q3 := q2.app [.lst ((gSub B A).map tPr)]
  have l2 := lstAt_app [.lst ((gSub B A).map tPr)] l1
  have l3 : lstAt (g2 ++ [.lst ((gSub B A).map tPr)]) g2.length = some ((gSub B A).map tPr) := lstAt_new
  clear q2 l1
  simp [show (gSub B A).length ≤ sizeLine by omega]
  obtain ⟨g3, hg3⟩ : ∃ g3, g2 ++ [Ob.lst ((gSub B A).map tPr)] = g3 := ⟨_, rfl⟩
  rw [hg3] at q3 l2 l3
  simp [hg3, l2, l3, show (gSub A B).length + (gSub B A).length ≤ sizeLine by omega]
  have e4 : g2 ++ [Ob.lst (List.map tPr (gSub B A)), Ob.lst (List.map tPr (gSub A B) ++ List.map tPr (gSub B A))] = g3 ++ [.lst ((gXor A B).map tPr)] := by rw [← hg3]; simp [gXor]
  have hl : g2.length + 1 = g3.length := by rw [← hg3]; simp
  rw [e4, hl]
  exact law68_13 Vi Bo Ba Bs Bx Ve Ho Ke Sa (q3.app _) k lstAt_new
theorem law68_10 {F : FF} (Vi : VdInitRW F.Verdict_init) (Bo : BinE (fun a b => a ++ b) F.Verdict___or__) (Ba : BinE gAnd F.Verdict___and__) (Bs : BinE gSub F.Verdict___sub__) (Bx : BinE gXor F.Verdict___xor__) (Ve : EqE F.Verdict___eq__) (Ho : HoldsE F._law_holds) (Ke : KeptW F._law_is_kept) (Sa : SameW 1 F._law_same) {ns s8 : Option T} {g : Hh} {v w u ra rb rc : Nat} {A B C : List Ft} (q : G3 g v w u ra rb rc A B C) (k : K3 A B C) :
    (b_law_10 F [ns, some (.ref ra), some (.ref rb), some (.ref rc), some (.ref v), some (.ref w), some (.ref u), none, s8] g).wp (FQ.df (fun a _ => a = .bl true) noE) := by
  have hsz := sz
  have kla := k.la
  have klb := k.lb
  have f3 := gSub_le B A
  obtain ⟨z1, y1, e1, k1⟩ := bin68 Bs q.vb q.va (by omega)
  have q1 := q.app z1
  generalize g ++ z1 = g1 at *
  simp [b_law_10, e1, srcOf, q1.lb]
  clear e1 q
  refine wp_lcf (s := .live rb) (ts := B.map tPr) (pNo A) (fun t => t) (szle (by rw [List.length_map]; omega)) q1.lb (fun t ht => ?_) ?_
  · obtain ⟨p, _, rfl⟩ := List.mem_map.mp ht
    have e := nin_prl p.1 p.2 q1.la
    exact ⟨_, rfl, by simp [tPr, e, pNo], by simp⟩
  rw [em_no]
  have q2 := q1.app [.lst ((gSub B A).map tPr)]
  have k2 := k1.app [.lst ((gSub B A).map tPr)]
  have ln : lstAt (g1 ++ [.lst ((gSub B A).map tPr)]) g1.length = some ((gSub B A).map tPr) := lstAt_new
  clear q1 k1
  simp [show (gSub B A).length ≤ sizeLine by omega]
  generalize g1 ++ [Ob.lst ((gSub B A).map tPr)] = g2 at *
  obtain ⟨z3, e3⟩ := Ho k2 ln (fun p _ => Iff.rfl) (fun p hp => k.kb p (gSub_mem.mp hp).1) (by omega) (by omega)
  have q3 := q2.app z3
  generalize g2 ++ z3 = g3 at *
  simp [e3]
  exact law68_12 Vi Bo Ba Bs Bx Ve Ho Ke Sa q3 k
theorem law68_8 {F : FF} (Vi : VdInitRW F.Verdict_init) (Bo : BinE (fun a b => a ++ b) F.Verdict___or__) (Ba : BinE gAnd F.Verdict___and__) (Bs : BinE gSub F.Verdict___sub__) (Bx : BinE gXor F.Verdict___xor__) (Ve : EqE F.Verdict___eq__) (Ho : HoldsE F._law_holds) (Ke : KeptW F._law_is_kept) (Sa : SameW 1 F._law_same) {ns s8 : Option T} {g : Hh} {v w u ra rb rc : Nat} {A B C : List Ft} (q : G3 g v w u ra rb rc A B C) (k : K3 A B C) :
    (b_law_8 F [ns, some (.ref ra), some (.ref rb), some (.ref rc), some (.ref v), some (.ref w), some (.ref u), none, s8] g).wp (FQ.df (fun a _ => a = .bl true) noE) := by
  have hsz := sz
  have kla := k.la
  have klb := k.lb
  have f3 := gSub_le A B
  obtain ⟨z1, y1, e1, k1⟩ := bin68 Bs q.va q.vb (by omega)
  have q1 := q.app z1
  generalize g ++ z1 = g1 at *
  simp [b_law_8, e1, srcOf, q1.la]
  clear e1 q
  refine wp_lcf (s := .live ra) (ts := A.map tPr) (pNo B) (fun t => t) (szle (by rw [List.length_map]; omega)) q1.la (fun t ht => ?_) ?_
  · obtain ⟨p, _, rfl⟩ := List.mem_map.mp ht
    have e := nin_prl p.1 p.2 q1.lb
    exact ⟨_, rfl, by simp [tPr, e, pNo], by simp⟩
  rw [em_no]
  have q2 := q1.app [.lst ((gSub A B).map tPr)]
  have k2 := k1.app [.lst ((gSub A B).map tPr)]
  have ln : lstAt (g1 ++ [.lst ((gSub A B).map tPr)]) g1.length = some ((gSub A B).map tPr) := lstAt_new
  clear q1 k1
  simp [show (gSub A B).length ≤ sizeLine by omega]
  generalize g1 ++ [Ob.lst ((gSub A B).map tPr)] = g2 at *
  obtain ⟨z3, e3⟩ := Ho k2 ln (fun p _ => Iff.rfl) (fun p hp => k.ka p (gSub_mem.mp hp).1) (by omega) (by omega)
  have q3 := q2.app z3
  generalize g2 ++ z3 = g3 at *
  simp [e3]
  exact law68_10 Vi Bo Ba Bs Bx Ve Ho Ke Sa q3 k
theorem law68_6 {F : FF} (Vi : VdInitRW F.Verdict_init) (Bo : BinE (fun a b => a ++ b) F.Verdict___or__) (Ba : BinE gAnd F.Verdict___and__) (Bs : BinE gSub F.Verdict___sub__) (Bx : BinE gXor F.Verdict___xor__) (Ve : EqE F.Verdict___eq__) (Ho : HoldsE F._law_holds) (Ke : KeptW F._law_is_kept) (Sa : SameW 1 F._law_same) {ns s8 : Option T} {g : Hh} {v w u ra rb rc : Nat} {A B C : List Ft} (q : G3 g v w u ra rb rc A B C) (k : K3 A B C) :
    (b_law_6 F [ns, some (.ref ra), some (.ref rb), some (.ref rc), some (.ref v), some (.ref w), some (.ref u), none, s8] g).wp (FQ.df (fun a _ => a = .bl true) noE) := by
  have hsz := sz
  have kla := k.la
  have klb := k.lb
  have f3 := gAnd_le A B
  obtain ⟨z1, y1, e1, k1⟩ := bin68 Ba q.va q.vb (by omega)
  have q1 := q.app z1
  generalize g ++ z1 = g1 at *
  simp [b_law_6, e1, srcOf, q1.la]
  clear e1 q
  refine wp_lcf (s := .live ra) (ts := A.map tPr) (pIn B) (fun t => t) (szle (by rw [List.length_map]; omega)) q1.la (fun t ht => ?_) ?_
  · obtain ⟨p, _, rfl⟩ := List.mem_map.mp ht
    have e := in_prl p.1 p.2 q1.lb
    exact ⟨_, rfl, by simp [tPr, e, pIn], by simp⟩
  rw [em_in]
  have q2 := q1.app [.lst ((gAnd A B).map tPr)]
  have k2 := k1.app [.lst ((gAnd A B).map tPr)]
  have ln : lstAt (g1 ++ [.lst ((gAnd A B).map tPr)]) g1.length = some ((gAnd A B).map tPr) := lstAt_new
  clear q1 k1
  simp [show (gAnd A B).length ≤ sizeLine by omega]
  generalize g1 ++ [Ob.lst ((gAnd A B).map tPr)] = g2 at *
  obtain ⟨z3, e3⟩ := Ho k2 ln (fun p _ => Iff.rfl) (fun p hp => k.ka p (gAnd_mem.mp hp).1) (by omega) (by omega)
  have q3 := q2.app z3
  generalize g2 ++ z3 = g3 at *
  simp [e3]
  exact law68_8 Vi Bo Ba Bs Bx Ve Ho Ke Sa q3 k
theorem law68_4 {F : FF} (Vi : VdInitRW F.Verdict_init) (Bo : BinE (fun a b => a ++ b) F.Verdict___or__) (Ba : BinE gAnd F.Verdict___and__) (Bs : BinE gSub F.Verdict___sub__) (Bx : BinE gXor F.Verdict___xor__) (Ve : EqE F.Verdict___eq__) (Ho : HoldsE F._law_holds) (Ke : KeptW F._law_is_kept) (Sa : SameW 1 F._law_same) {ns s8 : Option T} {g : Hh} {v w u ra rb rc : Nat} {A B C : List Ft} (q : G3 g v w u ra rb rc A B C) (k : K3 A B C) :
    (b_law_4 F [ns, some (.ref ra), some (.ref rb), some (.ref rc), some (.ref v), some (.ref w), some (.ref u), none, s8] g).wp (FQ.df (fun a _ => a = .bl true) noE) := by
  have hsz := sz
  have kla := k.la
  have klb := k.lb
  have klc := k.lc
  have kab : ∀ p ∈ A ++ B, p.1 ∈ KINDSL := fun p hp => (List.mem_append.mp hp).elim (k.ka p) (k.kb p)
  have kbc : ∀ p ∈ B ++ C, p.1 ∈ KINDSL := fun p hp => (List.mem_append.mp hp).elim (k.kb p) (k.kc p)
  obtain ⟨z1, y1, e1, k1⟩ := bin68 Bo q.va q.vb (by omega)
  have k1 : VerdAt (g ++ z1) y1 (vrd (A ++ B)) := k1
  have q1 := q.app z1
  generalize g ++ z1 = g1 at *
  simp [b_law_4, e1, q1.la, q1.lb, show A.length + B.length ≤ sizeLine by omega]
  clear e1 q
  rw [← List.map_append]
  have q2 := q1.app [.lst ((A ++ B).map tPr)]
  have k2 := k1.app [.lst ((A ++ B).map tPr)]
  have ln : lstAt (g1 ++ [.lst ((A ++ B).map tPr)]) g1.length = some ((A ++ B).map tPr) := lstAt_new
  clear q1 k1
  generalize g1 ++ [Ob.lst ((A ++ B).map tPr)] = g2 at *
  obtain ⟨z3, e3⟩ := Ho k2 ln (fun p _ => Iff.rfl) kab (by simp; omega) (by simp; omega)
  have q3 := q2.app z3
  generalize g2 ++ z3 = g3 at *
  simp [e3]
  clear e3 q2 k2 ln
  obtain ⟨z4, y4, e4, k4⟩ := bin68 Bo q3.vb q3.vc (by omega)
  have k4 : VerdAt (g3 ++ z4) y4 (vrd (B ++ C)) := k4
  have q4 := q3.app z4
  generalize g3 ++ z4 = g4 at *
  simp [e4, q4.lb, q4.lc, show B.length + C.length ≤ sizeLine by omega]
  clear e4 q3
  rw [← List.map_append]
  have q5 := q4.app [.lst ((B ++ C).map tPr)]
  have k5 := k4.app [.lst ((B ++ C).map tPr)]
  have ln : lstAt (g4 ++ [.lst ((B ++ C).map tPr)]) g4.length = some ((B ++ C).map tPr) := lstAt_new
  clear q4 k4
  generalize g4 ++ [Ob.lst ((B ++ C).map tPr)] = g5 at *
  obtain ⟨z6, e6⟩ := Ho k5 ln (fun p _ => Iff.rfl) kbc (by simp; omega) (by simp; omega)
  have q6 := q5.app z6
  generalize g5 ++ z6 = g6 at *
  simp [e6]
  exact law68_6 Vi Bo Ba Bs Bx Ve Ho Ke Sa q6 k
theorem vi68 {f : Fn} (Vi : VdInitRW f) {h : Hh} {x : Nat} {A : List Ft} {Q : T → Hh → Prop} {E : EQ} (lx : lstAt h x = some (A.map tPr)) (ka : ∀ p ∈ A, p.1 ∈ KINDSL) (hl : A.length ≤ 200) (k : ∀ z, VerdAt (h ++ z) h.length (vrd A) → Q .non (h ++ z)) : (f [.ref h.length, .ref x] (h ++ [.ins "Verdict" []])).wp Q E := by
  refine Vi (.inl ⟨_, rfl, lx⟩) hl (fun _ z va => k z va.va) (fun k hk z => ?_)
  have h3 := List.find?_some hk
  obtain ⟨p, hp, rfl⟩ := List.mem_map.mp (List.mem_of_find?_eq_some hk)
  exact absurd (ka p hp) (of_decide_eq_true h3)
theorem ok_law68 {F : FF} (Ro : RowsLW F._law_rows) (Vi : VdInitRW F.Verdict_init) (Bo : BinE (fun a b => a ++ b) F.Verdict___or__) (Ba : BinE gAnd F.Verdict___and__) (Bs : BinE gSub F.Verdict___sub__) (Bx : BinE gXor F.Verdict___xor__) (Ve : EqE F.Verdict___eq__) (Ho : HoldsE F._law_holds) (Ke : KeptW F._law_is_kept) (Sa : SameW 1 F._law_same)
    {ns : List Int} (hns : ns.length ≤ 63) : (defRun 9 (b_law F) [.fl (ns.map T.int)] []).wp (fun a _ => a = .bl true) noE := by
  have hsz := sz
  simp [wp_defRun, b_law]
  refine Ro (k := 0) hns fun A ra z ka la _ lA => ?_
  simp only [List.nil_append] at *
  simp [b_law_1]
  refine Ro (k := 1) hns fun B rb z2 kb lb _ lB => ?_
  have lA := lstAt_app z2 lA
  generalize z ++ z2 = g2 at *
  simp [b_law_2]
  refine Ro (k := 2) hns fun C rc z3 kc lc _ lC => ?_
  have lA := lstAt_app z3 lA
  have lB := lstAt_app z3 lB
  generalize g2 ++ z3 = g3 at *
  simp [b_law_3]
  refine vi68 Vi lA ka (by omega) fun z4 va => ?_
  have lA := lstAt_app z4 lA
  have lB := lstAt_app z4 lB
  have lC := lstAt_app z4 lC
  generalize g3.length = v at *
  generalize g3 ++ z4 = g4 at *
  simp
  refine vi68 Vi lB kb (by omega) fun z5 vb => ?_
  have lA := lstAt_app z5 lA
  have lB := lstAt_app z5 lB
  have lC := lstAt_app z5 lC
  have va := va.app z5
  generalize g4.length = w at *
  generalize g4 ++ z5 = g5 at *
  simp
  refine vi68 Vi lC kc (by omega) fun z6 vc => ?_
  have lA := lstAt_app z6 lA
  have lB := lstAt_app z6 lB
  have lC := lstAt_app z6 lC
  have va := va.app z6
  have vb := vb.app z6
  generalize g5.length = u at *
  generalize g5 ++ z6 = g6 at *
  simp
  exact law68_4 Vi Bo Ba Bs Bx Ve Ho Ke Sa ⟨va, vb, vc, lA, lB, lC⟩ ⟨ka, kb, kc, la, lb, lc⟩
end LW
end

section
namespace LW
open PySem W3
theorem s_check_kind : ∀ k, KindW (runF (k + 1)).check_kind := fun k => ok_check_kindW (F := runF (k + 0)) 
theorem s_Verdict_init : ∀ k, VdInitRW (runF (k + 2)).Verdict_init := fun k => ok_Verdict_initR (F := runF (k + 1)) (s_check_kind (k + 0))
theorem s_Verdict_pairs : ∀ k, VdPairsW (runF (k + 1)).Verdict_pairs := fun k => ok_Verdict_pairs (F := runF (k + 0)) 
theorem s_Verdict___or__ : ∀ k, BinE (fun a b => a ++ b) (runF (k + 3)).Verdict___or__ := fun k => ok_or68 (F := runF (k + 2)) (s_Verdict_init (k + 0))
theorem s_Verdict___and__ : ∀ k, BinE gAnd (runF (k + 3)).Verdict___and__ := fun k => ok_and68 (F := runF (k + 2)) (s_Verdict_init (k + 0))
theorem s_Verdict___sub__ : ∀ k, BinE gSub (runF (k + 3)).Verdict___sub__ := fun k => ok_sub68 (F := runF (k + 2)) (s_Verdict_init (k + 0))
theorem s_Verdict___xor__ : ∀ k, BinE gXor (runF (k + 3)).Verdict___xor__ := fun k => ok_xor68 (F := runF (k + 2)) (s_Verdict_init (k + 0))
theorem s_Verdict___eq__ : ∀ k, EqE (runF (k + 1)).Verdict___eq__ := fun k => ok_eq68 (F := runF (k + 0)) 
theorem s_Verdict___len__ : ∀ k, VdLenE (runF (k + 1)).Verdict___len__ := fun k => ok_Verdict_len (F := runF (k + 0)) 
theorem s_Verdict___contains__ : ∀ k, VdInE (runF (k + 1)).Verdict___contains__ := fun k => ok_Verdict_in (F := runF (k + 0)) 
theorem s_Verdict___bool__ : ∀ k, VdBoolE (runF (k + 1)).Verdict___bool__ := fun k => ok_Verdict_bool (F := runF (k + 0)) 
theorem s__law_same_0 : ∀ k, SameW 0 (runF (k + 1))._law_same := fun k => ok_same60_0 (F := runF (k + 0)) 
theorem s__law_same_1 : ∀ k, SameW 1 (runF (k + 2))._law_same := fun k => ok_same60 (F := runF (k + 1)) (s__law_same_0 (k + 0))
theorem s__law_pair : ∀ k, PairLW (runF (k + 1))._law_pair := fun k => ok_law_pair68 (F := runF (k + 0)) 
theorem s__law_rows : ∀ k, RowsLW (runF (k + 2))._law_rows := fun k => ok_law_rows (F := runF (k + 1)) (s__law_pair (k + 0))
theorem s__law_holds : ∀ k, HoldsE (runF (k + 2))._law_holds := fun k => ok_holds68 (F := runF (k + 1)) (s_Verdict_pairs (k + 0)) (s_Verdict___len__ (k + 0)) (s_Verdict___contains__ (k + 0)) (s_Verdict___bool__ (k + 0))
theorem s__law_is_kept : ∀ k, KeptW (runF (k + 4))._law_is_kept := fun k => ok_kept68 (F := runF (k + 3)) (s_Verdict___or__ (k + 0)) (s_Verdict___and__ (k + 0)) (s_Verdict___sub__ (k + 0)) (s_Verdict___xor__ (k + 0)) (s__law_holds (k + 1))
def fuel : Nat := 5
theorem law_true : ∀ ns : List Int, ns.length ≤ 63 → ∃ h', (runF fuel).law [.fl (ns.map T.int)] [] = .ok (.bl true) h' := by
  intro ns hns
  obtain ⟨a, h', e, rfl⟩ := (ok_law68 (F := runF 4) (s__law_rows (0 + 2)) (s_Verdict_init (0 + 2)) (s_Verdict___or__ (0 + 1)) (s_Verdict___and__ (0 + 1)) (s_Verdict___sub__ (0 + 1)) (s_Verdict___xor__ (0 + 1)) (s_Verdict___eq__ (0 + 3)) (s__law_holds (0 + 2)) (s__law_is_kept (0 + 0)) (s__law_same_1 (0 + 2)) hns).ok
  exact ⟨h', e⟩
end LW
end

section
namespace LW
open PySem PySem.Spec PyProof.Rows
open L2 W3
structure Ad where
  f_check_kind : Addr
  d_check_kind : FuncData
  f_Verdict_init : Addr
  d_Verdict_init : FuncData
  f_Verdict_pairs : Addr
  d_Verdict_pairs : FuncData
  f_Verdict___or__ : Addr
  d_Verdict___or__ : FuncData
  f_Verdict___and__ : Addr
  d_Verdict___and__ : FuncData
  f_Verdict___sub__ : Addr
  d_Verdict___sub__ : FuncData
  f_Verdict___xor__ : Addr
  d_Verdict___xor__ : FuncData
  f_Verdict___eq__ : Addr
  d_Verdict___eq__ : FuncData
  f_Verdict___len__ : Addr
  d_Verdict___len__ : FuncData
  f_Verdict___contains__ : Addr
  d_Verdict___contains__ : FuncData
  f_Verdict___bool__ : Addr
  d_Verdict___bool__ : FuncData
  f__law_same : Addr
  d__law_same : FuncData
  f__law_pair : Addr
  d__law_pair : FuncData
  f__law_rows : Addr
  d__law_rows : FuncData
  f__law_holds : Addr
  d__law_holds : FuncData
  f__law_is_kept : Addr
  d__law_is_kept : FuncData
  f_law : Addr
  d_law : FuncData
  c_Verdict : Addr
  c_InvalidKind : Addr
  xf_InvalidKind : Addr
  xd_InvalidKind : FuncData
structure Txt (w : World) (K : PySem.W.Frag) (mg : Str → Option Value) (A : Ad) : Prop where
  u_check_kind : Fun K "check_kind" "check_kind" st_check_kind A.f_check_kind A.d_check_kind
  b_check_kind : Binds K A.d_check_kind ["kind"] []
  g_check_kind : mg "check_kind" = some (.ref A.f_check_kind)
  u_Verdict_init : Fun K "__init__" "Verdict.__init__" st_Verdict_init A.f_Verdict_init A.d_Verdict_init
  b_Verdict_init : Binds K A.d_Verdict_init ["self", "pairs"] []
  u_Verdict_pairs : Fun K "pairs" "Verdict.pairs" st_Verdict_pairs A.f_Verdict_pairs A.d_Verdict_pairs
  b_Verdict_pairs : Binds K A.d_Verdict_pairs ["self"] []
  h_Verdict_pairs : Meth K A.c_Verdict "pairs" A.f_Verdict_pairs
  u_Verdict___or__ : Fun K "__or__" "Verdict.__or__" st_Verdict___or__ A.f_Verdict___or__ A.d_Verdict___or__
  b_Verdict___or__ : Binds K A.d_Verdict___or__ ["self", "other"] []
  sp_Verdict___or__ : PySem.W.findIn K (.ref A.c_Verdict) "__or__" = some (some (.ref A.f_Verdict___or__)) ∧ PySem.W.isFn K (.ref A.f_Verdict___or__) = true
  u_Verdict___and__ : Fun K "__and__" "Verdict.__and__" st_Verdict___and__ A.f_Verdict___and__ A.d_Verdict___and__
  b_Verdict___and__ : Binds K A.d_Verdict___and__ ["self", "other"] []
  sp_Verdict___and__ : PySem.W.findIn K (.ref A.c_Verdict) "__and__" = some (some (.ref A.f_Verdict___and__)) ∧ PySem.W.isFn K (.ref A.f_Verdict___and__) = true
  u_Verdict___sub__ : Fun K "__sub__" "Verdict.__sub__" st_Verdict___sub__ A.f_Verdict___sub__ A.d_Verdict___sub__
  b_Verdict___sub__ : Binds K A.d_Verdict___sub__ ["self", "other"] []
  sp_Verdict___sub__ : PySem.W.findIn K (.ref A.c_Verdict) "__sub__" = some (some (.ref A.f_Verdict___sub__)) ∧ PySem.W.isFn K (.ref A.f_Verdict___sub__) = true
  u_Verdict___xor__ : Fun K "__xor__" "Verdict.__xor__" st_Verdict___xor__ A.f_Verdict___xor__ A.d_Verdict___xor__
  b_Verdict___xor__ : Binds K A.d_Verdict___xor__ ["self", "other"] []
  sp_Verdict___xor__ : PySem.W.findIn K (.ref A.c_Verdict) "__xor__" = some (some (.ref A.f_Verdict___xor__)) ∧ PySem.W.isFn K (.ref A.f_Verdict___xor__) = true
  u_Verdict___eq__ : Fun K "__eq__" "Verdict.__eq__" st_Verdict___eq__ A.f_Verdict___eq__ A.d_Verdict___eq__
  b_Verdict___eq__ : Binds K A.d_Verdict___eq__ ["self", "other"] []
  sp_Verdict___eq__ : PySem.W.findIn K (.ref A.c_Verdict) "__eq__" = some (some (.ref A.f_Verdict___eq__)) ∧ PySem.W.isFn K (.ref A.f_Verdict___eq__) = true
  u_Verdict___len__ : Fun K "__len__" "Verdict.__len__" st_Verdict___len__ A.f_Verdict___len__ A.d_Verdict___len__
  b_Verdict___len__ : Binds K A.d_Verdict___len__ ["self"] []
  sp_Verdict___len__ : PySem.W.findIn K (.ref A.c_Verdict) "__len__" = some (some (.ref A.f_Verdict___len__)) ∧ PySem.W.isFn K (.ref A.f_Verdict___len__) = true
  u_Verdict___contains__ : Fun K "__contains__" "Verdict.__contains__" st_Verdict___contains__ A.f_Verdict___contains__ A.d_Verdict___contains__
  b_Verdict___contains__ : Binds K A.d_Verdict___contains__ ["self", "pair"] []
  sp_Verdict___contains__ : PySem.W.findIn K (.ref A.c_Verdict) "__contains__" = some (some (.ref A.f_Verdict___contains__)) ∧ PySem.W.isFn K (.ref A.f_Verdict___contains__) = true
  u_Verdict___bool__ : Fun K "__bool__" "Verdict.__bool__" st_Verdict___bool__ A.f_Verdict___bool__ A.d_Verdict___bool__
  b_Verdict___bool__ : Binds K A.d_Verdict___bool__ ["self"] []
  sp_Verdict___bool__ : PySem.W.findIn K (.ref A.c_Verdict) "__bool__" = some (some (.ref A.f_Verdict___bool__)) ∧ PySem.W.isFn K (.ref A.f_Verdict___bool__) = true
  u__law_same : Fun K "_law_same" "_law_same" st__law_same A.f__law_same A.d__law_same
  b__law_same : Binds K A.d__law_same ["_law_one", "_law_two"] []
  g__law_same : mg "_law_same" = some (.ref A.f__law_same)
  u__law_pair : Fun K "_law_pair" "_law_pair" st__law_pair A.f__law_pair A.d__law_pair
  b__law_pair : Binds K A.d__law_pair ["_law_cell"] []
  g__law_pair : mg "_law_pair" = some (.ref A.f__law_pair)
  u__law_rows : Fun K "_law_rows" "_law_rows" st__law_rows A.f__law_rows A.d__law_rows
  b__law_rows : Binds K A.d__law_rows ["_law_script", "_law_part"] []
  g__law_rows : mg "_law_rows" = some (.ref A.f__law_rows)
  u__law_holds : Fun K "_law_holds" "_law_holds" st__law_holds A.f__law_holds A.d__law_holds
  b__law_holds : Binds K A.d__law_holds ["_law_verdict", "_law_due"] []
  g__law_holds : mg "_law_holds" = some (.ref A.f__law_holds)
  u__law_is_kept : Fun K "_law_is_kept" "_law_is_kept" st__law_is_kept A.f__law_is_kept A.d__law_is_kept
  b__law_is_kept : Binds K A.d__law_is_kept ["_law_first", "_law_second", "_law_one", "_law_two"] []
  g__law_is_kept : mg "_law_is_kept" = some (.ref A.f__law_is_kept)
  u_law : Fun K "law" "law" st_law A.f_law A.d_law
  b_law : Binds K A.d_law ["_law_script"] []
  g_law : mg "law" = some (.ref A.f_law)
  g_Verdict : mg "Verdict" = some (.ref A.c_Verdict)
  cc_Verdict : Cls K A.c_Verdict
  m_Verdict : Mk K A.c_Verdict A.f_Verdict_init
  io_Verdict : IsoC K A.c_Verdict
  sl_Verdict : PySem.W.selfFirst K A.c_Verdict = true
  m2_Verdict : OwBin.mroTwo K A.c_Verdict = true
  ni_Verdict_and : PySem.W.findIn K (.ref A.c_Verdict) "__iand__" = some none
  ni_Verdict_or : PySem.W.findIn K (.ref A.c_Verdict) "__ior__" = some none
  ni_Verdict_sub : PySem.W.findIn K (.ref A.c_Verdict) "__isub__" = some none
  ni_Verdict_xor : PySem.W.findIn K (.ref A.c_Verdict) "__ixor__" = some none
  no_and : PySem.W.findIn K (.type "object") "__iand__" = some none
  no_or : PySem.W.findIn K (.type "object") "__ior__" = some none
  no_sub : PySem.W.findIn K (.type "object") "__isub__" = some none
  no_xor : PySem.W.findIn K (.type "object") "__ixor__" = some none
  cs : ClsF K mg CS
  c_KINDS : ∃ a, mg "KINDS" = some (.ref a) ∧ KIs K mg a (.tup ((["unshown", "stale", "elder", "sent", "early", "stuck", "full"] : List Str).map T.str))
  n_bool : mg "bool" = none
  n_int : mg "int" = none
  n_isinstance : mg "isinstance" = none
  n_len : mg "len" = none
  n_list : mg "list" = none
  n_min : mg "min" = none
  n_range : mg "range" = none
  n_sorted : mg "sorted" = none
  n_super : mg "super" = none
  n_tuple : mg "tuple" = none
  g_InvalidKind : mg "InvalidKind" = some (.ref A.c_InvalidKind)
  ox_InvalidKind : OexC K A.c_InvalidKind
  xi_InvalidKind : PySem.W.findIn K (.ref A.c_InvalidKind) "__init__" = some (some (.ref A.xf_InvalidKind))
  xt_InvalidKind : PySem.W.typeIn K (.ref A.xf_InvalidKind) = some (.type "function")
  b_InvalidKind : Binds K A.xd_InvalidKind ["self", "kind"] []
  xf : XfAll K mg XS FL
structure Exs (P : Program) (w : World) (K : PySem.W.Frag) (mg : Str → Option Value) (base : Heap) (A : Ad) : Prop where
  F_InvalidKind : FnOk P w K mg base (L2.CX P w) 1 A.xf_InvalidKind A.xd_InvalidKind ["self", "kind"] (spE1 A.c_InvalidKind "kind")
section
variable {P : Program} {w : World} {K : PySem.W.Frag} {mg : Str → Option Value} {base : Heap} {A : Ad} {F : FF} {j : Nat}
structure Oks (P : Program) (w : World) (K : PySem.W.Frag) (mg : Str → Option Value) (base : Heap) (A : Ad) (j : Nat) (F : FF) : Prop where
  check_kind : FnOk P w K mg base (L2.CX P w) j A.f_check_kind A.d_check_kind ["kind"] (spT K mg w 1 F.check_kind)
  Verdict_init : FnOk P w K mg base (L2.CX P w) j A.f_Verdict_init A.d_Verdict_init ["self", "pairs"] (spT K mg w 2 F.Verdict_init)
  Verdict_pairs : FnOk P w K mg base (L2.CX P w) j A.f_Verdict_pairs A.d_Verdict_pairs ["self"] (spT K mg w 1 F.Verdict_pairs)
  Verdict___or__ : FnOk P w K mg base (L2.CX P w) j A.f_Verdict___or__ A.d_Verdict___or__ ["self", "other"] (spT K mg w 2 F.Verdict___or__)
  Verdict___and__ : FnOk P w K mg base (L2.CX P w) j A.f_Verdict___and__ A.d_Verdict___and__ ["self", "other"] (spT K mg w 2 F.Verdict___and__)
  Verdict___sub__ : FnOk P w K mg base (L2.CX P w) j A.f_Verdict___sub__ A.d_Verdict___sub__ ["self", "other"] (spT K mg w 2 F.Verdict___sub__)
  Verdict___xor__ : FnOk P w K mg base (L2.CX P w) j A.f_Verdict___xor__ A.d_Verdict___xor__ ["self", "other"] (spT K mg w 2 F.Verdict___xor__)
  Verdict___eq__ : FnOk P w K mg base (L2.CX P w) j A.f_Verdict___eq__ A.d_Verdict___eq__ ["self", "other"] (spT K mg w 2 F.Verdict___eq__)
  Verdict___len__ : FnOk P w K mg base (L2.CX P w) j A.f_Verdict___len__ A.d_Verdict___len__ ["self"] (spT K mg w 1 F.Verdict___len__)
  Verdict___contains__ : FnOk P w K mg base (L2.CX P w) j A.f_Verdict___contains__ A.d_Verdict___contains__ ["self", "pair"] (spT K mg w 2 F.Verdict___contains__)
  Verdict___bool__ : FnOk P w K mg base (L2.CX P w) j A.f_Verdict___bool__ A.d_Verdict___bool__ ["self"] (spT K mg w 1 F.Verdict___bool__)
  _law_same : FnOk P w K mg base (L2.CX P w) j A.f__law_same A.d__law_same ["_law_one", "_law_two"] (spT K mg w 2 F._law_same)
  _law_pair : FnOk P w K mg base (L2.CX P w) j A.f__law_pair A.d__law_pair ["_law_cell"] (spT K mg w 1 F._law_pair)
  _law_rows : FnOk P w K mg base (L2.CX P w) j A.f__law_rows A.d__law_rows ["_law_script", "_law_part"] (spT K mg w 2 F._law_rows)
  _law_holds : FnOk P w K mg base (L2.CX P w) j A.f__law_holds A.d__law_holds ["_law_verdict", "_law_due"] (spT K mg w 2 F._law_holds)
  _law_is_kept : FnOk P w K mg base (L2.CX P w) j A.f__law_is_kept A.d__law_is_kept ["_law_first", "_law_second", "_law_one", "_law_two"] (spT K mg w 4 F._law_is_kept)
  law : FnOk P w K mg base (L2.CX P w) j A.f_law A.d_law ["_law_script"] (spT K mg w 1 F.law)
theorem sc_check_kind : FnScope ["kind"] ["kind"] (defScope st_check_kind) := ⟨rfl, rfl, rfl, by decide +kernel, rfl, by decide +kernel, by decide +kernel⟩
theorem der_check_kind (tx : Txt w K mg A) (ex : Exs P w K mg base A) (O : Oks P w K mg base A j F) : FnOk P w K mg base (L2.CX P w) (j + 3) A.f_check_kind A.d_check_kind ["kind"] (spT K mg w 1 (defRun 1 (b_check_kind F))) := by
  have S := sc_check_kind
  refine fn_T tx.u_check_kind S fun cdv Ar outer s H E hr tk hp => ?_
  have hr0 := hr.mono (Nat.le_add_right _ _)
  have hr1 := hr.mono (Nat.le_succ _)
  have hr2 := hr.mono (Nat.le_add_left 2 _)
  have hu := hu65 hr
  exact (ds_cons (ds_if (dt_cmp (os_notin hu) nx_notin (dv 0) (dgk tx.c_KINDS) rfl)
  (ds_cons (ds_raise1 rfl tk tx.ox_InvalidKind tx.xi_InvalidKind tx.xt_InvalidKind ex.F_InvalidKind hr2 tx.b_InvalidKind rfl tx.g_InvalidKind (da_cons (dv 0) da_nil))
   ds_nil)
  ds_nil)
  ds_nil)
theorem sc_Verdict_init : FnScope ["self", "pairs", "pair", "kind", "field"] ["self", "pairs"] (defScope st_Verdict_init) := ⟨rfl, rfl, rfl, by decide +kernel, rfl, by decide +kernel, by decide +kernel⟩
theorem der_Verdict_init (tx : Txt w K mg A) (ex : Exs P w K mg base A) (O : Oks P w K mg base A j F) : FnOk P w K mg base (L2.CX P w) (j + 3) A.f_Verdict_init A.d_Verdict_init ["self", "pairs"] (spT K mg w 2 (defRun 5 (b_Verdict_init F))) := by
  have S := sc_Verdict_init
  refine fn_T tx.u_Verdict_init S fun cdv Ar outer s H E hr tk hp => ?_
  have hr0 := hr.mono (Nat.le_add_right _ _)
  have hr1 := hr.mono (Nat.le_succ _)
  have hr2 := hr.mono (Nat.le_add_left 2 _)
  have hu := hu65 hr
  exact (ds_cons (ds_for hp rfl (di_e (dv 1)) (dg_name (i := 2) S.nd rfl (by first | exact Or.inl rfl | exact Or.inr rfl))
  (ds_cons (ds_expr (de_call (ps := ["kind"]) O.check_kind hr0 rfl tx.g_check_kind tx.u_check_kind.kp tx.b_check_kind tk (da_cons (de_ix (dv 2) de_int) da_nil)))
   ds_nil))
  (ds_cons (ds_fld tx.cs (dv 0) (de_lc (dl_lc2 (own := [("kind", 3), ("field", 4)]) (vs1 := [4]) rfl S.nd (di_e (dgk tx.c_KINDS)) (blkOk_by rfl) (fun _ _ _ _ _ => (dg_name (i := 3) S.nd rfl (by first | exact Or.inl rfl | exact Or.inr rfl))) (fun _ _ _ _ _ => dts_nil) (fun _ _ _ _ _ => (di_e (de_sortSc (own := [("pair", 2)]) rfl hu S.nd rfl tx.n_sorted (di_e (dv 1)) (blkOk_by rfl) (fun _ _ _ _ _ => (dg_name (i := 2) S.nd rfl (by first | exact Or.inl rfl | exact Or.inr rfl))) (fun _ _ _ _ _ => (dts_one (dt_cmp (os_eq hu) nx_eq (de_ix (dv 2) de_int) (dv 3) rfl))) (fun _ _ _ _ _ => (de_ix (dv 2) de_int))))) (fun _ _ _ _ _ => (dg_name (i := 4) S.nd rfl (by first | exact Or.inl rfl | exact Or.inr rfl))) (fun _ _ _ _ _ => dts_nil) (fun _ _ _ _ _ => (de_tup (da_cons (dv 3) (da_cons (dv 4) da_nil)))))))
  ds_nil))
theorem sc_Verdict_pairs : FnScope ["self"] ["self"] (defScope st_Verdict_pairs) := ⟨rfl, rfl, rfl, by decide +kernel, rfl, by decide +kernel, by decide +kernel⟩
theorem der_Verdict_pairs (tx : Txt w K mg A) (ex : Exs P w K mg base A) (O : Oks P w K mg base A j F) : FnOk P w K mg base (L2.CX P w) (j + 3) A.f_Verdict_pairs A.d_Verdict_pairs ["self"] (spT K mg w 1 (defRun 1 (b_Verdict_pairs F))) := by
  have S := sc_Verdict_pairs
  refine fn_T tx.u_Verdict_pairs S fun cdv Ar outer s H E hr tk hp => ?_
  have hr0 := hr.mono (Nat.le_add_right _ _)
  have hr1 := hr.mono (Nat.le_succ _)
  have hr2 := hr.mono (Nat.le_add_left 2 _)
  have hu := hu65 hr
  exact (ds_cons (ds_ret (de_callTy cs_list nx_list rfl tx.n_list boot_list (da_cons (de_fld tx.cs (dv 0)) da_nil)))
  ds_nil)
theorem sc_Verdict___or__ : FnScope ["self", "other"] ["self", "other"] (defScope st_Verdict___or__) := ⟨rfl, rfl, rfl, by decide +kernel, rfl, by decide +kernel, by decide +kernel⟩
theorem der_Verdict___or__ (tx : Txt w K mg A) (ex : Exs P w K mg base A) (O : Oks P w K mg base A j F) : FnOk P w K mg base (L2.CX P w) (j + 3) A.f_Verdict___or__ A.d_Verdict___or__ ["self", "other"] (spT K mg w 2 (defRun 2 (b_Verdict___or__ F))) := by
  have S := sc_Verdict___or__
  refine fn_T tx.u_Verdict___or__ S fun cdv Ar outer s H E hr tk hp => ?_
  have hr0 := hr.mono (Nat.le_add_right _ _)
  have hr1 := hr.mono (Nat.le_succ _)
  have hr2 := hr.mono (Nat.le_add_left 2 _)
  have hu := hu65 hr
  exact (ds_cons (ds_ret (de_make (ps := ["self", "pairs"]) tx.m_Verdict O.Verdict_init hr1 rfl tx.g_Verdict tx.b_Verdict_init tk (da_cons (de_lst (da_star (de_fld tx.cs (dv 0)) (da_star (de_fld tx.cs (dv 1)) da_nil))) da_nil)))
  ds_nil)
theorem sc_Verdict___and__ : FnScope ["self", "other", "pair"] ["self", "other"] (defScope st_Verdict___and__) := ⟨rfl, rfl, rfl, by decide +kernel, rfl, by decide +kernel, by decide +kernel⟩
theorem der_Verdict___and__ (tx : Txt w K mg A) (ex : Exs P w K mg base A) (O : Oks P w K mg base A j F) : FnOk P w K mg base (L2.CX P w) (j + 3) A.f_Verdict___and__ A.d_Verdict___and__ ["self", "other"] (spT K mg w 2 (defRun 3 (b_Verdict___and__ F))) := by
  have S := sc_Verdict___and__
  refine fn_T tx.u_Verdict___and__ S fun cdv Ar outer s H E hr tk hp => ?_
  have hr0 := hr.mono (Nat.le_add_right _ _)
  have hr1 := hr.mono (Nat.le_succ _)
  have hr2 := hr.mono (Nat.le_add_left 2 _)
  have hu := hu65 hr
  exact (ds_cons (ds_ret (de_make (ps := ["self", "pairs"]) tx.m_Verdict O.Verdict_init hr1 rfl tx.g_Verdict tx.b_Verdict_init tk (da_cons (de_lc (dl_lc (own := [("pair", 2)]) rfl S.nd (di_e (de_fld tx.cs (dv 0))) (blkOk_by rfl) (fun _ _ _ _ _ => (dg_name (i := 2) S.nd rfl (by first | exact Or.inl rfl | exact Or.inr rfl))) (fun _ _ _ _ _ => (dts_one (dt_cmp (os_in hu) nx_in (dv 2) (de_fld tx.cs (dv 1)) rfl))) (fun _ _ _ _ _ => (dv 2)))) da_nil)))
  ds_nil)
theorem sc_Verdict___sub__ : FnScope ["self", "other", "pair"] ["self", "other"] (defScope st_Verdict___sub__) := ⟨rfl, rfl, rfl, by decide +kernel, rfl, by decide +kernel, by decide +kernel⟩
theorem der_Verdict___sub__ (tx : Txt w K mg A) (ex : Exs P w K mg base A) (O : Oks P w K mg base A j F) : FnOk P w K mg base (L2.CX P w) (j + 3) A.f_Verdict___sub__ A.d_Verdict___sub__ ["self", "other"] (spT K mg w 2 (defRun 3 (b_Verdict___sub__ F))) := by
  have S := sc_Verdict___sub__
  refine fn_T tx.u_Verdict___sub__ S fun cdv Ar outer s H E hr tk hp => ?_
  have hr0 := hr.mono (Nat.le_add_right _ _)
  have hr1 := hr.mono (Nat.le_succ _)
  have hr2 := hr.mono (Nat.le_add_left 2 _)
  have hu := hu65 hr
  exact (ds_cons (ds_ret (de_make (ps := ["self", "pairs"]) tx.m_Verdict O.Verdict_init hr1 rfl tx.g_Verdict tx.b_Verdict_init tk (da_cons (de_lc (dl_lc (own := [("pair", 2)]) rfl S.nd (di_e (de_fld tx.cs (dv 0))) (blkOk_by rfl) (fun _ _ _ _ _ => (dg_name (i := 2) S.nd rfl (by first | exact Or.inl rfl | exact Or.inr rfl))) (fun _ _ _ _ _ => (dts_one (dt_cmp (os_notin hu) nx_notin (dv 2) (de_fld tx.cs (dv 1)) rfl))) (fun _ _ _ _ _ => (dv 2)))) da_nil)))
  ds_nil)
theorem sc_Verdict___xor__ : FnScope ["self", "other", "mine", "pair", "yours"] ["self", "other"] (defScope st_Verdict___xor__) := ⟨rfl, rfl, rfl, by decide +kernel, rfl, by decide +kernel, by decide +kernel⟩
theorem der_Verdict___xor__ (tx : Txt w K mg A) (ex : Exs P w K mg base A) (O : Oks P w K mg base A j F) : FnOk P w K mg base (L2.CX P w) (j + 3) A.f_Verdict___xor__ A.d_Verdict___xor__ ["self", "other"] (spT K mg w 2 (defRun 5 (b_Verdict___xor__ F))) := by
  have S := sc_Verdict___xor__
  refine fn_T tx.u_Verdict___xor__ S fun cdv Ar outer s H E hr tk hp => ?_
  have hr0 := hr.mono (Nat.le_add_right _ _)
  have hr1 := hr.mono (Nat.le_succ _)
  have hr2 := hr.mono (Nat.le_add_left 2 _)
  have hu := hu65 hr
  exact (ds_cons (ds_setLc (i := 2) (own := [("pair", 3)]) rfl S.nd rfl rfl (sw_true rfl rfl rfl (by decide +kernel)) (di_e (de_fld tx.cs (dv 0))) (blkOk_by rfl) (fun _ _ _ _ _ => (dg_name (i := 3) S.nd rfl (by first | exact Or.inl rfl | exact Or.inr rfl))) (fun _ _ _ _ _ => (dts_one (dt_cmp (os_notin hu) nx_notin (dv 3) (de_fld tx.cs (dv 1)) rfl))) (fun _ _ _ _ _ => (dv 3)))
  (ds_cons (ds_setLc (i := 4) (own := [("pair", 3)]) rfl S.nd rfl rfl (sw_true rfl rfl rfl (by decide +kernel)) (di_e (de_fld tx.cs (dv 1))) (blkOk_by rfl) (fun _ _ _ _ _ => (dg_name (i := 3) S.nd rfl (by first | exact Or.inl rfl | exact Or.inr rfl))) (fun _ _ _ _ _ => (dts_one (dt_cmp (os_notin hu) nx_notin (dv 3) (de_fld tx.cs (dv 0)) rfl))) (fun _ _ _ _ _ => (dv 3)))
  (ds_cons (ds_ret (de_make (ps := ["self", "pairs"]) tx.m_Verdict O.Verdict_init hr1 rfl tx.g_Verdict tx.b_Verdict_init tk (da_cons (de_lst (da_star (dv 2) (da_star (dv 4) da_nil))) da_nil)))
  ds_nil)))
theorem sc_Verdict___eq__ : FnScope ["self", "other"] ["self", "other"] (defScope st_Verdict___eq__) := ⟨rfl, rfl, rfl, by decide +kernel, rfl, by decide +kernel, by decide +kernel⟩
theorem der_Verdict___eq__ (tx : Txt w K mg A) (ex : Exs P w K mg base A) (O : Oks P w K mg base A j F) : FnOk P w K mg base (L2.CX P w) (j + 3) A.f_Verdict___eq__ A.d_Verdict___eq__ ["self", "other"] (spT K mg w 2 (defRun 2 (b_Verdict___eq__ F))) := by
  have S := sc_Verdict___eq__
  refine fn_T tx.u_Verdict___eq__ S fun cdv Ar outer s H E hr tk hp => ?_
  have hr0 := hr.mono (Nat.le_add_right _ _)
  have hr1 := hr.mono (Nat.le_succ _)
  have hr2 := hr.mono (Nat.le_add_left 2 _)
  have hu := hu65 hr
  exact (ds_cons (ds_ret (de_and (de_isO tx.io_Verdict rfl tx.n_isinstance rfl tx.g_Verdict (dv 1)) (de_and1 (de_cmp (os_eq hu) nx_eq (de_fld tx.cs (dv 0)) (de_fld tx.cs (dv 1)) rfl))))
  ds_nil)
theorem sc_Verdict___len__ : FnScope ["self"] ["self"] (defScope st_Verdict___len__) := ⟨rfl, rfl, rfl, by decide +kernel, rfl, by decide +kernel, by decide +kernel⟩
theorem der_Verdict___len__ (tx : Txt w K mg A) (ex : Exs P w K mg base A) (O : Oks P w K mg base A j F) : FnOk P w K mg base (L2.CX P w) (j + 3) A.f_Verdict___len__ A.d_Verdict___len__ ["self"] (spT K mg w 1 (defRun 1 (b_Verdict___len__ F))) := by
  have S := sc_Verdict___len__
  refine fn_T tx.u_Verdict___len__ S fun cdv Ar outer s H E hr tk hp => ?_
  have hr0 := hr.mono (Nat.le_add_right _ _)
  have hr1 := hr.mono (Nat.le_succ _)
  have hr2 := hr.mono (Nat.le_add_left 2 _)
  have hu := hu65 hr
  exact (ds_cons (ds_ret (de_callB cs_len nx_len rfl tx.n_len boot_len (da_cons (de_fld tx.cs (dv 0)) da_nil)))
  ds_nil)
theorem sc_Verdict___contains__ : FnScope ["self", "pair"] ["self", "pair"] (defScope st_Verdict___contains__) := ⟨rfl, rfl, rfl, by decide +kernel, rfl, by decide +kernel, by decide +kernel⟩
theorem der_Verdict___contains__ (tx : Txt w K mg A) (ex : Exs P w K mg base A) (O : Oks P w K mg base A j F) : FnOk P w K mg base (L2.CX P w) (j + 3) A.f_Verdict___contains__ A.d_Verdict___contains__ ["self", "pair"] (spT K mg w 2 (defRun 2 (b_Verdict___contains__ F))) := by
  have S := sc_Verdict___contains__
  refine fn_T tx.u_Verdict___contains__ S fun cdv Ar outer s H E hr tk hp => ?_
  have hr0 := hr.mono (Nat.le_add_right _ _)
  have hr1 := hr.mono (Nat.le_succ _)
  have hr2 := hr.mono (Nat.le_add_left 2 _)
  have hu := hu65 hr
  exact (ds_cons (ds_ret (de_cmp (os_in hu) nx_in (dv 1) (de_fld tx.cs (dv 0)) rfl))
  ds_nil)
theorem sc_Verdict___bool__ : FnScope ["self"] ["self"] (defScope st_Verdict___bool__) := ⟨rfl, rfl, rfl, by decide +kernel, rfl, by decide +kernel, by decide +kernel⟩
theorem der_Verdict___bool__ (tx : Txt w K mg A) (ex : Exs P w K mg base A) (O : Oks P w K mg base A j F) : FnOk P w K mg base (L2.CX P w) (j + 3) A.f_Verdict___bool__ A.d_Verdict___bool__ ["self"] (spT K mg w 1 (defRun 1 (b_Verdict___bool__ F))) := by
  have S := sc_Verdict___bool__
  refine fn_T tx.u_Verdict___bool__ S fun cdv Ar outer s H E hr tk hp => ?_
  have hr0 := hr.mono (Nat.le_add_right _ _)
  have hr1 := hr.mono (Nat.le_succ _)
  have hr2 := hr.mono (Nat.le_add_left 2 _)
  have hu := hu65 hr
  exact (ds_cons (ds_ret (de_callTy cs_boolL nx_boolL rfl tx.n_bool boot_bool (da_cons (de_fld tx.cs (dv 0)) da_nil)))
  ds_nil)
theorem sc__law_same : FnScope ["_law_one", "_law_two", "_law_k"] ["_law_one", "_law_two"] (defScope st__law_same) := ⟨rfl, rfl, rfl, by decide +kernel, rfl, by decide +kernel, by decide +kernel⟩
theorem der__law_same (tx : Txt w K mg A) (ex : Exs P w K mg base A) (O : Oks P w K mg base A j F) : FnOk P w K mg base (L2.CX P w) (j + 3) A.f__law_same A.d__law_same ["_law_one", "_law_two"] (spT K mg w 2 (defRun 3 (b__law_same F))) := by
  have S := sc__law_same
  refine fn_T tx.u__law_same S fun cdv Ar outer s H E hr tk hp => ?_
  have hr0 := hr.mono (Nat.le_add_right _ _)
  have hr1 := hr.mono (Nat.le_succ _)
  have hr2 := hr.mono (Nat.le_add_left 2 _)
  have hu := hu65 hr
  exact (ds_cons (ds_if (dt_w (dw_or (dt_val (de_isk2 .tuple .list boot_tuple boot_list rfl tx.n_isinstance rfl tx.n_tuple rfl tx.n_list (dv 0))) (dw_or1 (dt_val (de_isk2 .tuple .list boot_tuple boot_list rfl tx.n_isinstance rfl tx.n_tuple rfl tx.n_list (dv 1))))))
  (ds_cons (ds_if (dt_w (dw_or (dt_cmp (os_ne hu) nx_ne (de_isk .tuple boot_tuple rfl tx.n_isinstance rfl tx.n_tuple (dv 0)) (de_isk .tuple boot_tuple rfl tx.n_isinstance rfl tx.n_tuple (dv 1)) rfl) (dw_or1 (dt_cmp (os_ne hu) nx_ne (de_isk .list boot_list rfl tx.n_isinstance rfl tx.n_list (dv 0)) (de_isk .list boot_list rfl tx.n_isinstance rfl tx.n_list (dv 1)) rfl))))
   (ds_cons (ds_ret de_bl)
    ds_nil)
   ds_nil)
   (ds_cons (ds_if (dt_cmp (os_ne hu) nx_ne (de_callB cs_len nx_len rfl tx.n_len boot_len (da_cons (dv 0) da_nil)) (de_callB cs_len nx_len rfl tx.n_len boot_len (da_cons (dv 1) da_nil)) rfl)
   (ds_cons (ds_ret de_bl)
    ds_nil)
   ds_nil)
   (ds_cons (ds_for hp rfl (di_range1 rfl tx.n_range (da_cons (de_callB cs_len nx_len rfl tx.n_len boot_len (da_cons (dv 0) da_nil)) da_nil)) (dg_name (i := 2) S.nd rfl (by first | exact Or.inl rfl | exact Or.inr rfl))
   (ds_cons (ds_if (dt_not (dt_val (de_call (ps := ["_law_one", "_law_two"]) O._law_same hr0 rfl tx.g__law_same tx.u__law_same.kp tx.b__law_same tk (da_cons (de_ix (dv 0) (dv 2)) (da_cons (de_ix (dv 1) (dv 2)) da_nil)))))
    (ds_cons (ds_ret de_bl)
     ds_nil)
    ds_nil)
    ds_nil))
   (ds_cons (ds_ret de_bl)
   ds_nil))))
  ds_nil)
  (ds_cons (ds_ret (de_and (de_cmp (os_eq hu) nx_eq (de_isk .bool boot_bool rfl tx.n_isinstance rfl tx.n_bool (dv 0)) (de_isk .bool boot_bool rfl tx.n_isinstance rfl tx.n_bool (dv 1)) rfl) (de_and1 (de_cmp (os_eq hu) nx_eq (dv 0) (dv 1) rfl))))
  ds_nil))
theorem sc__law_pair : FnScope ["_law_cell", "_law_kinds", "_law_letters", "_law_field"] ["_law_cell"] (defScope st__law_pair) := ⟨rfl, rfl, rfl, by decide +kernel, rfl, by decide +kernel, by decide +kernel⟩
theorem der__law_pair (tx : Txt w K mg A) (ex : Exs P w K mg base A) (O : Oks P w K mg base A j F) : FnOk P w K mg base (L2.CX P w) (j + 3) A.f__law_pair A.d__law_pair ["_law_cell"] (spT K mg w 1 (defRun 4 (b__law_pair F))) := by
  have S := sc__law_pair
  refine fn_T tx.u__law_pair S fun cdv Ar outer s H E hr tk hp => ?_
  have hr0 := hr.mono (Nat.le_add_right _ _)
  have hr1 := hr.mono (Nat.le_succ _)
  have hr2 := hr.mono (Nat.le_add_left 2 _)
  have hu := hu65 hr
  exact (ds_cons (ds_set (i := 1) S.nd rfl (by first | exact Or.inl rfl | exact Or.inr rfl) (de_lst (da_cons (de_str (by decide +kernel)) (da_cons (de_str (by decide +kernel)) (da_cons (de_str (by decide +kernel)) (da_cons (de_str (by decide +kernel)) (da_cons (de_str (by decide +kernel)) (da_cons (de_str (by decide +kernel)) (da_cons (de_str (by decide +kernel)) da_nil)))))))))
  (ds_cons (ds_set (i := 2) S.nd rfl (by first | exact Or.inl rfl | exact Or.inr rfl) (de_str (by decide +kernel)))
  (ds_cons (ds_set (i := 3) S.nd rfl (by first | exact Or.inl rfl | exact Or.inr rfl) (de_ix (dv 2) (de_op os_mod nx_mod (de_callTy cs_int nx_bint rfl tx.n_int boot_int (da_cons (de_op os_div nx_div (dv 0) de_int) da_nil)) de_int)))
  (ds_cons (ds_if (dt_cmp (os_eq hu) nx_eq (de_op os_mod nx_mod (de_callTy cs_int nx_bint rfl tx.n_int boot_int (da_cons (de_op os_div nx_div (dv 0) de_int) da_nil)) de_int) de_int rfl)
  (ds_cons (ds_set (i := 3) S.nd rfl (by first | exact Or.inl rfl | exact Or.inr rfl) (de_op os_add nx_add (dv 3) (de_ix (dv 2) (de_op os_mod nx_mod (de_callTy cs_int nx_bint rfl tx.n_int boot_int (da_cons (de_op os_div nx_div (dv 0) de_int) da_nil)) de_int))))
   ds_nil)
  ds_nil)
  (ds_cons (ds_ret (de_tup (da_cons (de_ix (dv 1) (de_op os_mod nx_mod (de_callTy cs_int nx_bint rfl tx.n_int boot_int (da_cons (dv 0) da_nil)) de_int)) (da_cons (dv 3) da_nil))))
  ds_nil)))))
theorem sc__law_rows : FnScope ["_law_script", "_law_part", "_law_k"] ["_law_script", "_law_part"] (defScope st__law_rows) := ⟨rfl, rfl, rfl, by decide +kernel, rfl, by decide +kernel, by decide +kernel⟩
theorem der__law_rows (tx : Txt w K mg A) (ex : Exs P w K mg base A) (O : Oks P w K mg base A j F) : FnOk P w K mg base (L2.CX P w) (j + 3) A.f__law_rows A.d__law_rows ["_law_script", "_law_part"] (spT K mg w 2 (defRun 3 (b__law_rows F))) := by
  have S := sc__law_rows
  refine fn_T tx.u__law_rows S fun cdv Ar outer s H E hr tk hp => ?_
  have hr0 := hr.mono (Nat.le_add_right _ _)
  have hr1 := hr.mono (Nat.le_succ _)
  have hr2 := hr.mono (Nat.le_add_left 2 _)
  have hu := hu65 hr
  exact (ds_cons (ds_ret (de_lc (dl_lc (own := [("_law_k", 2)]) rfl S.nd (di_range1 rfl tx.n_range (da_cons (de_callB (cs_min2 rfl) nx_min2 rfl tx.n_min boot_min (da_cons de_int (da_cons (de_callB cs_len nx_len rfl tx.n_len boot_len (da_cons (dv 0) da_nil)) da_nil))) da_nil)) (blkOk_by rfl) (fun _ _ _ _ _ => (dg_name (i := 2) S.nd rfl (by first | exact Or.inl rfl | exact Or.inr rfl))) (fun _ _ _ _ _ => (dts_one (dt_w (dw_or (dt_cmp (os_eq hu) nx_eq (de_op os_mod nx_mod (de_callTy cs_int nx_bint rfl tx.n_int boot_int (da_cons (dv 2) da_nil)) de_int) (dv 1) rfl) (dw_or1 (dt_cmp (os_eq hu) nx_eq (de_op os_mod nx_mod (de_callTy cs_int nx_bint rfl tx.n_int boot_int (da_cons (de_ix (dv 0) (dv 2)) da_nil)) de_int) de_int rfl)))))) (fun _ _ _ _ _ => (de_call (ps := ["_law_cell"]) O._law_pair hr0 rfl tx.g__law_pair tx.u__law_pair.kp tx.b__law_pair takes0 (da_cons (de_ix (dv 0) (dv 2)) da_nil))))))
  ds_nil)
theorem sc__law_holds : FnScope ["_law_verdict", "_law_due", "_law_told", "_law_pair_here", "_law_k"] ["_law_verdict", "_law_due"] (defScope st__law_holds) := ⟨rfl, rfl, rfl, by decide +kernel, rfl, by decide +kernel, by decide +kernel⟩
theorem der__law_holds (tx : Txt w K mg A) (ex : Exs P w K mg base A) (O : Oks P w K mg base A j F) : FnOk P w K mg base (L2.CX P w) (j + 3) A.f__law_holds A.d__law_holds ["_law_verdict", "_law_due"] (spT K mg w 2 (defRun 5 (b__law_holds F))) := by
  have S := sc__law_holds
  refine fn_T tx.u__law_holds S fun cdv Ar outer s H E hr tk hp => ?_
  have hr0 := hr.mono (Nat.le_add_right _ _)
  have hr1 := hr.mono (Nat.le_succ _)
  have hr2 := hr.mono (Nat.le_add_left 2 _)
  have hu := hu65 hr
  exact (ds_cons (ds_set (i := 2) S.nd rfl (by first | exact Or.inl rfl | exact Or.inr rfl) (de_meth0 (ps := ["self"]) tx.g_Verdict tx.cc_Verdict tx.h_Verdict_pairs O.Verdict_pairs hr0 tx.b_Verdict_pairs tk (dv 0)))
  (ds_cons (ds_if (dt_w (dw_or (dt_cmp (os_ne hu) nx_ne (de_callB cs_len nx_len rfl tx.n_len boot_len (da_cons (dv 2) da_nil)) (de_callB (cs_lenO tx.g_Verdict tx.sp_Verdict___len__.1 tx.sp_Verdict___len__.2 O.Verdict___len__ hr1 tx.b_Verdict___len__) (nx_lenO nx_len) rfl tx.n_len boot_len (da_cons (dv 0) da_nil)) rfl) (dw_or1 (dt_cmp (os_ne hu) nx_ne (de_callTy (cs_boolO2 tx.g_Verdict tx.sp_Verdict___bool__.1 tx.sp_Verdict___bool__.2 O.Verdict___bool__ hr tx.b_Verdict___bool__) nx_boolO2 rfl tx.n_bool boot_bool (da_cons (dv 0) da_nil)) (de_cmp os_gt nx_gt (de_callB cs_len nx_len rfl tx.n_len boot_len (da_cons (dv 2) da_nil)) de_int rfl) rfl))))
  (ds_cons (ds_ret de_bl)
   ds_nil)
  ds_nil)
  (ds_cons (ds_for hp rfl (di_e (dv 2)) (dg_name (i := 3) S.nd rfl (by first | exact Or.inl rfl | exact Or.inr rfl))
  (ds_cons (ds_if (dt_w (dw_or (dt_cmp (os_notin hu) nx_notin (dv 3) (dv 1) rfl) (dw_or1 (dt_cmp os_isnot nx_isnot (de_cmp (op_inO tx.g_Verdict tx.sp_Verdict___contains__.1 tx.sp_Verdict___contains__.2 O.Verdict___contains__ hr0 tx.b_Verdict___contains__ (os_in hu)) nx_inO (dv 3) (dv 0) rfl) de_bl rfl))))
   (ds_cons (ds_ret de_bl)
    ds_nil)
   ds_nil)
   ds_nil))
  (ds_cons (ds_for hp rfl (di_e (dv 1)) (dg_name (i := 3) S.nd rfl (by first | exact Or.inl rfl | exact Or.inr rfl))
  (ds_cons (ds_if (dt_cmp (os_notin hu) nx_notin (dv 3) (dv 2) rfl)
   (ds_cons (ds_ret de_bl)
    ds_nil)
   ds_nil)
   ds_nil))
  (ds_cons (ds_ret (de_cmp (os_eq hu) nx_eq (de_callB cs_len nx_len rfl tx.n_len boot_len (da_cons (de_lc (dl_lc (own := [("_law_k", 4)]) rfl S.nd (di_range1 rfl tx.n_range (da_cons (de_callB cs_len nx_len rfl tx.n_len boot_len (da_cons (dv 2) da_nil)) da_nil)) (blkOk_by rfl) (fun _ _ _ _ _ => (dg_name (i := 4) S.nd rfl (by first | exact Or.inl rfl | exact Or.inr rfl))) (fun _ _ _ _ _ => (dts_one (dt_cmp (os_in hu) nx_in (de_ix (dv 2) (dv 4)) (de_sl (dv 2) do_none (do_some (dv 4))) rfl))) (fun _ _ _ _ _ => (dv 4)))) da_nil)) de_int rfl))
  ds_nil)))))
theorem sc__law_is_kept : FnScope ["_law_first", "_law_second", "_law_one", "_law_two", "_law_told", "_law_pair_here", "_law_due"] ["_law_first", "_law_second", "_law_one", "_law_two"] (defScope st__law_is_kept) := ⟨rfl, rfl, rfl, by decide +kernel, rfl, by decide +kernel, by decide +kernel⟩
theorem der__law_is_kept (tx : Txt w K mg A) (ex : Exs P w K mg base A) (O : Oks P w K mg base A j F) : FnOk P w K mg base (L2.CX P w) (j + 3) A.f__law_is_kept A.d__law_is_kept ["_law_first", "_law_second", "_law_one", "_law_two"] (spT K mg w 4 (defRun 7 (b__law_is_kept F))) := by
  have S := sc__law_is_kept
  refine fn_T tx.u__law_is_kept S fun cdv Ar outer s H E hr tk hp => ?_
  have hr0 := hr.mono (Nat.le_add_right _ _)
  have hr1 := hr.mono (Nat.le_succ _)
  have hr2 := hr.mono (Nat.le_add_left 2 _)
  have hu := hu65 hr
  exact (ds_cons (ds_set (i := 4) S.nd rfl (by first | exact Or.inl rfl | exact Or.inr rfl) (dv 0))
  (ds_cons (ds_augB (i := 4) (by decide +kernel) (by decide +kernel) S.nd rfl (by first | exact Or.inl rfl | exact Or.inr rfl) tx.g_Verdict tx.m2_Verdict tx.ni_Verdict_or tx.no_or tx.sp_Verdict___or__.1 tx.sp_Verdict___or__.2 O.Verdict___or__ hr0 tx.b_Verdict___or__ (dv 1))
  (ds_cons (ds_if (dt_w (dw_or (dt_not (dt_val (de_call (ps := ["_law_verdict", "_law_due"]) O._law_holds hr0 rfl tx.g__law_holds tx.u__law_holds.kp tx.b__law_holds tk (da_cons (dv 4) (da_cons (de_op os_add nx_add (dv 2) (dv 3)) da_nil))))) (dw_or1 (dt_not (dt_val (de_call (ps := ["_law_verdict", "_law_due"]) O._law_holds hr0 rfl tx.g__law_holds tx.u__law_holds.kp tx.b__law_holds tk (da_cons (dv 0) (da_cons (dv 2) da_nil))))))))
  (ds_cons (ds_ret de_bl)
   ds_nil)
  ds_nil)
  (ds_cons (ds_set (i := 4) S.nd rfl (by first | exact Or.inl rfl | exact Or.inr rfl) (dv 0))
  (ds_cons (ds_augB (i := 4) (by decide +kernel) (by decide +kernel) S.nd rfl (by first | exact Or.inl rfl | exact Or.inr rfl) tx.g_Verdict tx.m2_Verdict tx.ni_Verdict_and tx.no_and tx.sp_Verdict___and__.1 tx.sp_Verdict___and__.2 O.Verdict___and__ hr0 tx.b_Verdict___and__ (dv 1))
  (ds_cons (ds_if (dt_w (dw_or (dt_not (dt_val (de_call (ps := ["_law_verdict", "_law_due"]) O._law_holds hr0 rfl tx.g__law_holds tx.u__law_holds.kp tx.b__law_holds tk (da_cons (dv 4) (da_cons (de_lc (dl_lc (own := [("_law_pair_here", 5)]) rfl S.nd (di_e (dv 2)) (blkOk_by rfl) (fun _ _ _ _ _ => (dg_name (i := 5) S.nd rfl (by first | exact Or.inl rfl | exact Or.inr rfl))) (fun _ _ _ _ _ => (dts_one (dt_cmp (os_in hu) nx_in (dv 5) (dv 3) rfl))) (fun _ _ _ _ _ => (dv 5)))) da_nil))))) (dw_or1 (dt_not (dt_val (de_call (ps := ["_law_verdict", "_law_due"]) O._law_holds hr0 rfl tx.g__law_holds tx.u__law_holds.kp tx.b__law_holds tk (da_cons (dv 0) (da_cons (dv 2) da_nil))))))))
  (ds_cons (ds_ret de_bl)
   ds_nil)
  ds_nil)
  (ds_cons (ds_set (i := 4) S.nd rfl (by first | exact Or.inl rfl | exact Or.inr rfl) (dv 0))
  (ds_cons (ds_augB (i := 4) (by decide +kernel) (by decide +kernel) S.nd rfl (by first | exact Or.inl rfl | exact Or.inr rfl) tx.g_Verdict tx.m2_Verdict tx.ni_Verdict_sub tx.no_sub tx.sp_Verdict___sub__.1 tx.sp_Verdict___sub__.2 O.Verdict___sub__ hr0 tx.b_Verdict___sub__ (dv 1))
  (ds_cons (ds_if (dt_w (dw_or (dt_not (dt_val (de_call (ps := ["_law_verdict", "_law_due"]) O._law_holds hr0 rfl tx.g__law_holds tx.u__law_holds.kp tx.b__law_holds tk (da_cons (dv 4) (da_cons (de_lc (dl_lc (own := [("_law_pair_here", 5)]) rfl S.nd (di_e (dv 2)) (blkOk_by rfl) (fun _ _ _ _ _ => (dg_name (i := 5) S.nd rfl (by first | exact Or.inl rfl | exact Or.inr rfl))) (fun _ _ _ _ _ => (dts_one (dt_cmp (os_notin hu) nx_notin (dv 5) (dv 3) rfl))) (fun _ _ _ _ _ => (dv 5)))) da_nil))))) (dw_or1 (dt_not (dt_val (de_call (ps := ["_law_verdict", "_law_due"]) O._law_holds hr0 rfl tx.g__law_holds tx.u__law_holds.kp tx.b__law_holds tk (da_cons (dv 0) (da_cons (dv 2) da_nil))))))))
  (ds_cons (ds_ret de_bl)
   ds_nil)
  ds_nil)
  (ds_cons (ds_set (i := 4) S.nd rfl (by first | exact Or.inl rfl | exact Or.inr rfl) (dv 0))
  (ds_cons (ds_augB (i := 4) (by decide +kernel) (by decide +kernel) S.nd rfl (by first | exact Or.inl rfl | exact Or.inr rfl) tx.g_Verdict tx.m2_Verdict tx.ni_Verdict_xor tx.no_xor tx.sp_Verdict___xor__.1 tx.sp_Verdict___xor__.2 O.Verdict___xor__ hr0 tx.b_Verdict___xor__ (dv 1))
  (ds_cons (ds_set (i := 6) S.nd rfl (by first | exact Or.inl rfl | exact Or.inr rfl) (de_op os_add nx_add (de_lc (dl_lc (own := [("_law_pair_here", 5)]) rfl S.nd (di_e (dv 2)) (blkOk_by rfl) (fun _ _ _ _ _ => (dg_name (i := 5) S.nd rfl (by first | exact Or.inl rfl | exact Or.inr rfl))) (fun _ _ _ _ _ => (dts_one (dt_cmp (os_notin hu) nx_notin (dv 5) (dv 3) rfl))) (fun _ _ _ _ _ => (dv 5)))) (de_lc (dl_lc (own := [("_law_pair_here", 5)]) rfl S.nd (di_e (dv 3)) (blkOk_by rfl) (fun _ _ _ _ _ => (dg_name (i := 5) S.nd rfl (by first | exact Or.inl rfl | exact Or.inr rfl))) (fun _ _ _ _ _ => (dts_one (dt_cmp (os_notin hu) nx_notin (dv 5) (dv 2) rfl))) (fun _ _ _ _ _ => (dv 5))))))
  (ds_cons (ds_ret (de_and (de_call (ps := ["_law_verdict", "_law_due"]) O._law_holds hr0 rfl tx.g__law_holds tx.u__law_holds.kp tx.b__law_holds tk (da_cons (dv 4) (da_cons (dv 6) da_nil))) (de_and (de_call (ps := ["_law_verdict", "_law_due"]) O._law_holds hr0 rfl tx.g__law_holds tx.u__law_holds.kp tx.b__law_holds tk (da_cons (dv 0) (da_cons (dv 2) da_nil))) (de_and1 (de_call (ps := ["_law_verdict", "_law_due"]) O._law_holds hr0 rfl tx.g__law_holds tx.u__law_holds.kp tx.b__law_holds tk (da_cons (dv 1) (da_cons (dv 3) da_nil)))))))
  ds_nil)))))))))))))
theorem sc_law : FnScope ["_law_script", "_law_one", "_law_two", "_law_three", "_law_first", "_law_second", "_law_third", "_law_pair_here", "_law_due"] ["_law_script"] (defScope st_law) := ⟨rfl, rfl, rfl, by decide +kernel, rfl, by decide +kernel, by decide +kernel⟩
theorem der_law (tx : Txt w K mg A) (ex : Exs P w K mg base A) (O : Oks P w K mg base A j F) : FnOk P w K mg base (L2.CX P w) (j + 3) A.f_law A.d_law ["_law_script"] (spT K mg w 1 (defRun 9 (b_law F))) := by
  have S := sc_law
  refine fn_T tx.u_law S fun cdv Ar outer s H E hr tk hp => ?_
  have hr0 := hr.mono (Nat.le_add_right _ _)
  have hr1 := hr.mono (Nat.le_succ _)
  have hr2 := hr.mono (Nat.le_add_left 2 _)
  have hu := hu65 hr
  exact (ds_cons (ds_set (i := 1) S.nd rfl (by first | exact Or.inl rfl | exact Or.inr rfl) (de_call (ps := ["_law_script", "_law_part"]) O._law_rows hr0 rfl tx.g__law_rows tx.u__law_rows.kp tx.b__law_rows tk (da_cons (dv 0) (da_cons de_int da_nil))))
  (ds_cons (ds_set (i := 2) S.nd rfl (by first | exact Or.inl rfl | exact Or.inr rfl) (de_call (ps := ["_law_script", "_law_part"]) O._law_rows hr0 rfl tx.g__law_rows tx.u__law_rows.kp tx.b__law_rows tk (da_cons (dv 0) (da_cons de_int da_nil))))
  (ds_cons (ds_set (i := 3) S.nd rfl (by first | exact Or.inl rfl | exact Or.inr rfl) (de_call (ps := ["_law_script", "_law_part"]) O._law_rows hr0 rfl tx.g__law_rows tx.u__law_rows.kp tx.b__law_rows tk (da_cons (dv 0) (da_cons de_int da_nil))))
  (ds_cons (ds_par3 (i := 4) (j := 5) (l := 6) rfl S.nd rfl rfl rfl (by decide) (by decide) (by decide) rfl rfl rfl (da_cons (de_make (ps := ["self", "pairs"]) tx.m_Verdict O.Verdict_init hr1 rfl tx.g_Verdict tx.b_Verdict_init tk (da_cons (dv 1) da_nil)) (da_cons (de_make (ps := ["self", "pairs"]) tx.m_Verdict O.Verdict_init hr1 rfl tx.g_Verdict tx.b_Verdict_init tk (da_cons (dv 2) da_nil)) (da_cons (de_make (ps := ["self", "pairs"]) tx.m_Verdict O.Verdict_init hr1 rfl tx.g_Verdict tx.b_Verdict_init tk (da_cons (dv 3) da_nil)) da_nil))) rfl)
  (ds_cons (ds_if (dt_w (dw_or (dt_not (dt_val (de_call (ps := ["_law_verdict", "_law_due"]) O._law_holds hr0 rfl tx.g__law_holds tx.u__law_holds.kp tx.b__law_holds tk (da_cons (de_op (op_bin (by decide +kernel) tx.g_Verdict tx.sl_Verdict tx.sp_Verdict___or__.1 tx.sp_Verdict___or__.2 O.Verdict___or__ hr0 tx.b_Verdict___or__) nx_bin (dv 4) (dv 5)) (da_cons (de_op os_add nx_add (dv 1) (dv 2)) da_nil))))) (dw_or1 (dt_not (dt_val (de_call (ps := ["_law_verdict", "_law_due"]) O._law_holds hr0 rfl tx.g__law_holds tx.u__law_holds.kp tx.b__law_holds tk (da_cons (de_op (op_bin (by decide +kernel) tx.g_Verdict tx.sl_Verdict tx.sp_Verdict___or__.1 tx.sp_Verdict___or__.2 O.Verdict___or__ hr0 tx.b_Verdict___or__) nx_bin (dv 5) (dv 6)) (da_cons (de_op os_add nx_add (dv 2) (dv 3)) da_nil))))))))
  (ds_cons (ds_ret de_bl)
   ds_nil)
  ds_nil)
  (ds_cons (ds_if (dt_not (dt_val (de_call (ps := ["_law_verdict", "_law_due"]) O._law_holds hr0 rfl tx.g__law_holds tx.u__law_holds.kp tx.b__law_holds tk (da_cons (de_op (op_bin (by decide +kernel) tx.g_Verdict tx.sl_Verdict tx.sp_Verdict___and__.1 tx.sp_Verdict___and__.2 O.Verdict___and__ hr0 tx.b_Verdict___and__) nx_bin (dv 4) (dv 5)) (da_cons (de_lc (dl_lc (own := [("_law_pair_here", 7)]) rfl S.nd (di_e (dv 1)) (blkOk_by rfl) (fun _ _ _ _ _ => (dg_name (i := 7) S.nd rfl (by first | exact Or.inl rfl | exact Or.inr rfl))) (fun _ _ _ _ _ => (dts_one (dt_cmp (os_in hu) nx_in (dv 7) (dv 2) rfl))) (fun _ _ _ _ _ => (dv 7)))) da_nil)))))
  (ds_cons (ds_ret de_bl)
   ds_nil)
  ds_nil)
  (ds_cons (ds_if (dt_not (dt_val (de_call (ps := ["_law_verdict", "_law_due"]) O._law_holds hr0 rfl tx.g__law_holds tx.u__law_holds.kp tx.b__law_holds tk (da_cons (de_op (op_bin (by decide +kernel) tx.g_Verdict tx.sl_Verdict tx.sp_Verdict___sub__.1 tx.sp_Verdict___sub__.2 O.Verdict___sub__ hr0 tx.b_Verdict___sub__) nx_bin (dv 4) (dv 5)) (da_cons (de_lc (dl_lc (own := [("_law_pair_here", 7)]) rfl S.nd (di_e (dv 1)) (blkOk_by rfl) (fun _ _ _ _ _ => (dg_name (i := 7) S.nd rfl (by first | exact Or.inl rfl | exact Or.inr rfl))) (fun _ _ _ _ _ => (dts_one (dt_cmp (os_notin hu) nx_notin (dv 7) (dv 2) rfl))) (fun _ _ _ _ _ => (dv 7)))) da_nil)))))
  (ds_cons (ds_ret de_bl)
   ds_nil)
  ds_nil)
  (ds_cons (ds_if (dt_not (dt_val (de_call (ps := ["_law_verdict", "_law_due"]) O._law_holds hr0 rfl tx.g__law_holds tx.u__law_holds.kp tx.b__law_holds tk (da_cons (de_op (op_bin (by decide +kernel) tx.g_Verdict tx.sl_Verdict tx.sp_Verdict___sub__.1 tx.sp_Verdict___sub__.2 O.Verdict___sub__ hr0 tx.b_Verdict___sub__) nx_bin (dv 5) (dv 4)) (da_cons (de_lc (dl_lc (own := [("_law_pair_here", 7)]) rfl S.nd (di_e (dv 2)) (blkOk_by rfl) (fun _ _ _ _ _ => (dg_name (i := 7) S.nd rfl (by first | exact Or.inl rfl | exact Or.inr rfl))) (fun _ _ _ _ _ => (dts_one (dt_cmp (os_notin hu) nx_notin (dv 7) (dv 1) rfl))) (fun _ _ _ _ _ => (dv 7)))) da_nil)))))
  (ds_cons (ds_ret de_bl)
   ds_nil)
  ds_nil)
  (ds_cons (ds_set (i := 8) S.nd rfl (by first | exact Or.inl rfl | exact Or.inr rfl) (de_op os_add nx_add (de_lc (dl_lc (own := [("_law_pair_here", 7)]) rfl S.nd (di_e (dv 1)) (blkOk_by rfl) (fun _ _ _ _ _ => (dg_name (i := 7) S.nd rfl (by first | exact Or.inl rfl | exact Or.inr rfl))) (fun _ _ _ _ _ => (dts_one (dt_cmp (os_notin hu) nx_notin (dv 7) (dv 2) rfl))) (fun _ _ _ _ _ => (dv 7)))) (de_lc (dl_lc (own := [("_law_pair_here", 7)]) rfl S.nd (di_e (dv 2)) (blkOk_by rfl) (fun _ _ _ _ _ => (dg_name (i := 7) S.nd rfl (by first | exact Or.inl rfl | exact Or.inr rfl))) (fun _ _ _ _ _ => (dts_one (dt_cmp (os_notin hu) nx_notin (dv 7) (dv 1) rfl))) (fun _ _ _ _ _ => (dv 7))))))
  (ds_cons (ds_if (dt_w (dw_or (dt_not (dt_val (de_call (ps := ["_law_verdict", "_law_due"]) O._law_holds hr0 rfl tx.g__law_holds tx.u__law_holds.kp tx.b__law_holds tk (da_cons (de_op (op_bin (by decide +kernel) tx.g_Verdict tx.sl_Verdict tx.sp_Verdict___xor__.1 tx.sp_Verdict___xor__.2 O.Verdict___xor__ hr0 tx.b_Verdict___xor__) nx_bin (dv 4) (dv 5)) (da_cons (dv 8) da_nil))))) (dw_or1 (dt_not (dt_cmp (op_eqO tx.g_Verdict tx.sp_Verdict___eq__.1 tx.sp_Verdict___eq__.2 O.Verdict___eq__ hr0 tx.b_Verdict___eq__ (os_eq hu)) nx_eqO (de_op (op_bin (by decide +kernel) tx.g_Verdict tx.sl_Verdict tx.sp_Verdict___xor__.1 tx.sp_Verdict___xor__.2 O.Verdict___xor__ hr0 tx.b_Verdict___xor__) nx_bin (dv 4) (dv 5)) (de_op (op_bin (by decide +kernel) tx.g_Verdict tx.sl_Verdict tx.sp_Verdict___sub__.1 tx.sp_Verdict___sub__.2 O.Verdict___sub__ hr0 tx.b_Verdict___sub__) nx_bin (de_op (op_bin (by decide +kernel) tx.g_Verdict tx.sl_Verdict tx.sp_Verdict___or__.1 tx.sp_Verdict___or__.2 O.Verdict___or__ hr0 tx.b_Verdict___or__) nx_bin (dv 4) (dv 5)) (de_op (op_bin (by decide +kernel) tx.g_Verdict tx.sl_Verdict tx.sp_Verdict___and__.1 tx.sp_Verdict___and__.2 O.Verdict___and__ hr0 tx.b_Verdict___and__) nx_bin (dv 4) (dv 5))) rfl)))))
  (ds_cons (ds_ret de_bl)
   ds_nil)
  ds_nil)
  (ds_cons (ds_if (dt_not (dt_cmp (op_eqO tx.g_Verdict tx.sp_Verdict___eq__.1 tx.sp_Verdict___eq__.2 O.Verdict___eq__ hr0 tx.b_Verdict___eq__ (os_eq hu)) nx_eqO (de_op (op_bin (by decide +kernel) tx.g_Verdict tx.sl_Verdict tx.sp_Verdict___and__.1 tx.sp_Verdict___and__.2 O.Verdict___and__ hr0 tx.b_Verdict___and__) nx_bin (dv 4) (de_op (op_bin (by decide +kernel) tx.g_Verdict tx.sl_Verdict tx.sp_Verdict___or__.1 tx.sp_Verdict___or__.2 O.Verdict___or__ hr0 tx.b_Verdict___or__) nx_bin (dv 5) (dv 6))) (de_op (op_bin (by decide +kernel) tx.g_Verdict tx.sl_Verdict tx.sp_Verdict___or__.1 tx.sp_Verdict___or__.2 O.Verdict___or__ hr0 tx.b_Verdict___or__) nx_bin (de_op (op_bin (by decide +kernel) tx.g_Verdict tx.sl_Verdict tx.sp_Verdict___and__.1 tx.sp_Verdict___and__.2 O.Verdict___and__ hr0 tx.b_Verdict___and__) nx_bin (dv 4) (dv 5)) (de_op (op_bin (by decide +kernel) tx.g_Verdict tx.sl_Verdict tx.sp_Verdict___and__.1 tx.sp_Verdict___and__.2 O.Verdict___and__ hr0 tx.b_Verdict___and__) nx_bin (dv 4) (dv 6))) rfl))
  (ds_cons (ds_ret de_bl)
   ds_nil)
  ds_nil)
  (ds_cons (ds_if (dt_w (dw_or (dt_not (dt_cmp (op_eqO tx.g_Verdict tx.sp_Verdict___eq__.1 tx.sp_Verdict___eq__.2 O.Verdict___eq__ hr0 tx.b_Verdict___eq__ (os_eq hu)) nx_eqO (dv 4) (de_make (ps := ["self", "pairs"]) tx.m_Verdict O.Verdict_init hr1 rfl tx.g_Verdict tx.b_Verdict_init tk (da_cons (de_op os_add nx_add (dv 1) (dv 1)) da_nil)) rfl)) (dw_or (dt_not (dt_cmp (op_eqO tx.g_Verdict tx.sp_Verdict___eq__.1 tx.sp_Verdict___eq__.2 O.Verdict___eq__ hr0 tx.b_Verdict___eq__ (os_eq hu)) nx_eqO (de_op (op_bin (by decide +kernel) tx.g_Verdict tx.sl_Verdict tx.sp_Verdict___sub__.1 tx.sp_Verdict___sub__.2 O.Verdict___sub__ hr0 tx.b_Verdict___sub__) nx_bin (dv 4) (dv 4)) (de_make (ps := ["self", "pairs"]) tx.m_Verdict O.Verdict_init hr1 rfl tx.g_Verdict tx.b_Verdict_init tk (da_cons (de_lst da_nil) da_nil)) rfl)) (dw_or1 (dt_not (dt_cmp (op_eqO tx.g_Verdict tx.sp_Verdict___eq__.1 tx.sp_Verdict___eq__.2 O.Verdict___eq__ hr0 tx.b_Verdict___eq__ (os_eq hu)) nx_eqO (de_op (op_bin (by decide +kernel) tx.g_Verdict tx.sl_Verdict tx.sp_Verdict___xor__.1 tx.sp_Verdict___xor__.2 O.Verdict___xor__ hr0 tx.b_Verdict___xor__) nx_bin (dv 4) (dv 4)) (de_make (ps := ["self", "pairs"]) tx.m_Verdict O.Verdict_init hr1 rfl tx.g_Verdict tx.b_Verdict_init tk (da_cons (de_tup da_nil) da_nil)) rfl))))))
  (ds_cons (ds_ret de_bl)
   ds_nil)
  ds_nil)
  (ds_cons (ds_if (dt_not (dt_val (de_call (ps := ["_law_one", "_law_two"]) O._law_same hr0 rfl tx.g__law_same tx.u__law_same.kp tx.b__law_same tk (da_cons (de_lst (da_cons (de_cmp (op_eqO tx.g_Verdict tx.sp_Verdict___eq__.1 tx.sp_Verdict___eq__.2 O.Verdict___eq__ hr0 tx.b_Verdict___eq__ (os_eq hu)) nx_eqO (dv 4) (dv 5) rfl) (da_cons (de_cmp (op_eqO tx.g_Verdict tx.sp_Verdict___eq__.1 tx.sp_Verdict___eq__.2 O.Verdict___eq__ hr0 tx.b_Verdict___eq__ (os_eq hu)) nx_eqO (dv 5) (dv 4) rfl) da_nil))) (da_cons (de_lst (da_cons (de_cmp (os_eq hu) nx_eq (de_callB cs_len nx_len rfl tx.n_len boot_len (da_cons (dv 8) da_nil)) de_int rfl) (da_cons (de_cmp (os_eq hu) nx_eq (de_callB cs_len nx_len rfl tx.n_len boot_len (da_cons (dv 8) da_nil)) de_int rfl) da_nil))) da_nil)))))
  (ds_cons (ds_ret de_bl)
   ds_nil)
  ds_nil)
  (ds_cons (ds_if (dt_w (dw_or (dt_not (dt_val (de_call (ps := ["_law_verdict", "_law_due"]) O._law_holds hr0 rfl tx.g__law_holds tx.u__law_holds.kp tx.b__law_holds tk (da_cons (dv 4) (da_cons (dv 1) da_nil))))) (dw_or (dt_not (dt_val (de_call (ps := ["_law_verdict", "_law_due"]) O._law_holds hr0 rfl tx.g__law_holds tx.u__law_holds.kp tx.b__law_holds tk (da_cons (dv 5) (da_cons (dv 2) da_nil))))) (dw_or1 (dt_not (dt_val (de_call (ps := ["_law_verdict", "_law_due"]) O._law_holds hr0 rfl tx.g__law_holds tx.u__law_holds.kp tx.b__law_holds tk (da_cons (dv 6) (da_cons (dv 3) da_nil)))))))))
  (ds_cons (ds_ret de_bl)
   ds_nil)
  ds_nil)
  (ds_cons (ds_ret (de_call (ps := ["_law_first", "_law_second", "_law_one", "_law_two"]) O._law_is_kept hr0 rfl tx.g__law_is_kept tx.u__law_is_kept.kp tx.b__law_is_kept tk (da_cons (dv 4) (da_cons (dv 5) (da_cons (dv 1) (da_cons (dv 2) da_nil))))))
  ds_nil)))))))))))))))
theorem oks_step (tx : Txt w K mg A) (ex : Exs P w K mg base A) (O : Oks P w K mg base A j F) : Oks P w K mg base A (j + 3) (stepF F) :=
  ⟨der_check_kind tx ex O, der_Verdict_init tx ex O, der_Verdict_pairs tx ex O, der_Verdict___or__ tx ex O, der_Verdict___and__ tx ex O, der_Verdict___sub__ tx ex O, der_Verdict___xor__ tx ex O, der_Verdict___eq__ tx ex O, der_Verdict___len__ tx ex O, der_Verdict___contains__ tx ex O, der_Verdict___bool__ tx ex O, der__law_same tx ex O, der__law_pair tx ex O, der__law_rows tx ex O, der__law_holds tx ex O, der__law_is_kept tx ex O, der_law tx ex O⟩
theorem oks_stk : Oks P w K mg base A 0 FF.stk := by
  constructor <;> exact ⟨fun vs H Q E h => h.1, fun Ar outer s H args us vs Q E hr e0 hb hv hs => (by obtain ⟨_, _, _, _, _, _, z⟩ := hs; exact False.elim z)⟩
theorem oks_run (tx : Txt w K mg A) (ex : Exs P w K mg base A) : ∀ k, Oks P w K mg base A (3 * k) (runF k)
  | 0 => oks_stk
  | k + 1 => oks_step tx ex (oks_run tx ex k)
end
end LW
end

section
namespace LW
open PySem PySem.Spec PyProof.Rows
open L2 W3
theorem all_mk {P : Program} {w : World} {K : PySem.W.Frag} {h : Heap} {mg : Str → Option Value} {fa : Addr} (X : K.In h) (G : h.Ns mainGlobals mg) (hfa : mg "law" = some (.ref fa))
    {C_Verdict : Addr}
    {f_check_kind : Addr} {fd_check_kind : FuncData}
    {f_Verdict_init : Addr} {fd_Verdict_init : FuncData}
    {f_Verdict_pairs : Addr} {fd_Verdict_pairs : FuncData}
    {f_Verdict___or__ : Addr} {fd_Verdict___or__ : FuncData}
    {f_Verdict___and__ : Addr} {fd_Verdict___and__ : FuncData}
    {f_Verdict___sub__ : Addr} {fd_Verdict___sub__ : FuncData}
    {f_Verdict___xor__ : Addr} {fd_Verdict___xor__ : FuncData}
    {f_Verdict___eq__ : Addr} {fd_Verdict___eq__ : FuncData}
    {f_Verdict___len__ : Addr} {fd_Verdict___len__ : FuncData}
    {f_Verdict___contains__ : Addr} {fd_Verdict___contains__ : FuncData}
    {f_Verdict___bool__ : Addr} {fd_Verdict___bool__ : FuncData}
    {f__law_same : Addr} {fd__law_same : FuncData}
    {f__law_pair : Addr} {fd__law_pair : FuncData}
    {f__law_rows : Addr} {fd__law_rows : FuncData}
    {f__law_holds : Addr} {fd__law_holds : FuncData}
    {f__law_is_kept : Addr} {fd__law_is_kept : FuncData}
    {f_law : Addr} {fd_law : FuncData}
    {C_InvalidKind : Addr}
    {xf_InvalidKind : Addr}
    {A_KINDS : Addr}
    (a_Verdict : PySem.W.nsIn K mainGlobals "Verdict" = some (some (.ref C_Verdict)))
    (pg_Verdict : PySem.W.plainGet K C_Verdict Str.empty = true)
    (hd_Verdict : PySem.W.hasDictIn K C_Verdict = true)
    (po_Verdict : PySem.W.plainOver K C_Verdict = true)
    (sa_Verdict : PySem.W.findIn K (.ref C_Verdict) "__setattr__" = some (some (.builtin "object.__setattr__")))
    (mk_Verdict : PySem.W.makesIn K C_Verdict = true)
    (kc_Verdict : PySem.W.keepIn K (.ref C_Verdict) = true)
    (no_Verdict_rows : PySem.W.findIn K (.ref C_Verdict) "rows" = some none)
    (a_check_kind : PySem.W.nsIn K mainGlobals "check_kind" = some (some (.ref f_check_kind)))
    (U_check_kind : Fun K "check_kind" "check_kind" st_check_kind f_check_kind fd_check_kind)
    (a_Verdict_init : PySem.W.findIn K (.ref C_Verdict) "__init__" = some (some (.ref f_Verdict_init)))
    (i_Verdict_init : PySem.W.isFn K (.ref f_Verdict_init) = true)
    (U_Verdict_init : Fun K "__init__" "Verdict.__init__" st_Verdict_init f_Verdict_init fd_Verdict_init)
    (a_Verdict_pairs : PySem.W.findIn K (.ref C_Verdict) "pairs" = some (some (.ref f_Verdict_pairs)))
    (i_Verdict_pairs : PySem.W.isFn K (.ref f_Verdict_pairs) = true)
    (U_Verdict_pairs : Fun K "pairs" "Verdict.pairs" st_Verdict_pairs f_Verdict_pairs fd_Verdict_pairs)
    (a_Verdict___or__ : PySem.W.findIn K (.ref C_Verdict) "__or__" = some (some (.ref f_Verdict___or__)))
    (i_Verdict___or__ : PySem.W.isFn K (.ref f_Verdict___or__) = true)
    (U_Verdict___or__ : Fun K "__or__" "Verdict.__or__" st_Verdict___or__ f_Verdict___or__ fd_Verdict___or__)
    (a_Verdict___and__ : PySem.W.findIn K (.ref C_Verdict) "__and__" = some (some (.ref f_Verdict___and__)))
    (i_Verdict___and__ : PySem.W.isFn K (.ref f_Verdict___and__) = true)
    (U_Verdict___and__ : Fun K "__and__" "Verdict.__and__" st_Verdict___and__ f_Verdict___and__ fd_Verdict___and__)
    (a_Verdict___sub__ : PySem.W.findIn K (.ref C_Verdict) "__sub__" = some (some (.ref f_Verdict___sub__)))
    (i_Verdict___sub__ : PySem.W.isFn K (.ref f_Verdict___sub__) = true)
    (U_Verdict___sub__ : Fun K "__sub__" "Verdict.__sub__" st_Verdict___sub__ f_Verdict___sub__ fd_Verdict___sub__)
    (a_Verdict___xor__ : PySem.W.findIn K (.ref C_Verdict) "__xor__" = some (some (.ref f_Verdict___xor__)))
    (i_Verdict___xor__ : PySem.W.isFn K (.ref f_Verdict___xor__) = true)
    (U_Verdict___xor__ : Fun K "__xor__" "Verdict.__xor__" st_Verdict___xor__ f_Verdict___xor__ fd_Verdict___xor__)
    (a_Verdict___eq__ : PySem.W.findIn K (.ref C_Verdict) "__eq__" = some (some (.ref f_Verdict___eq__)))
    (i_Verdict___eq__ : PySem.W.isFn K (.ref f_Verdict___eq__) = true)
    (U_Verdict___eq__ : Fun K "__eq__" "Verdict.__eq__" st_Verdict___eq__ f_Verdict___eq__ fd_Verdict___eq__)
    (a_Verdict___len__ : PySem.W.findIn K (.ref C_Verdict) "__len__" = some (some (.ref f_Verdict___len__)))
    (i_Verdict___len__ : PySem.W.isFn K (.ref f_Verdict___len__) = true)
    (U_Verdict___len__ : Fun K "__len__" "Verdict.__len__" st_Verdict___len__ f_Verdict___len__ fd_Verdict___len__)
    (a_Verdict___contains__ : PySem.W.findIn K (.ref C_Verdict) "__contains__" = some (some (.ref f_Verdict___contains__)))
    (i_Verdict___contains__ : PySem.W.isFn K (.ref f_Verdict___contains__) = true)
    (U_Verdict___contains__ : Fun K "__contains__" "Verdict.__contains__" st_Verdict___contains__ f_Verdict___contains__ fd_Verdict___contains__)
    (a_Verdict___bool__ : PySem.W.findIn K (.ref C_Verdict) "__bool__" = some (some (.ref f_Verdict___bool__)))
    (i_Verdict___bool__ : PySem.W.isFn K (.ref f_Verdict___bool__) = true)
    (U_Verdict___bool__ : Fun K "__bool__" "Verdict.__bool__" st_Verdict___bool__ f_Verdict___bool__ fd_Verdict___bool__)
    (a__law_same : PySem.W.nsIn K mainGlobals "_law_same" = some (some (.ref f__law_same)))
    (U__law_same : Fun K "_law_same" "_law_same" st__law_same f__law_same fd__law_same)
    (a__law_pair : PySem.W.nsIn K mainGlobals "_law_pair" = some (some (.ref f__law_pair)))
    (U__law_pair : Fun K "_law_pair" "_law_pair" st__law_pair f__law_pair fd__law_pair)
    (a__law_rows : PySem.W.nsIn K mainGlobals "_law_rows" = some (some (.ref f__law_rows)))
    (U__law_rows : Fun K "_law_rows" "_law_rows" st__law_rows f__law_rows fd__law_rows)
    (a__law_holds : PySem.W.nsIn K mainGlobals "_law_holds" = some (some (.ref f__law_holds)))
    (U__law_holds : Fun K "_law_holds" "_law_holds" st__law_holds f__law_holds fd__law_holds)
    (a__law_is_kept : PySem.W.nsIn K mainGlobals "_law_is_kept" = some (some (.ref f__law_is_kept)))
    (U__law_is_kept : Fun K "_law_is_kept" "_law_is_kept" st__law_is_kept f__law_is_kept fd__law_is_kept)
    (a_law : PySem.W.nsIn K mainGlobals "law" = some (some (.ref f_law)))
    (U_law : Fun K "law" "law" st_law f_law fd_law)
    (a_InvalidKind : PySem.W.nsIn K mainGlobals "InvalidKind" = some (some (.ref C_InvalidKind)))
    (ioc_Verdict : PySem.W.findIn K (.ref C_Verdict) "__class__" = some (some (.builtin "object.__class__")))
    (iom_Verdict : PySem.W.mroIn K C_Verdict (.type "object") = some true)
    (sl_Verdict : PySem.W.selfFirst K C_Verdict = true)
    (m2_Verdict : OwBin.mroTwo K C_Verdict = true)
    (ni_Verdict_and : PySem.W.findIn K (.ref C_Verdict) "__iand__" = some none)
    (ni_Verdict_or : PySem.W.findIn K (.ref C_Verdict) "__ior__" = some none)
    (ni_Verdict_sub : PySem.W.findIn K (.ref C_Verdict) "__isub__" = some none)
    (ni_Verdict_xor : PySem.W.findIn K (.ref C_Verdict) "__ixor__" = some none)
    (no_and : PySem.W.findIn K (.type "object") "__iand__" = some none)
    (no_or : PySem.W.findIn K (.type "object") "__ior__" = some none)
    (no_sub : PySem.W.findIn K (.type "object") "__isub__" = some none)
    (no_xor : PySem.W.findIn K (.type "object") "__ixor__" = some none)
    (opq : PySem.W.nsIn K cStatics "thirdparty.any" = some none)
    (tops : (P.main.scope.names.lookup ("super" : Str)).isSome = false)
    (spc : PySem.W.specialIn K (.builtin "object.__class__") "__get__" = some (some (.builtin "getset_descriptor.__get__")))
    (tki : PySem.W.takesIn K (.builtin "object.__class__") = some true)
    (oxc_InvalidKind : oexB K C_InvalidKind = true)
    (xsa_InvalidKind : PySem.W.findIn K (.ref C_InvalidKind) "__setattr__" = some (some (.builtin "object.__setattr__")))
    (xbe_InvalidKind : PySem.W.subIn K (.ref C_InvalidKind) (.type "BaseException") = some true)
    (xty_InvalidKind : PySem.W.typeIn K (.ref C_InvalidKind) = some (.type "type"))
    (xk_InvalidKind : PySem.W.keepIn K (.ref C_InvalidKind) = true)
    (xi_InvalidKind : PySem.W.findIn K (.ref C_InvalidKind) "__init__" = some (some (.ref xf_InvalidKind)))
    (xt_InvalidKind : PySem.W.typeIn K (.ref xf_InvalidKind) = some (.type "function"))
    (XI_InvalidKind : XInit P K C_InvalidKind xf_InvalidKind "InvalidKind.__init__" st_x_InvalidKind)
    (xsu_InvalidKind : PySem.W.ks_superIn K C_InvalidKind C_InvalidKind "__init__" = some (some (.builtin "ValueError.__init__")))
    (xsv_InvalidKind : PySem.W.subIn K (.ref C_InvalidKind) (.type "ValueError") = some true)
    (xmr_InvalidKind : PySem.W.mroIn K C_InvalidKind (.ref C_InvalidKind) = some true)
    (xga_InvalidKind : PySem.W.findIn K (.ref C_InvalidKind) "__getattribute__" = some (some (.builtin "BaseException.__getattribute__")))
    (xgt_InvalidKind : PySem.W.findIn K (.ref C_InvalidKind) "__getattr__" = some none)
    (xcl_InvalidKind : PySem.W.findIn K (.ref C_InvalidKind) "__class__" = some (some (.builtin "object.__class__")))
    (xhd_InvalidKind : PySem.W.hasDictIn K C_InvalidKind = true)
    (xob_InvalidKind : PySem.W.mroIn K C_InvalidKind (.type "object") = some true)
    (xno_InvalidKind_kind : PySem.W.findIn K (.ref C_InvalidKind) "kind" = some none)
    (g_KINDS : PySem.W.nsIn K mainGlobals "KINDS" = some (some (.ref A_KINDS)))
    (KI_KINDS : KIs K mg A_KINDS (.tup ((["unshown", "stale", "elder", "sent", "early", "stuck", "full"] : List Str).map T.str)))
    (z_bool : PySem.W.nsIn K mainGlobals "bool" = some none)
    (z_int : PySem.W.nsIn K mainGlobals "int" = some none)
    (z_isinstance : PySem.W.nsIn K mainGlobals "isinstance" = some none)
    (z_len : PySem.W.nsIn K mainGlobals "len" = some none)
    (z_list : PySem.W.nsIn K mainGlobals "list" = some none)
    (z_min : PySem.W.nsIn K mainGlobals "min" = some none)
    (z_range : PySem.W.nsIn K mainGlobals "range" = some none)
    (z_sorted : PySem.W.nsIn K mainGlobals "sorted" = some none)
    (z_super : PySem.W.nsIn K mainGlobals "super" = some none)
    (z_tuple : PySem.W.nsIn K mainGlobals "tuple" = some none)
    (n : Nat) : ∃ fd : FuncData, (∀ (s : Shared) (v : Value), BindsTo s fd ⟨[v], []⟩ [("_law_script", v)]) ∧ ∀ base : Heap, K.In base → base.Ns mainGlobals mg → FnOk P w K mg base (L2.CX P w) (3 * n) fa fd ["_law_script"] (spL K (runF n).law) := by
  obtain rfl : f_law = fa := by
    have e := hfa.symm.trans (PySem.W.mg_of X G a_law)
    cases e
    rfl
  have B_check_kind := U_check_kind.binds (ps := ["kind"]) fun _ _ _ _ _ _ us hl => match us, hl with | [_], _ => rfl
  have B_Verdict_init := U_Verdict_init.binds (ps := ["self", "pairs"]) fun _ _ _ _ _ _ us hl => match us, hl with | [_, _], _ => rfl
  have B_Verdict_pairs := U_Verdict_pairs.binds (ps := ["self"]) fun _ _ _ _ _ _ us hl => match us, hl with | [_], _ => rfl
  have B_Verdict___or__ := U_Verdict___or__.binds (ps := ["self", "other"]) fun _ _ _ _ _ _ us hl => match us, hl with | [_, _], _ => rfl
  have B_Verdict___and__ := U_Verdict___and__.binds (ps := ["self", "other"]) fun _ _ _ _ _ _ us hl => match us, hl with | [_, _], _ => rfl
  have B_Verdict___sub__ := U_Verdict___sub__.binds (ps := ["self", "other"]) fun _ _ _ _ _ _ us hl => match us, hl with | [_, _], _ => rfl
  have B_Verdict___xor__ := U_Verdict___xor__.binds (ps := ["self", "other"]) fun _ _ _ _ _ _ us hl => match us, hl with | [_, _], _ => rfl
  have B_Verdict___eq__ := U_Verdict___eq__.binds (ps := ["self", "other"]) fun _ _ _ _ _ _ us hl => match us, hl with | [_, _], _ => rfl
  have B_Verdict___len__ := U_Verdict___len__.binds (ps := ["self"]) fun _ _ _ _ _ _ us hl => match us, hl with | [_], _ => rfl
  have B_Verdict___contains__ := U_Verdict___contains__.binds (ps := ["self", "pair"]) fun _ _ _ _ _ _ us hl => match us, hl with | [_, _], _ => rfl
  have B_Verdict___bool__ := U_Verdict___bool__.binds (ps := ["self"]) fun _ _ _ _ _ _ us hl => match us, hl with | [_], _ => rfl
  have B__law_same := U__law_same.binds (ps := ["_law_one", "_law_two"]) fun _ _ _ _ _ _ us hl => match us, hl with | [_, _], _ => rfl
  have B__law_pair := U__law_pair.binds (ps := ["_law_cell"]) fun _ _ _ _ _ _ us hl => match us, hl with | [_], _ => rfl
  have B__law_rows := U__law_rows.binds (ps := ["_law_script", "_law_part"]) fun _ _ _ _ _ _ us hl => match us, hl with | [_, _], _ => rfl
  have B__law_holds := U__law_holds.binds (ps := ["_law_verdict", "_law_due"]) fun _ _ _ _ _ _ us hl => match us, hl with | [_, _], _ => rfl
  have B__law_is_kept := U__law_is_kept.binds (ps := ["_law_first", "_law_second", "_law_one", "_law_two"]) fun _ _ _ _ _ _ us hl => match us, hl with | [_, _, _, _], _ => rfl
  have B_law := U_law.binds (ps := ["_law_script"]) fun _ _ _ _ _ _ us hl => match us, hl with | [_], _ => rfl
  have CF : ClsF K mg CS := by
    intro c fs C hm hC
    simp only [CS, List.mem_cons, List.not_mem_nil, or_false, Prod.mk.injEq] at hm
    obtain ⟨rfl, rfl⟩ := hm
    have e := hC.symm.trans (PySem.W.mg_of X G a_Verdict); cases e
    exact ⟨⟨pg_Verdict, hd_Verdict, po_Verdict, sa_Verdict⟩, fun f hf => by simp only [List.mem_cons, List.not_mem_nil, or_false] at hf; rcases hf with rfl <;> assumption⟩
  obtain ⟨xcc_InvalidKind, xc_InvalidKind, xdc_InvalidKind, xpm_InvalidKind, xct_InvalidKind, xan_InvalidKind, XL_InvalidKind, XC_InvalidKind, XE_InvalidKind, XD_InvalidKind⟩ := XI_InvalidKind.ex
  let A : Ad := { f_check_kind := f_check_kind, d_check_kind := fd_check_kind, f_Verdict_init := f_Verdict_init, d_Verdict_init := fd_Verdict_init, f_Verdict_pairs := f_Verdict_pairs, d_Verdict_pairs := fd_Verdict_pairs, f_Verdict___or__ := f_Verdict___or__, d_Verdict___or__ := fd_Verdict___or__, f_Verdict___and__ := f_Verdict___and__, d_Verdict___and__ := fd_Verdict___and__, f_Verdict___sub__ := f_Verdict___sub__, d_Verdict___sub__ := fd_Verdict___sub__, f_Verdict___xor__ := f_Verdict___xor__, d_Verdict___xor__ := fd_Verdict___xor__, f_Verdict___eq__ := f_Verdict___eq__, d_Verdict___eq__ := fd_Verdict___eq__, f_Verdict___len__ := f_Verdict___len__, d_Verdict___len__ := fd_Verdict___len__, f_Verdict___contains__ := f_Verdict___contains__, d_Verdict___contains__ := fd_Verdict___contains__, f_Verdict___bool__ := f_Verdict___bool__, d_Verdict___bool__ := fd_Verdict___bool__, f__law_same := f__law_same, d__law_same := fd__law_same, f__law_pair := f__law_pair, d__law_pair := fd__law_pair, f__law_rows := f__law_rows, d__law_rows := fd__law_rows, f__law_holds := f__law_holds, d__law_holds := fd__law_holds, f__law_is_kept := f__law_is_kept, d__law_is_kept := fd__law_is_kept, f_law := f_law, d_law := fd_law, c_Verdict := C_Verdict, c_InvalidKind := C_InvalidKind, xf_InvalidKind := xf_InvalidKind, xd_InvalidKind := fdE "__init__" "InvalidKind.__init__" (defArgs st_x_InvalidKind) (defBody st_x_InvalidKind) (defScope st_x_InvalidKind) xcc_InvalidKind xc_InvalidKind xdc_InvalidKind xpm_InvalidKind xct_InvalidKind xan_InvalidKind }
  have OX_InvalidKind : OexC K C_InvalidKind := ⟨oexB_ok oxc_InvalidKind, xsa_InvalidKind, xbe_InvalidKind, xty_InvalidKind, xk_InvalidKind⟩
  have FX_InvalidKind : ∀ base : Heap, FnOk P w K mg base (L2.CX P w) 1 xf_InvalidKind _ ["self", "kind"] (spE1 C_InvalidKind "kind") := fun base => exc_ok1 (st := st_x_InvalidKind) ⟨OX_InvalidKind, XL_InvalidKind, XC_InvalidKind, XE_InvalidKind, xsu_InvalidKind, xsv_InvalidKind, xmr_InvalidKind, opq, tops⟩ rfl XD_InvalidKind (NdefX.nscope_by rfl) rfl rfl rfl (PySem.W.mg_none_of X G z_super) (fun L => ⟨rfl, rfl, rfl⟩) xno_InvalidKind_kind (fun L => rfl)
  have tx : Txt w K mg A := { u_check_kind := U_check_kind, b_check_kind := B_check_kind, g_check_kind := PySem.W.mg_of X G a_check_kind, u_Verdict_init := U_Verdict_init, b_Verdict_init := B_Verdict_init, u_Verdict_pairs := U_Verdict_pairs, b_Verdict_pairs := B_Verdict_pairs, h_Verdict_pairs := ⟨a_Verdict_pairs, i_Verdict_pairs, U_Verdict_pairs.kp⟩, u_Verdict___or__ := U_Verdict___or__, b_Verdict___or__ := B_Verdict___or__, sp_Verdict___or__ := ⟨a_Verdict___or__, i_Verdict___or__⟩, u_Verdict___and__ := U_Verdict___and__, b_Verdict___and__ := B_Verdict___and__, sp_Verdict___and__ := ⟨a_Verdict___and__, i_Verdict___and__⟩, u_Verdict___sub__ := U_Verdict___sub__, b_Verdict___sub__ := B_Verdict___sub__, sp_Verdict___sub__ := ⟨a_Verdict___sub__, i_Verdict___sub__⟩, u_Verdict___xor__ := U_Verdict___xor__, b_Verdict___xor__ := B_Verdict___xor__, sp_Verdict___xor__ := ⟨a_Verdict___xor__, i_Verdict___xor__⟩, u_Verdict___eq__ := U_Verdict___eq__, b_Verdict___eq__ := B_Verdict___eq__, sp_Verdict___eq__ := ⟨a_Verdict___eq__, i_Verdict___eq__⟩, u_Verdict___len__ := U_Verdict___len__, b_Verdict___len__ := B_Verdict___len__, sp_Verdict___len__ := ⟨a_Verdict___len__, i_Verdict___len__⟩, u_Verdict___contains__ := U_Verdict___contains__, b_Verdict___contains__ := B_Verdict___contains__, sp_Verdict___contains__ := ⟨a_Verdict___contains__, i_Verdict___contains__⟩, u_Verdict___bool__ := U_Verdict___bool__, b_Verdict___bool__ := B_Verdict___bool__, sp_Verdict___bool__ := ⟨a_Verdict___bool__, i_Verdict___bool__⟩, u__law_same := U__law_same, b__law_same := B__law_same, g__law_same := PySem.W.mg_of X G a__law_same, u__law_pair := U__law_pair, b__law_pair := B__law_pair, g__law_pair := PySem.W.mg_of X G a__law_pair, u__law_rows := U__law_rows, b__law_rows := B__law_rows, g__law_rows := PySem.W.mg_of X G a__law_rows, u__law_holds := U__law_holds, b__law_holds := B__law_holds, g__law_holds := PySem.W.mg_of X G a__law_holds, u__law_is_kept := U__law_is_kept, b__law_is_kept := B__law_is_kept, g__law_is_kept := PySem.W.mg_of X G a__law_is_kept, u_law := U_law, b_law := B_law, g_law := PySem.W.mg_of X G a_law, g_Verdict := PySem.W.mg_of X G a_Verdict, cc_Verdict := ⟨pg_Verdict, hd_Verdict, po_Verdict, sa_Verdict⟩, m_Verdict := ⟨mk_Verdict, a_Verdict_init, i_Verdict_init, kc_Verdict⟩, sl_Verdict := sl_Verdict, m2_Verdict := m2_Verdict, ni_Verdict_and := ni_Verdict_and, ni_Verdict_or := ni_Verdict_or, ni_Verdict_sub := ni_Verdict_sub, ni_Verdict_xor := ni_Verdict_xor, no_and := no_and, no_or := no_or, no_sub := no_sub, no_xor := no_xor, io_Verdict := ⟨⟨pg_Verdict, hd_Verdict, po_Verdict, sa_Verdict⟩, ioc_Verdict, spc, tki, iom_Verdict⟩, cs := CF, c_KINDS := ⟨_, PySem.W.mg_of X G g_KINDS, KI_KINDS⟩, n_bool := PySem.W.mg_none_of X G z_bool, n_int := PySem.W.mg_none_of X G z_int, n_isinstance := PySem.W.mg_none_of X G z_isinstance, n_len := PySem.W.mg_none_of X G z_len, n_list := PySem.W.mg_none_of X G z_list, n_min := PySem.W.mg_none_of X G z_min, n_range := PySem.W.mg_none_of X G z_range, n_sorted := PySem.W.mg_none_of X G z_sorted, n_super := PySem.W.mg_none_of X G z_super, n_tuple := PySem.W.mg_none_of X G z_tuple, ox_InvalidKind := OX_InvalidKind, xi_InvalidKind := xi_InvalidKind, xt_InvalidKind := xt_InvalidKind, b_InvalidKind := bindsE fun us hl => match us, hl with | [_, _], _ => rfl, g_InvalidKind := PySem.W.mg_of X G a_InvalidKind, xf := xfall_of ⟨⟨_, PySem.W.mg_of X G a_InvalidKind, ⟨xga_InvalidKind, xgt_InvalidKind, xbe_InvalidKind, xhd_InvalidKind⟩, ⟨xga_InvalidKind, xgt_InvalidKind, xbe_InvalidKind, xhd_InvalidKind, xcl_InvalidKind, spc, tki, xob_InvalidKind⟩, fun f hf => by unfold FL at hf; cases hf⟩, trivial⟩ }
  have ex : ∀ base : Heap, Exs P w K mg base A := fun base => ⟨FX_InvalidKind base⟩
  have hbl : ∀ (s : Shared) (v : Value), BindsTo s fd_law ⟨[v], []⟩ [("_law_script", v)] := by
    obtain ⟨_, _, _, _, _, _, _, _, _, e, _, _⟩ := U_law.ex
    subst e
    exact fun s v => .of_eq rfl
  exact ⟨_, hbl, fun base _ _ => fnL (oks_run (P := P) (w := w) (base := base) tx (ex base) n).law⟩
end LW
open PySem PySem.W PySem.Calls PyProof.Rows in
set_option maxRecDepth 100000 in
set_option maxHeartbeats 0 in
theorem PySem.Challenge.cw_wrongshown_k68_verdict_operators_holds : PySem.Challenge.rw_wrongshown_k68_verdict_operators.Holds := by
  w_on; o_law
  refine HandSHeadRun.head_any (r := OpenLaw.row PySem.Challenge.rw_wrongshown_k68_verdict_operators) (q := view (OpenLaw.row PySem.Challenge.rw_wrongshown_k68_verdict_operators).prog [15]) (H := LW.hkZ) (ob := LW.obZ) (M := 20000) (loose := LW.namesZ) (d := HandSHeadRun.topDef (OpenLaw.row PySem.Challenge.rw_wrongshown_k68_verdict_operators).prog 15) (kwd := []) LW.obZ_eq
    (by kernel_rfl) (fun s => by kernel_rfl) LW.runZ (by kernel_rfl) (by kernel_rfl) (by kernel_rfl) (by rfl) (by first | assumption | decide +kernel) (by decide +kernel) ⟨rfl, rfl, rfl, rfl, rfl, by decide +kernel⟩ ?hw ?hc
  case hw => w_witness2
  case hc =>
    refine W3.walk3E (l := PySem.Challenge.rw_wrongshown_k68_verdict_operators) (k := 3 * LW.fuel) (x := "_law_script") (f := (LW.runF LW.fuel).law) rfl (by kernel_rfl) ⟨rfl, by decide, by decide⟩ LW.law_true ?F
    intro w mg fa h Y G hmg0
    obtain ⟨K, KX, c⟩ := Y
    have hmg : mg ("law" : PySem.Str) = some (.ref fa) := by
      have e : (HandSHeadRun.topDef (OpenLaw.row PySem.Challenge.rw_wrongshown_k68_verdict_operators).prog 15).name = ("law" : PySem.Str) := by kernel_rfl
      rw [← e]
      exact hmg0
    obtain ⟨fd_check_kind, V_check_kind⟩ := c.t.d.def_ 0 (d := LW.dz_check_kind) rfl
    have U_check_kind : L2.Fun K "check_kind" "check_kind" LW.st_check_kind (He.fAd K ("check_kind", none)) fd_check_kind := W3.funOfD V_check_kind
    obtain ⟨fd_Verdict_init, V_Verdict_init⟩ := c.t.d.def_ 1 (d := LW.dz_Verdict_init) rfl
    have U_Verdict_init : L2.Fun K "__init__" "Verdict.__init__" LW.st_Verdict_init (He.fAd K ("Verdict", some "__init__")) fd_Verdict_init := W3.funOfD V_Verdict_init
    obtain ⟨fd_Verdict_pairs, V_Verdict_pairs⟩ := c.t.d.def_ 2 (d := LW.dz_Verdict_pairs) rfl
    have U_Verdict_pairs : L2.Fun K "pairs" "Verdict.pairs" LW.st_Verdict_pairs (He.fAd K ("Verdict", some "pairs")) fd_Verdict_pairs := W3.funOfD V_Verdict_pairs
    obtain ⟨fd_Verdict___or__, V_Verdict___or__⟩ := c.t.d.def_ 3 (d := LW.dz_Verdict___or__) rfl
    have U_Verdict___or__ : L2.Fun K "__or__" "Verdict.__or__" LW.st_Verdict___or__ (He.fAd K ("Verdict", some "__or__")) fd_Verdict___or__ := W3.funOfD V_Verdict___or__
    obtain ⟨fd_Verdict___and__, V_Verdict___and__⟩ := c.t.d.def_ 4 (d := LW.dz_Verdict___and__) rfl
    have U_Verdict___and__ : L2.Fun K "__and__" "Verdict.__and__" LW.st_Verdict___and__ (He.fAd K ("Verdict", some "__and__")) fd_Verdict___and__ := W3.funOfD V_Verdict___and__
    obtain ⟨fd_Verdict___sub__, V_Verdict___sub__⟩ := c.t.d.def_ 5 (d := LW.dz_Verdict___sub__) rfl
    have U_Verdict___sub__ : L2.Fun K "__sub__" "Verdict.__sub__" LW.st_Verdict___sub__ (He.fAd K ("Verdict", some "__sub__")) fd_Verdict___sub__ := W3.funOfD V_Verdict___sub__
    obtain ⟨fd_Verdict___xor__, V_Verdict___xor__⟩ := c.t.d.def_ 6 (d := LW.dz_Verdict___xor__) rfl
    have U_Verdict___xor__ : L2.Fun K "__xor__" "Verdict.__xor__" LW.st_Verdict___xor__ (He.fAd K ("Verdict", some "__xor__")) fd_Verdict___xor__ := W3.funOfD V_Verdict___xor__
    obtain ⟨fd_Verdict___eq__, V_Verdict___eq__⟩ := c.t.d.def_ 7 (d := LW.dz_Verdict___eq__) rfl
    have U_Verdict___eq__ : L2.Fun K "__eq__" "Verdict.__eq__" LW.st_Verdict___eq__ (He.fAd K ("Verdict", some "__eq__")) fd_Verdict___eq__ := W3.funOfD V_Verdict___eq__
    obtain ⟨fd_Verdict___len__, V_Verdict___len__⟩ := c.t.d.def_ 8 (d := LW.dz_Verdict___len__) rfl
    have U_Verdict___len__ : L2.Fun K "__len__" "Verdict.__len__" LW.st_Verdict___len__ (He.fAd K ("Verdict", some "__len__")) fd_Verdict___len__ := W3.funOfD V_Verdict___len__
    obtain ⟨fd_Verdict___contains__, V_Verdict___contains__⟩ := c.t.d.def_ 9 (d := LW.dz_Verdict___contains__) rfl
    have U_Verdict___contains__ : L2.Fun K "__contains__" "Verdict.__contains__" LW.st_Verdict___contains__ (He.fAd K ("Verdict", some "__contains__")) fd_Verdict___contains__ := W3.funOfD V_Verdict___contains__
    obtain ⟨fd_Verdict___bool__, V_Verdict___bool__⟩ := c.t.d.def_ 10 (d := LW.dz_Verdict___bool__) rfl
    have U_Verdict___bool__ : L2.Fun K "__bool__" "Verdict.__bool__" LW.st_Verdict___bool__ (He.fAd K ("Verdict", some "__bool__")) fd_Verdict___bool__ := W3.funOfD V_Verdict___bool__
    obtain ⟨fd__law_same, V__law_same⟩ := c.t.d.def_ 11 (d := LW.dz__law_same) rfl
    have U__law_same : L2.Fun K "_law_same" "_law_same" LW.st__law_same (He.fAd K ("_law_same", none)) fd__law_same := W3.funOfD V__law_same
    obtain ⟨fd__law_pair, V__law_pair⟩ := c.t.d.def_ 12 (d := LW.dz__law_pair) rfl
    have U__law_pair : L2.Fun K "_law_pair" "_law_pair" LW.st__law_pair (He.fAd K ("_law_pair", none)) fd__law_pair := W3.funOfD V__law_pair
    obtain ⟨fd__law_rows, V__law_rows⟩ := c.t.d.def_ 13 (d := LW.dz__law_rows) rfl
    have U__law_rows : L2.Fun K "_law_rows" "_law_rows" LW.st__law_rows (He.fAd K ("_law_rows", none)) fd__law_rows := W3.funOfD V__law_rows
    obtain ⟨fd__law_holds, V__law_holds⟩ := c.t.d.def_ 14 (d := LW.dz__law_holds) rfl
    have U__law_holds : L2.Fun K "_law_holds" "_law_holds" LW.st__law_holds (He.fAd K ("_law_holds", none)) fd__law_holds := W3.funOfD V__law_holds
    obtain ⟨fd__law_is_kept, V__law_is_kept⟩ := c.t.d.def_ 15 (d := LW.dz__law_is_kept) rfl
    have U__law_is_kept : L2.Fun K "_law_is_kept" "_law_is_kept" LW.st__law_is_kept (He.fAd K ("_law_is_kept", none)) fd__law_is_kept := W3.funOfD V__law_is_kept
    obtain ⟨fd_law, V_law⟩ := c.t.d.def_ 16 (d := LW.dz_law) rfl
    have U_law : L2.Fun K "law" "law" LW.st_law (He.fAd K ("law", none)) fd_law := W3.funOfD V_law
    obtain ⟨fd, hb, hF⟩ := LW.all_mk (P := (PySem.Challenge.rw_wrongshown_k68_verdict_operators).prog) (w := w) KX G hmg (C_Verdict := (He.ga K "Verdict")) (f_check_kind := (He.fAd K ("check_kind", none))) (f_Verdict_init := (He.fAd K ("Verdict", some "__init__"))) (f_Verdict_pairs := (He.fAd K ("Verdict", some "pairs"))) (f_Verdict___or__ := (He.fAd K ("Verdict", some "__or__"))) (f_Verdict___and__ := (He.fAd K ("Verdict", some "__and__"))) (f_Verdict___sub__ := (He.fAd K ("Verdict", some "__sub__"))) (f_Verdict___xor__ := (He.fAd K ("Verdict", some "__xor__"))) (f_Verdict___eq__ := (He.fAd K ("Verdict", some "__eq__"))) (f_Verdict___len__ := (He.fAd K ("Verdict", some "__len__"))) (f_Verdict___contains__ := (He.fAd K ("Verdict", some "__contains__"))) (f_Verdict___bool__ := (He.fAd K ("Verdict", some "__bool__"))) (f__law_same := (He.fAd K ("_law_same", none))) (f__law_pair := (He.fAd K ("_law_pair", none))) (f__law_rows := (He.fAd K ("_law_rows", none))) (f__law_holds := (He.fAd K ("_law_holds", none))) (f__law_is_kept := (He.fAd K ("_law_is_kept", none))) (f_law := (He.fAd K ("law", none))) (C_InvalidKind := (He.ga K "InvalidKind")) (xf_InvalidKind := (He.ma K (He.ga K "InvalidKind") "__init__")) (A_KINDS := (He.ga K "KINDS"))
      (of_decide_eq_true (c.b 2 (b := LW.bz_2) rfl))
      (of_decide_eq_true (c.b 3 (b := LW.bz_3) rfl))
      (of_decide_eq_true (c.b 4 (b := LW.bz_4) rfl))
      (of_decide_eq_true (c.b 5 (b := LW.bz_5) rfl))
      (of_decide_eq_true (c.b 6 (b := LW.bz_6) rfl))
      (of_decide_eq_true (c.b 7 (b := LW.bz_7) rfl))
      (of_decide_eq_true (c.b 8 (b := LW.bz_8) rfl))
      (of_decide_eq_true (c.b 9 (b := LW.bz_9) rfl))
      (of_decide_eq_true (c.b 10 (b := LW.bz_10) rfl))
      U_check_kind
      (of_decide_eq_true (c.b 11 (b := LW.bz_11) rfl))
      (of_decide_eq_true (c.b 12 (b := LW.bz_12) rfl))
      U_Verdict_init
      (of_decide_eq_true (c.b 13 (b := LW.bz_13) rfl))
      (of_decide_eq_true (c.b 14 (b := LW.bz_14) rfl))
      U_Verdict_pairs
      (of_decide_eq_true (c.b 15 (b := LW.bz_15) rfl))
      (of_decide_eq_true (c.b 16 (b := LW.bz_16) rfl))
      U_Verdict___or__
      (of_decide_eq_true (c.b 17 (b := LW.bz_17) rfl))
      (of_decide_eq_true (c.b 18 (b := LW.bz_18) rfl))
      U_Verdict___and__
      (of_decide_eq_true (c.b 19 (b := LW.bz_19) rfl))
      (of_decide_eq_true (c.b 20 (b := LW.bz_20) rfl))
      U_Verdict___sub__
      (of_decide_eq_true (c.b 21 (b := LW.bz_21) rfl))
      (of_decide_eq_true (c.b 22 (b := LW.bz_22) rfl))
      U_Verdict___xor__
      (of_decide_eq_true (c.b 23 (b := LW.bz_23) rfl))
      (of_decide_eq_true (c.b 24 (b := LW.bz_24) rfl))
      U_Verdict___eq__
      (of_decide_eq_true (c.b 25 (b := LW.bz_25) rfl))
      (of_decide_eq_true (c.b 26 (b := LW.bz_26) rfl))
      U_Verdict___len__
      (of_decide_eq_true (c.b 27 (b := LW.bz_27) rfl))
      (of_decide_eq_true (c.b 28 (b := LW.bz_28) rfl))
      U_Verdict___contains__
      (of_decide_eq_true (c.b 29 (b := LW.bz_29) rfl))
      (of_decide_eq_true (c.b 30 (b := LW.bz_30) rfl))
      U_Verdict___bool__
      (of_decide_eq_true (c.b 31 (b := LW.bz_31) rfl))
      U__law_same
      (of_decide_eq_true (c.b 32 (b := LW.bz_32) rfl))
      U__law_pair
      (of_decide_eq_true (c.b 33 (b := LW.bz_33) rfl))
      U__law_rows
      (of_decide_eq_true (c.b 34 (b := LW.bz_34) rfl))
      U__law_holds
      (of_decide_eq_true (c.b 35 (b := LW.bz_35) rfl))
      U__law_is_kept
      (of_decide_eq_true (c.b 36 (b := LW.bz_36) rfl))
      U_law
      (of_decide_eq_true (c.b 37 (b := LW.bz_37) rfl))
      (of_decide_eq_true (c.b 38 (b := LW.bz_38) rfl))
      (of_decide_eq_true (c.b 39 (b := LW.bz_39) rfl))
      (of_decide_eq_true (c.b 40 (b := LW.bz_40) rfl))
      (of_decide_eq_true (c.b 41 (b := LW.bz_41) rfl))
      (of_decide_eq_true (c.b 42 (b := LW.bz_42) rfl))
      (of_decide_eq_true (c.b 43 (b := LW.bz_43) rfl))
      (of_decide_eq_true (c.b 44 (b := LW.bz_44) rfl))
      (of_decide_eq_true (c.b 45 (b := LW.bz_45) rfl))
      (of_decide_eq_true (c.b 46 (b := LW.bz_46) rfl))
      (of_decide_eq_true (c.b 47 (b := LW.bz_47) rfl))
      (of_decide_eq_true (c.b 48 (b := LW.bz_48) rfl))
      (of_decide_eq_true (c.b 49 (b := LW.bz_49) rfl))
      (of_decide_eq_true (c.b 50 (b := LW.bz_50) rfl))
      (by decide +kernel)
      (of_decide_eq_true (c.b 51 (b := LW.bz_51) rfl))
      (of_decide_eq_true (c.b 52 (b := LW.bz_52) rfl))
      (of_decide_eq_true (c.b 53 (b := LW.bz_53) rfl))
      (of_decide_eq_true (c.b 54 (b := LW.bz_54) rfl))
      (of_decide_eq_true (c.b 55 (b := LW.bz_55) rfl))
      (of_decide_eq_true (c.b 56 (b := LW.bz_56) rfl))
      (of_decide_eq_true (c.b 57 (b := LW.bz_57) rfl))
      (of_decide_eq_true (c.b 58 (b := LW.bz_58) rfl))
      (of_decide_eq_true (c.b 59 (b := LW.bz_59) rfl))
      (W3.xinit_of (c.x 0 (f := LW.xz_InvalidKind) (e := W3.xeV "InvalidKind.__init__" LW.st_x_InvalidKind) rfl rfl) (c.b 1 (b := LW.bz_1) rfl))
      (of_decide_eq_true (c.b 60 (b := LW.bz_60) rfl))
      (of_decide_eq_true (c.b 61 (b := LW.bz_61) rfl))
      (of_decide_eq_true (c.b 62 (b := LW.bz_62) rfl))
      (of_decide_eq_true (c.b 63 (b := LW.bz_63) rfl))
      (of_decide_eq_true (c.b 64 (b := LW.bz_64) rfl))
      (of_decide_eq_true (c.b 65 (b := LW.bz_65) rfl))
      (of_decide_eq_true (c.b 66 (b := LW.bz_66) rfl))
      (of_decide_eq_true (c.b 67 (b := LW.bz_67) rfl))
      (of_decide_eq_true (c.b 68 (b := LW.bz_68) rfl))
      (of_decide_eq_true (c.b 69 (b := LW.bz_69) rfl))
      (W3.strsB_ok (c.b 0 (b := LW.bz_0) rfl) (by decide +kernel))
      (of_decide_eq_true (c.b 70 (b := LW.bz_70) rfl))
      (of_decide_eq_true (c.b 71 (b := LW.bz_71) rfl))
      (of_decide_eq_true (c.b 72 (b := LW.bz_72) rfl))
      (of_decide_eq_true (c.b 73 (b := LW.bz_73) rfl))
      (of_decide_eq_true (c.b 74 (b := LW.bz_74) rfl))
      (of_decide_eq_true (c.b 75 (b := LW.bz_75) rfl))
      (of_decide_eq_true (c.b 76 (b := LW.bz_76) rfl))
      (of_decide_eq_true (c.b 77 (b := LW.bz_77) rfl))
      (of_decide_eq_true (c.b 78 (b := LW.bz_78) rfl))
      (of_decide_eq_true (c.b 79 (b := LW.bz_79) rfl))
      LW.fuel
    exact ⟨K, fd, KX, hb, hF⟩
end
