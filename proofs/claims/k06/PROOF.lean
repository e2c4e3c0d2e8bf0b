import PyProof.Rows.All
import Wide.All
import OpenK.AllK
import Wide.FinOn
import HandS.Base
import HandS.Exc
import HandS.Words
import KE.KExcPX
import HandS.Head0
import HandS.Head1
import HandS.Head2
import HandS.HeadEnd
import HandS.HeadHook1
import HandS.HeadHook2
import HandS.HeadHook3
import HandS.ForMost
import HandS.ForExc
import HandS.TupAny
import HandS.TupMul
import HandS.Deep
import HandS.IsInst
import HandS.Style
import HandS.Iter
import HandS.Defaults
import HandS.SetBool
import HandS.SetKeys
import HandS.SetFor
import HandS.MakeKwOnly
import KE.GoesEnum
import HandS.Zip
import HandS.Nested
import HandS.ExcInit
import HandS.ExcSuper
import HandS.TryMany
import KE.KExcSuper
import HandS.ExcField
import HandS.ExcIs
import HandS.DictComp
import HandS.TryOnly
import PyProof.SeqIndex
import PyProof.P3In
import HandS.TupSets
import KE.SortData
import HandS.More
import HandS.Dict
import HandS.Zip0
import KE.KDictZip
import HandS.Property
import HandS.NamedTupGet
import HandS.SlotsOwn
import KE.KOpsOwn
import HandS.OwnEq
import HandS.Text
import PyProof.InstNe
import HandS.Rev
import PySem.Challenge.RW_wrongshown_k06_rule_parts
set_option Elab.async false
set_option linter.all false
set_option maxRecDepth 100000
set_option maxHeartbeats 1000000
set_option autoImplicit false
section
namespace W3
open PySem PySem.Spec PyProof.Rows
open L2
def oexB (K : PySem.W.Frag) (C : Addr) : Bool := match K.lookup C with
  | some ⟨.type t, _, .cls cd, sl⟩ => decide (t = "type") && (match cd.mro, sl.toList with
    | .ref C' :: bm, [_, _, _, _, some (.builtin n), _] => decide (C' = C) && (decide (n = "ValueError.__new__") && (!cd.hasDel && (cd.hasDict && PySem.HandSPX.refsVE bm)))
    | _, _ => false)
  | _ => false
abbrev FnE : Type := Option (Str × Str × Arguments × FuncBody × Scope × Addr × List Str × Value × Value × Addr)
def fnE (K : PySem.W.Frag) (f : Addr) : FnE := match K.lookup f with
  | some ⟨_, _, .func fd, _⟩ => some (fd.name, fd.qualname, fd.params, fd.body, fd.scope, fd.globals, fd.closure.map Prod.fst, fd.defaults, fd.kwdefaults, fd.builtins)
  | _ => none
def xeV (qual : Str) (st : Stmt) : FnE := some ("__init__", qual, defArgs st, .stmts (defBody st), defScope st, mainGlobals, ["__class__"], .none, .none, builtinsNs)
def cellB (K : PySem.W.Frag) (cc C : Addr) : Bool := match K.lookup cc with
  | some ⟨_, _, .cell (some (.ref D)), _⟩ => decide (D = C)
  | _ => false
def fileB (K : PySem.W.Frag) (c : Addr) (file : Str) : Bool := match K.lookup c with
  | some ⟨_, _, .fields vs, _⟩ => (match (vs[2]? : Option Value) with
    | some (Value.str g _) => file == g
    | _ => false)
  | _ => false
def initB (K : PySem.W.Frag) (C f : Addr) (file qual : Str) : Bool := match K.lookup f with
  | some ⟨_, _, .func fd, _⟩ => (match fd.closure, fd.code with
    | [(_, cc)], .ref c => cellB K cc C && (fileB K c file && PySem.W.codeIn K (.ref c) qual)
    | _, _ => false)
  | _ => false
def strsA : List Str → List Value → Bool
  | [], [] => true
  | s :: ss, .str t _ :: vs => decide (s = t) && strsA ss vs
  | _, _ => false
def strsB (K : PySem.W.Frag) (a : Addr) (ss : List Str) : Bool := match K.lookup a with
  | some ⟨.type t, none, .seq its _, _⟩ => decide (t = "tuple") && (decide (its.size ≤ sizeLine) && strsA ss its.toList)
  | _ => false
def refsZ (o : Obj) : List Addr := match o.data with
  | .dict es _ => es.toList.flatMap fun e => He.refV e.val
  | .func fd => He.refV fd.code ++ (He.refV fd.kwdefaults ++ fd.closure.map Prod.snd)
  | .cls cd => cd.ns :: cd.mro.flatMap He.refV
  | _ => []
def growZ (g : Addr → Option Obj) (as : List Addr) : List Addr := as.flatMap fun a => match g a with
  | some o => refsZ o
  | none => []
def as0 : List Addr := [mainGlobals, cStatics]
def as1 (g : Addr → Option Obj) (gl : List Str) : List Addr := gl.map (He.ga (He.frG g as0))
def as2 (g : Addr → Option Obj) (gl : List Str) : List Addr := as0 ++ (as1 g gl ++ growZ g (as1 g gl))
def as3 (g : Addr → Option Obj) (gl : List Str) (ms : List (Str × Str)) : List Addr := ms.map fun p => He.ma (He.frG g (as2 g gl)) (He.ga (He.frG g (as2 g gl)) p.1) p.2
def propZ (g : Addr → Option Obj) (as : List Addr) : List Addr := as.flatMap fun a => match g a with
  | some ⟨.type n, _, .fields vs, _⟩ => if n == "property" then vs.toList.flatMap He.refV else []
  | _ => []
def as4 (g : Addr → Option Obj) (gl : List Str) (ms : List (Str × Str)) : List Addr := propZ g (as3 g gl ms)
def asZ (g : Addr → Option Obj) (gl : List Str) (ms : List (Str × Str)) : List Addr := as2 g gl ++ (as3 g gl ms ++ (growZ g (as3 g gl ms) ++ (as4 g gl ms ++ growZ g (as4 g gl ms))))
def frZ (g : Addr → Option Obj) (gl : List Str) (ms : List (Str × Str)) : PySem.W.Frag := He.frG g (asZ g gl ms)
abbrev AlZ : Type := He.AlT × (List FnE × Bool)
def obsZ (fn : List He.DefD) (ts : List He.Tab) (xs : List (PySem.W.Frag → Addr)) (bs : List (PySem.W.Frag → Bool)) (K : PySem.W.Frag) : AlZ := (He.obsT [] fn ts K, (xs.map fun f => fnE K (f K), bs.all fun b => b K))
def valZ (fn : List He.DefD) (ts : List He.Tab) (es : List FnE) (w : World) : AlZ := (He.valT fn ts w, (es, true))
def SaysZ (fn : List He.DefD) (ts : List He.Tab) (xs : List (PySem.W.Frag → Addr)) (es : List FnE) (bs : List (PySem.W.Frag → Bool)) (w : World) (K : PySem.W.Frag) : Prop := obsZ fn ts xs bs K = valZ fn ts es w
def hookZ (gl : List Str) (ms : List (Str × Str)) (fn : List He.DefD) (ts : List He.Tab) (xs : List (PySem.W.Frag → Addr)) (es : List FnE) (bs : List (PySem.W.Frag → Bool)) : PySem.W.Hook where
  α := AlZ
  obs := fun s => obsZ fn ts xs bs (frZ s.heap.get? gl ms)
  val := fun w => valZ fn ts es w
  says := fun w h => ∃ K : PySem.W.Frag, K.In h ∧ SaysZ fn ts xs es bs w K
  of := fun _ _ e => ⟨_, He.frG_in, e⟩
  keeps := fun _ _ _ ⟨K, hK, c⟩ k => ⟨K, PySem.W.Frag.In.keeps hK k, c⟩
theorem obsZ_eq {gl : List Str} {ms : List (Str × Str)} {fn : List He.DefD} {ts : List He.Tab} {xs : List (PySem.W.Frag → Addr)} {es : List FnE} {bs : List (PySem.W.Frag → Bool)} {g : Addr → Option Obj} {s : Shared} (h : ∀ a, g a = s.heap.get? a) : obsZ fn ts xs bs (frZ g gl ms) = (hookZ gl ms fn ts xs es bs).obs s := by
  have e : g = s.heap.get? := funext h
  rw [e] <;> rfl
end W3
end

section
namespace LW
open PySem PySem.Spec PyProof.Rows
open L2 W3
def topS (i : Nat) : Stmt := PySem.Challenge.pw_wrongshown_k06_rule_parts.main.body.getD i (.Pass ⟨0, 0, 0, 0⟩)
abbrev st_is_name : Stmt := (topS 6)
abbrev st_is_name_pair : Stmt := (topS 15)
abbrev st_are_pairs : Stmt := (topS 16)
abbrev st_fits_part : Stmt := (topS 17)
abbrev st_Rule_init : Stmt := (inClass (topS 19) 0)
abbrev st_Rule___eq__ : Stmt := (inClass (topS 19) 1)
abbrev st_Rule_six : Stmt := (inClass (topS 19) 3)
abbrev st__law_mix : Stmt := (topS 21)
abbrev st__law_box : Stmt := (topS 22)
abbrev st__law_draw : Stmt := (topS 23)
abbrev st__law_same : Stmt := (topS 24)
abbrev st__law_menu : Stmt := (topS 25)
abbrev st__law_is_name : Stmt := (topS 26)
abbrev st__law_are_pairs : Stmt := (topS 27)
abbrev st__law_fits : Stmt := (topS 28)
abbrev st__law_pairs : Stmt := (topS 29)
abbrev st__law_good : Stmt := (topS 30)
abbrev st__law_value : Stmt := (topS 31)
abbrev st__law_six : Stmt := (topS 32)
abbrev st__law_made : Stmt := (topS 33)
abbrev st__law_told : Stmt := (topS 34)
abbrev st__law_due : Stmt := (topS 35)
abbrev st_law : Stmt := (topS 36)
abbrev st_x_InvalidRule : Stmt := (inClass (topS 3) 0)
def glZ : List Str := (["is_name", "is_name_pair", "are_pairs", "fits_part", "_law_mix", "_law_box", "_law_draw", "_law_same", "_law_menu", "_law_is_name", "_law_are_pairs", "_law_fits", "_law_pairs", "_law_good", "_law_value", "_law_six", "_law_made", "_law_told", "_law_due", "law", "ShownError", "InvalidRule", "Rule", "OPENS", "CHECKS", "AROUNDS", "TAKENS", "SENDINGS", "PARTS", "MENUS"] : List (Str))
def msZ : List (Str × Str) := ([("Rule", "__init__"), ("Rule", "__eq__"), ("Rule", "six"), ("InvalidRule", "__init__")] : List (Str × Str))
def dz_is_name : He.DefD := ⟨("is_name", none), "is_name", "is_name", defArgs st_is_name, defBody st_is_name, defScope st_is_name, [], []⟩
def dz_is_name_pair : He.DefD := ⟨("is_name_pair", none), "is_name_pair", "is_name_pair", defArgs st_is_name_pair, defBody st_is_name_pair, defScope st_is_name_pair, [], []⟩
def dz_are_pairs : He.DefD := ⟨("are_pairs", none), "are_pairs", "are_pairs", defArgs st_are_pairs, defBody st_are_pairs, defScope st_are_pairs, [], []⟩
def dz_fits_part : He.DefD := ⟨("fits_part", none), "fits_part", "fits_part", defArgs st_fits_part, defBody st_fits_part, defScope st_fits_part, [], []⟩
def dz_Rule_init : He.DefD := ⟨("Rule", some "__init__"), "__init__", "Rule.__init__", defArgs st_Rule_init, defBody st_Rule_init, defScope st_Rule_init, [], [("wipes", .bl false), ("taken", .str "same"), ("sending", .str "wait")]⟩
def dz_Rule___eq__ : He.DefD := ⟨("Rule", some "__eq__"), "__eq__", "Rule.__eq__", defArgs st_Rule___eq__, defBody st_Rule___eq__, defScope st_Rule___eq__, [], []⟩
def dz_Rule_six : He.DefD := ⟨("Rule", some "six"), "six", "Rule.six", defArgs st_Rule_six, defBody st_Rule_six, defScope st_Rule_six, [], []⟩
def dz__law_mix : He.DefD := ⟨("_law_mix", none), "_law_mix", "_law_mix", defArgs st__law_mix, defBody st__law_mix, defScope st__law_mix, [], []⟩
def dz__law_box : He.DefD := ⟨("_law_box", none), "_law_box", "_law_box", defArgs st__law_box, defBody st__law_box, defScope st__law_box, [], []⟩
def dz__law_draw : He.DefD := ⟨("_law_draw", none), "_law_draw", "_law_draw", defArgs st__law_draw, defBody st__law_draw, defScope st__law_draw, [], []⟩
def dz__law_same : He.DefD := ⟨("_law_same", none), "_law_same", "_law_same", defArgs st__law_same, defBody st__law_same, defScope st__law_same, [], []⟩
def dz__law_menu : He.DefD := ⟨("_law_menu", none), "_law_menu", "_law_menu", defArgs st__law_menu, defBody st__law_menu, defScope st__law_menu, [], []⟩
def dz__law_is_name : He.DefD := ⟨("_law_is_name", none), "_law_is_name", "_law_is_name", defArgs st__law_is_name, defBody st__law_is_name, defScope st__law_is_name, [], []⟩
def dz__law_are_pairs : He.DefD := ⟨("_law_are_pairs", none), "_law_are_pairs", "_law_are_pairs", defArgs st__law_are_pairs, defBody st__law_are_pairs, defScope st__law_are_pairs, [], []⟩
def dz__law_fits : He.DefD := ⟨("_law_fits", none), "_law_fits", "_law_fits", defArgs st__law_fits, defBody st__law_fits, defScope st__law_fits, [], []⟩
def dz__law_pairs : He.DefD := ⟨("_law_pairs", none), "_law_pairs", "_law_pairs", defArgs st__law_pairs, defBody st__law_pairs, defScope st__law_pairs, [], []⟩
def dz__law_good : He.DefD := ⟨("_law_good", none), "_law_good", "_law_good", defArgs st__law_good, defBody st__law_good, defScope st__law_good, [], []⟩
def dz__law_value : He.DefD := ⟨("_law_value", none), "_law_value", "_law_value", defArgs st__law_value, defBody st__law_value, defScope st__law_value, [], []⟩
def dz__law_six : He.DefD := ⟨("_law_six", none), "_law_six", "_law_six", defArgs st__law_six, defBody st__law_six, defScope st__law_six, [], []⟩
def dz__law_made : He.DefD := ⟨("_law_made", none), "_law_made", "_law_made", defArgs st__law_made, defBody st__law_made, defScope st__law_made, [], []⟩
def dz__law_told : He.DefD := ⟨("_law_told", none), "_law_told", "_law_told", defArgs st__law_told, defBody st__law_told, defScope st__law_told, [], []⟩
def dz__law_due : He.DefD := ⟨("_law_due", none), "_law_due", "_law_due", defArgs st__law_due, defBody st__law_due, defScope st__law_due, [], []⟩
def dz_law : He.DefD := ⟨("law", none), "law", "law", defArgs st_law, defBody st_law, defScope st_law, [], []⟩
def fnZ : List He.DefD := ([dz_is_name, dz_is_name_pair, dz_are_pairs, dz_fits_part, dz_Rule_init, dz_Rule___eq__, dz_Rule_six, dz__law_mix, dz__law_box, dz__law_draw, dz__law_same, dz__law_menu, dz__law_is_name, dz__law_are_pairs, dz__law_fits, dz__law_pairs, dz__law_good, dz__law_value, dz__law_six, dz__law_made, dz__law_told, dz__law_due, dz_law] : List (He.DefD))
def tz_MENUS : He.Tab := (fun K => He.ga K "MENUS", ["opens", "checks", "around", "taken", "sending"])
def tsZ : List He.Tab := [tz_MENUS]
def xz_InvalidRule : PySem.W.Frag → Addr := fun K => (He.ma K (He.ga K "InvalidRule") "__init__")
def xsZ : List (PySem.W.Frag → Addr) := [xz_InvalidRule]
def esZ : List FnE := [xeV "InvalidRule.__init__" st_x_InvalidRule]
def bz_0 : PySem.W.Frag → Bool := fun K => (He.Fa.str "LETTERS" "abcdefghijklmnopqrstuvwxyz").ok K
def bz_1 : PySem.W.Frag → Bool := fun K => strsB K (He.ga K "OPENS") (["enter", "leave", "send"] : List Str)
def bz_2 : PySem.W.Frag → Bool := fun K => strsB K (He.ga K "CHECKS") (["enter", "leave"] : List Str)
def bz_3 : PySem.W.Frag → Bool := fun K => strsB K (He.ga K "AROUNDS") (["own", "looks"] : List Str)
def bz_4 : PySem.W.Frag → Bool := fun K => strsB K (He.ga K "TAKENS") (["any", "same", "last"] : List Str)
def bz_5 : PySem.W.Frag → Bool := fun K => strsB K (He.ga K "SENDINGS") (["bar", "wait", "go"] : List Str)
def bz_6 : PySem.W.Frag → Bool := fun K => strsB K (He.ga K "PARTS") (["opens", "checks", "around", "wipes", "taken", "sending"] : List Str)
def bz_7 : PySem.W.Frag → Bool := fun K => initB K (He.ga K "InvalidRule") (He.ma K (He.ga K "InvalidRule") "__init__") (PySem.Challenge.rw_wrongshown_k06_rule_parts).prog.main.file "InvalidRule.__init__"
def bz_8 : PySem.W.Frag → Bool := fun K => decide (PySem.W.nsIn K mainGlobals "Rule" = some (some (.ref (He.ga K "Rule"))))
def bz_9 : PySem.W.Frag → Bool := fun K => decide (PySem.W.plainGet K (He.ga K "Rule") Str.empty = true)
def bz_10 : PySem.W.Frag → Bool := fun K => decide (PySem.W.hasDictIn K (He.ga K "Rule") = true)
def bz_11 : PySem.W.Frag → Bool := fun K => decide (PySem.W.plainOver K (He.ga K "Rule") = true)
def bz_12 : PySem.W.Frag → Bool := fun K => decide (PySem.W.findIn K (.ref (He.ga K "Rule")) "__setattr__" = some (some (.builtin "object.__setattr__")))
def bz_13 : PySem.W.Frag → Bool := fun K => decide (PySem.W.makesIn K (He.ga K "Rule") = true)
def bz_14 : PySem.W.Frag → Bool := fun K => decide (PySem.W.keepIn K (.ref (He.ga K "Rule")) = true)
def bz_15 : PySem.W.Frag → Bool := fun K => decide (PySem.W.findIn K (.ref (He.ga K "Rule")) "opens" = some none)
def bz_16 : PySem.W.Frag → Bool := fun K => decide (PySem.W.findIn K (.ref (He.ga K "Rule")) "checks" = some none)
def bz_17 : PySem.W.Frag → Bool := fun K => decide (PySem.W.findIn K (.ref (He.ga K "Rule")) "around" = some none)
def bz_18 : PySem.W.Frag → Bool := fun K => decide (PySem.W.findIn K (.ref (He.ga K "Rule")) "wipes" = some none)
def bz_19 : PySem.W.Frag → Bool := fun K => decide (PySem.W.findIn K (.ref (He.ga K "Rule")) "taken" = some none)
def bz_20 : PySem.W.Frag → Bool := fun K => decide (PySem.W.findIn K (.ref (He.ga K "Rule")) "sending" = some none)
def bz_21 : PySem.W.Frag → Bool := fun K => decide (PySem.W.nsIn K mainGlobals "is_name" = some (some (.ref (He.fAd K ("is_name", none)))))
def bz_22 : PySem.W.Frag → Bool := fun K => decide (PySem.W.nsIn K mainGlobals "is_name_pair" = some (some (.ref (He.fAd K ("is_name_pair", none)))))
def bz_23 : PySem.W.Frag → Bool := fun K => decide (PySem.W.nsIn K mainGlobals "are_pairs" = some (some (.ref (He.fAd K ("are_pairs", none)))))
def bz_24 : PySem.W.Frag → Bool := fun K => decide (PySem.W.nsIn K mainGlobals "fits_part" = some (some (.ref (He.fAd K ("fits_part", none)))))
def bz_25 : PySem.W.Frag → Bool := fun K => decide (PySem.W.findIn K (.ref (He.ga K "Rule")) "__init__" = some (some (.ref (He.fAd K ("Rule", some "__init__")))))
def bz_26 : PySem.W.Frag → Bool := fun K => decide (PySem.W.isFn K (.ref (He.fAd K ("Rule", some "__init__"))) = true)
def bz_27 : PySem.W.Frag → Bool := fun K => decide (PySem.W.findIn K (.ref (He.ga K "Rule")) "__eq__" = some (some (.ref (He.fAd K ("Rule", some "__eq__")))))
def bz_28 : PySem.W.Frag → Bool := fun K => decide (PySem.W.isFn K (.ref (He.fAd K ("Rule", some "__eq__"))) = true)
def bz_29 : PySem.W.Frag → Bool := fun K => decide (PySem.W.findIn K (.ref (He.ga K "Rule")) "six" = some (some (.ref (He.fAd K ("Rule", some "six")))))
def bz_30 : PySem.W.Frag → Bool := fun K => decide (PySem.W.isFn K (.ref (He.fAd K ("Rule", some "six"))) = true)
def bz_31 : PySem.W.Frag → Bool := fun K => decide (PySem.W.nsIn K mainGlobals "_law_mix" = some (some (.ref (He.fAd K ("_law_mix", none)))))
def bz_32 : PySem.W.Frag → Bool := fun K => decide (PySem.W.nsIn K mainGlobals "_law_box" = some (some (.ref (He.fAd K ("_law_box", none)))))
def bz_33 : PySem.W.Frag → Bool := fun K => decide (PySem.W.nsIn K mainGlobals "_law_draw" = some (some (.ref (He.fAd K ("_law_draw", none)))))
def bz_34 : PySem.W.Frag → Bool := fun K => decide (PySem.W.nsIn K mainGlobals "_law_same" = some (some (.ref (He.fAd K ("_law_same", none)))))
def bz_35 : PySem.W.Frag → Bool := fun K => decide (PySem.W.nsIn K mainGlobals "_law_menu" = some (some (.ref (He.fAd K ("_law_menu", none)))))
def bz_36 : PySem.W.Frag → Bool := fun K => decide (PySem.W.nsIn K mainGlobals "_law_is_name" = some (some (.ref (He.fAd K ("_law_is_name", none)))))
def bz_37 : PySem.W.Frag → Bool := fun K => decide (PySem.W.nsIn K mainGlobals "_law_are_pairs" = some (some (.ref (He.fAd K ("_law_are_pairs", none)))))
def bz_38 : PySem.W.Frag → Bool := fun K => decide (PySem.W.nsIn K mainGlobals "_law_fits" = some (some (.ref (He.fAd K ("_law_fits", none)))))
def bz_39 : PySem.W.Frag → Bool := fun K => decide (PySem.W.nsIn K mainGlobals "_law_pairs" = some (some (.ref (He.fAd K ("_law_pairs", none)))))
def bz_40 : PySem.W.Frag → Bool := fun K => decide (PySem.W.nsIn K mainGlobals "_law_good" = some (some (.ref (He.fAd K ("_law_good", none)))))
def bz_41 : PySem.W.Frag → Bool := fun K => decide (PySem.W.nsIn K mainGlobals "_law_value" = some (some (.ref (He.fAd K ("_law_value", none)))))
def bz_42 : PySem.W.Frag → Bool := fun K => decide (PySem.W.nsIn K mainGlobals "_law_six" = some (some (.ref (He.fAd K ("_law_six", none)))))
def bz_43 : PySem.W.Frag → Bool := fun K => decide (PySem.W.nsIn K mainGlobals "_law_made" = some (some (.ref (He.fAd K ("_law_made", none)))))
def bz_44 : PySem.W.Frag → Bool := fun K => decide (PySem.W.nsIn K mainGlobals "_law_told" = some (some (.ref (He.fAd K ("_law_told", none)))))
def bz_45 : PySem.W.Frag → Bool := fun K => decide (PySem.W.nsIn K mainGlobals "_law_due" = some (some (.ref (He.fAd K ("_law_due", none)))))
def bz_46 : PySem.W.Frag → Bool := fun K => decide (PySem.W.nsIn K mainGlobals "law" = some (some (.ref (He.fAd K ("law", none)))))
def bz_47 : PySem.W.Frag → Bool := fun K => decide (PySem.W.nsIn K mainGlobals "ShownError" = some (some (.ref (He.ga K "ShownError"))))
def bz_48 : PySem.W.Frag → Bool := fun K => decide (PySem.W.nsIn K mainGlobals "InvalidRule" = some (some (.ref (He.ga K "InvalidRule"))))
def bz_49 : PySem.W.Frag → Bool := fun K => decide (PySem.W.findIn K (.ref (He.ga K "Rule")) "__class__" = some (some (.builtin "object.__class__")))
def bz_50 : PySem.W.Frag → Bool := fun K => decide (PySem.W.mroIn K (He.ga K "Rule") (.type "object") = some true)
def bz_51 : PySem.W.Frag → Bool := fun K => decide (PySem.W.mroIn K (He.ga K "Rule") (.type "object") = some true)
def bz_52 : PySem.W.Frag → Bool := fun K => decide (PySem.W.findIn K (.ref (He.ga K "Rule")) "__ne__" = some (some (.builtin "object.__ne__")))
def bz_53 : PySem.W.Frag → Bool := fun K => decide (PySem.W.nsIn K cStatics "thirdparty.any" = some none)
def bz_54 : PySem.W.Frag → Bool := fun K => decide (PySem.W.specialIn K (.builtin "object.__class__") "__get__" = some (some (.builtin "getset_descriptor.__get__")))
def bz_55 : PySem.W.Frag → Bool := fun K => decide (PySem.W.takesIn K (.builtin "object.__class__") = some true)
def bz_56 : PySem.W.Frag → Bool := fun K => decide (oexB K (He.ga K "InvalidRule") = true)
def bz_57 : PySem.W.Frag → Bool := fun K => decide (PySem.W.findIn K (.ref (He.ga K "InvalidRule")) "__setattr__" = some (some (.builtin "object.__setattr__")))
def bz_58 : PySem.W.Frag → Bool := fun K => decide (PySem.W.subIn K (.ref (He.ga K "InvalidRule")) (.type "BaseException") = some true)
def bz_59 : PySem.W.Frag → Bool := fun K => decide (PySem.W.typeIn K (.ref (He.ga K "InvalidRule")) = some (.type "type"))
def bz_60 : PySem.W.Frag → Bool := fun K => decide (PySem.W.keepIn K (.ref (He.ga K "InvalidRule")) = true)
def bz_61 : PySem.W.Frag → Bool := fun K => decide (PySem.W.findIn K (.ref (He.ga K "InvalidRule")) "__init__" = some (some (.ref (He.ma K (He.ga K "InvalidRule") "__init__"))))
def bz_62 : PySem.W.Frag → Bool := fun K => decide (PySem.W.typeIn K (.ref (He.ma K (He.ga K "InvalidRule") "__init__")) = some (.type "function"))
def bz_63 : PySem.W.Frag → Bool := fun K => decide (PySem.W.ks_superIn K (He.ga K "InvalidRule") (He.ga K "InvalidRule") "__init__" = some (some (.builtin "ValueError.__init__")))
def bz_64 : PySem.W.Frag → Bool := fun K => decide (PySem.W.subIn K (.ref (He.ga K "InvalidRule")) (.type "ValueError") = some true)
def bz_65 : PySem.W.Frag → Bool := fun K => decide (PySem.W.mroIn K (He.ga K "InvalidRule") (.ref (He.ga K "InvalidRule")) = some true)
def bz_66 : PySem.W.Frag → Bool := fun K => decide (PySem.W.findIn K (.ref (He.ga K "InvalidRule")) "__getattribute__" = some (some (.builtin "BaseException.__getattribute__")))
def bz_67 : PySem.W.Frag → Bool := fun K => decide (PySem.W.findIn K (.ref (He.ga K "InvalidRule")) "__getattr__" = some none)
def bz_68 : PySem.W.Frag → Bool := fun K => decide (PySem.W.findIn K (.ref (He.ga K "InvalidRule")) "__class__" = some (some (.builtin "object.__class__")))
def bz_69 : PySem.W.Frag → Bool := fun K => decide (PySem.W.hasDictIn K (He.ga K "InvalidRule") = true)
def bz_70 : PySem.W.Frag → Bool := fun K => decide (PySem.W.mroIn K (He.ga K "InvalidRule") (.type "object") = some true)
def bz_71 : PySem.W.Frag → Bool := fun K => decide (PySem.W.findIn K (.ref (He.ga K "InvalidRule")) "part" = some none)
def bz_72 : PySem.W.Frag → Bool := fun K => decide (PySem.W.exmOne K (.ref (He.ga K "InvalidRule")) (.ref (He.ga K "InvalidRule")) = some true)
def bz_73 : PySem.W.Frag → Bool := fun K => decide (PySem.W.kitOne K (.ref (He.ga K "InvalidRule")) (.ref (He.ga K "ShownError")) = some true)
def bz_74 : PySem.W.Frag → Bool := fun K => decide (PySem.W.nsIn K mainGlobals "MENUS" = some (some (.ref (He.ga K "MENUS"))))
def bz_75 : PySem.W.Frag → Bool := fun K => decide (PySem.W.nsIn K (He.ga K "MENUS") "opens" = some (some (.ref (He.ga K "OPENS"))))
def bz_76 : PySem.W.Frag → Bool := fun K => decide (PySem.W.nsIn K (He.ga K "MENUS") "checks" = some (some (.ref (He.ga K "CHECKS"))))
def bz_77 : PySem.W.Frag → Bool := fun K => decide (PySem.W.nsIn K (He.ga K "MENUS") "around" = some (some (.ref (He.ga K "AROUNDS"))))
def bz_78 : PySem.W.Frag → Bool := fun K => decide (PySem.W.nsIn K (He.ga K "MENUS") "taken" = some (some (.ref (He.ga K "TAKENS"))))
def bz_79 : PySem.W.Frag → Bool := fun K => decide (PySem.W.nsIn K (He.ga K "MENUS") "sending" = some (some (.ref (He.ga K "SENDINGS"))))
def bz_80 : PySem.W.Frag → Bool := fun K => decide (PySem.W.nsIn K mainGlobals "PARTS" = some (some (.ref (He.ga K "PARTS"))))
def bz_81 : PySem.W.Frag → Bool := fun K => decide (PySem.W.nsIn K mainGlobals "all" = some none)
def bz_82 : PySem.W.Frag → Bool := fun K => decide (PySem.W.nsIn K mainGlobals "bool" = some none)
def bz_83 : PySem.W.Frag → Bool := fun K => decide (PySem.W.nsIn K mainGlobals "int" = some none)
def bz_84 : PySem.W.Frag → Bool := fun K => decide (PySem.W.nsIn K mainGlobals "isinstance" = some none)
def bz_85 : PySem.W.Frag → Bool := fun K => decide (PySem.W.nsIn K mainGlobals "len" = some none)
def bz_86 : PySem.W.Frag → Bool := fun K => decide (PySem.W.nsIn K mainGlobals "list" = some none)
def bz_87 : PySem.W.Frag → Bool := fun K => decide (PySem.W.nsIn K mainGlobals "range" = some none)
def bz_88 : PySem.W.Frag → Bool := fun K => decide (PySem.W.nsIn K mainGlobals "reversed" = some none)
def bz_89 : PySem.W.Frag → Bool := fun K => decide (PySem.W.nsIn K mainGlobals "set" = some none)
def bz_90 : PySem.W.Frag → Bool := fun K => decide (PySem.W.nsIn K mainGlobals "sorted" = some none)
def bz_91 : PySem.W.Frag → Bool := fun K => decide (PySem.W.nsIn K mainGlobals "str" = some none)
def bz_92 : PySem.W.Frag → Bool := fun K => decide (PySem.W.nsIn K mainGlobals "super" = some none)
def bz_93 : PySem.W.Frag → Bool := fun K => decide (PySem.W.nsIn K mainGlobals "tuple" = some none)
def bz_94 : PySem.W.Frag → Bool := fun K => decide (PySem.W.nsIn K mainGlobals "zip" = some none)
def bsZ : List (PySem.W.Frag → Bool) := ([bz_0, bz_1, bz_2, bz_3, bz_4, bz_5, bz_6, bz_7, bz_8, bz_9, bz_10, bz_11, bz_12, bz_13, bz_14, bz_15, bz_16, bz_17, bz_18, bz_19, bz_20, bz_21, bz_22, bz_23, bz_24, bz_25, bz_26, bz_27, bz_28, bz_29] : List (PySem.W.Frag → Bool)) ++ ([bz_30, bz_31, bz_32, bz_33, bz_34, bz_35, bz_36, bz_37, bz_38, bz_39, bz_40, bz_41, bz_42, bz_43, bz_44, bz_45, bz_46, bz_47, bz_48, bz_49, bz_50, bz_51, bz_52, bz_53, bz_54, bz_55, bz_56, bz_57, bz_58, bz_59] : List (PySem.W.Frag → Bool)) ++ ([bz_60, bz_61, bz_62, bz_63, bz_64, bz_65, bz_66, bz_67, bz_68, bz_69, bz_70, bz_71, bz_72, bz_73, bz_74, bz_75, bz_76, bz_77, bz_78, bz_79, bz_80, bz_81, bz_82, bz_83, bz_84, bz_85, bz_86, bz_87, bz_88, bz_89] : List (PySem.W.Frag → Bool)) ++ ([bz_90, bz_91, bz_92, bz_93, bz_94] : List (PySem.W.Frag → Bool))
abbrev RZ : PySem.W.OpenRow := PySem.W.OpenLaw.row PySem.Challenge.rw_wrongshown_k06_rule_parts
abbrev qZ : Program := PySem.W.view RZ.prog [36]
def namesZ : List Str := (["_wall", "__name__", "ShownError", "InvalidRule", "__name__", "LETTERS", "is_name", "__name__", "PARTS", "OPENS", "CHECKS", "AROUNDS", "TAKENS", "SENDINGS", "MENUS", "is_name_pair", "are_pairs", "fits_part", "pairs_word", "Rule", "__name__", "_law_mix", "_law_box", "_law_draw", "_law_same", "_law_menu", "_law_is_name", "_law_are_pairs", "_law_fits", "_law_pairs"] : List (Str)) ++ (["_law_good", "_law_value", "_law_six", "_law_made", "_law_told", "_law_due"] : List (Str))
abbrev hkZ : PySem.W.Hook := hookZ glZ msZ fnZ tsZ xsZ esZ bsZ
def obZ (s : PySem.W.SharedT) : AlZ := obsZ fnZ tsZ xsZ bsZ (frZ (HandSHeadRun.getT s) glZ msZ)
theorem obZ_eq (s : PySem.W.SharedT) : obZ s = hkZ.obs s.abs := obsZ_eq (HandSHeadRun.getT_eq s)
open PyProof.Rows PySem.W in
set_option maxHeartbeats 0 in
theorem runZ1 (w : World) : HandSHeadRun.RunEq RZ qZ hkZ obZ 20000 namesZ (w.withFollow "special-get-raises" false) := by
  intro os
  kernel_rfl
open PyProof.Rows PySem.W in
set_option maxHeartbeats 0 in
theorem runZ2 (w : World) : HandSHeadRun.RunEq RZ qZ hkZ obZ 20000 namesZ (w.withFollow "special-get-raises" true) := by
  intro os
  kernel_rfl
open PyProof.Rows PySem.W in
theorem runZ (w : World) : HandSHeadRun.RunEq RZ qZ hkZ obZ 20000 namesZ w := byRow2 "special-get-raises" (P := fun w => HandSHeadRun.RunEq RZ qZ hkZ obZ 20000 namesZ w) runZ1 runZ2 w
end LW
end

section
namespace W3
open PySem
inductive T where
  | non | bl (b : Bool) | int (i : Int) | str (s : Str) | tup (ts : List T) | ref (l : Nat) | fl (ts : List T) | cls (c : Str)
inductive Ob where
  | lst (ts : List T) | dic (kvs : List (T × T)) | ins (c : Str) (fs : List (Str × T))
abbrev Hh := List Ob
inductive Res (α : Type) where
  | ok (a : α) (h : Hh) | exc (c : Str) (fs : List (Str × T)) (h : Hh) | stk
def Res.bind {α β : Type} (r : Res α) (f : α → Hh → Res β) : Res β :=
  match r with
  | .ok a h => f a h
  | .exc c fs h => .exc c fs h
  | .stk => .stk
@[simp] theorem Res.bind_ok {α β : Type} (a : α) (h : Hh) (f : α → Hh → Res β) : (Res.ok a h).bind f = f a h := Eq.trans rfl rfl
@[simp] theorem Res.bind_exc {α β : Type} (c : Str) (fs : List (Str × T)) (h : Hh) (f : α → Hh → Res β) : (Res.exc c fs h : Res α).bind f = .exc c fs h := Eq.trans rfl rfl
@[simp] theorem Res.bind_stk {α β : Type} (f : α → Hh → Res β) : (Res.stk : Res α).bind f = .stk := Eq.trans rfl rfl
abbrev St3 := List (Option T)
abbrev SE := St3 → Hh → Res T
abbrev ST := St3 → Hh → Res Bool
abbrev SA := St3 → Hh → Res (List T)
def sVar (i : Nat) : SE := fun σ h => match σ[i]? with | some (some t) => .ok t h | _ => .stk
def sC (t : T) : SE := fun _ h => .ok t h
def s1 (f : T → Hh → Res T) (a : SE) : SE := fun σ h => (a σ h).bind fun x h1 => f x h1
def s2 (f : T → T → Hh → Res T) (a b : SE) : SE := fun σ h => (a σ h).bind fun x h1 => (b σ h1).bind fun y h2 => f x y h2
def sT (a : SE) : ST := fun σ h => (a σ h).bind fun x h1 => match x with | .bl b => .ok b h1 | _ => .stk
def stAnd (a b : ST) : ST := fun σ h => (a σ h).bind fun x h1 => if x = true then b σ h1 else .ok false h1
def stOr (a b : ST) : ST := fun σ h => (a σ h).bind fun x h1 => if x = true then .ok true h1 else b σ h1
def stNot (a : ST) : ST := fun σ h => (a σ h).bind fun x h1 => .ok (!x) h1
def sB (a : ST) : SE := fun σ h => (a σ h).bind fun x h1 => .ok (.bl x) h1
def sIf (c : ST) (a b : SE) : SE := fun σ h => (c σ h).bind fun x h1 => if x = true then a σ h1 else b σ h1
def sChain (f g : T → T → Hh → Res T) (a b c : SE) : SE := fun σ h => (a σ h).bind fun x h1 => (b σ h1).bind fun y h2 => (f x y h2).bind fun z h3 => match z with
  | .bl k => if k = true then (c σ h3).bind fun w h4 => g y w h4 else .ok (.bl false) h3
  | _ => .stk
def saNil : SA := fun _ h => .ok [] h
def saCons (a : SE) (r : SA) : SA := fun σ h => (a σ h).bind fun x h1 => (r σ h1).bind fun xs h2 => .ok (x :: xs) h2
def sTup (a : SA) : SE := fun σ h => (a σ h).bind fun xs h1 => if xs.length ≤ sizeLine then .ok (.tup xs) h1 else .stk
def alloc (o : Ob) (h : Hh) : Res T := .ok (.ref h.length) (h ++ [o])
def sLst (a : SA) : SE := fun σ h => (a σ h).bind fun xs h1 => if xs.length ≤ sizeLine then alloc (.lst xs) h1 else .stk
def sCl (f : List T → Hh → Res T) (a : SA) : SE := fun σ h => (a σ h).bind fun xs h1 => f xs h1
def sMt (f : T → List T → Hh → Res T) (o : SE) (a : SA) : SE := fun σ h => (o σ h).bind fun x h1 => (a σ h1).bind fun xs h2 => f x xs h2
def lstAt (h : Hh) (l : Nat) : Option (List T) := match h[l]? with | some (.lst ts) => some ts | _ => none
def insAt (h : Hh) (l : Nat) : Option (Str × List (Str × T)) := match h[l]? with | some (.ins c fs) => some (c, fs) | _ => none
def oAdd (x y : T) (h : Hh) : Res T :=
  match x, y with
  | .int i, .int j => .ok (.int (i + j)) h
  | .str i, .str j => if i.length + j.length ≤ sizeLine then .ok (.str (i ++ j)) h else .stk
  | .tup xs, .tup ys => if xs.length + ys.length ≤ sizeLine then .ok (.tup (xs ++ ys)) h else .stk
  | .ref l, .ref b => match lstAt h l, lstAt h b with
    | some xs, some zs => if xs.length + zs.length ≤ sizeLine then alloc (.lst (xs ++ zs)) h else .stk
    | _, _ => .stk
  | _, _ => .stk
def oSub (x y : T) (h : Hh) : Res T :=
  match x, y with
  | .int i, .int j => .ok (.int (i - j)) h
  | _, _ => .stk
def MulOk (i j : Int) : Prop := (-(2 ^ 64) < i ∧ i < 2 ^ 64) ∨ (-(2 ^ 64) < j ∧ j < 2 ^ 64)
def PowOk (i j : Int) : Prop := 0 ≤ j ∧ j ≤ 1000000 ∧ i.natAbs < 2 ^ 64
open Classical in
noncomputable def oMul (x y : T) (h : Hh) : Res T :=
  match x, y with
  | .int i, .int j => if MulOk i j then .ok (.int (i * j)) h else .stk
  | _, _ => .stk
def oMod (x y : T) (h : Hh) : Res T :=
  match x, y with
  | .int i, .int j => if 0 < j then .ok (.int (i % j)) h else .stk
  | _, _ => .stk
def oDiv (x y : T) (h : Hh) : Res T :=
  match x, y with
  | .int i, .int j => if 0 < j ∧ j < 1073741824 then .ok (.int (i / j)) h else .stk
  | _, _ => .stk
open Classical in
noncomputable def oPow (x y : T) (h : Hh) : Res T :=
  match x, y with
  | .int i, .int j => if PowOk i j then .ok (.int (i ^ j.toNat)) h else .stk
  | _, _ => .stk
def oNeg (x : T) (h : Hh) : Res T := match x with | .int i => .ok (.int (-i)) h | _ => .stk
def oLt (x y : T) (h : Hh) : Res T := match x, y with | .int i, .int j => .ok (.bl (decide (i < j))) h | _, _ => .stk
def oLe (x y : T) (h : Hh) : Res T := match x, y with | .int i, .int j => .ok (.bl (decide (i ≤ j))) h | _, _ => .stk
def oGt (x y : T) (h : Hh) : Res T := match x, y with | .int i, .int j => .ok (.bl (decide (j < i))) h | _, _ => .stk
def oGe (x y : T) (h : Hh) : Res T := match x, y with | .int i, .int j => .ok (.bl (decide (j ≤ i))) h | _, _ => .stk
def isNonT : T → Bool | .non => true | _ => false
def oIs (x y : T) (h : Hh) : Res T :=
  match y with
  | .non => .ok (.bl (isNonT x)) h
  | .bl b => match x with | .bl a => .ok (.bl (decide (a = b))) h | _ => .stk
  | _ => .stk
def oIsNot (x y : T) (h : Hh) : Res T :=
  match y with
  | .non => .ok (.bl (!isNonT x)) h
  | .bl b => match x with | .bl a => .ok (.bl (!decide (a = b))) h | _ => .stk
  | _ => .stk
def optL {α : Type} (f : T → Option α) : List T → Option (List α)
  | [] => some []
  | t :: ts => match f t, optL f ts with | some d, some ds => some (d :: ds) | _, _ => none
def toD (h : Hh) : Nat → T → Option PyData
  | 0 => fun _ => none
  | n + 1 => fun t => match t with
    | .non => some .none
    | .bl b => some (.bool b)
    | .int i => some (.int i)
    | .str s => some (.str s)
    | .tup ts => (optL (toD h n) ts).map .tuple
    | .fl ts => (optL (toD h n) ts).map .list
    | .ref l => match h[l]? with | some (.lst ts) => (optL (toD h n) ts).map .list | _ => none
    | .cls _ => none
def oEq (x y : T) (h : Hh) : Res T := match toD h 24 x, toD h 24 y with | some d, some e => .ok (.bl (PyData.eqv d e)) h | _, _ => .stk
def oNe (x y : T) (h : Hh) : Res T := match toD h 24 x, toD h 24 y with | some d, some e => .ok (.bl (!PyData.eqv d e)) h | _, _ => .stk
def inT (x y : T) (h : Hh) : Option Bool :=
  match x, y with
  | .str i, .str j => some (!(Builtin.Str.occurrences j i 0 j.length 1).isEmpty)
  | x, y => match toD h 24 x, toD h 24 y with
    | some d, some (.list ds) => some (ds.any fun z => PyData.eqv z d)
    | some d, some (.tuple ds) => some (ds.any fun z => PyData.eqv z d)
    | _, _ => none
def oIn (x y : T) (h : Hh) : Res T := match inT x y h with | some b => .ok (.bl b) h | none => .stk
def oNotIn (x y : T) (h : Hh) : Res T := match inT x y h with | some b => .ok (.bl (!b)) h | none => .stk
def oIx (x y : T) (h : Hh) : Res T :=
  match y with
  | .int i => match x with
    | .tup ts => match L2.atI ts i with | some t => .ok t h | none => .stk
    | .fl ts => match L2.atI ts i with | some t => .ok t h | none => .stk
    | .ref l => match lstAt h l with
      | some ts => match L2.atI ts i with | some t => .ok t h | none => .stk
      | none => .stk
    | .str z => if z.length ≤ sizeLine then (match L2.atI z.cps.toList i with | some c => .ok (.str ⟨#[c]⟩) h | none => .stk) else .stk
    | _ => .stk
  | _ => .stk
def cutT {α : Type} (xs : List α) (lo hi : Option Int) : List α := (xs.drop (HT.sIx xs.length 0 lo)).take (HT.sIx xs.length xs.length hi - HT.sIx xs.length 0 lo)
abbrev SO := St3 → Hh → Res (Option Int)
def soNone : SO := fun _ h => .ok none h
def soSome (a : SE) : SO := fun σ h => (a σ h).bind fun x h1 => match x with | .int i => .ok (some i) h1 | _ => .stk
def oSl (x : T) (lo hi : Option Int) (h : Hh) : Res T :=
  match x with
  | .tup ts => .ok (.tup (cutT ts lo hi)) h
  | .fl ts => alloc (.lst (cutT ts lo hi)) h
  | .ref l => match lstAt h l with | some ts => alloc (.lst (cutT ts lo hi)) h | none => .stk
  | .str z => if z.length ≤ sizeLine then .ok (.str (L2.cutS z lo hi)) h else .stk
  | _ => .stk
def sSl (a : SE) (lo hi : SO) : SE := fun σ h => (a σ h).bind fun x h1 => (lo σ h1).bind fun l h2 => (hi σ h2).bind fun u h3 => oSl x l u h3
def putT (f : Str) (v : T) : List (Str × T) → List (Str × T)
  | [] => [(f, v)]
  | (g, w) :: r => if g = f then (g, v) :: r else (g, w) :: putT f v r
def bLen (xs : List T) (h : Hh) : Res T :=
  match xs with
  | [.tup ts] => .ok (.int ts.length) h
  | [.fl ts] => .ok (.int ts.length) h
  | [.str z] => if z.length ≤ sizeLine then .ok (.int z.length) h else .stk
  | [.ref l] => match lstAt h l with | some ts => .ok (.int ts.length) h | none => .stk
  | _ => .stk
def bInt (xs : List T) (h : Hh) : Res T :=
  match xs with
  | [.int i] => .ok (.int i) h
  | _ => .stk
def blsOf : List T → Option (List Bool)
  | [] => some []
  | .bl b :: r => (blsOf r).map (b :: ·)
  | _ => none
def bAll (ts : List T) (h : Hh) : Res T := match blsOf ts with | some bs => .ok (.bl (bs.all id)) h | none => .stk
def bAny (ts : List T) (h : Hh) : Res T := match blsOf ts with | some bs => .ok (.bl (bs.any id)) h | none => .stk
def bTup (ts : List T) (h : Hh) : Res T := .ok (.tup ts) h
def bTuple (xs : List T) (h : Hh) : Res T :=
  match xs with
  | [.tup ts] => .ok (.tup ts) h
  | [.fl ts] => .ok (.tup ts) h
  | [.ref l] => match lstAt h l with | some ts => .ok (.tup ts) h | none => .stk
  | _ => .stk
def bList (xs : List T) (h : Hh) : Res T :=
  match xs with
  | [.tup ts] => alloc (.lst ts) h
  | [.fl ts] => alloc (.lst ts) h
  | [.ref l] => match lstAt h l with | some ts => alloc (.lst ts) h | none => .stk
  | _ => .stk
inductive Kd where | int | bool | str | tuple | list | dict
  deriving DecidableEq
def isK (k : Kd) (x : T) (h : Hh) : Option Bool :=
  match x with
  | .non => some false
  | .bl _ => some (k == .bool || k == .int)
  | .int _ => some (k == .int)
  | .str _ => some (k == .str)
  | .tup _ => some (k == .tuple)
  | .fl _ => some (k == .list)
  | .ref l => match h[l]? with
    | some (.lst _) => some (k == .list)
    | some (.dic _) => some (k == .dict)
    | some (.ins _ _) => none
    | none => none
  | .cls _ => none
def oIsK (k : Kd) (x : T) (h : Hh) : Res T := match isK k x h with | some b => .ok (.bl b) h | none => .stk
def mAppend (x : T) (vs : List T) (h : Hh) : Res T :=
  match x, vs with
  | .ref l, [y] => match lstAt h l with
    | some ts => if ts.length < sizeLine then .ok .non (h.set l (.lst (ts ++ [y]))) else .stk
    | none => .stk
  | _, _ => .stk
def mClear (x : T) (vs : List T) (h : Hh) : Res T :=
  match x, vs with
  | .ref l, [] => match lstAt h l with
    | some _ => .ok .non (h.set l (.lst []))
    | none => .stk
  | _, _ => .stk
def mExtend (x : T) (vs : List T) (h : Hh) : Res T :=
  match x, vs with
  | .ref l, [.ref b] => match lstAt h l, lstAt h b with
    | some ts, some zs => if ts.length + zs.length ≤ sizeLine then .ok .non (h.set l (.lst (ts ++ zs))) else .stk
    | _, _ => .stk
  | _, _ => .stk
def isL (x : T) (h : Hh) : Bool := match x with | .ref l => (lstAt h l).isSome | .fl _ => true | _ => false
def sMtL (f : T → List T → Hh → Res T) (o : SE) (a : SA) : SE := fun σ h => (o σ h).bind fun x h1 => if isL x h1 = true then (a σ h1).bind fun xs h2 => f x xs h2 else .stk
def arN (n : Nat) (f : List T → Hh → Res T) (xs : List T) (h : Hh) : Res T := if xs.length = n then f xs h else .stk
def sMeth (c m : Str) (n : Nat) (f : List T → Hh → Res T) (o : SE) (a : SA) : SE := fun σ h => (o σ h).bind fun x h1 => match x with
  | .ref l => match insAt h1 l with
    | some (d, fs) => if d = c ∧ fs.lookup m = none then (a σ h1).bind fun xs h2 => arN n f (x :: xs) h2 else .stk
    | none => .stk
  | _ => .stk
def weave {α : Type} : List Bool → List α → List α → List α
  | [], _, _ => []
  | true :: r, ds, z :: zs => z :: weave r ds zs
  | true :: _, _, [] => []
  | false :: r, d :: ds, zs => d :: weave r ds zs
  | false :: _, [], _ => []
def sClK (n q : Nat) (pat : List Bool) (ds : List T) (f : List T → Hh → Res T) (a kw : SA) : SE := fun σ h => (a σ h).bind fun xs h1 => (kw σ h1).bind fun zs h2 => if xs.length = n ∧ zs.length = q then f (xs ++ weave pat ds zs) h2 else .stk
inductive Src where
  | its (ts : List T) | live (l : Nat)
abbrev SI := St3 → Hh → Res Src
def Src.len (s : Src) (h : Hh) : Nat := match s with | .its ts => ts.length | .live l => match lstAt h l with | some ts => ts.length | none => 0
def Src.at (s : Src) (h : Hh) (i : Nat) : Option (Option T) :=
  match s with
  | .its ts => some ts[i]?
  | .live l => match lstAt h l with | some ts => some ts[i]? | none => none
def srcOf (x : T) (h : Hh) : Res Src :=
  match x with
  | .tup ts => .ok (.its ts) h
  | .fl ts => .ok (.its ts) h
  | .str z => .ok (.its (z.cps.toList.map fun c => .str ⟨#[c]⟩)) h
  | .ref l => match lstAt h l with | some _ => .ok (.live l) h | none => .stk
  | _ => .stk
def siE (a : SE) : SI := fun σ h => (a σ h).bind fun x h1 => srcOf x h1
def rangeT (lo : Int) : Nat → List T
  | 0 => []
  | n + 1 => .int lo :: rangeT (lo + 1) n
def RngOk (j : Int) : Prop := -(2 ^ 62) ≤ j ∧ j < 2 ^ 62
open Classical in
noncomputable def rngOf (xs : List T) (h1 : Hh) : Res Src := match xs with
  | [.int j] => if RngOk j then .ok (.its (rangeT 0 j.toNat)) h1 else .stk
  | _ => .stk
noncomputable def siRange1 (a : SA) : SI := fun σ h => (a σ h).bind rngOf
abbrev SG := T → St3 → Option St3
def sgName (i : Nat) : SG := fun t σ => some (σ.set i (some t))
abbrev SGs := List T → St3 → Option St3
def sgsNil : SGs := fun ts σ => match ts with | [] => some σ | _ => none
def sgsCons (g : SG) (r : SGs) : SGs := fun ts σ => match ts with
  | t :: more => match g t σ with | some σ1 => r more σ1 | none => none
  | [] => none
def sgTup (n : Nat) (g : SGs) : SG := fun t σ => match t with
  | .tup ts => if ts.length = n then g ts σ else none
  | _ => none
def wipeT (σ : St3) : List Nat → St3
  | [] => σ
  | v :: vs => (wipeT σ vs).set v none
def lcRun (s : Src) (g : SG) (tt : ST) (te : SE) (σ : St3) : Nat → Nat → List T → Hh → Res (List T)
  | k, i, acc, h => match s.at h i with
    | none => .stk
    | some none => .ok acc h
    | some (some x) => match k with
      | 0 => .stk
      | k + 1 => match g x σ with
        | none => .stk
        | some σ1 => match tt σ1 h with
          | .ok b h1 => if b = true then (match te σ1 h1 with
              | .ok t h2 => if acc.length < sizeLine then lcRun s g tt te σ k (i + 1) (acc ++ [t]) h2 else .stk
              | _ => .stk) else lcRun s g tt te σ k (i + 1) acc h1
          | _ => .stk
def stYes : ST := fun _ h => .ok true h
def saLc (si : SI) (g : SG) (tt : ST) (te : SE) (vs : List Nat) : SA := fun σ h => (si σ h).bind fun s h1 => lcRun s g tt te (wipeT σ vs) (s.len h1) 0 [] h1
def sLc (a : SA) : SE := fun σ h => (a σ h).bind fun xs h1 => alloc (.lst xs) h1
def sOver (f : List T → Hh → Res T) (a : SA) : SE := fun σ h => (a σ h).bind fun xs h1 => f xs h1
inductive Flo where
  | nx (σ : St3) (h : Hh) | rt (t : T) (h : Hh) | bk (σ : St3) (h : Hh) | ct (σ : St3) (h : Hh) | exc (c : Str) (fs : List (Str × T)) (σ : St3) (h : Hh) | stk
abbrev SS := St3 → Hh → Flo
def Flo.seq (r : Flo) (k : SS) : Flo := match r with | .nx σ h => k σ h | r => r
@[simp] theorem Flo.seq_nx (σ : St3) (h : Hh) (k : SS) : (Flo.nx σ h).seq k = k σ h := Eq.trans rfl rfl
@[simp] theorem Flo.seq_rt (t : T) (h : Hh) (k : SS) : (Flo.rt t h).seq k = .rt t h := Eq.trans rfl rfl
def Res.flo {α : Type} (r : Res α) (σ : St3) (k : α → Hh → Flo) : Flo := match r with | .ok a h => k a h | .exc c fs h => .exc c fs σ h | .stk => .stk
@[simp] theorem Res.flo_ok {α : Type} (a : α) (h : Hh) (σ : St3) (k : α → Hh → Flo) : (Res.ok a h).flo σ k = k a h := Eq.trans rfl rfl
def ssNil : SS := fun σ h => .nx σ h
def ssCons (a b : SS) : SS := fun σ h => (a σ h).seq b
def ssIf (c : ST) (a b : SS) : SS := fun σ h => (c σ h).flo σ fun x h1 => if x = true then a σ h1 else b σ h1
def ssRet (a : SE) : SS := fun σ h => (a σ h).flo σ fun x h1 => .rt x h1
def ssRetN : SS := fun _ h => .rt .non h
def ssExpr (a : SE) : SS := fun σ h => (a σ h).flo σ fun _ h1 => .nx σ h1
def ssAsg (a : SE) (g : SG) : SS := fun σ h => (a σ h).flo σ fun x h1 => match g x σ with | some σ1 => .nx σ1 h1 | none => .stk
def ssFldC (cs : List (Str × List Str)) (o v : SE) (f : Str) : SS := fun σ h => (v σ h).flo σ fun y h1 => (o σ h1).flo σ fun x h2 => match x with
  | .ref l => match insAt h2 l with
    | some (c, fs) => match cs.lookup c with
      | some as => if as.contains f && decide (fs.length < 1000) then .nx σ (h2.set l (.ins c (putT f y fs))) else .stk
      | none => .stk
    | none => .stk
  | _ => .stk
def ssSub (o i v : SE) : SS := fun σ h => (v σ h).flo σ fun y h1 => (o σ h1).flo σ fun x h2 => (i σ h2).flo σ fun k h3 => match x, k with
  | .ref l, .int n => match lstAt h3 l with
    | some ts => match L2.ixN ts.length n with | some j => .nx σ (h3.set l (.lst (ts.set j y))) | none => .stk
    | none => .stk
  | _, _ => .stk
def ssBreak : SS := fun σ h => .bk σ h
def ssCont : SS := fun σ h => .ct σ h
def forRun (s : Src) (g : SG) (b : SS) : Nat → Nat → St3 → Hh → Flo
  | k, i, σ, h => match s.at h i with
    | none => .stk
    | some none => .nx σ h
    | some (some x) => match k with
      | 0 => .stk
      | k + 1 => match g x σ with
        | none => .stk
        | some σ1 => match b σ1 h with
          | .nx σ2 h2 => forRun s g b k (i + 1) σ2 h2
          | .ct σ2 h2 => forRun s g b k (i + 1) σ2 h2
          | .bk σ2 h2 => .nx σ2 h2
          | r => r
def ssFor (si : SI) (g : SG) (b : SS) : SS := fun σ h => (si σ h).flo σ fun s h1 => forRun s g b (s.len h1) 0 σ h1
def startT (n : Nat) (ts : List T) : St3 := ts.map some ++ List.replicate (n - ts.length) none
def defRun (n : Nat) (b : SS) (ts : List T) (h : Hh) : Res T := match b (startT n ts) h with
  | .nx _ h1 => .ok .non h1
  | .rt t h1 => .ok t h1
  | .exc c fs _ h1 => .exc c fs h1
  | _ => .stk
def bMake (c : Str) (n : Nat) (f : List T → Hh → Res T) (xs : List T) (h : Hh) : Res T :=
  (arN n f (.ref h.length :: xs) (h ++ [.ins c []])).bind fun t h1 => match t with | .non => .ok (.ref h.length) h1 | _ => .stk
end W3
end

section
namespace W3
open PySem L2
def SqF (K : PySem.W.Frag) (H : Hp) (a : Addr) (xs : List V) : Prop :=
  (∃ o, H a = some (.frz o (.lst xs))) ∨
    ∃ (o : Obj) (its : Array Value) (n : Nat), K.lookup a = some o ∧ o.cls = .type "list" ∧ o.dict = none ∧ o.data = .seq its n ∧ its.size ≤ sizeLine ∧ Vals xs its.toList
theorem SqF.sq {K : PySem.W.Frag} {H : Hp} {a : Addr} {xs : List V} (h : SqF K H a xs) : SqL K H a xs := by
  rcases h with ⟨o, h⟩ | h
  · exact .inl (.inr ⟨o, h⟩)
  · exact .inr h
def SqN (K : PySem.W.Frag) (H : Hp) (a : Addr) (xs : List V) : Prop :=
  (∃ o, H a = some (.frz o (.tup xs)) ∧ o.dict = none) ∨
    ∃ (o : Obj) (its : Array Value) (n : Nat), K.lookup a = some o ∧ o.cls = .type "tuple" ∧ o.dict = none ∧ o.data = .seq its n ∧ its.size ≤ sizeLine ∧ Vals xs its.toList
theorem SqN.t {K : PySem.W.Frag} {H : Hp} {a : Addr} {xs : List V} (h : SqN K H a xs) : SqT K H a xs := by
  rcases h with ⟨o, h, _⟩ | ⟨o, its, n, h1, h2, _, h3⟩
  · exact .inl (.inr ⟨o, h⟩)
  · exact .inr ⟨o, its, n, h1, h2, h3⟩
instance {K : PySem.W.Frag} {H : Hp} {a : Addr} {xs : List V} : Coe (SqN K H a xs) (SqT K H a xs) := ⟨SqN.t⟩
abbrev Mp := Nat → Option Addr
mutual
inductive RT (K : PySem.W.Frag) (mg : Str → Option Value) (m : Mp) (H : Hp) : T → V → Prop
  | non : RT K mg m H .non .non
  | bl (b : Bool) : RT K mg m H (.bl b) (.bl b)
  | int (i : Int) : RT K mg m H (.int i) (.int i)
  | str {x : Str} : PyData.strOk x = true → RT K mg m H (.str x) (.str x)
  | tup {a : Addr} {vs : List V} {ts : List T} : SqN K H a vs → RTs K mg m H ts vs → RT K mg m H (.tup ts) (.ref a)
  | fl {a : Addr} {vs : List V} {ts : List T} : SqF K H a vs → RTs K mg m H ts vs → RT K mg m H (.fl ts) (.ref a)
  | ref {l : Nat} {a : Addr} : m l = some a → RT K mg m H (.ref l) (.ref a)
  | cls {c : Str} {C : Addr} : mg c = some (.ref C) → RT K mg m H (.cls c) (.ref C)
inductive RTs (K : PySem.W.Frag) (mg : Str → Option Value) (m : Mp) (H : Hp) : List T → List V → Prop
  | nil : RTs K mg m H [] []
  | cons {t : T} {ts : List T} {v : V} {vs : List V} : RT K mg m H t v → RTs K mg m H ts vs → RTs K mg m H (t :: ts) (v :: vs)
end
inductive RF (K : PySem.W.Frag) (mg : Str → Option Value) (m : Mp) (H : Hp) : List (Str × T) → List (Str × V) → Prop
  | nil : RF K mg m H [] []
  | cons {f : Str} {t : T} {v : V} {fs : List (Str × T)} {fv : List (Str × V)} : RT K mg m H t v → RF K mg m H fs fv → RF K mg m H ((f, t) :: fs) ((f, v) :: fv)
inductive RK (K : PySem.W.Frag) (mg : Str → Option Value) (m : Mp) (H : Hp) : List (T × T) → List (Key × V) → Prop
  | nil : RK K mg m H [] []
  | cons {f : Str} {t : T} {v : V} {fs : List (T × T)} {fv : List (Key × V)} : RT K mg m H t v → RK K mg m H fs fv → RK K mg m H ((.str f, t) :: fs) ((.inr f, v) :: fv)
structure Ext (m : Mp) (H : Hp) (m' : Mp) (H' : Hp) : Prop where
  mono : ∀ l a, m l = some a → m' l = some a
  fresh : ∀ l a, m' l = some a → m l = some a ∨ H a = none
  live : ∀ a o, H a = some o → ∃ o', H' a = some o'
  keep : ∀ a o, H a = some o → (∀ l, m l ≠ some a) → H' a = some o
  tups : ∀ a vs, H a = some (.tup vs) → H' a = some (.tup vs)
  frzs : ∀ a o u, H a = some (.frz o u) → H' a = some (.frz o u)
  xds : ∀ a fs, H a = some (.xd fs) → H' a = some (.xd fs)
theorem Ext.refl (m : Mp) (H : Hp) : Ext m H m H := ⟨fun _ _ e => e, fun _ _ e => .inl e, fun _ o e => ⟨o, e⟩, fun _ _ e _ => e, fun _ _ e => e, fun _ _ _ e => e, fun _ _ e => e⟩
theorem Ext.trans {m1 m2 m3 : Mp} {H1 H2 H3 : Hp} (a : Ext m1 H1 m2 H2) (b : Ext m2 H2 m3 H3) : Ext m1 H1 m3 H3 where
  mono := fun l x e => b.mono l x (a.mono l x e)
  fresh := fun l x e => by
    rcases b.fresh l x e with q | q
    · exact a.fresh l x q
    · cases hx : H1 x with
      | none => exact .inr rfl
      | some o =>
        obtain ⟨o', e'⟩ := a.live x o hx
        rw [q] at e'
        cases e'
  live := fun x o e => by
    obtain ⟨o', e'⟩ := a.live x o e
    exact b.live x o' e'
  keep := fun x o e n => b.keep x o (a.keep x o e n) fun l q => by
    rcases a.fresh l x q with z | z
    · exact n l z
    · rw [e] at z
      cases z
  tups := fun x vs e => b.tups x vs (a.tups x vs e)
  frzs := fun x o u e => b.frzs x o u (a.frzs x o u e)
  xds := fun x fs e => b.xds x fs (a.xds x fs e)
section
variable {K : PySem.W.Frag} {mg : Str → Option Value} {m m' : Mp} {H H' : Hp}
structure Tr (m : Mp) (H : Hp) (m' : Mp) (H' : Hp) : Prop where
  mono : ∀ l a, m l = some a → m' l = some a
  tups : ∀ a vs, H a = some (.tup vs) → H' a = some (.tup vs)
  frzs : ∀ a o u, H a = some (.frz o u) → H' a = some (.frz o u)
theorem Ext.tr (E : Ext m H m' H') : Tr m H m' H' := ⟨E.mono, E.tups, E.frzs⟩
theorem Tr.trans {m2 : Mp} {H2 : Hp} (a : Tr m H m' H') (b : Tr m' H' m2 H2) : Tr m H m2 H2 := ⟨fun l x e => b.mono l x (a.mono l x e), fun x vs e => b.tups x vs (a.tups x vs e), fun x o u e => b.frzs x o u (a.frzs x o u e)⟩
theorem Tr.refl : Tr m H m H := ⟨fun _ _ e => e, fun _ _ e => e, fun _ _ _ e => e⟩
theorem SqT.tr (E : Tr m H m' H') {a : Addr} {vs : List V} (h : SqT K H a vs) : SqT K H' a vs := by
  rcases h with h | h
  · rcases h with h | ⟨o, h⟩
    · exact .inl (.inl (E.tups a vs h))
    · exact .inl (.inr ⟨o, E.frzs a o _ h⟩)
  · exact .inr h
theorem SqN.tr (E : Tr m H m' H') {a : Addr} {vs : List V} (h : SqN K H a vs) : SqN K H' a vs := by
  rcases h with ⟨o, h, d⟩ | h
  · exact .inl ⟨o, E.frzs a o _ h, d⟩
  · exact .inr h
theorem SqF.tr (E : Tr m H m' H') {a : Addr} {vs : List V} (h : SqF K H a vs) : SqF K H' a vs := by
  rcases h with ⟨o, h⟩ | h
  · exact .inl ⟨o, E.frzs a o _ h⟩
  · exact .inr h
mutual
theorem RT.tr (E : Tr m H m' H') : ∀ {t : T} {v : V}, RT K mg m H t v → RT K mg m' H' t v
  | _, _, .non => .non
  | _, _, .bl b => .bl b
  | _, _, .int i => .int i
  | _, _, .str h => .str h
  | _, _, .tup h r => .tup (SqN.tr E h) (RTs.tr E r)
  | _, _, .fl h r => .fl (SqF.tr E h) (RTs.tr E r)
  | _, _, .ref h => .ref (E.mono _ _ h)
  | _, _, .cls h => .cls h
theorem RTs.tr (E : Tr m H m' H') : ∀ {ts : List T} {vs : List V}, RTs K mg m H ts vs → RTs K mg m' H' ts vs
  | _, _, .nil => .nil
  | _, _, .cons r q => .cons (RT.tr E r) (RTs.tr E q)
end
theorem RF.tr (E : Tr m H m' H') {fs : List (Str × T)} {fv : List (Str × V)} (r : RF K mg m H fs fv) : RF K mg m' H' fs fv := by
  induction r with
  | nil => exact .nil
  | cons r _ ih => exact .cons (r.tr E) ih
theorem RK.tr (E : Tr m H m' H') {fs : List (T × T)} {fv : List (Key × V)} (r : RK K mg m H fs fv) : RK K mg m' H' fs fv := by
  induction r with
  | nil => exact .nil
  | cons r _ ih => exact .cons (r.tr E) ih
theorem SqT.ext (E : Ext m H m' H') {a : Addr} {vs : List V} (h : SqT K H a vs) : SqT K H' a vs := SqT.tr E.tr h
theorem SqF.ext (E : Ext m H m' H') {a : Addr} {vs : List V} (h : SqF K H a vs) : SqF K H' a vs := SqF.tr E.tr h
theorem RT.ext (E : Ext m H m' H') {t : T} {v : V} (r : RT K mg m H t v) : RT K mg m' H' t v := r.tr E.tr
theorem RTs.ext (E : Ext m H m' H') {ts : List T} {vs : List V} (r : RTs K mg m H ts vs) : RTs K mg m' H' ts vs := r.tr E.tr
theorem RF.ext (E : Ext m H m' H') {fs : List (Str × T)} {fv : List (Str × V)} (r : RF K mg m H fs fv) : RF K mg m' H' fs fv := r.tr E.tr
theorem RTs.length : ∀ {ts : List T} {vs : List V}, RTs K mg m H ts vs → ts.length = vs.length
  | _, _, .nil => rfl
  | _, _, .cons _ q => by rw [List.length_cons, List.length_cons, q.length]
theorem RTs.get : ∀ {ts : List T} {vs : List V} {i : Nat} {t : T}, RTs K mg m H ts vs → ts[i]? = some t → ∃ v, vs[i]? = some v ∧ RT K mg m H t v
  | _, _, _, _, .nil, e => by simp at e
  | _, _, 0, _, .cons r _, e => by simp at e; subst e; exact ⟨_, rfl, r⟩
  | _, _, i + 1, t, .cons _ q, e => by
    obtain ⟨v, h1, h2⟩ := RTs.get (i := i) (t := t) q (by simpa using e)
    exact ⟨v, by simpa using h1, h2⟩
theorem RTs.append : ∀ {ts us : List T} {vs ws : List V}, RTs K mg m H ts vs → RTs K mg m H us ws → RTs K mg m H (ts ++ us) (vs ++ ws)
  | _, _, _, _, .nil, s => s
  | _, _, _, _, .cons r q, s => .cons r (RTs.append q s)
theorem RTs.take : ∀ {ts : List T} {vs : List V} (n : Nat), RTs K mg m H ts vs → RTs K mg m H (ts.take n) (vs.take n)
  | _, _, 0, _ => .nil
  | _, _, _ + 1, .nil => .nil
  | _, _, n + 1, .cons r q => .cons r (RTs.take n q)
theorem RTs.drop : ∀ {ts : List T} {vs : List V} (n : Nat), RTs K mg m H ts vs → RTs K mg m H (ts.drop n) (vs.drop n)
  | _, _, 0, r => r
  | _, _, _ + 1, .nil => .nil
  | _, _, n + 1, .cons _ q => RTs.drop n q
theorem RTs.set : ∀ {ts : List T} {vs : List V} (i : Nat) {t : T} {v : V}, RTs K mg m H ts vs → RT K mg m H t v → RTs K mg m H (ts.set i t) (vs.set i v)
  | _, _, _, _, _, .nil, _ => .nil
  | _, _, 0, _, _, .cons _ q, r => .cons r q
  | _, _, i + 1, _, _, .cons p q, r => .cons p (RTs.set i q r)
theorem RF.lookup {fs : List (Str × T)} {fv : List (Str × V)} (r : RF K mg m H fs fv) {f : Str} {t : T} (e : fs.lookup f = some t) : ∃ v, fv.lookup f = some v ∧ RT K mg m H t v := by
  induction r with
  | nil => simp [List.lookup] at e
  | @cons g u v fs fv r _ ih =>
    simp only [List.lookup] at e ⊢
    split at e
    · cases e; exact ⟨v, rfl, r⟩
    · exact ih e
theorem RF.length {fs : List (Str × T)} {fv : List (Str × V)} (r : RF K mg m H fs fv) : fs.length = fv.length := by
  induction r with
  | nil => rfl
  | cons _ _ ih => simp [ih]
theorem RF.put {fs : List (Str × T)} {fv : List (Str × V)} (r : RF K mg m H fs fv) {f : Str} {t : T} {v : V} (q : RT K mg m H t v) : RF K mg m H (putT f t fs) (putF f v fv) := by
  induction r with
  | nil => exact .cons q .nil
  | @cons g u w fs fv r rr ih =>
    unfold putT putF
    by_cases e : g = f
    · rw [if_pos e, if_pos e]; exact .cons q rr
    · rw [if_neg e, if_neg e]; exact .cons r ih
end
section
variable (K : PySem.W.Frag) (mg : Str → Option Value)
def OR (m : Mp) (H : Hp) (a : Addr) : Ob → Prop
  | .lst ts => ∃ vs, H a = some (.lst vs) ∧ RTs K mg m H ts vs
  | .dic kvs => ∃ ks, H a = some (.dK ks) ∧ RK K mg m H kvs ks
  | .ins c fs => ∃ C dx fv, mg c = some (.ref C) ∧ H a = some (.ins C dx fv) ∧ RF K mg m H fs fv
structure HR (m : Mp) (h : Hh) (H : Hp) : Prop where
  dom : ∀ l a, m l = some a → l < h.length
  inj : ∀ l l' a, m l = some a → m l' = some a → l = l'
  ob : ∀ l o, h[l]? = some o → ∃ a, m l = some a ∧ OR K mg m H a o
end
section
variable {K : PySem.W.Frag} {mg : Str → Option Value} {m : Mp} {H : Hp} {h : Hh}
theorem OR.some {a : Addr} {o : Ob} (r : OR K mg m H a o) : ∃ u, H a = some u ∧ (∀ vs, u ≠ .tup vs) ∧ (∀ ob w, u ≠ .frz ob w) ∧ (∀ fs, u ≠ .xd fs) ∧ ∀ b, u ≠ .own b := by
  cases o with
  | lst ts =>
    obtain ⟨vs, e, _⟩ := r
    exact ⟨_, e, fun _ z => (by cases z), fun _ _ z => (by cases z), fun _ z => (by cases z), fun _ z => by cases z⟩
  | dic _ =>
    obtain ⟨_, e, _⟩ := r
    exact ⟨_, e, fun _ z => (by cases z), fun _ _ z => (by cases z), fun _ z => (by cases z), fun _ z => by cases z⟩
  | ins c fs =>
    obtain ⟨C, dx, fv, _, e, _⟩ := r
    exact ⟨_, e, fun _ z => (by cases z), fun _ _ z => (by cases z), fun _ z => (by cases z), fun _ z => by cases z⟩
theorem HR.tracked (R : HR K mg m h H) {l : Nat} {a : Addr} (e : m l = some a) : ∃ u, H a = some u ∧ (∀ vs, u ≠ .tup vs) ∧ (∀ ob w, u ≠ .frz ob w) ∧ (∀ fs, u ≠ .xd fs) ∧ ∀ b, u ≠ .own b := by
  have hl := R.dom l a e
  obtain ⟨a', e', r⟩ := R.ob l h[l] (by simp [hl])
  rw [e] at e'; cases e'
  exact r.some
theorem Ext.garbage (R : HR K mg m h H) {p : Addr} {o : HO} (hp : H p = none) : Ext m H m (upd H p o) where
  mono := fun _ _ e => e
  fresh := fun _ _ e => .inl e
  live := fun a u e => ⟨u, by rw [upd_ne (ne_of_none e hp)]; exact e⟩
  keep := fun a u e _ => by rw [upd_ne (ne_of_none e hp)]; exact e
  tups := fun a u e => by rw [upd_ne (ne_of_none e hp)]; exact e
  frzs := fun a u w e => by rw [upd_ne (ne_of_none e hp)]; exact e
  xds := fun a u e => by rw [upd_ne (ne_of_none e hp)]; exact e
theorem OR.moveT {m' : Mp} {H' : Hp} (E : Tr m H m' H') {a : Addr} {o : Ob} (r : OR K mg m H a o) (ha : H' a = H a) : OR K mg m' H' a o := by
  cases o with
  | lst ts =>
    obtain ⟨vs, e, r⟩ := r
    exact ⟨vs, ha.trans e, r.tr E⟩
  | dic _ =>
    obtain ⟨z, e, r⟩ := r
    exact ⟨z, ha.trans e, r.tr E⟩
  | ins c fs =>
    obtain ⟨C, dx, fv, g, e, r⟩ := r
    exact ⟨C, dx, fv, g, ha.trans e, r.tr E⟩
theorem OR.move {m' : Mp} {H' : Hp} (E : Ext m H m' H') {a : Addr} {o : Ob} (r : OR K mg m H a o) (ha : H' a = H a) : OR K mg m' H' a o := by
  cases o with
  | lst ts =>
    obtain ⟨vs, e, r⟩ := r
    exact ⟨vs, ha.trans e, r.ext E⟩
  | dic _ =>
    obtain ⟨z, e, r⟩ := r
    exact ⟨z, ha.trans e, r.tr E.tr⟩
  | ins c fs =>
    obtain ⟨C, dx, fv, g, e, r⟩ := r
    exact ⟨C, dx, fv, g, ha.trans e, r.ext E⟩
theorem HR.garbage (R : HR K mg m h H) {p : Addr} {o : HO} (hp : H p = none) : HR K mg m h (upd H p o) where
  dom := R.dom
  inj := R.inj
  ob := fun l u e => by
    obtain ⟨a, e1, r⟩ := R.ob l u e
    obtain ⟨w, hw, _⟩ := r.some
    exact ⟨a, e1, r.move (Ext.garbage R hp) (upd_ne (ne_of_none hw hp))⟩
def Mp.put (m : Mp) (l : Nat) (p : Addr) : Mp := fun k => if k = l then some p else m k
theorem Mp.put_same {l : Nat} {p : Addr} : m.put l p l = some p := by unfold Mp.put; rw [if_pos rfl]
theorem Mp.put_ne {l k : Nat} {p : Addr} (e : k ≠ l) : m.put l p k = m k := by unfold Mp.put; rw [if_neg e]
theorem Ext.alloc (R : HR K mg m h H) {p : Addr} {o : HO} (hp : H p = none) : Ext m H (m.put h.length p) (upd H p o) where
  mono := fun l a e => by rw [Mp.put_ne (Nat.ne_of_lt (R.dom l a e))]; exact e
  fresh := fun l a e => by
    by_cases hl : l = h.length
    · subst hl; rw [Mp.put_same] at e; cases e; exact .inr hp
    · rw [Mp.put_ne hl] at e; exact .inl e
  live := (Ext.garbage R hp).live
  keep := (Ext.garbage R hp).keep
  tups := (Ext.garbage R hp).tups
  frzs := (Ext.garbage R hp).frzs
  xds := (Ext.garbage R hp).xds
theorem HR.alloc (R : HR K mg m h H) {p : Addr} {o : HO} {u : Ob} (hp : H p = none) (new : OR K mg (m.put h.length p) (upd H p o) p u) : HR K mg (m.put h.length p) (h ++ [u]) (upd H p o) where
  dom := fun l a e => by
    rw [List.length_append, List.length_singleton]
    by_cases hl : l = h.length
    · omega
    · rw [Mp.put_ne hl] at e; have := R.dom l a e; omega
  inj := fun l l' a e e' => by
    by_cases hl : l = h.length
    · by_cases hl' : l' = h.length
      · rw [hl, hl']
      · rw [hl, Mp.put_same] at e; cases e
        rw [Mp.put_ne hl'] at e'
        obtain ⟨w, hw, _⟩ := R.tracked e'
        rw [hp] at hw; cases hw
    · by_cases hl' : l' = h.length
      · rw [hl', Mp.put_same] at e'; cases e'
        rw [Mp.put_ne hl] at e
        obtain ⟨w, hw, _⟩ := R.tracked e
        rw [hp] at hw; cases hw
      · rw [Mp.put_ne hl] at e; rw [Mp.put_ne hl'] at e'
        exact R.inj l l' a e e'
  ob := fun l w e => by
    by_cases hl : l < h.length
    · rw [List.getElem?_append_left hl] at e
      obtain ⟨a, e1, r⟩ := R.ob l w e
      obtain ⟨z, hz, _⟩ := r.some
      exact ⟨a, (Ext.alloc (o := o) R hp).mono l a e1, r.move (Ext.alloc R hp) (upd_ne (ne_of_none hz hp))⟩
    · have : l = h.length := by
        have := (List.getElem?_eq_some_iff.mp e).1
        rw [List.length_append, List.length_singleton] at this
        omega
      subst this
      simp at e
      subst e
      exact ⟨p, Mp.put_same, new⟩
theorem Ext.write (R : HR K mg m h H) {l : Nat} {a : Addr} {o : HO} (e : m l = some a) : Ext m H m (upd H a o) := by
  obtain ⟨u, hu, n1, n2, n3, n4⟩ := R.tracked e
  have ne : ∀ b w, H b = some w → b = a → w = u := fun b w q z => by subst z; rw [hu] at q; exact (Option.some.inj q).symm
  refine ⟨fun _ _ e => e, fun _ _ e => .inl e, fun b w q => ?_, fun b w q n => ?_, fun b vs q => ?_, fun b w v q => ?_, fun b fs q => ?_⟩
  · by_cases hb : b = a
    · exact ⟨o, by rw [hb]; exact upd_same⟩
    · exact ⟨w, by rw [upd_ne hb]; exact q⟩
  · rw [upd_ne (fun z => n l (by rw [z]; exact e))]; exact q
  · rw [upd_ne (fun z => n1 vs (ne b _ q z).symm)]; exact q
  · rw [upd_ne (fun z => n2 w v (ne b _ q z).symm)]; exact q
  · rw [upd_ne (fun z => n3 fs (ne b _ q z).symm)]; exact q
theorem HR.write (R : HR K mg m h H) {l : Nat} {a : Addr} {o : HO} {u : Ob} (e : m l = some a) (new : OR K mg m (upd H a o) a u) : HR K mg m (h.set l u) (upd H a o) where
  dom := fun k b q => by rw [List.length_set]; exact R.dom k b q
  inj := R.inj
  ob := fun k w q => by
    by_cases hk : l = k
    · subst hk
      rw [List.getElem?_set_self (R.dom l a e)] at q
      cases q
      exact ⟨a, e, new⟩
    · rw [List.getElem?_set_ne hk] at q
      obtain ⟨b, e1, r⟩ := R.ob k w q
      have hb : b ≠ a := fun z => hk (R.inj l k a e (z ▸ e1))
      exact ⟨b, e1, r.move (Ext.write R e) (upd_ne hb)⟩
theorem Tr.out {D : Addr} {vs ws : List V} (e : H D = some (.lst vs)) : Tr m H m (upd H D (.lst ws)) :=
  ⟨fun _ _ q => q, fun a us q => by rw [upd_ne (ne_of q e (by intro z; cases z))]; exact q, fun a o u q => by rw [upd_ne (ne_of q e (by intro z; cases z))]; exact q⟩
theorem HR.out (R : HR K mg m h H) {D : Addr} {vs ws : List V} (e : H D = some (.lst vs)) (n : ∀ l, m l ≠ some D) : HR K mg m h (upd H D (.lst ws)) where
  dom := R.dom
  inj := R.inj
  ob := fun l u q => by
    obtain ⟨a, e1, r⟩ := R.ob l u q
    exact ⟨a, e1, r.moveT (Tr.out e) (upd_ne (fun z => n l (by rw [← z]; exact e1)))⟩
theorem Ext.out {m0 : Mp} {H0 : Hp} (E : Ext m0 H0 m H) {D : Addr} {o : HO} (hD : H0 D = none) : Ext m0 H0 m (upd H D o) where
  mono := E.mono
  fresh := E.fresh
  live := fun a u e => by
    obtain ⟨w, q⟩ := E.live a u e
    exact ⟨w, by rw [upd_ne (ne_of_none e hD)]; exact q⟩
  keep := fun a u e n => by rw [upd_ne (ne_of_none e hD)]; exact E.keep a u e n
  tups := fun a u e => by rw [upd_ne (ne_of_none e hD)]; exact E.tups a u e
  frzs := fun a u w e => by rw [upd_ne (ne_of_none e hD)]; exact E.frzs a u w e
  xds := fun a u e => by rw [upd_ne (ne_of_none e hD)]; exact E.xds a u e
theorem HR.lst (R : HR K mg m h H) {l : Nat} {a : Addr} {ts : List T} (e : m l = some a) (hl : lstAt h l = some ts) : ∃ vs, H a = some (.lst vs) ∧ RTs K mg m H ts vs := by
  unfold lstAt at hl
  split at hl
  · cases hl
    rename_i q
    obtain ⟨b, e1, r⟩ := R.ob l _ q
    rw [e] at e1; cases e1
    exact r
  · cases hl
theorem HR.ins (R : HR K mg m h H) {l : Nat} {a : Addr} {c : Str} {fs : List (Str × T)} (e : m l = some a) (hl : insAt h l = some (c, fs)) : ∃ C dx fv, mg c = some (.ref C) ∧ H a = some (.ins C dx fv) ∧ RF K mg m H fs fv := by
  unfold insAt at hl
  split at hl
  · cases hl
    rename_i q
    obtain ⟨b, e1, r⟩ := R.ob l _ q
    rw [e] at e1; cases e1
    exact r
  · cases hl
end
structure Pq where
  p : Mp → Hp → Prop
  st : ∀ {m H m' H'}, Ext m H m' H' → p m H → p m' H'
def PqT : Pq := ⟨fun _ _ => True, fun _ _ => trivial⟩
section
variable (K : PySem.W.Frag) (mg : Str → Option Value)
def XR (m : Mp) (H : Hp) (c : Str) (fs : List (Str × T)) (cls : Value) (d : Option Addr) : Prop :=
  mg c = some cls ∧ ((fs = [] ∧ d = none) ∨ ∃ dd fv, d = some dd ∧ H dd = some (.xd fv) ∧ RF K mg m H fs fv)
def SR (m : Mp) (H : Hp) (σ : St3) (σV : St) : Prop := σ.length = σV.length ∧ ∀ (i : Nat) (t : T), σ[i]? = some (some t) → ∃ v : V, σV[i]? = some (some v) ∧ RT K mg m H t v
structure At (P : Pq) (m : Mp) (H : Hp) (σV : St) (σ : St3) (h : Hh) : Prop where
  sr : SR K mg m H σ σV
  hr : HR K mg m h H
  pr : P.p m H
def Out {α β : Type} (rel : Mp → Hp → α → β → Prop) (W : WX) (σV : St) (Q : β → Hp → Prop) (m : Mp) (H : Hp) : Res α → Prop
  | .ok a h' => ∀ b m' H', Ext m H m' H' → rel m' H' a b → HR K mg m' h' H' → Q b H'
  | .exc c fs h' => ∀ cls d m' H', Ext m H m' H' → XR K mg m' H' c fs cls d → HR K mg m' h' H' → W cls d σV H'
  | .stk => False
def tG {α β : Type} (rel : Mp → Hp → α → β → Prop) (P : Pq) (W : WX) (se : St3 → Hh → Res α) : St → Hp → (β → Hp → Prop) → Prop := fun σV H Q =>
  ∃ m h σ, At K mg P m H σV σ h ∧ Out K mg rel W σV Q m H (se σ h)
abbrev tI (P : Pq) (W : WX) (se : SE) : TE := tG K mg (RT K mg) P W se
abbrev tTst (P : Pq) (W : WX) (se : ST) : TT := tG K mg (fun _ _ a b => a = b) P W se
abbrev tAr (P : Pq) (W : WX) (se : SA) : TA := tG K mg (RTs K mg) P W se
end
section
variable {K : PySem.W.Frag} {mg : Str → Option Value} {m m' : Mp} {H H' : Hp} {h : Hh} {P : Pq} {W : WX} {σV : St} {σ : St3}
theorem SR.ext (E : Ext m H m' H') (r : SR K mg m H σ σV) : SR K mg m' H' σ σV := ⟨r.1, fun i t e => by
  obtain ⟨v, q, z⟩ := r.2 i t e
  exact ⟨v, q, z.ext E⟩⟩
theorem At.ext (E : Ext m H m' H') (a : At K mg P m H σV σ h) {h' : Hh} (R : HR K mg m' h' H') : At K mg P m' H' σV σ h' := ⟨a.sr.ext E, R, P.st E a.pr⟩
theorem Out.ext {α β : Type} {rel : Mp → Hp → α → β → Prop} {Q : β → Hp → Prop} {r : Res α} (E : Ext m H m' H') (o : Out K mg rel W σV Q m H r) : Out K mg rel W σV Q m' H' r := by
  cases r with
  | ok a h' => exact fun b m2 H2 E2 => o b m2 H2 (E.trans E2)
  | exc c fs h' => exact fun cls d m2 H2 E2 => o cls d m2 H2 (E.trans E2)
  | stk => exact o
theorem Out.mono {α β : Type} {rel : Mp → Hp → α → β → Prop} {Q Q' : β → Hp → Prop} {r : Res α} (hq : ∀ b H, Q b H → Q' b H) (o : Out K mg rel W σV Q m H r) : Out K mg rel W σV Q' m H r := by
  cases r with
  | ok a h' => exact fun b m2 H2 E r R => hq _ _ (o b m2 H2 E r R)
  | exc c fs h' => exact o
  | stk => exact o
theorem Out.bind {α β γ δ : Type} {rel : Mp → Hp → γ → δ → Prop} {rel1 : Mp → Hp → α → β → Prop} {Q : δ → Hp → Prop} {r : Res α} {f : α → Hh → Res γ} (o : Out K mg rel W σV Q m H (r.bind f)) :
    Out K mg rel1 W σV (fun b H1 => ∃ m1 h1 a, Ext m H m1 H1 ∧ rel1 m1 H1 a b ∧ HR K mg m1 h1 H1 ∧ Out K mg rel W σV Q m1 H1 (f a h1)) m H r := by
  cases r with
  | ok a h' => exact fun b m1 H1 E q R => ⟨m1, h', a, E, q, R, o.ext E⟩
  | exc c fs h' => exact o
  | stk => exact o
theorem tG.mono {α β : Type} {rel : Mp → Hp → α → β → Prop} {se : St3 → Hh → Res α} {Q Q' : β → Hp → Prop} (hq : ∀ b H, Q b H → Q' b H) (t : tG K mg rel P W se σV H Q) : tG K mg rel P W se σV H Q' := by
  obtain ⟨m, h, σ, a, o⟩ := t
  exact ⟨m, h, σ, a, o.mono hq⟩
theorem At.first {α β γ δ : Type} {rel : Mp → Hp → γ → δ → Prop} {rel1 : Mp → Hp → α → β → Prop} {Q : δ → Hp → Prop} {se : St3 → Hh → Res α} {f : α → Hh → Res γ} {Q1 : β → Hp → Prop} (A : At K mg P m H σV σ h) (o : Out K mg rel W σV Q m H ((se σ h).bind f))
    (k : ∀ m1 h1 a b H1, Ext m H m1 H1 → rel1 m1 H1 a b → At K mg P m1 H1 σV σ h1 → Out K mg rel W σV Q m1 H1 (f a h1) → Q1 b H1) : tG K mg rel1 P W se σV H Q1 := by
  refine ⟨m, h, σ, A, (Out.bind (rel1 := rel1) o).mono fun b H1 ⟨m1, h1, a, E, r, R, o1⟩ => k m1 h1 a b H1 E r (A.ext E R) o1⟩
theorem PE.imp {X : Cx} {e : Expr} {t t' : TE} (h : PE X e t) (k : ∀ σ H Q, t' σ H Q → t σ H Q) : PE X e t' := ⟨fun pins s σ H Q I hw => h.run pins s σ H Q I (k _ _ _ hw)⟩
theorem PT.imp {X : Cx} {e : Expr} {t t' : TT} (h : PT X e t) (k : ∀ σ H Q, t' σ H Q → t σ H Q) : PT X e t' := ⟨fun pins s σ H Q I hw => h.run pins s σ H Q I (k _ _ _ hw)⟩
theorem PW.imp {X : Cx} {e : Expr} {t t' : TT} (h : PW X e t) (k : ∀ σ H Q, t' σ H Q → t σ H Q) : PW X e t' := ⟨fun wh pins s σ H Q I hw => h.run wh pins s σ H Q I (k _ _ _ hw)⟩
theorem PA.imp {X : Cx} {e : List Expr} {t t' : TA} (h : PA X e t) (k : ∀ σ H Q, t' σ H Q → t σ H Q) : PA X e t' := ⟨fun pos pins s σ H Q I hw => h.run pos pins s σ H Q I (k _ _ _ hw)⟩
theorem PS.imp {X : Cx} {e : Stmt} {t t' : TS} (h : PS X e t) (k : ∀ D σ H, t' D σ H → t D σ H) : PS X e t' := ⟨fun pins s σ H D I hw => h.run pins s σ H D I (k _ _ _ hw)⟩
theorem PSs.imp {X : Cx} {e : List Stmt} {t t' : TS} (h : PSs X e t) (k : ∀ D σ H, t' D σ H → t D σ H) : PSs X e t' := ⟨fun pins s σ H D I hw => h.run pins s σ H D I (k _ _ _ hw)⟩
end
end W3
end

section
namespace W3
open PySem PySem.Spec PyProof.Rows
open L2
abbrev QN (Q : VK) (H : Hp) (xs : List V) : Prop := ∀ p ob, H p = none → ob.dict = none → Q (.ref p) (upd H p (.frz ob (.tup xs)))
section
variable {X : Cx} {pins : List (Addr × Obj)} {σ : L2.St} {H : Hp} {s : Shared} {Q : VK}
theorem ep_tup (I : L2.Inv X pins σ H s) {its : List Value} {xs : List V} (r : Vals xs its) (hz : xs.length ≤ sizeLine) (q : QN Q H xs) :
    EP X pins σ Q (.ref s.heap.objs.size) { s with heap := s.heap.push { cls := .type "tuple", data := .seq its.toArray } } :=
  ⟨.ref s.heap.objs.size, _, I.laid (t' := s.toks) (o := .frz { cls := .type "tuple", data := .seq its.toArray } (.tup xs)) (fun _ _ w => Heap.get?_push_of_some _ w) (Nat.le_refl _) ⟨Heap.get?_push_size _ rfl, hz, its, r, IsTup.new _ _⟩, rfl, q _ _ (I.hok.fresh (Nat.le_refl _)) rfl⟩
end
section
variable {X : Cx} {es : List Expr} {t : TA} {pos : Pos}
def tTupN (t : TA) : TE := fun σ H Q => t σ H fun xs H1 => xs.length ≤ sizeLine ∧ QN Q H1 xs
theorem pe_tupN {k} (h : PA X es t) : PE X (.Tuple es k pos) (tTupN t) := ⟨fun pins s σ H Q I hq =>
  wpAny_Tuple_spliced (thn (h.run pos pins s σ H _ I hq) fun us s1 ⟨xs, H1, I1, r, z, q⟩ => ⟨r.length ▸ z, ep_tup I1 r z q⟩)⟩
theorem call_tupleN : CallR X (.type "tuple") (fun xs H Q => ∃ p ys, xs = [.ref p] ∧ ((SqL X.K H p ys ∧ QN Q H ys) ∨ (SqT X.K H p ys ∧ Q (.ref p) H))) := by
  intro pins s σ H xs us Q I r h
  obtain ⟨p, ys, rfl, h⟩ := h
  obtain ⟨u, rfl, rx⟩ := vals1 r
  cases rx
  rcases h with ⟨hq, q⟩ | ⟨hq, q⟩
  · obtain ⟨its, r2, pl, hz⟩ := I.list hq
    have ln := r2.length
    exact call_tuple_list pl.isList (fun h2 kp => ep_tup (I.kept (t' := s.toks) kp) r2 hz q) (by simp only [List.size_toArray]; omega)
  · obtain ⟨its, r2, pl, hz⟩ := I.tuple hq
    exact call_tuple_same pl ⟨.ref p, _, I, rfl, q⟩
theorem sl_tupN : SlR X (fun x lo hi H Q => ∃ a xs, x = .ref a ∧ SqT X.K H a xs ∧ (HT.sIx xs.length 0 lo = 0 ∧ HT.sIx xs.length xs.length hi = xs.length → Q (.ref a) H) ∧
    (¬ (HT.sIx xs.length 0 lo = 0 ∧ HT.sIx xs.length xs.length hi = xs.length) → QN Q H (cutV xs lo hi))) := by
  intro pins s σ H x v vl vu lo hi sl Q I rx hs pl pu h
  obtain ⟨a, xs, rfl, hx, q1, q2⟩ := h
  cases rx
  obtain ⟨its, r, ht, hz⟩ := I.tuple hx
  have ln : its.toArray.size = xs.length := by rw [List.size_toArray]; exact r.length.symm
  refine ⟨"tuple", _, PyProof.Rows.slot_tuple_getitem.lookup, ht.typeIs, ?_⟩
  by_cases hw : HT.sIx xs.length 0 lo = 0 ∧ HT.sIx xs.length xs.length hi = xs.length
  · exact getItem_tuple_whole ht hs pl pu (by rw [ln]; exact hw) ⟨.ref a, _, I, rfl, q1 hw⟩
  · refine HT.getItem_tuple_cut ht hs pl pu (by rw [ln]; exact hw) ?_ (by rw [ln]; exact hz)
    rw [ln]
    exact ep_tup I ((r.drop (HT.sIx xs.length 0 lo)).take (HT.sIx xs.length xs.length hi - HT.sIx xs.length 0 lo)) (Nat.le_trans (cutV_length xs lo hi) hz) (q2 hw)
theorem op_catN : OpR X (binaryOp .Add) (fun x y H Q => ∃ a b xs ys, x = .ref a ∧ y = .ref b ∧ SqT X.K H a xs ∧ SqT X.K H b ys ∧ xs.length + ys.length ≤ sizeLine ∧
    (xs = [] → Q (.ref b) H) ∧ (xs ≠ [] → ys = [] → Q (.ref a) H) ∧ (xs ≠ [] → ys ≠ [] → QN Q H (xs ++ ys))) := by
  intro pins s σ H x y v u Q I rx ry h
  obtain ⟨a, b, xs, ys, rfl, rfl, ha, hb, hz, q0, q1, q2⟩ := h
  cases rx
  cases ry
  obtain ⟨its, r1, p1, _⟩ := I.tuple ha
  obtain ⟨its2, r2, p2, _⟩ := I.tuple hb
  by_cases hx : xs = []
  · subst hx
    cases r1
    exact cat_tup0 p1 p2 ⟨.ref b, _, I, rfl, q0 rfl⟩
  · exact HT.cat_tup p1 p2 (fun z => hx (r1.nil_iff.mp z)) (fun z => ⟨.ref a, _, I, rfl, q1 hx (r2.nil_iff.mp z)⟩) (fun z => ep_tup I (r1.append r2) (by rw [List.length_append]; exact hz) (q2 hx fun w => z (r2.nil_iff.mpr w))) (by rw [← r1.length, ← r2.length]; exact hz)
end
end W3
end

section
namespace W3
open PySem PySem.Spec PyProof.Rows
open L2
abbrev DE (X : Cx) (P : Pq) (W : WX) (e : Expr) (se : SE) : Prop := PE X e (tI X.K X.mg P W se)
abbrev DT (X : Cx) (P : Pq) (W : WX) (e : Expr) (se : ST) : Prop := PT X e (tTst X.K X.mg P W se)
abbrev DW (X : Cx) (P : Pq) (W : WX) (e : Expr) (se : ST) : Prop := PW X e (tTst X.K X.mg P W se)
abbrev DA (X : Cx) (P : Pq) (W : WX) (es : List Expr) (se : SA) : Prop := PA X es (tAr X.K X.mg P W se)
def OutP (K : PySem.W.Frag) (mg : Str → Option Value) (Q : VK) (m : Mp) (H : Hp) : Res T → Prop
  | .ok t h' => ∀ v m' H', Ext m H m' H' → RT K mg m' H' t v → HR K mg m' h' H' → Q v H'
  | _ => False
def NoX2 (f : T → T → Hh → Res T) : Prop := ∀ x y h c fs h', f x y h ≠ .exc c fs h'
def NoX1 (f : T → Hh → Res T) : Prop := ∀ x h c fs h', f x h ≠ .exc c fs h'
def NoXL (f : List T → Hh → Res T) : Prop := ∀ x h c fs h', f x h ≠ .exc c fs h'
def NoXM (f : T → List T → Hh → Res T) : Prop := ∀ x y h c fs h', f x y h ≠ .exc c fs h'
theorem Out.outP {K : PySem.W.Frag} {mg : Str → Option Value} {W : WX} {σV : L2.St} {Q : VK} {m : Mp} {H : Hp} {r : Res T} (o : Out K mg (RT K mg) W σV Q m H r) (n : ∀ c fs h', r ≠ .exc c fs h') : OutP K mg Q m H r := by
  cases r with
  | ok t h' => exact o
  | exc c fs h' => exact absurd rfl (n c fs h')
  | stk => exact o
def rP2 (K : PySem.W.Frag) (mg : Str → Option Value) (f : T → T → Hh → Res T) : R2 := fun x y H Q => ∃ m h tx ty, RT K mg m H tx x ∧ RT K mg m H ty y ∧ HR K mg m h H ∧ OutP K mg Q m H (f tx ty h)
def rP1 (K : PySem.W.Frag) (mg : Str → Option Value) (f : T → Hh → Res T) : V → Hp → VK → Prop := fun x H Q => ∃ m h tx, RT K mg m H tx x ∧ HR K mg m h H ∧ OutP K mg Q m H (f tx h)
def rPL (K : PySem.W.Frag) (mg : Str → Option Value) (f : List T → Hh → Res T) : List V → Hp → VK → Prop := fun xs H Q => ∃ m h ts, RTs K mg m H ts xs ∧ HR K mg m h H ∧ OutP K mg Q m H (f ts h)
def rPM (K : PySem.W.Frag) (mg : Str → Option Value) (f : T → List T → Hh → Res T) : V → List V → Hp → VK → Prop := fun x xs H Q => ∃ m h t ts, RT K mg m H t x ∧ RTs K mg m H ts xs ∧ HR K mg m h H ∧ OutP K mg Q m H (f t ts h)
section
variable {X : Cx} {P : Pq} {W : WX} {a b c : Expr} {sa sb sc : SE} {pos : Pos}
theorem de_var {i : Nat} {x : Str} (hN : X.N[i]? = some x) (hv : Vis X.env.scope x) (hd : (x == ("__debug__" : Str)) = false := by decide) (hcd : (x == ("__classdict__" : Str)) = false := by decide) : DE X P W (.Name x pos) (sVar i) :=
  PE.imp (pe_var hN hv hd hcd) fun σV H Q ⟨m, h, σ, A, o⟩ => by
    unfold sVar at o
    split at o
    · rename_i t e
      obtain ⟨v, ev, r⟩ := A.sr.2 i t e
      exact ⟨v, ev, o v m H (Ext.refl _ _) r A.hr⟩
    · exact False.elim o
theorem de_c {t : T} {v : V} (h : PE X a (tC v)) (r : ∀ m H, RT X.K X.mg m H t v) : DE X P W a (sC t) :=
  PE.imp h fun σV H Q ⟨m, h, σ, A, o⟩ => o v m H (Ext.refl _ _) (r _ _) A.hr
theorem de_int {i j} : DE X P W (.Constant (.int i) j pos) (sC (.int i)) := de_c pe_int fun _ _ => .int i
theorem de_bl {i j} : DE X P W (.Constant (.bool i) j pos) (sC (.bl i)) := de_c pe_bl fun _ _ => .bl i
theorem de_non {j} : DE X P W (.Constant .none j pos) (sC .non) := de_c pe_non fun _ _ => .non
theorem de_str {x : Str} {j} (h : PyData.strOk x = true := by decide +kernel) : DE X P W (.Constant (.str x) j pos) (sC (.str x)) := de_c pe_str fun _ _ => .str h
theorem de_glob {x : Str} {t : T} {v : V} {u : Value} (hg : Gl X x) (hm : X.mg x = some u) (r : RelV v u) (rt : ∀ m H, RT X.K X.mg m H t v) (hd : (x == ("__debug__" : Str)) = false := by decide) : DE X P W (.Name x pos) (sC t) :=
  de_c (pe_glob hg hm r hd) rt
theorem two {f : T → T → Hh → Res T} (hf : NoX2 f) {σV : L2.St} {H : Hp} {Q : VK} (h : tI X.K X.mg P W (s2 f sa sb) σV H Q) :
    tI X.K X.mg P W sa σV H fun x H1 => tI X.K X.mg P W sb σV H1 fun y H2 => rP2 X.K X.mg f x y H2 Q := by
  obtain ⟨m, h, σ, A, o⟩ := h
  refine A.first (rel1 := RT X.K X.mg) o fun m1 h1 t1 x H1 E1 r1 A1 o1 => ?_
  refine A1.first (rel1 := RT X.K X.mg) o1 fun m2 h2 t2 y H2 E2 r2 A2 o2 => ?_
  exact ⟨m2, h2, t1, t2, r1.ext E2, r2, A2.hr, o2.outP (hf t1 t2 h2)⟩
theorem one {f : T → Hh → Res T} (hf : NoX1 f) {σV : L2.St} {H : Hp} {Q : VK} (h : tI X.K X.mg P W (s1 f sa) σV H Q) :
    tI X.K X.mg P W sa σV H fun x H1 => rP1 X.K X.mg f x H1 Q := by
  obtain ⟨m, h, σ, A, o⟩ := h
  refine A.first (rel1 := RT X.K X.mg) o fun m1 h1 t1 x H1 E1 r1 A1 o1 => ?_
  exact ⟨m1, h1, t1, r1, A1.hr, o1.outP (hf t1 h1)⟩
theorem de_op {op : Operator} {f : T → T → Hh → Res T} (ho : OpR X (binaryOp op) (rP2 X.K X.mg f)) (hf : NoX2 f) (ha : DE X P W a sa) (hb : DE X P W b sb) : DE X P W (.BinOp a op b pos) (s2 f sa sb) :=
  PE.imp (pe_op ho ha hb) fun σV H Q h => two hf h
theorem de_cmp {op : CmpOp} {f : T → T → Hh → Res T} (ho : OpR X (compareOp op) (rP2 X.K X.mg f)) (hf : NoX2 f) (ha : DE X P W a sa) (hb : DE X P W b sb) (hm : behindInMarks op b = false) : DE X P W (.Compare a [op] [b] pos) (s2 f sa sb) :=
  PE.imp (pe_cmpR ho ha hb hm) fun σV H Q h => two hf h
theorem dt_cmp {op : CmpOp} {f : T → T → Hh → Res T} (ho : OpR X (compareOp op) (rP2 X.K X.mg f)) (hf : NoX2 f) (ha : DE X P W a sa) (hb : DE X P W b sb) (hm : behindInMarks op b = false) : DT X P W (.Compare a [op] [b] pos) (sT (s2 f sa sb)) :=
  PT.imp (pt_cmpR ho ha hb hm) fun σV H Q ⟨m, h, σ, A, o⟩ => by
    refine two hf (A.first (rel1 := RT X.K X.mg) o fun m1 h1 t x H1 E1 r A1 o1 => ?_)
    cases r with
    | bl k => exact ⟨k, rfl, o1 k m1 H1 (Ext.refl _ _) rfl A1.hr⟩
    | _ => exact False.elim o1
theorem nx_add : NoX2 oAdd := fun x y h c fs h' e => by
  unfold oAdd alloc at e
  (repeat' split at e) <;> cases e
theorem nx_mul : NoX2 oMul := fun x y h c fs h' e => by unfold oMul at e; (repeat' split at e) <;> cases e
theorem nx_mod : NoX2 oMod := fun x y h c fs h' e => by unfold oMod at e; (repeat' split at e) <;> cases e
theorem nx_div : NoX2 oDiv := fun x y h c fs h' e => by unfold oDiv at e; (repeat' split at e) <;> cases e
theorem nx_pow : NoX2 oPow := fun x y h c fs h' e => by unfold oPow at e; (repeat' split at e) <;> cases e
theorem nx_lt : NoX2 oLt := fun x y h c fs h' e => by unfold oLt at e; (repeat' split at e) <;> cases e
theorem nx_le : NoX2 oLe := fun x y h c fs h' e => by unfold oLe at e; (repeat' split at e) <;> cases e
theorem nx_eq : NoX2 oEq := fun x y h c fs h' e => by unfold oEq at e; (repeat' split at e) <;> cases e
theorem nx_ne : NoX2 oNe := fun x y h c fs h' e => by unfold oNe at e; (repeat' split at e) <;> cases e
theorem nx_in : NoX2 oIn := fun x y h c fs h' e => by unfold oIn at e; (repeat' split at e) <;> cases e
theorem nx_notin : NoX2 oNotIn := fun x y h c fs h' e => by unfold oNotIn at e; (repeat' split at e) <;> cases e
theorem nx_ix : NoX2 oIx := fun x y h c fs h' e => by unfold oIx at e; (repeat' split at e) <;> cases e
theorem os_int {sem : Value → Value → Sem Value} {C : Int → Int → Prop} {g : Int → Int → V} {gt : Int → Int → T} {f : T → T → Hh → Res T} (ho : OpR X sem (rI C g)) (hg : ∀ i j m H, RT X.K X.mg m H (gt i j) (g i j))
    (hf : ∀ x y h t h', f x y h = .ok t h' → ∃ i j, x = .int i ∧ y = .int j ∧ C i j ∧ t = gt i j ∧ h' = h) : OpR X sem (rP2 X.K X.mg f) := by
  intro pins s σ H x y v u Q I rx ry ⟨m, h, tx, ty, r1, r2, R, o⟩
  cases e : f tx ty h with
  | ok t h' =>
    rw [e] at o
    obtain ⟨i, j, rfl, rfl, hc, rfl, rfl⟩ := hf _ _ _ _ _ e
    cases r1
    cases r2
    exact ho pins s σ H _ _ v u Q I rx ry ⟨i, j, rfl, rfl, hc, o _ m H (Ext.refl _ _) (hg i j m H) R⟩
  | exc c fs h' => rw [e] at o; exact False.elim o
  | stk => rw [e] at o; exact False.elim o
theorem rI_of0 {sem : Value → Value → Sem Value} {g : Int → Int → V} (ho : OpR X sem (rI0 g)) : OpR X sem (rI (fun _ _ => True) g) := by
  intro pins s σ H x y v u Q I rx ry ⟨i, j, e1, e2, _, q⟩
  exact ho pins s σ H x y v u Q I rx ry ⟨i, j, e1, e2, q⟩
theorem os_mul : OpR X (binaryOp .Mult) (rP2 X.K X.mg oMul) := os_int (gt := fun i j => .int (i * j)) op_mul (fun _ _ _ _ => .int _) fun x y h t h' e => by
  unfold oMul at e; split at e
  · split at e
    · rename_i hc; cases e; exact ⟨_, _, rfl, rfl, hc, rfl, rfl⟩
    · cases e
  · cases e
theorem os_mod : OpR X (binaryOp .Mod) (rP2 X.K X.mg oMod) := os_int (gt := fun i j => .int (i % j)) op_mod (fun _ _ _ _ => .int _) fun x y h t h' e => by
  unfold oMod at e; split at e
  · split at e
    · rename_i hc; cases e; exact ⟨_, _, rfl, rfl, hc, rfl, rfl⟩
    · cases e
  · cases e
theorem os_div : OpR X (binaryOp .FloorDiv) (rP2 X.K X.mg oDiv) := os_int (gt := fun i j => .int (i / j)) op_fdiv (fun _ _ _ _ => .int _) fun x y h t h' e => by
  unfold oDiv at e; split at e
  · split at e
    · rename_i hc; cases e; exact ⟨_, _, rfl, rfl, hc, rfl, rfl⟩
    · cases e
  · cases e
theorem os_pow : OpR X (binaryOp .Pow) (rP2 X.K X.mg oPow) := os_int (gt := fun i j => .int (i ^ j.toNat)) op_pow (fun _ _ _ _ => .int _) fun x y h t h' e => by
  unfold oPow at e; split at e
  · split at e
    · rename_i hc; cases e; exact ⟨_, _, rfl, rfl, hc, rfl, rfl⟩
    · cases e
  · cases e
theorem os_lt : OpR X (compareOp .Lt) (rP2 X.K X.mg oLt) := os_int (gt := fun i j => .bl (decide (i < j))) (rI_of0 op_lt) (fun _ _ _ _ => .bl _) fun x y h t h' e => by
  unfold oLt at e; split at e
  · cases e; exact ⟨_, _, rfl, rfl, trivial, rfl, rfl⟩
  · cases e
theorem os_le : OpR X (compareOp .LtE) (rP2 X.K X.mg oLe) := os_int (gt := fun i j => .bl (decide (i ≤ j))) (rI_of0 op_le) (fun _ _ _ _ => .bl _) fun x y h t h' e => by
  unfold oLe at e; split at e
  · cases e; exact ⟨_, _, rfl, rfl, trivial, rfl, rfl⟩
  · cases e
theorem OutP.newTup {K : PySem.W.Frag} {mg : Str → Option Value} {Q : VK} {m : Mp} {H : Hp} {h : Hh} {ts : List T} {vs : List V} (R : HR K mg m h H) (r : RTs K mg m H ts vs) (o : OutP K mg Q m H (.ok (.tup ts) h)) {p : Addr} {ob : Obj} (hp : H p = none) (hd : ob.dict = none) : Q (.ref p) (upd H p (.frz ob (.tup vs))) :=
  o _ m _ (Ext.garbage R hp) (.tup (.inl ⟨ob, upd_same, hd⟩) (r.ext (Ext.garbage R hp))) (R.garbage hp)
theorem OutP.newLst {K : PySem.W.Frag} {mg : Str → Option Value} {Q : VK} {m : Mp} {H : Hp} {h : Hh} {ts : List T} {vs : List V} (R : HR K mg m h H) (r : RTs K mg m H ts vs) (o : OutP K mg Q m H (alloc (.lst ts) h)) {p : Addr} (hp : H p = none) : Q (.ref p) (upd H p (.lst vs)) :=
  o _ _ _ (Ext.alloc R hp) (.ref Mp.put_same) (R.alloc hp ⟨vs, upd_same, r.ext (Ext.alloc R hp)⟩)
theorem strOk_append {x y : Str} (hx : PyData.strOk x = true) (hy : PyData.strOk y = true) : PyData.strOk (x ++ y) = true := by
  unfold PyData.strOk at *
  show (x.cps ++ y.cps).all _ = true
  rw [Array.all_append, hx, hy]; rfl
theorem os_add : OpR X (binaryOp .Add) (rP2 X.K X.mg oAdd) := by
  intro pins s σ H x y v u Q I rx ry ⟨m, h, tx, ty, r1, r2, R, o⟩
  cases r1 with
  | int i =>
    cases r2 with
    | int j => exact op_add pins s σ H _ _ v u Q I rx ry ⟨i, j, rfl, rfl, o _ m H (Ext.refl _ _) (.int _) R⟩
    | _ => exact False.elim o
  | str hi =>
    cases r2 with
    | str hj =>
      rename_i i j
      have o' : OutP X.K X.mg Q m H (if i.length + j.length ≤ sizeLine then .ok (.str (i ++ j)) h else .stk) := o
      split at o'
      · rename_i hz; exact op_add_str pins s σ H _ _ v u Q I rx ry ⟨_, _, rfl, rfl, hz, o' _ m H (Ext.refl _ _) (.str (strOk_append hi hj)) R⟩
      · exact False.elim o'
    | _ => exact False.elim o
  | tup ha r =>
    cases r2 with
    | tup hb q =>
      rename_i a vs xs b ws ys
      have o' : OutP X.K X.mg Q m H (if xs.length + ys.length ≤ sizeLine then .ok (.tup (xs ++ ys)) h else .stk) := o
      split at o'
      · rename_i hz
        rw [r.length, q.length] at hz
        refine op_catN pins s σ H _ _ v u Q I rx ry ⟨_, _, _, _, rfl, rfl, ha, hb, hz, fun e => ?_, fun e1 e2 => ?_, fun e1 e2 p ob hp hd => ?_⟩
        · subst e; cases r; exact o' _ m H (Ext.refl _ _) (.tup hb q) R
        · subst e2; cases q; rw [List.append_nil] at o'; exact o' _ m H (Ext.refl _ _) (.tup ha r) R
        · exact OutP.newTup R (r.append q) o' hp hd
      · exact False.elim o'
    | _ => exact False.elim o
  | ref e1 =>
    cases r2 with
    | ref e2 =>
      rename_i l a k b
      have o' : OutP X.K X.mg Q m H (match lstAt h l, lstAt h k with
        | some xs, some zs => if xs.length + zs.length ≤ sizeLine then alloc (.lst (xs ++ zs)) h else .stk
        | _, _ => .stk) := o
      split at o'
      · rename_i xs zs q1 q2
        split at o'
        · rename_i hz
          obtain ⟨vs, g1, r1⟩ := R.lst e1 q1
          obtain ⟨ws, g2, r2⟩ := R.lst e2 q2
          rw [r1.length, r2.length] at hz
          exact op_cat pins s σ H _ _ v u Q I rx ry ⟨_, _, _, _, rfl, rfl, g1, g2, hz, fun p hp => OutP.newLst R (r1.append r2) o' hp⟩
        · exact False.elim o'
      · exact False.elim o'
    | _ => exact False.elim o
  | _ => exact False.elim o
end
end W3
end

section
namespace W3
open PySem PySem.Spec PyProof.Rows
open L2
section
variable {K : PySem.W.Frag} {mg : Str → Option Value} {m : Mp} {H : Hp} {h : Hh}
theorem optL_dp {n : Nat} {f : T → Option PyData} (hf : ∀ t v d, RT K mg m H t v → f t = some d → Dp K H v d ∧ d.canLay0 = true ∧ d.depth ≤ n) :
    ∀ {ts : List T} {vs : List V} {ds : List PyData}, RTs K mg m H ts vs → optL f ts = some ds → DpAll K H vs ds ∧ PyData.canLayAll0 ds = true ∧ PyData.depthAll ds ≤ n
  | _, _, _, .nil, e => by cases e; exact ⟨.nil, by simp [PyData.canLayAll0], by simp [PyData.depthAll]⟩
  | _, _, _, .cons (t := t) (ts := ts) r q, e => by
    unfold optL at e
    cases h1 : f t with
    | none => rw [h1] at e; simp at e
    | some d =>
      cases h2 : optL f ts with
      | none => rw [h1, h2] at e; simp at e
      | some ds =>
        rw [h1, h2] at e
        cases e
        obtain ⟨a1, a2, a3⟩ := hf _ _ _ r h1
        obtain ⟨b1, b2, b3⟩ := optL_dp hf q h2
        refine ⟨.cons a1 b1, by simp [PyData.canLayAll0, a2, b2], ?_⟩
        simp only [PyData.depthAll]
        omega
theorem toD_dp (R : HR K mg m h H) : ∀ (n : Nat) (t : T) (v : V) (d : PyData), RT K mg m H t v → toD h n t = some d → Dp K H v d ∧ d.canLay0 = true ∧ d.depth ≤ n
  | 0, _, _, _, _, e => by simp [toD] at e
  | n + 1, _, _, d, r, e => by
    have ih := toD_dp R n
    cases r with
    | non => cases e; exact ⟨.non, by simp [PyData.canLay0], by simp [PyData.depth]⟩
    | bl b => cases e; exact ⟨.bl b, by simp [PyData.canLay0], by simp [PyData.depth]⟩
    | int b => cases e; exact ⟨.int b, by simp [PyData.canLay0], by simp [PyData.depth]⟩
    | str b => cases e; exact ⟨.str _, by simpa [PyData.canLay0] using b, by simp [PyData.depth]⟩
    | @tup a vs ts hq rr =>
      have e' : (optL (toD h n) ts).map PyData.tuple = some d := e
      cases q : optL (toD h n) ts with
      | none => rw [q] at e'; cases e'
      | some ds =>
        rw [q] at e'; cases e'
        obtain ⟨b1, b2, b3⟩ := optL_dp ih rr q
        exact ⟨.tup hq b1, by simpa [PyData.canLay0] using b2, by simp only [PyData.depth]; omega⟩
    | @fl a vs ts hq rr =>
      have e' : (optL (toD h n) ts).map PyData.list = some d := e
      cases q : optL (toD h n) ts with
      | none => rw [q] at e'; cases e'
      | some ds =>
        rw [q] at e'; cases e'
        obtain ⟨b1, b2, b3⟩ := optL_dp ih rr q
        exact ⟨.lst hq.sq b1, by simpa [PyData.canLay0] using b2, by simp only [PyData.depth]; omega⟩
    | @ref l a hq =>
      have e' : (match h[l]? with | some (.lst ts) => (optL (toD h n) ts).map PyData.list | _ => none) = some d := e
      split at e'
      · rename_i ts hl
        obtain ⟨vs, g, rr⟩ := R.lst hq (show lstAt h l = some ts by unfold lstAt; rw [hl])
        cases q : optL (toD h n) ts with
        | none => rw [q] at e'; cases e'
        | some ds =>
          rw [q] at e'; cases e'
          obtain ⟨b1, b2, b3⟩ := optL_dp ih rr q
          exact ⟨.lst (SqL.of g) b1, by simpa [PyData.canLay0] using b2, by simp only [PyData.depth]; omega⟩
      · cases e'
    | cls hq => cases e
theorem toD_shaped (R : HR K mg m h H) {t : T} {v : V} {d : PyData} (r : RT K mg m H t v) (e : toD h 24 t = some d) : Dp K H v d ∧ SeqAt.shaped d = true := by
  obtain ⟨a, b, c⟩ := toD_dp R 24 t v d r e
  refine ⟨a, ?_⟩
  unfold SeqAt.shaped
  rw [b, decide_eq_true (by omega : d.depth ≤ 64)]
  rfl
end
section
variable {X : Cx} {P : Pq} {W : WX} {a b c : Expr} {sa sb sc : SE} {pos : Pos} {es : List Expr} {ar : SA} {ta tb : ST} {rest : List Expr}
theorem os_eq (hu : X.A.units + 65 < cLine) : OpR X (compareOp .Eq) (rP2 X.K X.mg oEq) := by
  intro pins s σ H x y v u Q I rx ry ⟨m, h, tx, ty, r1, r2, R, o⟩
  unfold oEq at o
  split at o
  · rename_i d e q1 q2
    obtain ⟨d1, s1⟩ := toD_shaped R r1 q1
    obtain ⟨d2, s2⟩ := toD_shaped R r2 q2
    exact op_eqD (by omega) pins s σ H x y v u Q I rx ry ⟨d, e, d1, d2, s1, s2, o _ m H (Ext.refl _ _) (.bl _) R⟩
  · exact False.elim o
theorem os_ne (hu : X.A.units + 65 < cLine) : OpR X (compareOp .NotEq) (rP2 X.K X.mg oNe) := by
  intro pins s σ H x y v u Q I rx ry ⟨m, h, tx, ty, r1, r2, R, o⟩
  unfold oNe at o
  split at o
  · rename_i d e q1 q2
    obtain ⟨d1, s1⟩ := toD_shaped R r1 q1
    obtain ⟨d2, s2⟩ := toD_shaped R r2 q2
    exact op_neD (by omega) pins s σ H x y v u Q I rx ry ⟨d, e, d1, d2, s1, s2, o _ m H (Ext.refl _ _) (.bl _) R⟩
  · exact False.elim o
theorem in_run (hu : X.A.units + 65 < cLine) {pins : List (Addr × Obj)} {s : Shared} {σ : L2.St} {H : Hp} {x y : V} {v u : Value} {m : Mp} {h : Hh} {tx ty : T} {k : Bool} (I : L2.Inv X pins σ H s) (rx : RelV x v) (ry : RelV y u) (r1 : RT X.K X.mg m H tx x)
    (r2 : RT X.K X.mg m H ty y) (R : HR X.K X.mg m h H) (e : inT tx ty h = some k) {Q : Value → Shared → Prop} (q : Q (.bool k) s) : wpAny (model X.prog X.w) X.A (compareOp .In v u) Q X.xe s := by
  have deep : (match toD h 24 tx, toD h 24 ty with
    | some d, some (.list ds) => some (ds.any fun z => PyData.eqv z d)
    | some d, some (.tuple ds) => some (ds.any fun z => PyData.eqv z d)
    | _, _ => none) = some k → wpAny (model X.prog X.w) X.A (compareOp .In v u) Q X.xe s := by
    intro e
    split at e
    · rename_i d ds q1 q2
      cases e
      obtain ⟨d1, s1⟩ := toD_shaped R r1 q1
      obtain ⟨d2, s2⟩ := toD_shaped R r2 q2
      obtain ⟨as, p1⟩ := Dp.reads I d x v d1 rx
      obtain ⟨bs, p2⟩ := Dp.reads I (.list ds) y u d2 ry
      exact SeqAt.in_list_reads p2 p1 (SeqAt.canLay_of_shaped s2) (SeqAt.canLay_of_shaped s1) (room_in_shaped s1 hu) q
    · rename_i d ds q1 q2
      cases e
      obtain ⟨d1, s1⟩ := toD_shaped R r1 q1
      obtain ⟨d2, s2⟩ := toD_shaped R r2 q2
      obtain ⟨as, p1⟩ := Dp.reads I d x v d1 rx
      obtain ⟨bs, p2⟩ := Dp.reads I (.tuple ds) y u d2 ry
      exact SeqAt.in_tuple_reads p2 p1 (SeqAt.canLay_of_shaped s2) (SeqAt.canLay_of_shaped s1) (room_in_shaped s1 hu) q
    · cases e
  cases r1 with
  | str h1 =>
    cases r2 with
    | str h2 =>
      cases e
      obtain ⟨t, rfl⟩ := rx
      obtain ⟨t', rfl⟩ := ry
      exact in_str q
    | _ => exact deep e
  | _ => exact deep e
theorem os_in (hu : X.A.units + 65 < cLine) : OpR X (compareOp .In) (rP2 X.K X.mg oIn) := by
  intro pins s σ H x y v u Q I rx ry ⟨m, h, tx, ty, r1, r2, R, o⟩
  unfold oIn at o
  split at o
  · rename_i k q
    exact in_run hu I rx ry r1 r2 R q ⟨.bl k, H, I, rfl, o _ m H (Ext.refl _ _) (.bl _) R⟩
  · exact False.elim o
theorem notin_run (hu : X.A.units + 65 < cLine) {pins : List (Addr × Obj)} {s : Shared} {σ : L2.St} {H : Hp} {x y : V} {v u : Value} {m : Mp} {h : Hh} {tx ty : T} {k : Bool} (I : L2.Inv X pins σ H s) (rx : RelV x v) (ry : RelV y u) (r1 : RT X.K X.mg m H tx x)
    (r2 : RT X.K X.mg m H ty y) (R : HR X.K X.mg m h H) (e : inT tx ty h = some k) {Q : Value → Shared → Prop} (q : Q (.bool (!k)) s) : wpAny (model X.prog X.w) X.A (compareOp .NotIn v u) Q X.xe s := by
  have deep : (match toD h 24 tx, toD h 24 ty with
    | some d, some (.list ds) => some (ds.any fun z => PyData.eqv z d)
    | some d, some (.tuple ds) => some (ds.any fun z => PyData.eqv z d)
    | _, _ => none) = some k → wpAny (model X.prog X.w) X.A (compareOp .NotIn v u) Q X.xe s := by
    intro e
    split at e
    · rename_i d ds q1 q2
      cases e
      obtain ⟨d1, s1⟩ := toD_shaped R r1 q1
      obtain ⟨d2, s2⟩ := toD_shaped R r2 q2
      obtain ⟨as, p1⟩ := Dp.reads I d x v d1 rx
      obtain ⟨bs, p2⟩ := Dp.reads I (.list ds) y u d2 ry
      exact SeqAt.notIn_list_reads p2 p1 (SeqAt.canLay_of_shaped s2) (SeqAt.canLay_of_shaped s1) (room_in_shaped s1 hu) q
    · rename_i d ds q1 q2
      cases e
      obtain ⟨d1, s1⟩ := toD_shaped R r1 q1
      obtain ⟨d2, s2⟩ := toD_shaped R r2 q2
      obtain ⟨as, p1⟩ := Dp.reads I d x v d1 rx
      obtain ⟨bs, p2⟩ := Dp.reads I (.tuple ds) y u d2 ry
      exact SeqAt.notIn_tuple_reads p2 p1 (SeqAt.canLay_of_shaped s2) (SeqAt.canLay_of_shaped s1) (room_in_shaped s1 hu) q
    · cases e
  cases r1 with
  | str h1 =>
    cases r2 with
    | str h2 =>
      cases e
      obtain ⟨t, rfl⟩ := rx
      obtain ⟨t', rfl⟩ := ry
      exact notIn_str q
    | _ => exact deep e
  | _ => exact deep e
theorem os_notin (hu : X.A.units + 65 < cLine) : OpR X (compareOp .NotIn) (rP2 X.K X.mg oNotIn) := by
  intro pins s σ H x y v u Q I rx ry ⟨m, h, tx, ty, r1, r2, R, o⟩
  unfold oNotIn at o
  split at o
  · rename_i k q
    exact notin_run hu I rx ry r1 r2 R q ⟨.bl (!k), H, I, rfl, o _ m H (Ext.refl _ _) (.bl _) R⟩
  · exact False.elim o
theorem nx_is : NoX2 oIs := fun x y h c fs h' e => by unfold oIs at e; (repeat' split at e) <;> cases e
theorem isNon_iff {m : Mp} {H : Hp} {t : T} {v : V} (r : RT X.K X.mg m H t v) : decide (v = .non) = isNonT t := by
  cases r <;> first | rfl | simp [isNonT]
theorem os_is : OpR X (compareOp .Is) (rP2 X.K X.mg oIs) := by
  intro pins s σ H x y v u Q I rx ry ⟨m, h, tx, ty, r1, r2, R, o⟩
  cases r2 with
  | non =>
    have o' : OutP X.K X.mg Q m H (.ok (.bl (isNonT tx)) h) := o
    refine op_isN pins s σ H x _ v u Q I rx ry ⟨rfl, ?_⟩
    rw [isNon_iff r1]
    exact o' _ m H (Ext.refl _ _) (.bl _) R
  | bl k =>
    cases r1 with
    | bl j => exact op_isBl pins s σ H _ _ v u Q I rx ry ⟨j, k, rfl, rfl, o _ m H (Ext.refl _ _) (.bl _) R⟩
    | _ => exact False.elim o
  | _ => exact False.elim o
theorem dt_val (ha : DE X P W a sa) (he : ∀ whole, isTrue a X.env whole = (do let v ← whole; standAt a.pos; holding [v] (truthy v)) := by intro _; rfl) : DT X P W a (sT sa) :=
  PT.imp (pt_val ha he) fun σV H Q ⟨m, h, σ, A, o⟩ => by
    refine A.first (rel1 := RT X.K X.mg) o fun m1 h1 t x H1 E1 r A1 o1 => ?_
    cases r with
    | bl k => exact ⟨k, rfl, o1 k m1 H1 (Ext.refl _ _) rfl A1.hr⟩
    | _ => exact False.elim o1
theorem tt_and {σV : L2.St} {H : Hp} {Q : Bool → Hp → Prop} (h : tTst X.K X.mg P W (stAnd ta tb) σV H Q) : tAnd (tTst X.K X.mg P W ta) (tTst X.K X.mg P W tb) σV H Q := by
  obtain ⟨m, h, σ, A, o⟩ := h
  refine A.first (rel1 := fun _ _ a b => a = b) o fun m1 h1 t x H1 E1 r A1 o1 => ?_
  subst r
  cases t with
  | true => rw [if_pos rfl]; rw [if_pos rfl] at o1; exact ⟨m1, h1, σ, A1, o1⟩
  | false => rw [if_neg Bool.false_ne_true]; rw [if_neg Bool.false_ne_true] at o1; exact o1 _ m1 H1 (Ext.refl _ _) rfl A1.hr
theorem tt_or {σV : L2.St} {H : Hp} {Q : Bool → Hp → Prop} (h : tTst X.K X.mg P W (stOr ta tb) σV H Q) : tOr (tTst X.K X.mg P W ta) (tTst X.K X.mg P W tb) σV H Q := by
  obtain ⟨m, h, σ, A, o⟩ := h
  refine A.first (rel1 := fun _ _ a b => a = b) o fun m1 h1 t x H1 E1 r A1 o1 => ?_
  subst r
  cases t with
  | true => rw [if_pos rfl]; rw [if_pos rfl] at o1; exact o1 _ m1 H1 (Ext.refl _ _) rfl A1.hr
  | false => rw [if_neg Bool.false_ne_true]; rw [if_neg Bool.false_ne_true] at o1; exact ⟨m1, h1, σ, A1, o1⟩
theorem dw_and1 (ha : DT X P W a ta) : DW X P W (.BoolOp .And [a] pos) ta := pw_and1 ha
theorem dw_or1 (ha : DT X P W a ta) : DW X P W (.BoolOp .Or [a] pos) ta := pw_or1 ha
theorem dw_and (ha : DT X P W a ta) (hb : DW X P W (.BoolOp .And (b :: rest) pos) tb) : DW X P W (.BoolOp .And (a :: b :: rest) pos) (stAnd ta tb) := PW.imp (pw_and ha hb) fun _ _ _ h => tt_and h
theorem dw_or (ha : DT X P W a ta) (hb : DW X P W (.BoolOp .Or (b :: rest) pos) tb) : DW X P W (.BoolOp .Or (a :: b :: rest) pos) (stOr ta tb) := PW.imp (pw_or ha hb) fun _ _ _ h => tt_or h
theorem dt_w {e : Expr} (h : DW X P W e ta) : DT X P W e ta := h.pt
theorem dt_not (ha : DT X P W a ta) : DT X P W (.UnaryOp .Not a pos) (stNot ta) := PT.imp (pt_not ha) fun σV H Q ⟨m, h, σ, A, o⟩ => by
  refine A.first (rel1 := fun _ _ a b => a = b) o fun m1 h1 t x H1 E1 r A1 o1 => ?_
  subst r
  exact o1 _ m1 H1 (Ext.refl _ _) rfl A1.hr
theorem de_and1 (ha : DE X P W a sa) : DE X P W (.BoolOp .And [a] pos) sa := pe_one ha
theorem de_and (ha : DE X P W a sa) (hb : DE X P W (.BoolOp .And (b :: rest) pos) sb) : DE X P W (.BoolOp .And (a :: b :: rest) pos) (sIf (sT sa) sb (sC (.bl false))) :=
  PE.imp (pe_and ha hb) fun σV H Q ⟨m, h, σ, A, o⟩ => by
    have o' : Out X.K X.mg (RT X.K X.mg) W σV Q m H ((sa σ h).bind fun t h1 => match t with | .bl k => (if k = true then sb σ h1 else .ok (.bl false) h1) | _ => .stk) := by
      have e : sIf (sT sa) sb (sC (.bl false)) σ h = ((sa σ h).bind fun t h1 => match t with | .bl k => (if k = true then sb σ h1 else .ok (.bl false) h1) | _ => .stk) := by
        unfold sIf sT sC
        cases sa σ h with
        | ok t h1 => cases t <;> rfl
        | exc c fs h1 => rfl
        | stk => rfl
      rw [e] at o; exact o
    refine A.first (rel1 := RT X.K X.mg) o' fun m1 h1 t x H1 E1 r A1 o1 => ?_
    cases r with
    | bl k =>
      refine ⟨k, rfl, ?_⟩
      cases k with
      | true => exact ⟨m1, h1, σ, A1, o1⟩
      | false => exact o1 _ m1 H1 (Ext.refl _ _) (.bl _) A1.hr
    | _ => exact False.elim o1
theorem chain {f g : T → T → Hh → Res T} (hf : NoX2 f) (hg : NoX2 g) {σV : L2.St} {H : Hp} {Q : VK} (h : tI X.K X.mg P W (sChain f g sa sb sc) σV H Q) :
    tChain (rP2 X.K X.mg f) (rP2 X.K X.mg g) (tI X.K X.mg P W sa) (tI X.K X.mg P W sb) (tI X.K X.mg P W sc) σV H Q := by
  obtain ⟨m, h, σ, A, o⟩ := h
  refine A.first (rel1 := RT X.K X.mg) o fun m1 h1 t1 x H1 E1 r1 A1 o1 => ?_
  refine A1.first (rel1 := RT X.K X.mg) o1 fun m2 h2 t2 y H2 E2 r2 A2 o2 => ?_
  refine ⟨m2, h2, t1, t2, r1.ext E2, r2, A2.hr, ?_⟩
  have o3 := (Out.bind (rel1 := RT X.K X.mg) o2).outP (hf t1 t2 h2)
  cases e : f t1 t2 h2 with
  | exc c fs h' => exact absurd e (hf _ _ _ _ _ _)
  | stk => rw [e] at o3; exact False.elim o3
  | ok z h3 =>
    rw [e] at o3
    intro v m3 H3 E3 rv R3
    obtain ⟨m4, h4, z', E4, rz, R4, o4⟩ := o3 v m3 H3 E3 rv R3
    cases rz with
    | bl k =>
      refine ⟨k, rfl, ?_⟩
      have A4 := A2.ext E4 R4
      cases k with
      | true =>
        refine A4.first (rel1 := RT X.K X.mg) o4 fun m5 h5 t5 w H5 E5 r5 A5 o5 => ?_
        exact ⟨m5, h5, t2, t5, (r2.ext E4).ext E5, r5, A5.hr, o5.outP (hg _ _ _)⟩
      | false => exact o4 _ m4 H3 (Ext.refl _ _) (.bl _) R4
    | _ => exact False.elim o4
theorem da_nil : DA X P W [] saNil := PA.imp pa_nil fun σV H Q ⟨m, h, σ, A, o⟩ => o [] m H (Ext.refl _ _) .nil A.hr
theorem da_cons (ha : DE X P W a sa) (hr : DA X P W es ar) (hs : starEach (a :: es) X.env = (false, eval a X.env) :: starEach es X.env := by rfl) : DA X P W (a :: es) (saCons sa ar) :=
  PA.imp (pa_cons ha hr hs) fun σV H Q ⟨m, h, σ, A, o⟩ => by
    refine A.first (rel1 := RT X.K X.mg) o fun m1 h1 t1 x H1 E1 r1 A1 o1 => ?_
    refine A1.first (rel1 := RTs X.K X.mg) o1 fun m2 h2 t2 y H2 E2 r2 A2 o2 => ?_
    exact o2 _ m2 H2 (Ext.refl _ _) (.cons (r1.ext E2) r2) A2.hr
theorem de_tup {x1} (h : DA X P W es ar) : DE X P W (.Tuple es x1 pos) (sTup ar) := PE.imp (pe_tupN h) fun σV H Q ⟨m, h, σ, A, o⟩ => by
  refine A.first (rel1 := RTs X.K X.mg) o fun m1 h1 t1 x H1 E1 r1 A1 o1 => ?_
  split at o1
  · rename_i hz
    refine ⟨by rw [← r1.length]; exact hz, fun p ob hp hd => ?_⟩
    exact OutP.newTup A1.hr r1 (o1.outP (fun _ _ _ z => by cases z)) hp hd
  · exact False.elim o1
theorem de_lst (h : DA X P W es ar) : DE X P W (.List es pos) (sLst ar) := PE.imp (pe_lst h) fun σV H Q ⟨m, h, σ, A, o⟩ => by
  refine A.first (rel1 := RTs X.K X.mg) o fun m1 h1 t1 x H1 E1 r1 A1 o1 => ?_
  split at o1
  · rename_i hz
    refine ⟨by rw [← r1.length]; exact hz, fun p hp => ?_⟩
    exact OutP.newLst A1.hr r1 (o1.outP (fun _ _ _ z => by cases z)) hp
  · exact False.elim o1
end
end W3
end

section
namespace W3
open PySem PySem.Spec PyProof.Rows
open L2
section
variable {X : Cx} {P : Pq} {W : WX} {a b c : Expr} {sa sb sc : SE} {pos p2 : Pos} {es : List Expr} {ar : SA} {ta tb : ST} {rest : List Expr}
theorem dt_chain {op op' : CmpOp} {f g : T → T → Hh → Res T} (ho : OpR X (compareOp op) (rP2 X.K X.mg f)) (ho' : OpR X (compareOp op') (rP2 X.K X.mg g)) (hf : NoX2 f) (hg : NoX2 g) (ha : DE X P W a sa) (hb : DE X P W b sb) (hc : DE X P W c sc)
    (hm : lastMarks [op, op'] [b, c] = false := by with_unfolding_all rfl) : DT X P W (.Compare a [op, op'] [b, c] pos) (sT (sChain f g sa sb sc)) := PT.imp (pt_chain ho ho' ha hb hc hm) fun σV H Q ⟨m, h, σ, A, o⟩ => by
  refine chain hf hg (A.first (rel1 := RT X.K X.mg) o fun m1 h1 t x H1 E1 r A1 o1 => ?_)
  cases r with
  | bl k => exact ⟨k, rfl, o1 k m1 H1 (Ext.refl _ _) rfl A1.hr⟩
  | _ => exact False.elim o1
theorem RTs.atI {m : Mp} {H : Hp} {ts : List T} {vs : List V} (r : RTs X.K X.mg m H ts vs) {i : Int} {t : T} (e : L2.atI ts i = some t) : ∃ v, L2.atI vs i = some v ∧ RT X.K X.mg m H t v := by
  unfold L2.atI at e ⊢
  rw [← r.length]
  cases q : ixN ts.length i with
  | none => rw [q] at e; cases e
  | some j =>
    rw [q] at e
    exact r.get (show ts[j]? = some t from e)
theorem strOk_one {c : Nat} {z : Str} (hz : PyData.strOk z = true) {i : Int} (e : L2.atI z.cps.toList i = some c) : PyData.strOk ⟨#[c]⟩ = true := by
  obtain ⟨j, _, h, _⟩ := atI_get e
  have hm : c ∈ z.cps.toList := List.mem_of_getElem? h
  unfold PyData.strOk at *
  rw [← Array.all_toList, List.all_eq_true] at hz
  have := hz c hm
  simpa using this
theorem ixs : IxR X (rP2 X.K X.mg oIx) := by
  intro value slice pins s σ H x y v u Q I rx ry ⟨m, h, tx, ty, r1, r2, R, o⟩ hs
  cases r2 with
  | int i =>
    cases r1 with
    | @tup a vs ts hq r =>
      have o' : OutP X.K X.mg Q m H (match L2.atI ts i with | some t => .ok t h | none => .stk) := o
      split at o'
      · rename_i t e
        obtain ⟨w, e2, rw⟩ := r.atI e
        exact ix_tup value slice pins s σ H _ _ v u Q I rx ry ⟨_, _, i, w, rfl, rfl, hq, e2, o' _ m H (Ext.refl _ _) rw R⟩ hs
      · exact False.elim o'
    | @fl a vs ts hq r =>
      have o' : OutP X.K X.mg Q m H (match L2.atI ts i with | some t => .ok t h | none => .stk) := o
      split at o'
      · rename_i t e
        obtain ⟨w, e2, rw⟩ := r.atI e
        exact ix_list value slice pins s σ H _ _ v u Q I rx ry ⟨_, _, i, w, rfl, rfl, hq.sq, e2, o' _ m H (Ext.refl _ _) rw R⟩ hs
      · exact False.elim o'
    | @ref l a e1 =>
      have o' : OutP X.K X.mg Q m H (match lstAt h l with
        | some ts => (match L2.atI ts i with | some t => .ok t h | none => .stk)
        | none => .stk) := o
      split at o'
      · rename_i ts q1
        obtain ⟨vs, g1, r1⟩ := R.lst e1 q1
        split at o'
        · rename_i t e
          obtain ⟨w, e2, rw⟩ := r1.atI e
          exact ix_list value slice pins s σ H _ _ v u Q I rx ry ⟨_, _, i, w, rfl, rfl, SqL.of g1, e2, o' _ m H (Ext.refl _ _) rw R⟩ hs
        · exact False.elim o'
      · exact False.elim o'
    | @str z hz =>
      have o' : OutP X.K X.mg Q m H (if z.length ≤ sizeLine then (match L2.atI z.cps.toList i with | some c => .ok (.str ⟨#[c]⟩) h | none => .stk) else .stk) := o
      split at o'
      · rename_i hl
        split at o'
        · rename_i c e
          exact ix_str value slice pins s σ H _ _ v u Q I rx ry ⟨z, i, c, rfl, rfl, hl, e, o' _ m H (Ext.refl _ _) (.str (strOk_one hz e)) R⟩ hs
        · exact False.elim o'
      · exact False.elim o'
    | _ => exact False.elim o
  | _ => cases r1 <;> exact False.elim o
theorem de_ix (ha : DE X P W a sa) (hb : DE X P W b sb) (hs : PlainIx b := by intro _ _; rfl) : DE X P W (.Subscript a b pos) (s2 oIx sa sb) :=
  PE.imp (pe_ix ixs ha hb hs) fun σV H Q h => two nx_ix h
theorem RTs.cut {m : Mp} {H : Hp} {ts : List T} {vs : List V} (r : RTs X.K X.mg m H ts vs) (lo hi : Option Int) : RTs X.K X.mg m H (cutT ts lo hi) (cutV vs lo hi) := by
  unfold cutT cutV
  rw [← r.length]
  exact (r.drop _).take _
abbrev DO (X : Cx) (P : Pq) (W : WX) (e : Option Expr) (se : SO) : Prop := PO X e (tG X.K X.mg (fun _ _ a b => a = b) P W se)
theorem PO.imp {e : Option Expr} {t t' : TO} (h : PO X e t) (k : ∀ σ H Q, t' σ H Q → t σ H Q) : PO X e t' := ⟨fun pins s σ H Q I hw => h.run pins s σ H Q I (k _ _ _ hw)⟩
theorem do_none : DO X P W none soNone := PO.imp po_none fun σV H Q ⟨m, h, σ, A, o⟩ => o none m H (Ext.refl _ _) rfl A.hr
theorem do_some (h : DE X P W a sa) : DO X P W (some a) (soSome sa) := PO.imp (po_some h) fun σV H Q ⟨m, h, σ, A, o⟩ => by
  refine A.first (rel1 := RT X.K X.mg) o fun m1 h1 t x H1 E1 r A1 o1 => ?_
  cases r with
  | int i => exact ⟨i, rfl, o1 (some i) m1 H1 (Ext.refl _ _) rfl A1.hr⟩
  | _ => exact False.elim o1
def rPS (K : PySem.W.Frag) (mg : Str → Option Value) : V → Option Int → Option Int → Hp → VK → Prop := fun x lo hi H Q => ∃ m h t, RT K mg m H t x ∧ HR K mg m h H ∧ OutP K mg Q m H (oSl t lo hi h)
theorem strOk_cut {z : Str} (hz : PyData.strOk z = true) (lo hi : Option Int) : PyData.strOk (L2.cutS z lo hi) = true := by
  unfold PyData.strOk at hz ⊢
  rw [Array.all_eq_true_iff_forall_mem] at hz ⊢
  intro c hc
  refine hz c ?_
  unfold L2.cutS at hc
  have := List.mem_of_mem_drop (List.mem_of_mem_take (List.mem_toArray.mp hc))
  exact Array.mem_toList_iff.mp this
theorem sls : SlR X (rPS X.K X.mg) := by
  intro pins s σ H x v vl vu lo hi sl Q I rx hs pl pu ⟨m, h, t, r, R, o⟩
  cases r with
  | @tup a vs ts hq r =>
    refine sl_tupN pins s σ H _ v vl vu lo hi sl Q I rx hs pl pu ⟨a, vs, rfl, hq, fun ⟨e1, e2⟩ => ?_, fun _ p ob hp hd => ?_⟩
    · have hc : cutV vs lo hi = vs := by
        unfold cutV; rw [e1, e2]; simp
      have hr := r.cut lo hi
      rw [hc] at hr
      exact o _ m H (Ext.refl _ _) (.tup hq hr) R
    · exact OutP.newTup R (r.cut lo hi) o hp hd
  | @fl a vs ts hq r => exact sl_list pins s σ H _ v vl vu lo hi sl Q I rx hs pl pu ⟨a, vs, rfl, hq.sq, fun p hp => OutP.newLst R (r.cut lo hi) o hp⟩
  | @ref l a e1 =>
    have o' : OutP X.K X.mg Q m H (match lstAt h l with | some ts => alloc (.lst (cutT ts lo hi)) h | none => .stk) := o
    split at o'
    · rename_i ts q1
      obtain ⟨vs, g1, r1⟩ := R.lst e1 q1
      exact sl_list pins s σ H _ v vl vu lo hi sl Q I rx hs pl pu ⟨a, vs, rfl, SqL.of g1, fun p hp => OutP.newLst R (r1.cut lo hi) o' hp⟩
    · exact False.elim o'
  | @str z hz =>
    have o' : OutP X.K X.mg Q m H (if z.length ≤ sizeLine then .ok (.str (L2.cutS z lo hi)) h else .stk) := o
    split at o'
    · rename_i hl
      exact sl_str pins s σ H _ v vl vu lo hi sl Q I rx hs pl pu ⟨z, rfl, hl, o' _ m H (Ext.refl _ _) (.str (strOk_cut hz lo hi)) R⟩
    · exact False.elim o'
  | _ => exact False.elim o
theorem nx_sl (t : T) (lo hi : Option Int) (h : Hh) : ∀ c fs h', oSl t lo hi h ≠ .exc c fs h' := fun c fs h' e => by unfold oSl alloc at e; (repeat' split at e) <;> cases e
theorem de_sl {lo hi : Option Expr} {sl sh : SO} (ha : DE X P W a sa) (hl : DO X P W lo sl) (hh : DO X P W hi sh) : DE X P W (.Subscript a (.Slice lo hi none p2) pos) (sSl sa sl sh) :=
  PE.imp (pe_slice sls ha hl hh) fun σV H Q ⟨m, h, σ, A, o⟩ => by
    refine A.first (rel1 := RT X.K X.mg) o fun m1 h1 t x H1 E1 r A1 o1 => ?_
    refine A1.first (rel1 := fun _ _ a b => a = b) o1 fun m2 h2 l l' H2 E2 r2 A2 o2 => ?_
    refine A2.first (rel1 := fun _ _ a b => a = b) o2 fun m3 h3 u u' H3 E3 r3 A3 o3 => ?_
    subst r2; subst r3
    exact ⟨m3, h3, t, (r.ext E2).ext E3, A3.hr, o3.outP (nx_sl _ _ _ _)⟩
def ClsF (K : PySem.W.Frag) (mg : Str → Option Value) (cs : List (Str × List Str)) : Prop := ∀ c fs C, (c, fs) ∈ cs → mg c = some (.ref C) → Cls K C ∧ ∀ f ∈ fs, NoAttr K C f
def oFldC (cs : List (Str × List Str)) (f : Str) (x : T) (h : Hh) : Res T :=
  match x with
  | .ref l => match insAt h l with
    | some (c, fs) => match cs.lookup c with
      | some as => if as.contains f then (match fs.lookup f with | some t => .ok t h | none => .stk) else .stk
      | none => .stk
    | none => .stk
  | _ => .stk
theorem mem_of_lookup {α : Type} : ∀ {l : List (Str × α)} {c : Str} {x : α}, l.lookup c = some x → (c, x) ∈ l
  | [], _, _, e => by simp [List.lookup] at e
  | (d, y) :: r, c, x, e => by
    unfold List.lookup at e
    split at e
    · rename_i q
      have : c = d := by simpa using q
      subst this; cases e; exact List.mem_cons_self
    · exact List.mem_cons_of_mem _ (mem_of_lookup e)
theorem nx_fld (cs : List (Str × List Str)) (f : Str) : NoX1 (oFldC cs f) := fun x h c fs h' e => by unfold oFldC at e; (repeat' split at e) <;> cases e
theorem de_fld {cs : List (Str × List Str)} {f : Str} (C : ClsF X.K X.mg cs) (ha : DE X P W a sa) (hb : attributeBase a f X.env (eval a X.env) = eval a X.env := by rfl) : DE X P W (.Attribute a f pos) (s1 (oFldC cs f) sa) :=
  PE.imp (pe_fld ha hb) fun σV H Q h => by
    refine tG.mono (fun x H1 hq => ?_) (one (nx_fld cs f) h)
    obtain ⟨m, h, t, r, R, o⟩ := hq
    cases r with
    | @ref l a e1 =>
      have o' : OutP X.K X.mg Q m H1 (match insAt h l with
        | some (c, fs) => (match cs.lookup c with
          | some as => if as.contains f then (match fs.lookup f with | some t => .ok t h | none => .stk) else .stk
          | none => .stk)
        | none => .stk) := o
      split at o'
      · rename_i c fs q1
        obtain ⟨Ca, dx, fv, g1, g2, rf⟩ := R.ins e1 q1
        split at o'
        · rename_i as q2
          split at o'
          · rename_i hc
            split at o'
            · rename_i t q3
              obtain ⟨v, e3, rv⟩ := rf.lookup q3
              obtain ⟨k1, k2⟩ := C c as Ca (mem_of_lookup q2) g1
              exact ⟨a, Ca, dx, fv, v, rfl, g2, k1, k2 f (by simpa using hc), e3, o' _ m H1 (Ext.refl _ _) rv R⟩
            · exact False.elim o'
          · exact False.elim o'
        · exact False.elim o'
      · exact False.elim o'
    | _ => exact False.elim o
theorem args_of {f : List T → Hh → Res T} (hf : NoXL f) {σV : L2.St} {H : Hp} {Q : VK} (h : tI X.K X.mg P W (sCl f ar) σV H Q) : tAr X.K X.mg P W ar σV H fun xs H1 => rPL X.K X.mg f xs H1 Q := by
  obtain ⟨m, h, σ, A, o⟩ := h
  refine A.first (rel1 := RTs X.K X.mg) o fun m1 h1 t1 x H1 E1 r1 A1 o1 => ?_
  exact ⟨m1, h1, t1, r1, A1.hr, o1.outP (hf _ _)⟩
theorem de_callB {id : String} {x : Str} {p : Pos} {f : List T → Hh → Res T} (hc : CallR X (.builtin id) (rPL X.K X.mg f)) (hf : NoXL f) (hg : Gl X x) (hm : X.mg x = none) (hv : bootBuiltins x = some (.builtin id)) (ha : DA X P W (a :: es) ar) (hn : x ≠ "__name__" := by decide) (hdb : (x == ("__debug__" : Str)) = false := by decide)
    (he : starEach (a :: es) X.env = (false, eval a X.env) :: starEach es X.env := by rfl) (hpl : (backTo pos (starEach es X.env)).any (·.1) = false := by rfl) : DE X P W (.Call (.Name x p) (a :: es) [] pos) (sCl f ar) :=
  PE.imp (pe_callB hc hg hm hv ha hn hdb he hpl) fun σV H Q h => args_of hf h
theorem de_callTy {T' : String} {x : Str} {p : Pos} {f : List T → Hh → Res T} (hc : CallR X (.type T') (rPL X.K X.mg f)) (hf : NoXL f) (hg : Gl X x) (hm : X.mg x = none) (hv : bootBuiltins x = some (.type T')) (ha : DA X P W (a :: es) ar) (hn : x ≠ "__name__" := by decide) (hdb : (x == ("__debug__" : Str)) = false := by decide)
    (he : starEach (a :: es) X.env = (false, eval a X.env) :: starEach es X.env := by rfl) (hpl : (backTo pos (starEach es X.env)).any (·.1) = false := by rfl) : DE X P W (.Call (.Name x p) (a :: es) [] pos) (sCl f ar) :=
  PE.imp (pe_callTy hc hg hm hv ha hn hdb he hpl) fun σV H Q h => args_of hf h
theorem nx_len : NoXL bLen := fun x h c fs h' e => by unfold bLen at e; (repeat' split at e) <;> cases e
theorem nx_bint : NoXL bInt := fun x h c fs h' e => by unfold bInt at e; (repeat' split at e) <;> cases e
theorem nx_tuple : NoXL bTuple := fun x h c fs h' e => by unfold bTuple at e; (repeat' split at e) <;> cases e
theorem nx_list : NoXL bList := fun x h c fs h' e => by unfold bList alloc at e; (repeat' split at e) <;> cases e
theorem RTs.one {m : Mp} {H : Hp} {t : T} {vs : List V} (r : RTs X.K X.mg m H [t] vs) : ∃ v, vs = [v] ∧ RT X.K X.mg m H t v := by
  cases r with
  | cons r q => cases q; exact ⟨_, rfl, r⟩
theorem cs_len : CallR X (.builtin "len") (rPL X.K X.mg bLen) := by
  intro pins s σ H xs us Q I ru ⟨m, h, ts, r, R, o⟩
  unfold bLen at o
  split at o
  · obtain ⟨v, rfl, r1⟩ := r.one
    cases r1 with
    | tup hq r2 => exact call_len_seq pins s σ H _ us Q I ru ⟨_, _, rfl, .inr hq, by rw [← r2.length]; exact o _ m H (Ext.refl _ _) (.int _) R⟩
  · obtain ⟨v, rfl, r1⟩ := r.one
    cases r1 with
    | fl hq r2 => exact call_len_seq pins s σ H _ us Q I ru ⟨_, _, rfl, .inl hq.sq, by rw [← r2.length]; exact o _ m H (Ext.refl _ _) (.int _) R⟩
  · obtain ⟨v, rfl, r1⟩ := r.one
    split at o
    · rename_i hz
      cases r1 with
      | str hq => exact call_len_str pins s σ H _ us Q I ru ⟨_, rfl, hz, o _ m H (Ext.refl _ _) (.int _) R⟩
    · exact False.elim o
  · obtain ⟨v, rfl, r1⟩ := r.one
    split at o
    · rename_i ts q1
      cases r1 with
      | ref e1 =>
        obtain ⟨vs, g1, r2⟩ := R.lst e1 q1
        exact call_len_seq pins s σ H _ us Q I ru ⟨_, _, rfl, .inl (SqL.of g1), by rw [← r2.length]; exact o _ m H (Ext.refl _ _) (.int _) R⟩
    · exact False.elim o
  · exact False.elim o
theorem cs_int : CallR X (.type "int") (rPL X.K X.mg bInt) := by
  intro pins s σ H xs us Q I ru ⟨m, h, ts, r, R, o⟩
  unfold bInt at o
  split at o
  · obtain ⟨v, rfl, r1⟩ := r.one
    cases r1 with
    | int i => exact call_int1 pins s σ H _ us Q I ru (.inl ⟨_, rfl, o _ m H (Ext.refl _ _) (.int _) R⟩)
  · exact False.elim o
theorem cs_tuple : CallR X (.type "tuple") (rPL X.K X.mg bTuple) := by
  intro pins s σ H xs us Q I ru ⟨m, h, ts, r, R, o⟩
  unfold bTuple at o
  split at o
  · obtain ⟨v, rfl, r1⟩ := r.one
    cases r1 with
    | tup hq r2 => exact call_tupleN pins s σ H _ us Q I ru ⟨_, _, rfl, .inr ⟨hq.t, o _ m H (Ext.refl _ _) (.tup hq r2) R⟩⟩
  · obtain ⟨v, rfl, r1⟩ := r.one
    cases r1 with
    | fl hq r2 => exact call_tupleN pins s σ H _ us Q I ru ⟨_, _, rfl, .inl ⟨hq.sq, fun p ob hp hd => OutP.newTup R r2 o hp hd⟩⟩
  · obtain ⟨v, rfl, r1⟩ := r.one
    split at o
    · rename_i ts q1
      cases r1 with
      | ref e1 =>
        obtain ⟨vs, g1, r2⟩ := R.lst e1 q1
        exact call_tupleN pins s σ H _ us Q I ru ⟨_, _, rfl, .inl ⟨SqL.of g1, fun p ob hp hd => OutP.newTup R r2 o hp hd⟩⟩
    · exact False.elim o
  · exact False.elim o
theorem cs_list : CallR X (.type "list") (rPL X.K X.mg bList) := by
  intro pins s σ H xs us Q I ru ⟨m, h, ts, r, R, o⟩
  unfold bList at o
  split at o
  · obtain ⟨v, rfl, r1⟩ := r.one
    cases r1 with
    | tup hq r2 => exact call_list_of pins s σ H _ us Q I ru ⟨_, _, rfl, .inr hq, fun p hp => OutP.newLst R r2 o hp⟩
  · obtain ⟨v, rfl, r1⟩ := r.one
    cases r1 with
    | fl hq r2 => exact call_list_of pins s σ H _ us Q I ru ⟨_, _, rfl, .inl hq.sq, fun p hp => OutP.newLst R r2 o hp⟩
  · obtain ⟨v, rfl, r1⟩ := r.one
    split at o
    · rename_i ts q1
      cases r1 with
      | ref e1 =>
        obtain ⟨vs, g1, r2⟩ := R.lst e1 q1
        exact call_list_of pins s σ H _ us Q I ru ⟨_, _, rfl, .inl (SqL.of g1), fun p hp => OutP.newLst R r2 o hp⟩
    · exact False.elim o
  · exact False.elim o
end
end W3
end

section
namespace W3
open PySem PySem.Spec PyProof.Rows
open L2
structure SrcJ (K : PySem.W.Frag) (mg : Str → Option Value) (m : Mp) (H : Hp) (s : Src) (J : It) : Prop where
  go : ∀ m' h' H' i x, Tr m H m' H' → HR K mg m' h' H' → s.at h' i = some (some x) → J.go i H' ∧ ∀ y H2, J.yld i H' y H2 → Ext m' H' m' H2 ∧ HR K mg m' h' H2 ∧ RT K mg m' H2 x y
  stop : ∀ m' h' H' i, Tr m H m' H' → HR K mg m' h' H' → s.at h' i = some none → J.stop i H'
theorem SrcJ.ext {K : PySem.W.Frag} {mg : Str → Option Value} {m m1 : Mp} {H H1 : Hp} {s : Src} {J : It} (S : SrcJ K mg m H s J) (E : Ext m H m1 H1) : SrcJ K mg m1 H1 s J :=
  ⟨fun m' h' H' i x E' => S.go m' h' H' i x (E.tr.trans E'), fun m' h' H' i E' => S.stop m' h' H' i (E.tr.trans E')⟩
section
variable {K : PySem.W.Frag} {mg : Str → Option Value} {m : Mp} {H : Hp}
theorem srcj_tup {a : Addr} {vs : List V} {ts : List T} (hq : SqT K H a vs) (r : RTs K mg m H ts vs) : SrcJ K mg m H (.its ts) (Itt K a) where
  go := fun m' h' H' i x E R e => by
    have e' : ts[i]? = some x := Option.some.inj e
    obtain ⟨v, ev, rv⟩ := r.get e'
    refine ⟨⟨vs, v, SqT.tr E hq, ev⟩, fun y H2 ⟨e1, e2⟩ => ?_⟩
    subst e1
    have := e2 vs (SqT.tr E hq)
    rw [ev] at this; cases this
    exact ⟨Ext.refl _ _, R, rv.tr E⟩
  stop := fun m' h' H' i E R e => by
    have e' : ts[i]? = none := Option.some.inj e
    refine ⟨vs, SqT.tr E hq, ?_⟩
    rw [← r.length]
    exact List.getElem?_eq_none_iff.mp e'
theorem srcj_fl {a : Addr} {vs : List V} {ts : List T} (hq : SqF K H a vs) (r : RTs K mg m H ts vs) : SrcJ K mg m H (.its ts) (Itl K a) where
  go := fun m' h' H' i x E R e => by
    have e' : ts[i]? = some x := Option.some.inj e
    obtain ⟨v, ev, rv⟩ := r.get e'
    refine ⟨⟨vs, v, (SqF.tr E hq).sq, ev⟩, fun y H2 ⟨e1, e2⟩ => ?_⟩
    subst e1
    have := e2 vs (SqF.tr E hq).sq
    rw [ev] at this; cases this
    exact ⟨Ext.refl _ _, R, rv.tr E⟩
  stop := fun m' h' H' i E R e => by
    have e' : ts[i]? = none := Option.some.inj e
    refine ⟨vs, (SqF.tr E hq).sq, ?_⟩
    rw [← r.length]
    exact List.getElem?_eq_none_iff.mp e'
theorem srcj_live {l : Nat} {a : Addr} (hl : m l = some a) : SrcJ K mg m H (.live l) (Itl K a) where
  go := fun m' h' H' i x E R e => by
    have e' : (match lstAt h' l with | some ts => some ts[i]? | none => none) = some (some x) := e
    split at e'
    · rename_i ts q
      have e2 : ts[i]? = some x := Option.some.inj e'
      obtain ⟨vs, g, r⟩ := R.lst (E.mono _ _ hl) q
      obtain ⟨v, ev, rv⟩ := r.get e2
      refine ⟨⟨vs, v, SqL.of g, ev⟩, fun y H2 ⟨e1, e2⟩ => ?_⟩
      subst e1
      have := e2 vs (SqL.of g)
      rw [ev] at this; cases this
      exact ⟨Ext.refl _ _, R, rv⟩
    · cases e'
  stop := fun m' h' H' i E R e => by
    have e' : (match lstAt h' l with | some ts => some ts[i]? | none => none) = some none := e
    split at e'
    · rename_i ts q
      have e2 : ts[i]? = none := Option.some.inj e'
      obtain ⟨vs, g, r⟩ := R.lst (E.mono _ _ hl) q
      refine ⟨vs, SqL.of g, ?_⟩
      rw [← r.length]
      exact List.getElem?_eq_none_iff.mp e2
    · cases e'
theorem rangeT_get : ∀ (n : Nat) (lo : Int) (i : Nat), (rangeT lo n)[i]? = if i < n then some (.int (lo + i)) else none
  | 0, lo, i => by simp [rangeT]
  | n + 1, lo, 0 => by simp [rangeT]
  | n + 1, lo, i + 1 => by
    show (rangeT (lo + 1) n)[i]? = _
    rw [rangeT_get n (lo + 1) i]
    by_cases h : i < n
    · rw [if_pos h, if_pos (by omega)]
      congr 2
      push_cast
      omega
    · rw [if_neg h, if_neg (by omega)]
theorem srcj_range (lo : Int) (n : Nat) : SrcJ K mg m H (.its (rangeT lo n)) (Itr lo n) where
  go := fun m' h' H' i x E R e => by
    have e' : (rangeT lo n)[i]? = some x := Option.some.inj e
    rw [rangeT_get] at e'
    split at e'
    · rename_i hi
      cases e'
      refine ⟨hi, fun y H2 ⟨e1, e2⟩ => ?_⟩
      subst e1; subst e2
      exact ⟨Ext.refl _ _, R, .int _⟩
    · cases e'
  stop := fun m' h' H' i E R e => by
    have e' : (rangeT lo n)[i]? = none := Option.some.inj e
    rw [rangeT_get] at e'
    split at e'
    · cases e'
    · rename_i hi
      exact Nat.le_of_not_lt hi
theorem srcj_str {z : Str} (hz : PyData.strOk z = true) : SrcJ K mg m H (.its (z.cps.toList.map fun c => .str ⟨#[c]⟩)) (Its z) where
  go := fun m' h' H' i x E R e => by
    have e' : (z.cps.toList.map fun c => T.str ⟨#[c]⟩)[i]? = some x := Option.some.inj e
    rw [List.getElem?_map] at e'
    cases q : z.cps.toList[i]? with
    | none => rw [q] at e'; cases e'
    | some c =>
      rw [q] at e'
      have e2 : T.str ⟨#[c]⟩ = x := Option.some.inj e'
      subst e2
      have hi : i < z.cps.size := by
        have := (List.getElem?_eq_some_iff.mp q).1
        simpa using this
      refine ⟨hi, fun y H2 ⟨e1, c', e3, e4⟩ => ?_⟩
      subst e1; subst e4
      have e5 : z.cps[i]? = some c := by rw [← Array.getElem?_toList]; exact q
      rw [e5] at e3; cases e3
      refine ⟨Ext.refl _ _, R, .str ?_⟩
      unfold PyData.strOk at *
      rw [← Array.all_toList, List.all_eq_true] at hz
      have := hz c (List.mem_of_getElem? q)
      simpa using this
  stop := fun m' h' H' i E R e => by
    have e' : (z.cps.toList.map fun c => T.str ⟨#[c]⟩)[i]? = none := Option.some.inj e
    have := List.getElem?_eq_none_iff.mp e'
    show z.cps.size ≤ i
    simpa using this
end
abbrev DI (X : Cx) (P : Pq) (W : WX) (tg iter : Expr) (si : SI) : Prop := PI X tg iter (tG X.K X.mg (SrcJ X.K X.mg) P W si)
section
variable {X : Cx} {P : Pq} {W : WX} {a b c tg iter : Expr} {sa sb sc : SE} {pos : Pos} {es : List Expr} {ar : SA} {si : SI} {ta tb : ST} {rest : List Expr}
theorem PI.imp {tg iter : Expr} {t t' : TI} (h : PI X tg iter t) (k : ∀ σ H R, t' σ H R → t σ H R) : PI X tg iter t' := ⟨fun pins s σ H R I hw => h.run pins s σ H R I (k _ _ _ hw)⟩
theorem iList_and {tl : TE} (hl : PE X iter tl) : PI X tg iter (fun σ H R => tl σ H fun x H1 => (∃ a, x = .ref a ∧ (∃ xs, SqL X.K H1 a xs) ∧ R (Itl X.K a) H1) ∨ (∃ a, x = .ref a ∧ (∃ xs, SqT X.K H1 a xs) ∧ R (Itt X.K a) H1) ∨ ∃ z, x = .str z ∧ R (Its z) H1) := by
  refine ⟨fun pins s σ H R I h => ?_⟩
  refine thn (hl.run pins s σ H _ I h) fun v s1 ⟨x, H1, I1, r1, q1⟩ => ?_
  rcases q1 with ⟨a, e, ⟨xs, hq⟩, q⟩ | ⟨a, e, ⟨xs, hq⟩, q⟩ | ⟨z, e, q⟩
  · subst e
    cases r1
    obtain ⟨its, rv, p, hz⟩ := I1.list hq
    refine wpAny_pyIter_list p.isList ?_
    refine ⟨s1.heap.objs.size, [s1.heap.objs.size], _, _, H1, rfl, I1.kept (t' := s1.toks) fun b o e => Heap.get?_push_of_some _ e, turn_list a _, ⟨_, Heap.get?_push_size _ rfl, rfl, rfl⟩, fun b hb => ?_, q⟩
    have e : b = s1.heap.objs.size := by simpa using hb
    subst e
    exact I1.fpOk (Nat.le_refl _) (I1.hok.fresh (Nat.le_refl _))
  · subst e
    cases r1
    obtain ⟨its, rv, p, hz⟩ := I1.tuple hq
    refine wpAny_pyIter_tuple (show s1.heap.IsTuple a its.toArray from p) ?_
    refine ⟨s1.heap.objs.size, [s1.heap.objs.size], _, _, H1, rfl, I1.kept (t' := s1.toks) fun b o e => Heap.get?_push_of_some _ e, turn_tuple a _, ⟨_, Heap.get?_push_size _ rfl, rfl, rfl⟩, fun b hb => ?_, q⟩
    have e : b = s1.heap.objs.size := by simpa using hb
    subst e
    exact I1.fpOk (Nat.le_refl _) (I1.hok.fresh (Nat.le_refl _))
  · subst e
    obtain ⟨t, rfl⟩ := r1
    cases ha : z.cps.all (· < 128)
    · exact wpAny_pyIter_wide ha (pi_one (tk := s1.toks) I1 _ (turn_str _ z t "str_iterator" (.inr rfl)) ⟨_, Heap.get?_push_size _ rfl, rfl, rfl⟩ q)
    · exact wpAny_pyIter_ascii ha (pi_one (tk := s1.toks) I1 _ (turn_str _ z t "str_ascii_iterator" (.inl rfl)) ⟨_, Heap.get?_push_size _ rfl, rfl, rfl⟩ q)
theorem di_e (ha : DE X P W iter sa) : DI X P W tg iter (siE sa) := PI.imp (iList_and ha) fun σV H R ⟨m, h, σ, A, o⟩ => by
  refine A.first (rel1 := RT X.K X.mg) o fun m1 h1 t x H1 E1 r A1 o1 => ?_
  cases r with
  | @tup a vs ts hq r => exact .inr (.inl ⟨a, rfl, ⟨vs, hq⟩, o1 _ m1 H1 (Ext.refl _ _) (srcj_tup hq r) A1.hr⟩)
  | @fl a vs ts hq r => exact .inl ⟨a, rfl, ⟨vs, hq.sq⟩, o1 _ m1 H1 (Ext.refl _ _) (srcj_fl hq r) A1.hr⟩
  | @str z hz => exact .inr (.inr ⟨z, rfl, o1 _ m1 H1 (Ext.refl _ _) (srcj_str hz) A1.hr⟩)
  | @ref l a e1 =>
    have o' : Out X.K X.mg (SrcJ X.K X.mg) W σV R m1 H1 (match lstAt h1 l with | some _ => .ok (.live l) h1 | none => .stk) := o1
    split at o'
    · rename_i ts q1
      obtain ⟨vs, g1, r1⟩ := A1.hr.lst e1 q1
      exact .inl ⟨a, rfl, ⟨vs, SqL.of g1⟩, o' _ m1 H1 (Ext.refl _ _) (srcj_live e1) A1.hr⟩
    · exact False.elim o'
  | _ => exact False.elim o1
theorem di_range1 {p : Pos} (hg : Gl X "range") (hm : X.mg "range" = none) (ha : DA X P W [a] ar) (hs : starEach [a] X.env = [(false, eval a X.env)] := by rfl) : DI X P W tg (.Call (.Name "range" p) [a] [] pos) (siRange1 ar) :=
  PI.imp (pi_range1 hg hm ha hs) fun σV H R ⟨m, h, σ, A, o⟩ => by
    refine A.first (rel1 := RTs X.K X.mg) o fun m1 h1 ts x H1 E1 r A1 o1 => ?_
    unfold rngOf at o1
    split at o1
    · obtain ⟨v, rfl, r1⟩ := r.one
      cases r1 with
      | int _ =>
        rename_i j
        split at o1
        · rename_i hj
          exact ⟨j, rfl, hj.1, hj.2, o1 _ m1 H1 (Ext.refl _ _) (srcj_range 0 j.toNat) A1.hr⟩
        · exact False.elim o1
    · exact False.elim o1
def Only3 (is : List Nat) (σV σV' : L2.St) : Prop := σV'.length = σV.length ∧ ∀ j, j ∉ is → σV'[j]? = σV[j]?
def tTg (K : PySem.W.Frag) (mg : Str → Option Value) (P : Pq) (is : List Nat) (g : SG) : TG := fun v σV H Q => ∃ m h σ t, At K mg P m H σV σ h ∧ RT K mg m H t v ∧
  (match g t σ with | some σ' => ∀ σV', SR K mg m H σ' σV' → Only3 is σV σV' → Q σV' H | none => False)
def tTgs (K : PySem.W.Frag) (mg : Str → Option Value) (P : Pq) (is : List Nat) (g : SGs) : TGs := fun vs σV H Q => ∃ m h σ ts, At K mg P m H σV σ h ∧ RTs K mg m H ts vs ∧
  (match g ts σ with | some σ' => ∀ σV', SR K mg m H σ' σV' → Only3 is σV σV' → Q σV' H | none => False)
abbrev DG (X : Cx) (P : Pq) (tg : Expr) (is : List Nat) (g : SG) : Prop := PG X tg (tTg X.K X.mg P is g)
abbrev DGs (X : Cx) (P : Pq) (ts : List Expr) (is : List Nat) (g : SGs) : Prop := PGs X ts (tTgs X.K X.mg P is g)
theorem PG.imp {tg : Expr} {t t' : TG} (h : PG X tg t) (k : ∀ v σ H Q, t' v σ H Q → t v σ H Q) : PG X tg t' := ⟨fun pins s σ H v u Q I r hw => h.run pins s σ H v u Q I r (k _ _ _ _ hw)⟩
theorem PGs.imp {tg : List Expr} {t t' : TGs} (h : PGs X tg t) (k : ∀ v σ H Q, t' v σ H Q → t v σ H Q) : PGs X tg t' := ⟨fun pins s σ H v u Q I r hw => h.run pins s σ H v u Q I r (k _ _ _ _ hw)⟩
theorem SR.set {m : Mp} {H : Hp} {σ : St3} {σV : L2.St} (r : SR X.K X.mg m H σ σV) {t : T} {v : V} (q : RT X.K X.mg m H t v) (i : Nat) : SR X.K X.mg m H (σ.set i (some t)) (σV.set i (some v)) := by
  refine ⟨by rw [List.length_set, List.length_set]; exact r.1, fun j u e => ?_⟩
  by_cases hj : i = j
  · subst hj
    by_cases hi : i < σ.length
    · rw [List.getElem?_set_self hi] at e
      cases e
      exact ⟨v, by rw [List.getElem?_set_self (by rw [← r.1]; exact hi)], q⟩
    · rw [List.getElem?_eq_none (by rw [List.length_set]; omega)] at e
      cases e
  · rw [List.getElem?_set_ne hj] at e
    obtain ⟨w, e2, q2⟩ := r.2 j u e
    exact ⟨w, by rw [List.getElem?_set_ne hj]; exact e2, q2⟩
theorem dg_name {i : Nat} {x : Str} (hN : X.N.Nodup) (hi : X.N[i]? = some x) (hx : Loc X.env.scope x) (hf : X.fn x = true ∨ X.env.scope.names.lookup x = some .local := by first | exact .inl rfl | exact .inr rfl | assumption) : DG X P (.Name x pos) [i] (sgName i) :=
  PG.imp (pg_name hN hi hx hf) fun v σV H Q ⟨m, h, σ, t, A, r, q⟩ => by
    refine q (σV.set i (some v)) (A.sr.set r i) ⟨List.length_set, fun j hj => ?_⟩
    rw [List.getElem?_set_ne (fun e => hj (by simp [e]))]
theorem dgs_nil : DGs X P [] [] sgsNil := PGs.imp pgs_nil fun vs σV H Q ⟨m, h, σ, ts, A, r, q⟩ => by
  cases r with
  | nil => exact ⟨rfl, q σV A.sr ⟨rfl, fun _ _ => rfl⟩⟩
  | cons _ _ => exact False.elim q
theorem dgs_cons {e : Expr} {is js : List Nat} {g : SG} {gs : SGs} (h1 : DG X P e is g) (h2 : DGs X P es js gs) (hs : (assignEach (e :: es) X.env).map (·.2) = assign e X.env :: (assignEach es X.env).map (·.2) := by rfl) : DGs X P (e :: es) (is ++ js) (sgsCons g gs) :=
  PGs.imp (pgs_cons h1 h2 hs) fun vs σV H Q ⟨m, h, σ, ts, A, r, q⟩ => by
    cases r with
    | nil => exact False.elim q
    | @cons t ts v vs r rr =>
      refine ⟨v, vs, rfl, m, h, σ, t, A, r, ?_⟩
      have q' : (match (match g t σ with | some σ1 => gs ts σ1 | none => none) with | some σ' => ∀ σV', SR X.K X.mg m H σ' σV' → Only3 (is ++ js) σV σV' → Q σV' H | none => False) := q
      cases e1 : g t σ with
      | none => rw [e1] at q'; exact q'
      | some σ1 =>
        rw [e1] at q'
        intro σV1 s1 o1
        refine ⟨m, h, σ1, ts, ⟨s1, A.hr, A.pr⟩, rr, ?_⟩
        have q2 : (match gs ts σ1 with | some σ' => ∀ σV', SR X.K X.mg m H σ' σV' → Only3 (is ++ js) σV σV' → Q σV' H | none => False) := q'
        cases e2 : gs ts σ1 with
        | none => rw [e2] at q2; exact q2
        | some σ2 =>
          rw [e2] at q2
          intro σV2 s2 o2
          refine q2 σV2 s2 ⟨o2.1.trans o1.1, fun j hj => ?_⟩
          have hj' : j ∉ is ∧ j ∉ js := by simpa [not_or] using hj
          exact (o2.2 j hj'.2).trans (o1.2 j hj'.1)
theorem dg_tup {k n : Nat} {is : List Nat} {gs : SGs} (hc : X.calm = true) (h : DGs X P es is gs) (hn : (assignEach es X.env).length = n := by rfl) (hst : (assignEach es X.env).findIdx? (·.1) = none := by rfl) : DG X P (.Tuple es k pos) is (sgTup n gs) :=
  PG.imp (pg_tup hc h hn hst) fun v σV H Q ⟨m, h, σ, t, A, r, q⟩ => by
    cases r with
    | @tup a vs ts hq r =>
      have q' : (match (if ts.length = n then gs ts σ else none) with | some σ' => ∀ σV', SR X.K X.mg m H σ' σV' → Only3 is σV σV' → Q σV' H | none => False) := q
      split at q'
      · rename_i σ' e
        split at e
        · rename_i hl
          refine ⟨a, vs, rfl, hq, by rw [← r.length]; exact hl, m, h, σ, ts, A, r, ?_⟩
          rw [e]; exact q'
        · cases e
      · exact False.elim q'
    | _ => exact False.elim q
def relL (K : PySem.W.Frag) (mg : Str → Option Value) (H0 : Hp) (m : Mp) (H : Hp) (ts : List T) (v : V) : Prop :=
  ∃ D vs, v = .ref D ∧ H0 D = none ∧ H D = some (.lst vs) ∧ RTs K mg m H ts vs ∧ ∀ l, m l ≠ some D
def tL (K : PySem.W.Frag) (mg : Str → Option Value) (P : Pq) (W : WX) (sa : SA) : TE := fun σV H Q => tG K mg (relL K mg H) P W sa σV H Q
abbrev DL (X : Cx) (P : Pq) (W : WX) (e : Expr) (sa : SA) : Prop := PE X e (tL X.K X.mg P W sa)
abbrev DTs (X : Cx) (P : Pq) (W : WX) (es : List Expr) (se : ST) : Prop := PTs X es (tTst X.K X.mg P W se)
theorem PTs.imp {es : List Expr} {t t' : TT} (h : PTs X es t) (k : ∀ σ H Q, t' σ H Q → t σ H Q) : PTs X es t' := ⟨fun pins s σ H Q I hw => h.run pins s σ H Q I (k _ _ _ hw)⟩
theorem dts_nil : DTs X P W [] stYes := PTs.imp pts_nil fun σV H Q ⟨m, h, σ, A, o⟩ => o true m H (Ext.refl _ _) rfl A.hr
theorem dts_one (h : DT X P W c ta) : DTs X P W [c] ta := pts_one h
def WF : WX := fun _ _ _ _ => False
theorem SR.wipe {m : Mp} {H : Hp} {σ : St3} {σV : L2.St} (r : SR X.K X.mg m H σ σV) : ∀ vs : List Nat, SR X.K X.mg m H (wipeT σ vs) (L2.wipe σV vs)
  | [] => r
  | v :: vs => by
    have ih := SR.wipe r vs
    refine ⟨by unfold wipeT L2.wipe; rw [List.length_set, List.length_set]; exact ih.1, fun j u e => ?_⟩
    unfold wipeT at e
    unfold L2.wipe
    by_cases hj : v = j
    · subst hj
      by_cases hi : v < (wipeT σ vs).length
      · rw [List.getElem?_set_self hi] at e; cases e
      · rw [List.getElem?_eq_none (by rw [List.length_set]; omega)] at e; cases e
    · rw [List.getElem?_set_ne hj] at e ⊢
      exact ih.2 j u e
theorem wipe_get (σV : L2.St) : ∀ (vs : List Nat) (j : Nat), (L2.wipe σV vs)[j]? = if j ∈ vs ∧ j < σV.length then some none else σV[j]?
  | [], j => by simp [L2.wipe]
  | v :: vs, j => by
    unfold L2.wipe
    by_cases hj : v = j
    · subst hj
      by_cases hi : v < σV.length
      · rw [List.getElem?_set_self (by rw [wipe_length]; exact hi), if_pos ⟨List.mem_cons_self, hi⟩]
      · rw [List.getElem?_eq_none (by rw [List.length_set, wipe_length]; omega), if_neg (fun z => hi z.2), List.getElem?_eq_none (by omega)]
    · rw [List.getElem?_set_ne hj, wipe_get σV vs j]
      have : (j ∈ v :: vs ∧ j < σV.length) ↔ (j ∈ vs ∧ j < σV.length) := by
        simp only [List.mem_cons]
        constructor
        · rintro ⟨z | z, w⟩
          · exact absurd z.symm hj
          · exact ⟨z, w⟩
        · rintro ⟨z, w⟩; exact ⟨.inr z, w⟩
      by_cases hh : j ∈ vs ∧ j < σV.length
      · rw [if_pos hh, if_pos (this.mpr hh)]
      · rw [if_neg hh, if_neg (fun z => hh (this.mp z))]
theorem wipe_only {is vs : List Nat} {σV σV' : L2.St} (hs : ∀ i ∈ is, i ∈ vs) (o : Only3 is (L2.wipe σV vs) σV') : L2.wipe σV' vs = L2.wipe σV vs := by
  apply List.ext_getElem?
  intro j
  rw [wipe_get, wipe_get]
  have hl : σV'.length = σV.length := by rw [o.1, wipe_length]
  by_cases hj : j ∈ vs ∧ j < σV.length
  · rw [if_pos (by rw [hl]; exact hj), if_pos hj]
  · rw [if_neg (by rw [hl]; exact hj), if_neg hj]
    by_cases hj2 : j ∈ vs
    · have : ¬ j < σV.length := fun z => hj ⟨hj2, z⟩
      rw [List.getElem?_eq_none (by omega), List.getElem?_eq_none (by omega)]
    · rw [o.2 j (fun z => hj2 (hs j z)), wipe_get, if_neg (fun z => hj2 z.1)]
theorem lc_read {is vs : List Nat} {g : SG} {tt : ST} {te : SE} (his : ∀ i ∈ is, i ∈ vs) {σV : L2.St} {H : Hp} {Q : VK} (h : tL X.K X.mg P W (saLc si g tt te vs) σV H Q) :
    tLc (tG X.K X.mg (SrcJ X.K X.mg) P W si) (tTg X.K X.mg P is g) (tTst X.K X.mg P WF tt) (tI X.K X.mg P WF te) vs σV H Q := by
  obtain ⟨m, h, σ, A, o⟩ := h
  refine A.first (rel1 := SrcJ X.K X.mg) o fun m1 h1 s J H1 E1 S A1 o1 D hD => ?_
  have hD0 : H D = none := by
    cases q : H D with
    | none => rfl
    | some u =>
      obtain ⟨w, e⟩ := E1.live D u q
      rw [hD] at e; cases e
  refine ⟨fun i k H' => ∃ m' h' acc accV, Ext m1 H1 m' H' ∧ HR X.K X.mg m' h' H' ∧ H' D = some (.lst accV) ∧ RTs X.K X.mg m' H' acc accV ∧ (∀ l, m' l ≠ some D) ∧
    Out X.K X.mg (relL X.K X.mg H) W σV Q m1 H1 (lcRun s g tt te (wipeT σ vs) k i acc h'), ⟨s.len h1, m1, h1, [], [], Ext.garbage A1.hr hD, A1.hr.garbage hD, upd_same, .nil, fun l e => ?_, o1⟩, ?_⟩
  · obtain ⟨u, e2, _⟩ := A1.hr.tracked e
    rw [hD] at e2; cases e2
  rintro i k H' ⟨m', h', acc, accV, E', R', hDl, racc, nD, o'⟩
  unfold lcRun at o'
  cases es : s.at h' i with
  | none => rw [es] at o'; exact False.elim o'
  | some ox =>
    cases ox with
    | none =>
      rw [es] at o'
      exact .inl ⟨S.stop m' h' H' i E'.tr R' es, o' _ m' H' E' ⟨D, accV, rfl, hD0, hDl, racc, nD⟩ R'⟩
    | some x =>
      rw [es] at o'
      cases k with
      | zero => exact False.elim o'
      | succ k =>
        obtain ⟨jg, jy⟩ := S.go m' h' H' i x E'.tr R' es
        refine .inr ⟨jg, _, fun H'' q => ⟨k, Nat.lt_succ_self k, q⟩, fun y H2 hy => ?_⟩
        obtain ⟨E2, R2, rx⟩ := jy y H2 hy
        have A2 : At X.K X.mg P m' H2 (L2.wipe σV vs) (wipeT σ vs) h' := ⟨((A1.sr.ext (E'.trans E2)).wipe vs), R2, P.st (E'.trans E2) A1.pr⟩
        refine ⟨m', h', wipeT σ vs, x, A2, rx, ?_⟩
        have keepD : ∀ {m3 H3}, Ext m' H2 m3 H3 → H3 D = some (.lst accV) ∧ ∀ l, m3 l ≠ some D := fun {m3 H3} E3 => by
          have d2 : H2 D = some (.lst accV) := E2.keep D _ hDl nD
          refine ⟨E3.keep D _ d2 nD, fun l e => ?_⟩
          rcases E3.fresh l D e with z | z
          · exact nD l z
          · rw [d2] at z; cases z
        dsimp only at o'
        cases eg : g x (wipeT σ vs) with
        | none => rw [eg] at o'; exact False.elim o'
        | some σ1 =>
          rw [eg] at o'
          intro σV1 s1 only
          refine ⟨wipe_only his only, m', h', σ1, ⟨s1, R2, A2.pr⟩, ?_⟩
          dsimp only at o'
          cases et : tt σ1 h' with
          | exc c fs h3 => rw [et] at o'; exact False.elim o'
          | stk => rw [et] at o'; exact False.elim o'
          | ok b h3 =>
            rw [et] at o'
            dsimp only at o'
            intro b' m3 H3 E3 eb R3
            subst eb
            cases b with
            | false =>
              rw [if_neg Bool.false_ne_true] at o' ⊢
              obtain ⟨d3, n3⟩ := keepD E3
              exact ⟨m3, h3, acc, accV, (E'.trans E2).trans E3, R3, d3, (racc.ext E2).ext E3, n3, o'⟩
            | true =>
              rw [if_pos rfl] at o' ⊢
              refine ⟨m3, h3, σ1, ⟨s1.ext E3, R3, P.st E3 A2.pr⟩, ?_⟩
              cases ee : te σ1 h3 with
              | exc c fs h4 => rw [ee] at o'; exact False.elim o'
              | stk => rw [ee] at o'; exact False.elim o'
              | ok t h4 =>
                rw [ee] at o'
                dsimp only at o'
                intro y' m4 H4 E4 rt R4
                obtain ⟨d4, n4⟩ := keepD (E3.trans E4)
                split at o'
                · rename_i hz
                  refine ⟨accV, d4, by rw [← racc.length]; exact hz, m4, h4, acc ++ [t], accV ++ [y'], ?_, R4.out d4 n4, upd_same, ?_, n4, o'⟩
                  · exact Ext.out (((E'.trans E2).trans E3).trans E4) hD
                  · have r4 := (((racc.ext E2).ext E3).ext E4).append (.cons rt .nil)
                    exact r4.tr (Tr.out d4)
                · exact False.elim o'
theorem dl_lc {elt : Expr} {ifs : List Expr} {scope : Scope} {own : List (Str × Nat)} {is : List Nat} {g : SG} {tt : ST} {te : SE} (hc : X.calm = true) (hN : X.N.Nodup) (hi : DI X P W tg iter si) (ok : BlkOk X.N X.env.scope scope own)
    (hg : ∀ (s : Shared) (H : Hp) (C : Addr) (cl : List (Str × Addr)) (fp : List Addr), DG (X.blk s H scope (compEnvC scope cl C X.env) fp) P tg is g)
    (ht : ∀ (s : Shared) (H : Hp) (C : Addr) (cl : List (Str × Addr)) (fp : List Addr), DTs (X.blk s H scope (compEnvC scope cl C X.env) fp) P WF ifs tt)
    (he : ∀ (s : Shared) (H : Hp) (C : Addr) (cl : List (Str × Addr)) (fp : List Addr), DE (X.blk s H scope (compEnvC scope cl C X.env) fp) P WF elt te)
    (his : ∀ i ∈ is, i ∈ own.map (·.2) := by decide) (hs : ∀ x, foldedSetIterable iter X.env x = pure x := by intro _; rfl) :
    DL X P W (.ListComp elt [⟨tg, iter, ifs, 0⟩] scope pos) (saLc si g tt te (own.map (·.2))) := by
  exact PE.imp (pe_lc (own := own) (wi := tG X.K X.mg (SrcJ X.K X.mg) P W si) (g := tTg X.K X.mg P is g) (tt := tTst X.K X.mg P WF tt) (te := tI X.K X.mg P WF te) hc hN hi ok hg ht he hs) fun σV H Q h => lc_read his h
theorem lc_keep {sa : SA} {σV : L2.St} {H : Hp} {Q : VK} (h : tI X.K X.mg P W (sLc sa) σV H Q) : tL X.K X.mg P W sa σV H Q := by
  obtain ⟨m, h, σ, A, o⟩ := h
  refine ⟨m, h, σ, A, ?_⟩
  unfold sLc at o
  cases e : sa σ h with
  | exc c fs h1 => rw [e] at o; exact o
  | stk => rw [e] at o; exact o
  | ok ts h1 =>
    rw [e] at o
    rintro v m1 H1 E1 ⟨D, vs, rfl, hD, d1, r1, n1⟩ R1
    have o' : Out X.K X.mg (RT X.K X.mg) W σV Q m H (alloc (.lst ts) h1) := o
    have hne : ∀ l a, m1 l = some a → l ≠ h1.length := fun l a e => Nat.ne_of_lt (R1.dom l a e)
    have E2 : Ext m H (m1.put h1.length D) H1 := ⟨fun l a e => by rw [Mp.put_ne (hne l a (E1.mono l a e))]; exact E1.mono l a e, fun l a e => by
        by_cases hl : l = h1.length
        · subst hl; rw [Mp.put_same] at e; cases e; exact .inr hD
        · rw [Mp.put_ne hl] at e; exact E1.fresh l a e, E1.live, E1.keep, E1.tups, E1.frzs, E1.xds⟩
    have T2 : Tr m1 H1 (m1.put h1.length D) H1 := ⟨fun l a e => by rw [Mp.put_ne (hne l a e)]; exact e, fun _ _ q => q, fun _ _ _ q => q⟩
    refine o' _ (m1.put h1.length D) H1 E2 (.ref Mp.put_same) ⟨fun l a e => ?_, fun l l' a e e' => ?_, fun l u q => ?_⟩
    · rw [List.length_append, List.length_singleton]
      by_cases hl : l = h1.length
      · omega
      · rw [Mp.put_ne hl] at e; have := R1.dom l a e; omega
    · by_cases hl : l = h1.length
      · by_cases hl' : l' = h1.length
        · rw [hl, hl']
        · rw [hl, Mp.put_same] at e; cases e
          rw [Mp.put_ne hl'] at e'
          exact absurd e' (n1 l')
      · by_cases hl' : l' = h1.length
        · rw [hl', Mp.put_same] at e'; cases e'
          rw [Mp.put_ne hl] at e
          exact absurd e (n1 l)
        · rw [Mp.put_ne hl] at e; rw [Mp.put_ne hl'] at e'
          exact R1.inj l l' a e e'
    · by_cases hl : l < h1.length
      · rw [List.getElem?_append_left hl] at q
        obtain ⟨a, e1, r⟩ := R1.ob l u q
        exact ⟨a, T2.mono l a e1, r.moveT T2 rfl⟩
      · have : l = h1.length := by
          have := (List.getElem?_eq_some_iff.mp q).1
          rw [List.length_append, List.length_singleton] at this
          omega
        subst this
        simp at q
        subst q
        exact ⟨D, Mp.put_same, vs, d1, r1.tr T2⟩
theorem de_lc {e : Expr} {sa : SA} (h : DL X P W e sa) : DE X P W e (sLc sa) := PE.imp h fun σV H Q h => lc_keep h
end
end W3
end

section
namespace W3
open PySem PySem.Spec PyProof.Rows
open L2
section
variable (K : PySem.W.Frag) (mg : Str → Option Value)
def OutS (W : WX) (D : Ends) (m : Mp) (H : Hp) : Flo → Prop
  | .nx σ' h' => ∀ σV' m' H', Ext m H m' H' → SR K mg m' H' σ' σV' → HR K mg m' h' H' → D.nx σV' H'
  | .rt t h' => ∀ v m' H', Ext m H m' H' → RT K mg m' H' t v → HR K mg m' h' H' → D.rt v H'
  | .bk σ' h' => ∀ σV' m' H', Ext m H m' H' → SR K mg m' H' σ' σV' → HR K mg m' h' H' → D.bk σV' H'
  | .ct σ' h' => ∀ σV' m' H', Ext m H m' H' → SR K mg m' H' σ' σV' → HR K mg m' h' H' → D.ct σV' H'
  | .exc c fs σ' h' => ∀ cls d σV' m' H', Ext m H m' H' → SR K mg m' H' σ' σV' → XR K mg m' H' c fs cls d → HR K mg m' h' H' → W cls d σV' H'
  | .stk => False
def tS (P : Pq) (W : WX) (ss : SS) : TS := fun D σV H => ∃ m h σ, At K mg P m H σV σ h ∧ OutS K mg W D m H (ss σ h)
end
abbrev DS (X : Cx) (P : Pq) (W : WX) (st : Stmt) (ss : SS) : Prop := PS X st (tS X.K X.mg P W ss)
abbrev DSs (X : Cx) (P : Pq) (W : WX) (st : List Stmt) (ss : SS) : Prop := PSs X st (tS X.K X.mg P W ss)
section
variable {K : PySem.W.Frag} {mg : Str → Option Value} {m m' : Mp} {H H' : Hp} {h : Hh} {P : Pq} {W : WX} {σV : L2.St} {σ : St3} {D : Ends}
theorem OutS.ext {r : Flo} (E : Ext m H m' H') (o : OutS K mg W D m H r) : OutS K mg W D m' H' r := by
  cases r with
  | nx σ h => exact fun v m2 H2 E2 => o v m2 H2 (E.trans E2)
  | rt σ h => exact fun v m2 H2 E2 => o v m2 H2 (E.trans E2)
  | bk σ h => exact fun v m2 H2 E2 => o v m2 H2 (E.trans E2)
  | ct σ h => exact fun v m2 H2 E2 => o v m2 H2 (E.trans E2)
  | exc c fs σ h => exact fun c d v m2 H2 E2 => o c d v m2 H2 (E.trans E2)
  | stk => exact o
theorem At.flo {α β : Type} {rel1 : Mp → Hp → α → β → Prop} {se : St3 → Hh → Res α} {k : α → Hh → Flo} {Q1 : β → Hp → Prop} (A : At K mg P m H σV σ h) (o : OutS K mg W D m H ((se σ h).flo σ k))
    (q : ∀ m1 h1 a b H1, Ext m H m1 H1 → rel1 m1 H1 a b → At K mg P m1 H1 σV σ h1 → OutS K mg W D m1 H1 (k a h1) → Q1 b H1) : tG K mg rel1 P W se σV H Q1 := by
  refine ⟨m, h, σ, A, ?_⟩
  cases e : se σ h with
  | ok a h1 =>
    rw [e] at o
    exact fun b m1 H1 E1 r1 R1 => q m1 h1 a b H1 E1 r1 (A.ext E1 R1) (OutS.ext E1 o)
  | exc c fs h1 =>
    rw [e] at o
    exact fun cls d m1 H1 E1 x R1 => o cls d σV m1 H1 E1 (A.sr.ext E1) x R1
  | stk => rw [e] at o; exact o
end
section
variable {X : Cx} {P : Pq} {W : WX} {a b c tg iter : Expr} {sa sb sc : SE} {pos pos' : Pos} {es : List Expr} {ar : SA} {si : SI} {ta tb : ST} {st : Stmt} {rest body : List Stmt} {x1 x2 : SS}
theorem ds_nil : DSs X P W [] ssNil := PSs.imp pss_nil fun D σV H ⟨m, h, σ, A, o⟩ => o σV m H (Ext.refl _ _) A.sr A.hr
theorem ds_cons (h1 : DS X P W st x1) (h2 : DSs X P W rest x2) : DSs X P W (st :: rest) (ssCons x1 x2) := PSs.imp (pss_cons h1 h2) fun D σV H ⟨m, h, σ, A, o⟩ => by
  refine ⟨m, h, σ, A, ?_⟩
  have o' : OutS X.K X.mg W D m H ((x1 σ h).seq x2) := o
  cases e : x1 σ h with
  | nx σ1 h1 =>
    rw [e] at o'
    exact fun σV1 m1 H1 E1 s1 R1 => ⟨m1, h1, σ1, ⟨s1, R1, P.st E1 A.pr⟩, OutS.ext E1 o'⟩
  | rt t h1 => rw [e] at o'; exact o'
  | bk σ1 h1 => rw [e] at o'; exact o'
  | ct σ1 h1 => rw [e] at o'; exact o'
  | exc c fs σ1 h1 => rw [e] at o'; exact o'
  | stk => rw [e] at o'; exact o'
theorem ds_if {p q : List Stmt} (hc : DT X P W c ta) (ha : DSs X P W p x1) (hb : DSs X P W q x2) : DS X P W (.If c p q pos) (ssIf ta x1 x2) := PS.imp (ps_if hc ha hb) fun D σV H ⟨m, h, σ, A, o⟩ => by
  refine A.flo (rel1 := fun _ _ a b => a = b) o fun m1 h1 t x H1 E1 r A1 o1 => ?_
  subst r
  cases t with
  | true => exact ⟨m1, h1, σ, A1, o1⟩
  | false => exact ⟨m1, h1, σ, A1, o1⟩
theorem ds_ret (ha : DE X P W a sa) : DS X P W (.Return (some a) pos) (ssRet sa) := PS.imp (ps_ret ha) fun D σV H ⟨m, h, σ, A, o⟩ => by
  refine A.flo (rel1 := RT X.K X.mg) o fun m1 h1 t x H1 E1 r A1 o1 => ?_
  exact o1 x m1 H1 (Ext.refl _ _) r A1.hr
theorem ds_expr (ha : DE X P W a sa) (hs : swapsWith a none pos.line X.env = pure false := by rfl) : DS X P W (.Expr a pos) (ssExpr sa) := PS.imp (ps_expr ha hs) fun D σV H ⟨m, h, σ, A, o⟩ => by
  refine A.flo (rel1 := RT X.K X.mg) o fun m1 h1 t x H1 E1 r A1 o1 => ?_
  exact o1 σV m1 H1 (Ext.refl _ _) A1.sr A1.hr
theorem ds_set {i : Nat} {x : Str} (hN : X.N.Nodup) (hi : X.N[i]? = some x) (hx : Loc X.env.scope x) (ha : DE X P W a sa) (hs : swapsWith a (some (.Name x pos')) pos.line X.env = pure false := by rfl) (hf : X.fn x = true ∨ X.env.scope.names.lookup x = some .local := by first | exact .inl rfl | exact .inr rfl | assumption) :
    DS X P W (.Assign [.Name x pos'] a pos) (ssAsg sa (sgName i)) := PS.imp (ps_set hN hi hx ha hs hf) fun D σV H ⟨m, h, σ, A, o⟩ => by
  refine A.flo (rel1 := RT X.K X.mg) o fun m1 h1 t x H1 E1 r A1 o1 => ?_
  exact o1 _ m1 H1 (Ext.refl _ _) (A1.sr.set r i) A1.hr
theorem ds_setLc {i : Nat} {y : Str} {py : Pos} {elt : Expr} {ifs : List Expr} {scope : Scope} {own : List (Str × Nat)} {spos : Pos} {is : List Nat} {g : SG} {tt : ST} {te : SE} (hc : X.calm = true) (hN : X.N.Nodup) (hy : X.N[i]? = some y) (hyl : X.env.scope.names.lookup y = some .local)
    (hsw : swapsWith (.ListComp elt [⟨tg, iter, ifs, 0⟩] scope pos) (some (.Name y py)) spos.line X.env = pure true) (hi : DI X P W tg iter si) (ok : BlkOk X.N X.env.scope scope own)
    (hg : ∀ (s : Shared) (H : Hp) (C : Addr) (cl : List (Str × Addr)) (fp : List Addr), DG (X.blk s H scope (compEnvC scope cl C X.env) fp) P tg is g)
    (ht : ∀ (s : Shared) (H : Hp) (C : Addr) (cl : List (Str × Addr)) (fp : List Addr), DTs (X.blk s H scope (compEnvC scope cl C X.env) fp) P WF ifs tt)
    (he : ∀ (s : Shared) (H : Hp) (C : Addr) (cl : List (Str × Addr)) (fp : List Addr), DE (X.blk s H scope (compEnvC scope cl C X.env) fp) P WF elt te)
    (his : ∀ i ∈ is, i ∈ own.map (·.2) := by decide) (hs : ∀ x, foldedSetIterable iter X.env x = pure x := by intro _; rfl) :
    DS X P W (.Assign [.Name y py] (.ListComp elt [⟨tg, iter, ifs, 0⟩] scope pos) spos) (ssAsg (sLc (saLc si g tt te (own.map (·.2)))) (sgName i)) := by
  refine PS.imp (ps_setLc (own := own) (i := i) (wi := tG X.K X.mg (SrcJ X.K X.mg) P W si) (g := tTg X.K X.mg P is g) (tt := tTst X.K X.mg P WF tt) (te := tI X.K X.mg P WF te) hc hN hy hyl hsw hi ok hg ht he hs) fun D σV H h => ?_
  refine lc_read his (lc_keep ?_)
  obtain ⟨m, h, σ, A, o⟩ := h
  refine A.flo (rel1 := RT X.K X.mg) o fun m1 h1 t x H1 E1 r A1 o1 => ?_
  exact o1 _ m1 H1 (Ext.refl _ _) (A1.sr.set r i) A1.hr
theorem ds_fld {o v : Expr} {so sv : SE} {f : Str} {cs : List (Str × List Str)} (C : ClsF X.K X.mg cs) (ho : DE X P W o so) (hv : DE X P W v sv) (hs : swapsWith v (some (.Attribute o f pos')) pos.line X.env = pure false := by rfl) :
    DS X P W (.Assign [.Attribute o f pos'] v pos) (ssFldC cs so sv f) := PS.imp (ps_fld ho hv hs) fun D σV H ⟨m, h, σ, A, o⟩ => by
  refine A.flo (rel1 := RT X.K X.mg) o fun m1 h1 t1 y H1 E1 r1 A1 o1 => ?_
  refine A1.flo (rel1 := RT X.K X.mg) o1 fun m2 h2 t2 x H2 E2 r2 A2 o2 => ?_
  cases r2 with
  | @ref l a e1 =>
    have o' : OutS X.K X.mg W D m2 H2 (match insAt h2 l with
      | some (c, fs) => (match cs.lookup c with
        | some as => if as.contains f && decide (fs.length < 1000) then .nx σ (h2.set l (.ins c (putT f t1 fs))) else .stk
        | none => .stk)
      | none => .stk) := o2
    split at o'
    · rename_i c fs q1
      obtain ⟨Ca, dx, fv, g1, g2, rf⟩ := A2.hr.ins e1 q1
      split at o'
      · rename_i as q2
        split at o'
        · rename_i hc
          rw [Bool.and_eq_true, decide_eq_true_eq] at hc
          obtain ⟨k1, k2⟩ := C c as Ca (mem_of_lookup q2) g1
          refine ⟨a, Ca, dx, fv, rfl, g2, k1, k2 f (by simpa using hc.1), by rw [← rf.length]; exact hc.2, ?_⟩
          have Ew : Ext m2 H2 m2 (upd H2 a (.ins Ca dx (putF f y fv))) := Ext.write A2.hr e1
          refine o' σV m2 _ Ew (A2.sr.ext Ew) (A2.hr.write e1 ⟨Ca, dx, _, g1, upd_same, ?_⟩)
          exact (rf.put (r1.ext E2)).ext Ew
        · exact False.elim o'
      · exact False.elim o'
    · exact False.elim o'
  | _ => exact False.elim o2
end
end W3
end

section
namespace W3
open PySem PySem.Spec PyProof.Rows
open L2
section
variable {X : Cx} {P : Pq} {W : WX} {a b c tg iter : Expr} {sa sb sc : SE} {pos pos' : Pos} {es : List Expr} {ar : SA} {si : SI} {ta tb : ST} {st : Stmt} {rest body : List Stmt} {x1 x2 : SS}
theorem ds_for {is : List Nat} {g : SG} (hp : PassesOwn (model X.prog X.w) X.A X.env X.xe) (hc : X.calm = true) (hi : DI X P W tg iter si) (hg : DG X P tg is g) (hb : DSs X P W body x1)
    (hs : ∀ x, foldedSetIterable iter X.env x = pure x := by intro _; rfl) : DS X P W (.For tg iter body [] pos) (ssFor si g x1) := PS.imp (ps_for hp hc hi hg hb hs) fun D σV H ⟨m, h, σ, A, o⟩ => by
  refine A.flo (rel1 := SrcJ X.K X.mg) o fun m1 h1 s J H1 E1 S A1 o1 => ?_
  refine ⟨fun i k σV' H' => ∃ m' h' σ', Ext m1 H1 m' H' ∧ At X.K X.mg P m' H' σV' σ' h' ∧ OutS X.K X.mg W D m1 H1 (forRun s g x1 k i σ' h'), ⟨s.len h1, m1, h1, σ, Ext.refl _ _, A1, o1⟩, ?_⟩
  rintro i k σV' H' ⟨m', h', σ', E', A', o'⟩
  unfold forRun at o'
  cases es : s.at h' i with
  | none => rw [es] at o'; exact False.elim o'
  | some ox =>
    cases ox with
    | none =>
      rw [es] at o'
      exact .inl ⟨S.stop m' h' H' i E'.tr A'.hr es, o' σV' m' H' E' A'.sr A'.hr⟩
    | some x =>
      rw [es] at o'
      cases k with
      | zero => exact False.elim o'
      | succ k =>
        obtain ⟨jg, jy⟩ := S.go m' h' H' i x E'.tr A'.hr es
        refine .inr ⟨jg, _, fun σV2 H'' q => ⟨k, Nat.lt_succ_self k, q⟩, fun y H2 hy => ?_⟩
        obtain ⟨E2, R2, rx⟩ := jy y H2 hy
        have A2 : At X.K X.mg P m' H2 σV' σ' h' := A'.ext E2 R2
        refine ⟨m', h', σ', x, A2, rx, ?_⟩
        dsimp only at o'
        cases eg : g x σ' with
        | none => rw [eg] at o'; exact False.elim o'
        | some σ1 =>
          rw [eg] at o'
          intro σV1 s1 _
          refine ⟨m', h', σ1, ⟨s1, R2, A2.pr⟩, ?_⟩
          dsimp only at o'
          have up : ∀ {r : Flo}, OutS X.K X.mg W D m1 H1 r → OutS X.K X.mg W D m' H2 r := fun q => OutS.ext (E'.trans E2) q
          cases eb : x1 σ1 h' with
          | nx σ2 h2 =>
            rw [eb] at o'
            exact fun σV3 m3 H3 E3 s3 R3 => ⟨m3, h2, σ2, (E'.trans E2).trans E3, ⟨s3, R3, P.st E3 A2.pr⟩, o'⟩
          | ct σ2 h2 =>
            rw [eb] at o'
            exact fun σV3 m3 H3 E3 s3 R3 => ⟨m3, h2, σ2, (E'.trans E2).trans E3, ⟨s3, R3, P.st E3 A2.pr⟩, o'⟩
          | bk σ2 h2 => rw [eb] at o'; exact up o'
          | rt t h2 => rw [eb] at o'; exact up (r := .rt t h2) o'
          | exc c fs σ2 h2 => rw [eb] at o'; exact up (r := .exc c fs σ2 h2) o'
          | stk => rw [eb] at o'; exact o'
theorem ds_sub {o i v : Expr} {so si' sv : SE} (ho : DE X P W o so) (hi : DE X P W i si') (hv : DE X P W v sv) (hs : swapsWithSole [.Subscript o i pos'] v pos.line X.env = pure false := by rfl) (hw : swappedStores [.Subscript o i pos'] v X.env = pure none := by rfl)
    (h1 : (assignEach [.Subscript o i pos'] X.env).map (·.2) = [assign (.Subscript o i pos') X.env] := by rfl)
    (ha : ∀ v, assign (.Subscript o i pos') X.env v = (do
      let ov ← holding [v] (eval o X.env)
      let iv ← holding [v, ov] (eval i X.env)
      standAt pos'
      holding [v, ov, iv] (setItem ov iv v)
      release [v, ov, iv] []) := by intro _; rfl) : DS X P W (.Assign [.Subscript o i pos'] v pos) (ssSub so si' sv) := by
  refine PS.imp (ps_asg hv (pg_sub ho hi set_list ha) hs hw h1) fun D σV H ⟨m, h, σ, A, o⟩ => ?_
  refine A.flo (rel1 := RT X.K X.mg) o fun m1 h1 t1 y H1 E1 r1 A1 o1 => ?_
  refine A1.flo (rel1 := RT X.K X.mg) o1 fun m2 h2 t2 x H2 E2 r2 A2 o2 => ?_
  refine A2.flo (rel1 := RT X.K X.mg) o2 fun m3 h3 t3 k H3 E3 r3 A3 o3 => ?_
  have r2' := r2.ext E3
  cases r2' with
  | @ref l a e1 =>
    cases r3 with
    | int n =>
      have o' : OutS X.K X.mg W D m3 H3 (match lstAt h3 l with
        | some ts => (match L2.ixN ts.length n with | some j => .nx σ (h3.set l (.lst (ts.set j t1))) | none => .stk)
        | none => .stk) := o3
      split at o'
      · rename_i ts q1
        obtain ⟨vs, g1, rv⟩ := A3.hr.lst e1 q1
        split at o'
        · rename_i j q2
          rw [rv.length] at q2
          refine ⟨a, vs, n, j, rfl, rfl, g1, q2, ?_⟩
          have Ew : Ext m3 H3 m3 (upd H3 a (.lst (vs.set j y))) := Ext.write A3.hr e1
          exact o' σV m3 _ Ew (A3.sr.ext Ew) (A3.hr.write e1 ⟨_, upd_same, ((rv.set j ((r1.ext E2).ext E3)).ext Ew)⟩)
        · exact False.elim o'
      · exact False.elim o'
    | _ => exact False.elim o3
  | _ => exact False.elim o3
theorem nx_append : NoXM mAppend := fun x y h c fs h' e => by unfold mAppend at e; (repeat' split at e) <;> cases e
theorem nx_extend : NoXM mExtend := fun x y h c fs h' e => by unfold mExtend at e; (repeat' split at e) <;> cases e
def MtS (X : Cx) (id : String) (f : T → List T → Hh → Res T) : Prop :=
  ∀ (pins : List (Addr × Obj)) (s : Shared) (σ : L2.St) (H : Hp) (x : V) (xs : List V) (v : Value) (us : List Value) (Q : VK), L2.Inv X pins σ H s → RelV x v → Vals xs us → rPM X.K X.mg f x xs H Q →
    wpAny (model X.prog X.w) X.A (call (.builtin id) (v :: us)) (EP X pins σ Q) X.xe s
theorem ms_append : MtS X "list.append" mAppend := by
  intro pins s σ H x xs v us Q I rx rs ⟨m, h, t, ts, r, rr, R, o⟩
  cases r with
  | @ref l a e1 =>
    cases rr with
    | nil => exact False.elim o
    | cons r1 r2 =>
      cases r2 with
      | cons _ _ => exact False.elim o
      | nil =>
        rename_i t1 v1
        have o' : OutP X.K X.mg Q m H (match lstAt h l with
          | some ts => if ts.length < sizeLine then .ok .non (h.set l (.lst (ts ++ [t1]))) else .stk
          | none => .stk) := o
        split at o'
        · rename_i ts q1
          obtain ⟨vs, g1, rv⟩ := R.lst e1 q1
          split at o'
          · rename_i hz
            refine mt_append pins s σ H _ _ v us Q I rx rs ⟨a, vs, v1, rfl, rfl, g1, by rw [← rv.length]; exact hz, ?_⟩
            have Ew : Ext m H m (upd H a (.lst (vs ++ [v1]))) := Ext.write R e1
            exact o' .non m _ Ew .non (R.write e1 ⟨_, upd_same, (rv.append (.cons r1 .nil)).ext Ew⟩)
          · exact False.elim o'
        · exact False.elim o'
  | _ => exact False.elim o
theorem ms_extend : MtS X "list.extend" mExtend := by
  intro pins s σ H x xs v us Q I rx rs ⟨m, h, t, ts, r, rr, R, o⟩
  cases r with
  | @ref l a e1 =>
    cases rr with
    | nil => exact False.elim o
    | cons r1 r2 =>
      cases r2 with
      | cons _ _ => cases r1 <;> exact False.elim o
      | nil =>
        cases r1 with
        | @ref k b e2 =>
          have o' : OutP X.K X.mg Q m H (match lstAt h l, lstAt h k with
            | some ts, some zs => if ts.length + zs.length ≤ sizeLine then .ok .non (h.set l (.lst (ts ++ zs))) else .stk
            | _, _ => .stk) := o
          split at o'
          · rename_i ts zs q1 q2
            obtain ⟨vs, g1, rv⟩ := R.lst e1 q1
            obtain ⟨ws, g2, rw⟩ := R.lst e2 q2
            split at o'
            · rename_i hz
              refine mt_extend pins s σ H _ _ v us Q I rx rs ⟨a, b, vs, ws, rfl, rfl, g1, g2, by rw [← rv.length, ← rw.length]; exact hz, ?_⟩
              have Ew : Ext m H m (upd H a (.lst (vs ++ ws))) := Ext.write R e1
              exact o' .non m _ Ew .non (R.write e1 ⟨_, upd_same, (rv.append rw).ext Ew⟩)
            · exact False.elim o'
          · exact False.elim o'
        | _ => exact False.elim o
  | _ => exact False.elim o
end
end W3
end

section
namespace W3
open PySem PySem.Spec PyProof.Rows
open L2
section
variable {X : Cx} {P : Pq} {W : WX} {a b c o e : Expr} {sa sb sc so : SE} {pos pos' apos cpos p : Pos} {es : List Expr} {ar : SA}
theorem mt_read {f : T → List T → Hh → Res T} (hf : NoXM f) {σV : L2.St} {H : Hp} {Q : VK} (h : tI X.K X.mg P W (sMtL f so ar) σV H Q) :
    tI X.K X.mg P W so σV H fun x H1 => tyV X.K "list" x H1 ∧ tAr X.K X.mg P W ar σV H1 fun xs H2 => rPM X.K X.mg f x xs H2 Q := by
  obtain ⟨m, h, σ, A, o⟩ := h
  refine A.first (rel1 := RT X.K X.mg) o fun m1 h1 t x H1 E1 r A1 o1 => ?_
  split at o1
  · rename_i hl
    refine ⟨?_, ?_⟩
    · cases r with
      | @ref l a e1 =>
        have hl' : (lstAt h1 l).isSome = true := hl
        obtain ⟨ts, q⟩ := Option.isSome_iff_exists.mp hl'
        obtain ⟨vs, g, _⟩ := A1.hr.lst e1 q
        exact .inl ⟨rfl, vs, SqL.of g⟩
      | @fl a vs ts hq _ => exact .inl ⟨rfl, vs, hq.sq⟩
      | _ => cases hl
    · refine A1.first (rel1 := RTs X.K X.mg) o1 fun m2 h2 ts xs H2 E2 r2 A2 o2 => ?_
      exact ⟨m2, h2, t, ts, r.ext E2, r2, A2.hr, o2.outP (hf _ _ _)⟩
  · exact False.elim o1
theorem de_mt {id : String} {name : Str} {f : T → List T → Hh → Res T} (hm : MtS X id f) (hf : NoXM f) (pa : PlainAttrs "list") (slot : Slot "list" name id) (hty : typeOf (.builtin id) = pure (.type "method_descriptor")) (ho : DE X P W o so) (ha : DA X P W (e :: es) ar)
    (hbase : attributeBase o name X.env (eval o X.env) = eval o X.env := by rfl)
    (hfew : ((backTo cpos (starEach (e :: es) X.env)).all (fun x => !x.1) && (backToKw cpos (keywordEach [] X.env)).all (fun x => x.1.isSome)
      && decide ((e :: es).length + ([] : List Keyword).length + (if ([] : List Keyword).isEmpty then 0 else 1) < 30)) = true := by rfl)
    (hline : (apos.endLine == cpos.line) = true := by rfl) (hs : starEach (e :: es) X.env = (false, eval e X.env) :: starEach es X.env := by rfl) (hplain : (backTo cpos (starEach es X.env)).any (·.1) = false := by rfl) :
    DE X P W (.Call (.Attribute o name apos) (e :: es) [] cpos) (sMtL f so ar) :=
  PE.imp (pe_bm (r := rPM X.K X.mg f) pa slot hty hm ho ha hbase hfew hline hs hplain) fun σV H Q h => mt_read hf h
def spT (K : PySem.W.Frag) (mg : Str → Option Value) (n : Nat) (f : List T → Hh → Res T) : Sp := fun vs H Q E => vs.length = n ∧ ∃ m h ts, RTs K mg m H ts vs ∧ HR K mg m h H ∧
  (match f ts h with
    | .ok t h' => ∀ v m' H', Ext m H m' H' → RT K mg m' H' t v → HR K mg m' h' H' → Q v H'
    | .exc c fs h' => ∀ cls d m' H', Ext m H m' H' → XR K mg m' H' c fs cls d → HR K mg m' h' H' → E cls d H'
    | .stk => False)
theorem SR.start {K : PySem.W.Frag} {mg : Str → Option Value} {m : Mp} {H : Hp} {ts : List T} {vs : List V} (N : List Str) (r : RTs K mg m H ts vs) : SR K mg m H (startT N.length ts) (L2.start N vs) := by
  unfold startT L2.start
  rw [r.length]
  refine ⟨by rw [List.length_append, List.length_append, List.length_map, List.length_map, List.length_replicate, List.length_replicate, r.length], fun i t e => ?_⟩
  by_cases hi : i < vs.length
  · have hi' : i < ts.length := by rw [r.length]; exact hi
    rw [List.getElem?_append_left (by rw [List.length_map]; exact hi'), List.getElem?_map] at e
    cases q : ts[i]? with
    | none => rw [q] at e; cases e
    | some u =>
      rw [q] at e
      have e2 : u = t := Option.some.inj (Option.some.inj e)
      subst e2
      obtain ⟨v, q2, rv⟩ := r.get q
      exact ⟨v, by rw [List.getElem?_append_left (by rw [List.length_map]; exact hi), List.getElem?_map, q2]; rfl, rv⟩
  · rw [List.getElem?_append_right (by rw [List.length_map, r.length]; omega), List.getElem?_replicate] at e
    split at e
    · cases e
    · cases e
abbrev cxD (P : Program) (w : World) (K : PySem.W.Frag) (mg : Str → Option Value) (base : Heap) (N : List Str) (qual : Str) (sc : Scope) (f : Addr) (cdv : Value) (A : Around) (outer : List Env) (s : Shared) (H : Hp) (E : XK) : Cx :=
  cxOf (L2.CX P w) P w K mg base N qual sc f cdv A outer s H E
abbrev wD (E : XK) : WX := fun cls d _ H => E cls d H
theorem def_read {K : PySem.W.Frag} {mg : Str → Option Value} {N ps : List Str} {ss : SS} {vs : List V} {H : Hp} {Q : VK} {E : XK} (h : spT K mg ps.length (defRun N.length ss) vs H Q E) : tS K mg PqT (wD E) ss { nx := fun _ H' => Q .non H', rt := Q } (L2.start N vs) H := by
  obtain ⟨_, m, h, ts, r, R, o⟩ := h
  refine ⟨m, h, startT N.length ts, ⟨SR.start N r, R, trivial⟩, ?_⟩
  unfold defRun at o
  cases e : ss (startT N.length ts) h with
  | nx σ1 h1 => rw [e] at o; exact fun σV' m' H' E' _ R' => o .non m' H' E' .non R'
  | rt t h1 => rw [e] at o; exact o
  | exc c fs σ1 h1 => rw [e] at o; exact fun cls d _ m' H' E' _ x R' => o cls d m' H' E' x R'
  | bk σ1 h1 => rw [e] at o; exact False.elim o
  | ct σ1 h1 => rw [e] at o; exact False.elim o
  | stk => rw [e] at o; exact False.elim o
theorem fn_T {P : Program} {w : World} {K : PySem.W.Frag} {mg : Str → Option Value} {base : Heap} {x qual : Str} {st : Stmt} {f : Addr} {fd : FuncData} {N ps : List Str} {k : Nat} {ss : SS} (F : Fun K x qual st f fd) (S : FnScope N ps (defScope st))
    (hbody : ∀ (cdv : Value) (A : Around) (outer : List Env) (s : Shared) (H : Hp) (E : XK), Room k (cxD P w K mg base N qual (defScope st) f cdv A outer s H E).A → Takes (cxD P w K mg base N qual (defScope st) f cdv A outer s H E) (wD E) →
      PassesOwn (model P w) (cxD P w K mg base N qual (defScope st) f cdv A outer s H E).A (cxD P w K mg base N qual (defScope st) f cdv A outer s H E).env (cxD P w K mg base N qual (defScope st) f cdv A outer s H E).xe →
      DSs (cxD P w K mg base N qual (defScope st) f cdv A outer s H E) PqT (wD E) (defBody st) ss) : FnOk P w K mg base (L2.CX P w) (k + 1) f fd ps (spT K mg ps.length (defRun N.length ss)) :=
  F.okX S (fun vs H Q E h => h.1) fun cdv A outer s H vs Q E hr h => ⟨_, hbody cdv A outer s H E hr (takes_of rfl rfl rfl rfl) (passes_of rfl), def_read h⟩
theorem fn_TD {P : Program} {w : World} {K : PySem.W.Frag} {mg : Str → Option Value} {base : Heap} {x qual : Str} {params : Arguments} {body : List Stmt} {sc : Scope} {dvs : List V} {kws : List (Str × V)} {f : Addr} {fd : FuncData} {N ps : List Str} {k : Nat} {ss : SS}
    (F : FunD K x qual params body sc dvs kws f fd) (S : FnScope N ps sc)
    (hbody : ∀ (cdv : Value) (A : Around) (outer : List Env) (s : Shared) (H : Hp) (E : XK), Room k (cxD P w K mg base N qual sc f cdv A outer s H E).A → Takes (cxD P w K mg base N qual sc f cdv A outer s H E) (wD E) →
      PassesOwn (model P w) (cxD P w K mg base N qual sc f cdv A outer s H E).A (cxD P w K mg base N qual sc f cdv A outer s H E).env (cxD P w K mg base N qual sc f cdv A outer s H E).xe →
      DSs (cxD P w K mg base N qual sc f cdv A outer s H E) PqT (wD E) body ss) : FnOk P w K mg base (L2.CX P w) (k + 1) f fd ps (spT K mg ps.length (defRun N.length ss)) :=
  F.ok S (fun vs H Q E h => h.1) fun cdv A outer s H vs Q E hr h => ⟨_, hbody cdv A outer s H E hr (takes_of rfl rfl rfl rfl) (passes_of rfl), def_read h⟩
theorem de_call {x : Str} {k : Nat} {f : Addr} {fd : FuncData} {ps : List Str} {ff : List T → Hh → Res T} (F : FnOk X.prog X.w X.K X.mg X.base (L2.CX X.prog X.w) k f fd ps (spT X.K X.mg ps.length ff)) (hr : Room k X.A) (hg : Gl X x) (hm : X.mg x = some (.ref f))
    (hk : PySem.W.keepIn X.K (.ref f) = true) (hb : Binds X.K fd ps []) (tk : Takes X W) (ha : DA X P W (a :: es) ar) (hdb : (x == ("__debug__" : Str)) = false := by decide)
    (he : starEach (a :: es) X.env = (false, eval a X.env) :: starEach es X.env := by rfl) (hpl : (backTo pos (starEach es X.env)).any (·.1) = false := by rfl) :
    DE X P W (.Call (.Name x p) (a :: es) [] pos) (sCl (arN ps.length ff) ar) :=
  PE.imp (pe_callS F hr hg hm hk hb (fun σ => passAt tk σ) ha hdb he hpl) fun σV H Q ⟨m, h, σ, A, o⟩ => by
    refine A.first (rel1 := RTs X.K X.mg) o fun m1 h1 ts xs H1 E1 r A1 o1 => ?_
    unfold arN at o1
    split at o1
    · rename_i hl
      refine ⟨by rw [← r.length]; exact hl, m1, h1, ts, r, A1.hr, ?_⟩
      cases e : ff ts h1 with
      | ok t h2 => rw [e] at o1; exact o1
      | exc c fs h2 => rw [e] at o1; exact o1
      | stk => rw [e] at o1; exact o1
    · exact False.elim o1
theorem call_end {pins : List (Addr × Obj)} {σ : L2.St} {H : Hp} {s s' : Shared} {Q : VK} {r : Result} (I : L2.Inv X pins σ H s) (tk : Takes X W)
    (hq : CR (L2.CX X.prog X.w) X.stack X.prog X.w H s Q (WE W σ) r s') : match r with | .ok (.ret u) => EP X pins σ Q u s' | .error e => X.xe e s' | .ok _ => False := by
  cases r with
  | error e => exact passAt tk σ pins H s e s' I hq
  | ok fl =>
    cases fl with
    | ret u => exact I.after hq
    | next => exact hq
    | brk => exact hq
    | cont => exact hq
theorem spT_of {m : Mp} {H : Hp} {h : Hh} {σV : L2.St} {Q : VK} {ff : List T → Hh → Res T} {ts : List T} {vs : List V} {n : Nat} (hl : vs.length = n) (r : RTs X.K X.mg m H ts vs) (R : HR X.K X.mg m h H)
    (o : Out X.K X.mg (RT X.K X.mg) W σV Q m H (ff ts h)) : spT X.K X.mg n ff vs H Q (WE W σV) := by
  refine ⟨hl, m, h, ts, r, R, ?_⟩
  cases e : ff ts h with
  | ok t h2 => rw [e] at o; exact o
  | exc c fs h2 => rw [e] at o; exact o
  | stk => rw [e] at o; exact o
theorem RTs.weave {K : PySem.W.Frag} {mg : Str → Option Value} {m : Mp} {H : Hp} : ∀ (pat : List Bool) {ds zs : List T} {dv zv : List V}, RTs K mg m H ds dv → RTs K mg m H zs zv → RTs K mg m H (weave pat ds zs) (weave pat dv zv)
  | [], _, _, _, _, _, _ => .nil
  | true :: r, _, _, _, _, d, .cons q z => .cons q (RTs.weave r d z)
  | true :: _, _, _, _, _, _, .nil => .nil
  | false :: r, _, _, _, _, .cons q d, z => .cons q (RTs.weave r d z)
  | false :: _, _, _, _, _, .nil, _ => .nil
theorem Vals.weave : ∀ (pat : List Bool) {ds zs : List V} {dv zv : List Value}, Vals ds dv → Vals zs zv → Vals (W3.weave pat ds zs) (W3.weave pat dv zv)
  | [], _, _, _, _, _, _ => .nil
  | true :: r, _, _, _, _, d, .cons q z => .cons q (Vals.weave r d z)
  | true :: _, _, _, _, _, _, .nil => .nil
  | false :: r, _, _, _, _, .cons q d, z => .cons q (Vals.weave r d z)
  | false :: _, _, _, _, _, .nil, _ => .nil
abbrev DK (X : Cx) (P : Pq) (W : WX) (kws : List Keyword) (se : SA) : Prop := PK X kws (tAr X.K X.mg P W se)
theorem PK.imp {kws : List Keyword} {t t' : TA} (h : PK X kws t) (k : ∀ σ H Q, t' σ H Q → t σ H Q) : PK X kws t' := ⟨fun pos pins s σ H Q I hw => h.run pos pins s σ H Q I (k _ _ _ hw)⟩
theorem dk_nil : DK X P W [] saNil := PK.imp pk_nil fun σV H Q ⟨m, h, σ, A, o⟩ => o [] m H (Ext.refl _ _) .nil A.hr
theorem dk_cons {kws : List Keyword} {nm : Option Str} {kpos : Pos} (ha : DE X P W a sa) (hr : DK X P W kws ar) : DK X P W (⟨nm, a, kpos⟩ :: kws) (saCons sa ar) :=
  PK.imp (pk_cons ha hr) fun σV H Q ⟨m, h, σ, A, o⟩ => by
    refine A.first (rel1 := RT X.K X.mg) o fun m1 h1 t1 x H1 E1 r1 A1 o1 => ?_
    refine A1.first (rel1 := RTs X.K X.mg) o1 fun m2 h2 t2 y H2 E2 r2 A2 o2 => ?_
    exact o2 _ m2 H2 (Ext.refl _ _) (.cons (r1.ext E2) r2) A2.hr
def KBw (K : PySem.W.Frag) (fd : FuncData) (ps : List Str) (n : Nat) (ks : List Str) (pat : List Bool) (dv : List V) : Prop :=
  ∃ mv : List Value, KBn K fd ps n ks (fun us ws => us ++ weave pat mv ws) (fun vs zs => vs ++ weave pat dv zs)
end
end W3
end

section
namespace W3
open PySem PySem.Spec PyProof.Rows
open L2
section
variable {X : Cx} {P : Pq} {W : WX} {a b c o e : Expr} {sa sb sc so : SE} {pos pos' apos cpos p : Pos} {es : List Expr} {ar : SA}
theorem make_read {m : Mp} {H : Hp} {h : Hh} {σV : L2.St} {Q : VK} {ff : List T → Hh → Res T} {ts : List T} {vs : List V} {n : Nat} {cn : Str} {C : Addr} (hC : X.mg cn = some (.ref C)) (r : RTs X.K X.mg m H ts vs) (R : HR X.K X.mg m h H)
    (o : Out X.K X.mg (RT X.K X.mg) W σV Q m H (bMake cn n ff ts h)) {x dx : Addr} (nx : H x = none) (nd : H dx = none) (ne : dx ≠ x) :
    spT X.K X.mg n ff (.ref x :: vs) (upd (upd H dx (.own x)) x (.ins C dx [])) (fun v H2 => v = .non ∧ Q (.ref x) H2) (WE W σV) := by
  have R1 : HR X.K X.mg m h (upd H dx (.own x)) := R.garbage nd
  have nx1 : upd H dx (.own x) x = none := by rw [upd_ne ne.symm]; exact nx
  have E1 : Ext m H m (upd H dx (.own x)) := Ext.garbage R nd
  have E2 : Ext m (upd H dx (.own x)) (m.put h.length x) (upd (upd H dx (.own x)) x (.ins C dx [])) := Ext.alloc R1 nx1
  have R2 : HR X.K X.mg (m.put h.length x) (h ++ [.ins cn []]) (upd (upd H dx (.own x)) x (.ins C dx [])) := R1.alloc nx1 ⟨C, dx, [], hC, upd_same, .nil⟩
  have E12 := E1.trans E2
  unfold bMake arN at o
  by_cases hl : (T.ref h.length :: ts).length = n
  · rw [if_pos hl] at o
    have r2 : RTs X.K X.mg (m.put h.length x) (upd (upd H dx (.own x)) x (.ins C dx [])) (.ref h.length :: ts) (.ref x :: vs) := .cons (.ref Mp.put_same) (r.ext E12)
    refine ⟨by rw [← r2.length]; exact hl, m.put h.length x, h ++ [.ins cn []], .ref h.length :: ts, r2, R2, ?_⟩
    cases e : ff (.ref h.length :: ts) (h ++ [.ins cn []]) with
    | stk => rw [e] at o; exact o
    | exc c fs h2 => rw [e] at o; exact fun cls d m' H' E' xr R' => o cls d m' H' (E12.trans E') xr R'
    | ok t h2 =>
      rw [e] at o
      intro v m' H' E' rv R'
      cases rv with
      | non => exact ⟨rfl, o (.ref x) m' H' (E12.trans E') (.ref (E'.mono _ _ Mp.put_same)) R'⟩
      | _ => exact False.elim o
  · rw [if_neg hl] at o; exact False.elim o
def bMakeK (c : Str) (q n : Nat) (pat : List Bool) (ds : List T) (f : List T → Hh → Res T) (a kw : SA) : SE := fun σ h => (a σ h).bind fun xs h1 => (kw σ h1).bind fun zs h2 => if xs.length = n ∧ zs.length = q then bMake c (n + 1 + pat.length) f (xs ++ weave pat ds zs) h2 else .stk
theorem de_makeK {x : Str} {k n : Nat} {f C : Addr} {fd : FuncData} {ps ks : List Str} {pat : List Bool} {dv : List V} {dt : List T} {kws : List Keyword} {kw : SA} {ff : List T → Hh → Res T} (M : Mk X.K C f)
    (F : FnOk X.prog X.w X.K X.mg X.base (L2.CX X.prog X.w) k f fd ps (spT X.K X.mg ps.length ff)) (hr : Room (k + 1) X.A) (hg : Gl X x) (hm : X.mg x = some (.ref C))
    (hb : KBw X.K fd ps (n + 1) ks pat dv) (hd : ∀ m H, RTs X.K X.mg m H dt dv) (tk : Takes X W) (ha : DA X P W (a :: es) ar) (hkw : DK X P W kws kw) (hn : n + 1 + pat.length = ps.length)
    (hall : (backToKw pos (keywordEach kws X.env)).all (·.1.isSome) = true := by rfl) (hks : (backToKw pos (keywordEach kws X.env)).filterMap (·.1) = ks := by rfl)
    (hdb : (x == ("__debug__" : Str)) = false := by decide) (he : starEach (a :: es) X.env = (false, eval a X.env) :: starEach es X.env := by rfl)
    (hpl : ((backTo pos (starEach (a :: es) X.env)).any (·.1) || (backToKw pos (keywordEach kws X.env)).any (·.1.isNone)) = false := by rfl) :
    DE X P W (.Call (.Name x p) (a :: es) kws pos) (bMakeK x ks.length n pat dt ff ar kw) := by
  obtain ⟨mv, hb⟩ := hb
  refine ⟨fun pins s σV H Q I ⟨m, h, σ, A, o⟩ => ?_⟩
  refine wpAny_Call_Name_kw (ld_glob I hg hm ?_ hdb)
  have first := A.first (rel1 := RTs X.K X.mg) o fun m1 h1 ts vs H1 E1 r1 A1 o1 =>
    (⟨m1, h1, ts, r1, A1, o1⟩ : ∃ m1 h1 ts, RTs X.K X.mg m1 H1 ts vs ∧ At X.K X.mg P m1 H1 σV σ h1 ∧ Out X.K X.mg (RT X.K X.mg) W σV Q m1 H1 ((kw σ h1).bind fun zs h2 => if ts.length = n ∧ zs.length = ks.length then bMake x (n + 1 + pat.length) ff (ts ++ weave pat dt zs) h2 else .stk))
  refine PySem.W.callWith_KW (h₀ := X.base) I.ok.mod.kin M.kp hall (thn (ha.run pos pins s σV H _ I first) fun us s1 ⟨vs, H1, I1, r, m1, h1, ts, r1, A1, o1⟩ => ?_) hpl he
  have second := A1.first (rel1 := RTs X.K X.mg) o1 fun m2 h2 zt zv H2 E2 r2 A2 o2 =>
    (⟨m2, h2, zt, r1.ext E2, r2, A2, o2⟩ : ∃ m2 h2 zt, RTs X.K X.mg m2 H2 ts vs ∧ RTs X.K X.mg m2 H2 zt zv ∧ At X.K X.mg P m2 H2 σV σ h2 ∧ Out X.K X.mg (RT X.K X.mg) W σV Q m2 H2 (if ts.length = n ∧ zt.length = ks.length then bMake x (n + 1 + pat.length) ff (ts ++ weave pat dt zt) h2 else .stk))
  refine thn (hkw.run pos pins s1 σV H1 _ I1 second) fun ws s2 ⟨zv, H2, I2, rz, m2, h2, zt, r1, r2, A2, o2⟩ => ⟨I2.kIn, ?_⟩
  rw [hks]
  split at o2
  · rename_i hl
    have l1 : vs.length = n := by rw [← r1.length]; exact hl.1
    have l2 : zv.length = ks.length := by rw [← r2.length]; exact hl.2
    rw [hn] at o2
    have hq := make_read hm (r1.append (RTs.weave pat (hd m2 H2) r2)) A2.hr o2 (I2.hok.fresh (Nat.le_succ _)) (I2.hok.fresh (Nat.le_refl _)) (Nat.ne_of_lt (Nat.lt_succ_self s2.heap.objs.size))
    have I3 := Inv.made (C := C) I2
    have rr := hb.rel (Paired.cons (show RelV (V.ref (s2.heap.objs.size + 1)) (Value.ref (s2.heap.objs.size + 1)) from rfl) r) rz
    have bt := hb.to _ (Value.ref (s2.heap.objs.size + 1) :: us) ws I3.kIn (by rw [List.length_cons, ← r.length, l1]) (rz.length.symm.trans l2)
    refine wpAny_call (make_map (f := f) I2.kIn M.makes M.init (beq_iff_eq.mp M.fn) (codeAny_mono (F.run _ X.stack _ _ ⟨Value.ref (s2.heap.objs.size + 1) :: us, ks.zip ws⟩ _ _ _ (WE W σV) (hr.make C us (ks.zip ws))
      (I3.env0.make C us (ks.zip ws)) bt rr hq) fun res s' hq' => ?_))
    have fin := call_end I3 tk hq'
    cases res with
    | error e => exact fin
    | ok fl =>
      cases fl with
      | ret u =>
        obtain ⟨v, H', I4, rv, ev, q3⟩ := fin
        subst ev
        exact ⟨rv, ⟨V.ref (s2.heap.objs.size + 1), H', I4, rfl, q3⟩⟩
      | next => exact fin
      | brk => exact fin
      | cont => exact fin
  · exact False.elim o2
end
end W3
end

section
namespace W3
open PySem PySem.Spec PyProof.Rows
open L2
def Kd.nm : Kd → String
  | .int => "int" | .bool => "bool" | .str => "str" | .tuple => "tuple" | .list => "list" | .dict => "dict"
section
variable {X : Cx} {P : Pq} {W : WX} {a b c o e : Expr} {sa sb sc so : SE} {pos pos' apos cpos p p2 : Pos} {es : List Expr} {ar : SA}
theorem ty_of {m : Mp} {H : Hp} {h : Hh} {t : T} {v : V} {k : Kd} {r : Bool} (R : HR X.K X.mg m h H) (q : RT X.K X.mg m H t v) (e : isK k t h = some r) : ∃ n : String, TyX X.K H v (.type n) ∧ kitB n k.nm = some r := by
  cases q with
  | non => exact ⟨_, .base .non, by cases e; cases k <;> decide +kernel⟩
  | bl b => exact ⟨_, .base (.bl b), by cases e; cases k <;> decide +kernel⟩
  | int b => exact ⟨_, .base (.int b), by cases e; cases k <;> decide +kernel⟩
  | str b => exact ⟨_, .base (.str _), by cases e; cases k <;> decide +kernel⟩
  | @tup a vs ts hq _ =>
    refine ⟨"tuple", ?_, by cases e; cases k <;> decide +kernel⟩
    rcases hq with ⟨ob, z, _⟩ | ⟨ob, its, n, hk, hc, _⟩
    · exact .fTuple z
    · exact .kTuple hk hc
  | @fl a vs ts hq _ =>
    refine ⟨"list", ?_, by cases e; cases k <;> decide +kernel⟩
    rcases hq with ⟨ob, z⟩ | ⟨ob, its, n, hk, hc, _⟩
    · exact .base (.frz z)
    · exact .kList hk hc
  | @ref l a e1 =>
    have e' : (match h[l]? with
      | some (.lst _) => some (k == .list)
      | some (.dic _) => some (k == .dict)
      | some (.ins _ _) => none
      | none => none) = some r := e
    split at e'
    · rename_i ts q1
      obtain ⟨b, e2, vs, g, _⟩ := R.ob l _ q1
      rw [e1] at e2; cases e2
      exact ⟨"list", .base (.lst g), by cases e'; cases k <;> decide +kernel⟩
    · rename_i ts q1
      obtain ⟨b, e2, _, g, _⟩ := R.ob l _ q1
      rw [e1] at e2; cases e2
      exact ⟨"dict", .base (.dK g), by cases e'; cases k <;> decide +kernel⟩
    · cases e'
    · cases e'
  | cls _ => cases e
theorem nx_isk (k : Kd) : NoX1 (oIsK k) := fun x h c fs h' e => by unfold oIsK at e; (repeat' split at e) <;> cases e
theorem de_isk (k : Kd) {x : Str} (hx : bootBuiltins x = some (.type k.nm)) (hg : Gl X "isinstance") (hm : X.mg "isinstance" = none) (hgx : Gl X x) (hmx : X.mg x = none) (ha : DE X P W a sa) (hn : x ≠ "__name__" := by decide) (hdx : (x == ("__debug__" : Str)) = false := by decide)
    (he : starEach [a, .Name x p2] X.env = (false, eval a X.env) :: starEach [.Name x p2] X.env := by rfl) (hpl : (backTo pos (starEach [.Name x p2] X.env)).any (·.1) = false := by rfl) (hs2 : starEach [.Name x p2] X.env = (false, eval (.Name x p2) X.env) :: starEach [] X.env := by rfl) :
    DE X P W (.Call (.Name "isinstance" p) [a, .Name x p2] [] pos) (s1 (oIsK k) sa) :=
  PE.imp (pe_callB call_isi hg hm boot_isinstance (pa_cons ha (pa_cons (pe_bltn (v := .ty k.nm) hgx hmx hx rfl hn hdx) pa_nil hs2) he) (by decide) (by decide) he hpl) fun σV H Q h => by
    refine tG.mono (fun v H1 hq => ?_) (one (nx_isk k) h)
    obtain ⟨m, h, t, r, R, o⟩ := hq
    unfold oIsK at o
    split at o
    · rename_i b e
      obtain ⟨n, ty, kb⟩ := ty_of R r e
      exact ⟨v, .ty k.nm, .type n, .type k.nm, b, rfl, .ty _, ty, kit_ty kb, o _ m H1 (Ext.refl _ _) (.bl _) R⟩
    · exact False.elim o
def sDic0 : SE := fun _ h => alloc (.dic []) h
theorem de_dic0 : DE X P W (.Dict [] [] pos) sDic0 := PE.imp pe_dnewK fun σV H Q ⟨m, h, σ, A, o⟩ => by
  intro d hd
  exact o _ _ _ (Ext.alloc A.hr hd) (.ref Mp.put_same) (A.hr.alloc hd ⟨[], upd_same, .nil⟩)
def rLst (K : PySem.W.Frag) (mg : Str → Option Value) (f : List T → Hh → Res T) : List V → Hp → VK → Prop := fun xs H Q => ∃ m h ts D vs, xs = [.ref D] ∧ H D = some (.lst vs) ∧ RTs K mg m H ts vs ∧ HR K mg m h H ∧ OutP K mg Q m H (f ts h)
theorem over_read {f : List T → Hh → Res T} (hf : NoXL f) {σV : L2.St} {H : Hp} {Q : VK} (h : tI X.K X.mg P W (sOver f ar) σV H Q) : tL X.K X.mg P W ar σV H fun x H1 => rLst X.K X.mg f [x] H1 Q := by
  obtain ⟨m, h, σ, A, o⟩ := h
  refine A.first (rel1 := relL X.K X.mg H) o fun m1 h1 ts x H1 E1 r1 A1 o1 => ?_
  obtain ⟨D, vs, rfl, _, hD, rr, _⟩ := r1
  exact ⟨m1, h1, ts, D, vs, rfl, hD, rr, A1.hr, o1.outP (hf _ _)⟩
theorem de_overB {id : String} {x : Str} {f : List T → Hh → Res T} (hc : CallR X (.builtin id) (rLst X.K X.mg f)) (hf : NoXL f) (hg : Gl X x) (hm : X.mg x = none) (hv : bootBuiltins x = some (.builtin id)) (ha : DL X P W a ar) (hn : x ≠ "__name__" := by decide) (hdb : (x == ("__debug__" : Str)) = false := by decide)
    (he : starEach [a] X.env = (false, eval a X.env) :: starEach [] X.env := by rfl) (hpl : (backTo pos (starEach [] X.env)).any (·.1) = false := by rfl) : DE X P W (.Call (.Name x p) [a] [] pos) (sOver f ar) :=
  PE.imp (pe_callB hc hg hm hv (pa_cons ha pa_nil he) hn hdb he hpl) fun σV H Q h => over_read hf h
theorem bls_of {m : Mp} {H : Hp} : ∀ {ts : List T} {vs : List V} {bs : List Bool}, RTs X.K X.mg m H ts vs → blsOf ts = some bs → vs = bs.map V.bl
  | _, _, _, .nil, e => by cases e; rfl
  | _, _, bs, .cons (t := t) (ts := ts) r q, e => by
    cases r with
    | bl b =>
      have e' : (blsOf ts).map (b :: ·) = some bs := e
      cases z : blsOf ts with
      | none => rw [z] at e'; cases e'
      | some cs =>
        rw [z] at e'; cases e'
        rw [bls_of q z]; rfl
    | _ => cases e
theorem nx_all : NoXL bAll := fun x h c fs h' e => by unfold bAll at e; (repeat' split at e) <;> cases e
theorem cl_all (hc : X.calm = true) : CallR X (.builtin "all") (rLst X.K X.mg bAll) := by
  intro pins s σ H xs us Q I ru hq
  obtain ⟨m, h, ts, D, vs, rfl, hD, r, R, o⟩ := hq
  unfold bAll at o
  split at o
  · rename_i bs e
    have := bls_of r e
    subst this
    exact cr_all hc pins s σ H _ us Q I ru ⟨D, bs, rfl, SqL.of hD, o _ m H (Ext.refl _ _) (.bl _) R⟩
  · exact False.elim o
theorem de_meth {m : Str} {cn : Str} {C f : Addr} {k : Nat} {fd : FuncData} {ps : List Str} {ff : List T → Hh → Res T} {pl : Sem Bool} (hC : X.mg cn = some (.ref C)) (cc : Cls X.K C) (hm : Meth X.K C m f)
    (F : FnOk X.prog X.w X.K X.mg X.base (L2.CX X.prog X.w) k f fd ps (spT X.K X.mg ps.length ff)) (hr : Room k X.A) (hb : Binds X.K fd ps []) (tk : Takes X W) (ho : DE X P W o so) (ha : DA X P W (e :: es) ar)
    (hst : starEach (e :: es) X.env = (false, eval e X.env) :: starEach es X.env := by rfl) (hpl : (backTo pos (starEach es X.env)).any (·.1) = false := by rfl)
    (ht : eval (.Call (.Attribute o m apos) (e :: es) [] pos) X.env = (do
      let ov ← eval o X.env
      standAt apos.atName
      let (f, first) ← holding [ov] (getMethod ov m pl)
      callWith pos f first (backTo pos (starEach (e :: es) X.env)) (backToKw pos (keywordEach [] X.env))) := by rfl) :
    DE X P W (.Call (.Attribute o m apos) (e :: es) [] pos) (sMeth cn m ps.length ff so ar) := by
  refine ⟨fun pins s σV H Q I ⟨m0, h, σ, A, o0⟩ => ?_⟩
  have first := A.first (rel1 := RT X.K X.mg) o0 fun m1 h1 t v H1 E1 r1 A1 o1 =>
    (⟨m1, h1, t, r1, A1, o1⟩ : ∃ m1 h1 t, RT X.K X.mg m1 H1 t v ∧ At X.K X.mg P m1 H1 σV σ h1 ∧ Out X.K X.mg (RT X.K X.mg) W σV Q m1 H1 (match t with
      | .ref l => (match insAt h1 l with
        | some (d, fs) => if d = cn ∧ fs.lookup m = none then (ar σ h1).bind fun xs h2 => arN ps.length ff (t :: xs) h2 else .stk
        | none => .stk)
      | _ => .stk))
  refine PySem.W.methodCall_KW (pl := pl) (thn (ho.run pins s σV H _ I first) fun u s1 ⟨v, H1, I1, rv, m1, h1, t, r1, A1, o1⟩ => ?_) ht
  cases r1 with
  | @ref l a e1 =>
    dsimp only at o1
    split at o1
    · rename_i d fs q1
      split at o1
      · rename_i hd
        obtain ⟨hd1, hd2⟩ := hd
        subst hd1
        obtain ⟨Ca, dx, fv, g1, g2, rf⟩ := A1.hr.ins e1 q1
        rw [hC] at g1; cases g1
        obtain rfl : u = Value.ref a := rv
        have hno : fv.lookup m = none := by
          cases z : fv.lookup m with
          | none => rfl
          | some w =>
            exfalso
            have back : ∀ {fs : List (Str × T)} {fv : List (Str × V)} {w : V}, RF X.K X.mg m1 H1 fs fv → fv.lookup m = some w → fs.lookup m ≠ none := by
              intro fs fv w r
              induction r with
              | nil => intro q; simp [List.lookup] at q
              | @cons g t v fs fv _ _ ih =>
                intro q
                simp only [List.lookup] at q ⊢
                split at q
                · simp
                · exact ih q
            exact back rf z hd2
        refine getmeth_ok I1 g2 cc hm hno ?_
        have second := A1.first (rel1 := RTs X.K X.mg) o1 fun m2 h2 ts vs H2 E2 r2 A2 o2 =>
          (⟨m2, h2, ts, .ref (E2.mono _ _ e1), r2, A2, o2⟩ : ∃ m2 h2 ts, RT X.K X.mg m2 H2 (.ref l) (.ref a) ∧ RTs X.K X.mg m2 H2 ts vs ∧ At X.K X.mg P m2 H2 σV σ h2 ∧ Out X.K X.mg (RT X.K X.mg) W σV Q m2 H2 (arN ps.length ff (.ref l :: ts) h2))
        refine PySem.W.callWith_K (first := [.ref a]) (h₀ := X.base) I.ok.mod.kin hm.kp (thn (ha.run pos pins s1 σV H1 _ I1 second) fun us s2 ⟨vs, H2, I2, r, m2, h2, ts, ra, r2, A2, o2⟩ => ⟨I2.kIn, ?_⟩) hst hpl
        unfold arN at o2
        split at o2
        · rename_i hl
          exact run_fnS (us := .ref a :: us) (vs := .ref a :: vs) F hr hb (passAt tk σV) I2 (.cons rfl r) (spT_of (by rw [← hl, List.length_cons, List.length_cons, r2.length]) (.cons ra r2) A2.hr o2)
        · exact False.elim o2
      · exact False.elim o1
    · exact False.elim o1
  | _ => exact False.elim o1
theorem de_meth0 {m : Str} {cn : Str} {C f : Addr} {k : Nat} {fd : FuncData} {ps : List Str} {ff : List T → Hh → Res T} {pl : Sem Bool} (hC : X.mg cn = some (.ref C)) (cc : Cls X.K C) (hm : Meth X.K C m f)
    (F : FnOk X.prog X.w X.K X.mg X.base (L2.CX X.prog X.w) k f fd ps (spT X.K X.mg ps.length ff)) (hr : Room k X.A) (hb : Binds X.K fd ps []) (tk : Takes X W) (ho : DE X P W o so)
    (ht : eval (.Call (.Attribute o m apos) [] [] pos) X.env = (do
      let ov ← eval o X.env
      standAt apos.atName
      let (f, first) ← holding [ov] (getMethod ov m pl)
      callWith pos f first (backTo pos (starEach [] X.env)) (backToKw pos (keywordEach [] X.env))) := by rfl) :
    DE X P W (.Call (.Attribute o m apos) [] [] pos) (sMeth cn m ps.length ff so saNil) := by
  refine ⟨fun pins s σV H Q I ⟨m0, h, σ, A, o0⟩ => ?_⟩
  have first := A.first (rel1 := RT X.K X.mg) o0 fun m1 h1 t v H1 E1 r1 A1 o1 =>
    (⟨m1, h1, t, r1, A1, o1⟩ : ∃ m1 h1 t, RT X.K X.mg m1 H1 t v ∧ At X.K X.mg P m1 H1 σV σ h1 ∧ Out X.K X.mg (RT X.K X.mg) W σV Q m1 H1 (match t with
      | .ref l => (match insAt h1 l with
        | some (d, fs) => if d = cn ∧ fs.lookup m = none then (saNil σ h1).bind fun xs h2 => arN ps.length ff (t :: xs) h2 else .stk
        | none => .stk)
      | _ => .stk))
  refine PySem.W.methodCall_KW (pl := pl) (thn (ho.run pins s σV H _ I first) fun u s1 ⟨v, H1, I1, rv, m1, h1, t, r1, A1, o1⟩ => ?_) ht
  cases r1 with
  | @ref l a e1 =>
    dsimp only at o1
    split at o1
    · rename_i d fs q1
      split at o1
      · rename_i hd
        obtain ⟨hd1, hd2⟩ := hd
        subst hd1
        obtain ⟨Ca, dx, fv, g1, g2, rf⟩ := A1.hr.ins e1 q1
        rw [hC] at g1; cases g1
        obtain rfl : u = Value.ref a := rv
        have hno : fv.lookup m = none := by
          cases z : fv.lookup m with
          | none => rfl
          | some w =>
            exfalso
            have back : ∀ {fs : List (Str × T)} {fv : List (Str × V)} {w : V}, RF X.K X.mg m1 H1 fs fv → fv.lookup m = some w → fs.lookup m ≠ none := by
              intro fs fv w r
              induction r with
              | nil => intro q; simp [List.lookup] at q
              | @cons g t v fs fv _ _ ih =>
                intro q
                simp only [List.lookup] at q ⊢
                split at q
                · simp
                · exact ih q
            exact back rf z hd2
        refine getmeth_ok I1 g2 cc hm hno ?_
        have o2 : Out X.K X.mg (RT X.K X.mg) W σV Q m1 H1 (arN ps.length ff [.ref l] h1) := o1
        unfold arN at o2
        split at o2
        · rename_i hl
          exact PySem.W.callWith_K0 (first := [.ref a]) I1.kIn hm.kp (run_fnS (us := [.ref a]) (vs := [.ref a]) F hr hb (passAt tk σV) I1 (.cons rfl .nil) (spT_of hl (.cons (.ref e1) .nil) A1.hr o2))
        · exact False.elim o2
      · exact False.elim o1
    · exact False.elim o1
  | _ => exact False.elim o1
end
end W3
end

section
namespace W3
open PySem PySem.Spec PyProof.Rows
open L2
instance decMemK (k : Key) (l : List Key) : Decidable (k ∈ l) := decidable_of_iff (l.any (fun j => decide (j = k)) = true) (by simp [List.any_eq_true])
def keyT : T → Option Key
  | .int i => some (.inl i)
  | .str x => some (.inr x)
  | _ => none
def keysT : List T → Option (List Key)
  | [] => some []
  | t :: ts => match keyT t, keysT ts with | some k, some ks => some (k :: ks) | _, _ => none
section
variable {X : Cx}
theorem kv_of {m : Mp} {H : Hp} {t : T} {v : V} {k : Key} (r : RT X.K X.mg m H t v) (e : keyT t = some k) : v = kV k := by
  cases r with
  | int i => cases e; rfl
  | str h => cases e; rfl
  | _ => cases e
end
end W3
end

section
namespace W3
open PySem PySem.Spec PyProof.Rows
open L2
section
variable {P : Program} {w : World} {A : Around} {E : Value → Shared → Prop} {s : Shared}
abbrev KeysAre (P : Program) (w : World) (ks : List Key) (vs : List Value) : Prop := Paired (fun k v => RelV (kV k) v) ks vs
theorem KeysAre.get {ks : List Key} {vs : List Value} (r : KeysAre P w ks vs) : ∀ {i : Nat} {v : Value}, vs[i]? = some v → ∃ k, ks[i]? = some k ∧ RelV (kV k) v := by
  induction r with
  | nil => intro i v e; simp at e
  | cons r _ ih =>
    intro i v e
    cases i with
    | zero => simp at e; subst e; exact ⟨_, rfl, r⟩
    | succ i => exact ih (by simpa using e)
abbrev freshSet (w : World) : Obj := { cls := .type "set", dict := none, data := .set #[] 0 (.fresh 0 0 (!w.params.followText "set-order")) }
end
end W3
end

section
namespace W3
open PySem PySem.Spec PyProof.Rows
open L2
section
variable {X : Cx} {P : Pq} {W : WX} {a b c o e tg iter : Expr} {sa sb sc so : SE} {pos pos' apos cpos p p2 q2 : Pos} {es : List Expr} {ar : SA} {si : SI}
theorem keys_of {m : Mp} {H : Hp} : ∀ {ts : List T} {vs : List V} {ks : List Key}, RTs X.K X.mg m H ts vs → keysT ts = some ks → vs = ks.map kV
  | _, _, _, .nil, e => by cases e; rfl
  | _, _, _, .cons (t := t) (ts := ts) r q, e => by
    unfold keysT at e
    cases h1 : keyT t with
    | none => rw [h1] at e; simp at e
    | some k =>
      cases h2 : keysT ts with
      | none => rw [h1, h2] at e; simp at e
      | some ks =>
        rw [h1, h2] at e
        cases e
        rw [kv_of r h1, keys_of q h2]; rfl
end
end W3
end

section
namespace W3
open PySem PySem.Spec PyProof.Rows
open L2
theorem hu65 {k : Nat} {A : Around} (hr : Room k A) : A.units + 65 < cLine := by have := hr.un; omega
section
variable {X : Cx} {P : Pq} {W : WX} {a b c o e : Expr} {sa sb sc so : SE} {pos pos' : Pos} {st : Stmt}
theorem dv (i : Nat) {x : Str} (hN : X.N[i]? = some x := by rfl) (hv : Vis X.env.scope x := by first | exact Or.inl rfl | exact Or.inr (Or.inl rfl) | exact Or.inr (Or.inr rfl)) (hd : (x == ("__debug__" : Str)) = false := by decide) (hcd : (x == ("__classdict__" : Str)) = false := by decide) :
    DE X P W (.Name x pos) (sVar i) := de_var hN hv hd hcd
theorem dgs {x s : Str} (hm : ∃ t, X.mg x = some (.str s t)) (hs : PyData.strOk s = true) (hg : Gl X x := by rfl) (hd : (x == ("__debug__" : Str)) = false := by decide) : DE X P W (.Name x pos) (sC (.str s)) := by
  obtain ⟨t, hm⟩ := hm
  exact de_glob (v := .str s) hg hm ⟨_, rfl⟩ (fun _ _ => .str hs) hd
def ssStk : SS := fun _ _ => .stk
end
theorem sqF_of {K : PySem.W.Frag} {H : Hp} {a : Addr} {xs : List V} (hO : Only H) (h : SqL K H a xs) : SqF K H a xs := by
  rcases h with (h | ⟨o, h⟩) | h
  · rcases hO a with z | ⟨o, ys, z⟩
    · rw [z] at h; cases h
    · rw [z] at h; cases h
  · exact .inl ⟨o, h⟩
  · exact .inr h
theorem rts_ints {K : PySem.W.Frag} {mg : Str → Option Value} {m : Mp} {H : Hp} : ∀ ns : List Int, RTs K mg m H (ns.map T.int) (ns.map V.int)
  | [] => .nil
  | n :: ns => .cons (.int n) (rts_ints ns)
theorem sp_law {K : PySem.W.Frag} {mg : Str → Option Value} {f : List T → Hh → Res T} (hf : ∀ ns : List Int, ns.length ≤ 63 → ∃ h', f [.fl (ns.map T.int)] [] = .ok (.bl true) h') {H : Hp} {a : Addr} {ns : List Int} (hl : ns.length ≤ 63) (hO : Only H)
    (hS : SqL K H a (ns.map V.int)) : spT K mg 1 f [.ref a] H (fun v _ => v = .bl true) fun _ _ _ => False := by
  refine ⟨rfl, fun _ => none, [], [.fl (ns.map T.int)], .cons (.fl (sqF_of hO hS) (rts_ints ns)) .nil, ⟨fun l a e => (by cases e), fun l l' a e => (by cases e), fun l o e => by simp at e⟩, ?_⟩
  obtain ⟨h', e⟩ := hf ns hl
  rw [e]
  intro v m' H' _ r _
  cases r
  rfl
end W3
namespace W3
open PySem PySem.Spec PyProof.Rows
open L2
def spL (K : PySem.W.Frag) (f : List T → Hh → Res T) : Sp := fun vs H Q E => ∀ mg, spT K mg 1 f vs H Q E
theorem fnL {P : Program} {w : World} {K : PySem.W.Frag} {mg : Str → Option Value} {base : Heap} {CX : CXT} {k : Nat} {fa : Addr} {fd : FuncData} {ps : List Str} {f : List T → Hh → Res T} (F : FnOk P w K mg base CX k fa fd ps (spT K mg 1 f)) : FnOk P w K mg base CX k fa fd ps (spL K f) :=
  F.imp fun _ _ _ _ h => h mg
end W3
namespace W3
open PySem PySem.Spec PyProof.Rows
open L2
end W3
end

section
namespace W3
open PySem PySem.Spec PyProof.Rows
open L2
def lc2Run (s : Src) (g : SG) (tt : ST) (si1 : SI) (g1 : SG) (tt1 : ST) (te : SE) (vs1 : List Nat) (σ : St3) : Nat → Nat → List T → Hh → Res (List T)
  | k, i, acc, h => match s.at h i with
    | none => .stk
    | some none => .ok acc h
    | some (some x) => match k with
      | 0 => .stk
      | k + 1 => match g x σ with
        | none => .stk
        | some σ1 => match tt σ1 h with
          | .ok b h1 => if b = true then (match si1 σ1 h1 with
              | .ok s1 h2 => (match lcRun s1 g1 tt1 te (wipeT σ1 vs1) (s1.len h2) 0 acc h2 with
                | .ok acc' h3 => lc2Run s g tt si1 g1 tt1 te vs1 σ k (i + 1) acc' h3
                | _ => .stk)
              | _ => .stk) else lc2Run s g tt si1 g1 tt1 te vs1 σ k (i + 1) acc h1
          | _ => .stk
def saLc2 (si : SI) (g : SG) (tt : ST) (si1 : SI) (g1 : SG) (tt1 : ST) (te : SE) (vs vs1 : List Nat) : SA := fun σ h => (si σ h).bind fun s h1 => lc2Run s g tt si1 g1 tt1 te vs1 (wipeT σ vs) (s.len h1) 0 [] h1
section
variable {X : Cx} {P : Pq} {W : WX} {a b c tg iter tg1 iter1 : Expr} {sa sb sc : SE} {pos : Pos} {es : List Expr} {ar : SA} {si si1 : SI} {ta tb : ST} {rest : List Expr}
end
section
variable {X : Cx} {P : Pq} {W : WX} {a b c o e : Expr} {sa sb sc so : SE} {pos pos' apos cpos tpos p p2 p3 : Pos} {es : List Expr} {ar : SA}
end
end W3
end

section
namespace PySem
open Builtin
open AutoSeq1 (wpAny_loadPart')
end PySem
namespace W3
open PySem PySem.Spec PyProof.Rows
open L2
def enumL : Nat → List T → List T
  | _, [] => []
  | i, t :: ts => .tup [.int i, t] :: enumL (i + 1) ts
section
variable {K : PySem.W.Frag} {mg : Str → Option Value} {m : Mp} {H : Hp}
end
def enumOf (xs : List T) (h : Hh) : Res Src := match xs with | [.tup ts] => .ok (.its (enumL 0 ts)) h | _ => .stk
def siEnum (a : SA) : SI := fun σ h => (a σ h).bind enumOf
section
variable {X : Cx} {P : Pq} {W : WX} {a b c : Expr} {ar : SA} {pos : Pos}
end
theorem RTs.two {K : PySem.W.Frag} {mg : Str → Option Value} {m : Mp} {H : Hp} {t u : T} {vs : List V} (r : RTs K mg m H [t, u] vs) : ∃ v w, vs = [v, w] ∧ RT K mg m H t v ∧ RT K mg m H u w := by
  cases r with
  | cons r1 rr =>
    cases rr with
    | cons r2 rn => cases rn; exact ⟨_, _, rfl, r1, r2⟩
end W3
end

section
namespace W3
open PySem PySem.Spec PyProof.Rows PySem.W
open L2
structure ExF (prog : Program) (K : PySem.W.Frag) (C f c cc : Addr) (fd : FuncData) : Prop where
  oex : OexC K C
  fn : ∃ oc od osl, K.lookup f = some ⟨oc, od, .func fd, osl⟩
  code : ∃ ccl cdd vs ccs file tf, K.lookup c = some ⟨ccl, cdd, .fields vs, ccs⟩ ∧ vs[2]? = some (.str file tf) ∧ ((prog.main.file : Str) == file) = true
  cell : ∃ cl cld csl, K.lookup cc = some ⟨cl, cld, .cell (some (.ref C)), csl⟩
  sup : PySem.W.ks_superIn K C C "__init__" = some (some (.builtin "ValueError.__init__"))
  subV : PySem.W.subIn K (.ref C) (.type "ValueError") = some true
  subC : PySem.W.mroIn K C (.ref C) = some true
  opq : PySem.W.nsIn K cStatics "thirdparty.any" = some none
  top : (prog.main.scope.names.lookup ("super" : Str)).isSome = false
theorem boot_super : bootBuiltins "super" = some (.type "super") := by decide +kernel
theorem clsIn_of {K : PySem.W.Frag} {C : Addr} (T : OexC K C) : ∃ cd, PySem.W.clsIn K C = some cd := by
  obtain ⟨nm, q, N, bs, bm, sn, sub, ab, col, dd, k0, k1, k2, k3, k5, hC, hbm⟩ := T.cls
  unfold PySem.W.clsIn
  rw [hC]
  exact ⟨_, rfl⟩
theorem call_mwV {prog : Program} {w : World} {A : Around} {E : Value → Shared → Prop} {h : Heap} {g : Array GenState} {d : Drawn} {t : Nat} {os : OsState} {nm q : Str} {C N : Addr} {bs bm : List Value} {hdct : Bool} {sn : List Str} {sub : List Value} {ab : Bool} {col : Option Bool} {dd : Option Addr} {k0 k1 k2 k3 k5 : Option Value}
    {u e t0 : Addr} {rest : List Value} {Q : Value → Shared → Prop} (hC : h.get? C = some (excClassObj nm q C N bs bm hdct sn sub ab col dd k0 k1 k2 k3 k5 "ValueError.__new__")) (he : h.get? e = some (HandSPX.excO C t0)) (hu : h.get? u = some (kxs_mw "ValueError.__init__" e)) (hrest : rest.length ≤ sizeLine)
    (hq : ∀ h' t1, (∀ b o, b ≠ e → h.get? b = some o → h'.get? b = some o) → h'.get? e = some (HandSPX.excO C t1) → Q .none ⟨h', g, d, t, os⟩) : wpAny (model prog w) A (call (.ref u) rest) Q E ⟨h, g, d, t, os⟩ := by
  refine wpAny_call (codeAny_of_tree ?_)
  show wpAny _ A.in1 (callAny (.ref u) ⟨rest, []⟩) _ _ _
  simp only [callAny]
  refine wpAny_bind (wpAny_load hu ?_)
  simp only [kxs_mw, show (Value.type "method-wrapper" == Value.type "method" || Value.type "method-wrapper" == Value.type "builtin_function_or_method" || Value.type "method-wrapper" == Value.type "method-wrapper") = true by decide, if_true]
  refine W.KFB.if_so (by decide) ?_
  refine wpAny_bind (ESX.check_bound F.excBase_ValueError hC he rfl ?_)
  refine wpAny_bind (wpAny_pure (wpAny_pure ?_))
  refine ⟨Code.quiet_builtin _ (by decide +kernel), codeAny_builtin F.excBase_ValueError.initEntry ?_⟩
  rw [Around.under_plainId F.excBase_ValueError.init.plain _]
  wp_walk
  refine hq _ h.objs.size (fun b o hb ho => ?_) ?_
  · rw [Heap.get?_update_other _ _ (Ne.symm hb)]
    exact Heap.get?_push_of_some _ ho
  · rw [Heap.get?_update_self _ (Heap.get?_push_of_some _ he) rfl]
    rfl
section
variable {X : Cx} {pins : List (Addr × Obj)} {σ : L2.St} {H : Hp} {s : Shared}
theorem exc_first {C f c cc a : Addr} {fd : FuncData} {body : List Stmt} {p0 p1 p2 apos cpos pos : Pos} {j : Nat} {txt : Str} {ar : Arg} {pl : Sem Bool} (F : ExF X.prog X.K C f c cc fd) (I : L2.Inv X pins σ H s)
    (hfu : X.env.func = some f) (hco : X.env.code = .ref c) (hcl : X.env.cells.lookup ("__class__" : Str) = some cc) (hks : X.env.kindOf "super" = some .globalImplicit) (hkc : X.env.kindOf "__class__" = some .free)
    (hp : (fd.params.posonlyargs ++ fd.params.args).head? = some ar) (hN : X.N[0]? = some ar.arg) (hka : X.env.kindOf ar.arg = some .local) (h0 : σ[0]? = some (some (.ref a))) (hm : X.mg "super" = none) (ea : H a = some (exo a C none))
    (hi : interactive X.env = false) (hs : swapsWith (.Call (.Attribute (.Call (.Name "super" p0) [] [] p1) "__init__" apos) [.Constant (.str txt) j p2] [] cpos) none pos.line X.env = pure false)
    (hmc : eval (.Call (.Attribute (.Call (.Name "super" p0) [] [] p1) "__init__" apos) [.Constant (.str txt) j p2] [] cpos) X.env = (do
      let ov ← attributeBase (.Call (.Name "super" p0) [] [] p1) "__init__" X.env (eval (.Call (.Name "super" p0) [] [] p1) X.env)
      standAt apos.atName
      let (f, first) ← holding [ov] (getMethod ov "__init__" pl)
      callWith cpos f first (backTo cpos (starEach [.Constant (.str txt) j p2] X.env)) []))
    (he : starEach [.Constant (.str txt) j p2] X.env = (false, eval (.Constant (.str txt) j p2) X.env) :: starEach [] X.env) (hpl : (backTo cpos (starEach [] X.env)).any (·.1) = false) :
    _root_.PySem.wpAt (model X.prog X.w) X.A (.func body X.env) (exec (.Expr (.Call (.Attribute (.Call (.Name "super" p0) [] [] p1) "__init__" apos) [.Constant (.str txt) j p2] [] cpos) pos) X.env) (fun fl s' => fl = .next ∧ L2.Inv X pins σ H s') X.xe s := by
  obtain ⟨oc, od, osl, hf⟩ := F.fn
  obtain ⟨ccl, cdd, vs, ccs, file, tf, hcode, hvs, hfile⟩ := F.code
  obtain ⟨cl, cld, csl, hcell⟩ := F.cell
  obtain ⟨nm, q, N, bs, bm, sn, sub, ab, col, dd, k0, k1, k2, k3, k5, hC, hbm⟩ := F.oex.cls
  have K1 := I.kIn
  refine ks_wpAt_Expr_any ?_ hi hs
  refine ks_wpAt_MethodCall (pl := pl) ?_ hmc
  refine ks_wpAt_super_base hks hkc (by decide) hfu (K1 _ _ hf) rfl hp hco (K1 _ _ hcode) rfl hvs hfile F.top ?_
  obtain ⟨mb, b1, b2⟩ := I.mod.blt
  refine ks_loadName_global I.ok.kind hks (Calls.loadGlobal_builtin (by rw [I.ok.glob]; exact I.mod.glob.keeps I.bk) hm (by rw [I.ok.blt]; exact b1.keeps I.bk) ((b2 "super" (by decide)).trans boot_super) ⟨rfl, ?_⟩)
  refine wpAny_loadName_free I.ok.kind hkc hcl ⟨_, K1 _ _ hcell, rfl⟩ ?_
  obtain ⟨m, hn, hl⟩ := I.loc
  obtain ⟨u, ru, lk⟩ := hl 0 ar.arg (.ref a) hN h0 (.inl hka)
  obtain rfl : u = .ref a := ru
  have hmv : m ar.arg = some (.ref a) := by
    rcases lk with ⟨_, z⟩ | ⟨z | z, _⟩
    · exact z
    · rw [hka] at z; cases z
    · rw [hka] at z; cases z
  refine wpAny_loadName_local I.ok.kind hka hn hmv ?_
  obtain ⟨hp', g, d, t, os⟩ := s
  obtain ⟨t1, hx⟩ := exo_at I.hok ea
  have hC' := K1 _ _ hC
  refine ks_wpAny_isType_cls hC' rfl ⟨rfl, ?_⟩
  refine ks_wpAny_call_super hC' rfl hx rfl (fun _ z => by cases z) (looks_mroIn K1 F.subC) fun h1 e1 k1 => ?_
  have I1 : L2.Inv X pins σ H ⟨h1, g, d, t, os⟩ := I.kept (t' := t) k1
  have K2 := I1.kIn
  obtain ⟨cd, hcd⟩ := clsIn_of F.oex
  have hsup := F.sup
  unfold ks_superIn at hsup
  rw [hcd] at hsup
  have hInst : Looks (model X.prog X.w) h1 (isInstance (.ref a) (.type "ValueError")) true := by
    have LT : Looks (model X.prog X.w) h1 (typeOf (.ref a)) (.ref C) := fun A Q E s k q => wpAny_typeOf_ref (k _ _ (k1 _ _ hx)) q
    exact LT.andThen (looks_subIn K2 F.subV)
  have hne : a ≠ C := fun z => by
    rw [z, hC'] at hx
    cases hx
  refine kxs_getMethod kxs_ValueError e1 (looks_opaque K2 F.opq) (l₀ := cd.mro) (fun A Q E s k q => wpAny_bind ((looks_clsIn K2 hcd) A _ E s k (wpAny_pure q))) rfl K2 hsup hInst hne (by decide) ?_
  have k2 : ∀ b o, h1.get? b = some o → (h1.push (kxs_mw "ValueError.__init__" a)).get? b = some o := fun b o e => Heap.get?_push_of_some _ e
  have I2 : L2.Inv X pins σ H ⟨h1.push (kxs_mw "ValueError.__init__" a), g, d, t + 1, os⟩ := I1.kept (t' := t + 1) k2
  have hu : (h1.push (kxs_mw "ValueError.__init__" a)).get? h1.objs.size = some (kxs_mw "ValueError.__init__" a) := Heap.get?_push_at rfl rfl
  refine kxs_callWith (i := "ValueError.__init__") (x := a) ?_ ?_
  · rw [he]
    show (false || (backTo cpos (starEach [] X.env)).any (·.1)) = false
    rw [hpl]; rfl
  rw [he]
  refine Calls.evalArgs_plain ?_
  refine Calls.spliced_cons (Calls.Constant_str (k := j) (pos := p2) (Calls.spliced_nil ⟨hu, ?_⟩))
  obtain ⟨t2, hx2⟩ := exo_at (I2.tok (t + 2)).hok ea
  refine call_mwV (I2.kIn _ _ hC) hx2 hu (by show 1 ≤ sizeLine; decide) fun h' t3 k3 hx3 => ⟨rfl, ?_⟩
  have J := (I2.tok (t + 2)).write (t' := t + 2) (x := a) (e := a) (o := exo a C none) (by rw [ea]; exact True.intro) (.inl rfl) k3 ⟨_, hx3⟩ (exo_ok hx3)
  have eu : upd H a (exo a C none) = H := by
    funext b
    by_cases hb : b = a
    · rw [hb, upd_same, ea]
    · rw [upd_ne hb]
  rw [eu] at J
  exact J
end
abbrev nfE (name qual : Str) (params : Arguments) (body : List Stmt) (scope : Scope) (cc c : Addr) : NdefX.NF := ⟨name, qual, params, body, scope, [("__class__", cc)], c⟩
abbrev fdE (name qual : Str) (params : Arguments) (body : List Stmt) (scope : Scope) (cc c : Addr) (doc pm ct : Value) (an : Option Addr) : FuncData := PySem.W.fnX name qual params body scope [("__class__", cc)] .none .none doc pm an (.ref c) ct
theorem fn_exc {CX : CXT} {P : Program} {w : World} {K : PySem.W.Frag} {mg : Str → Option Value} {base : Heap} {k : Nat} {f c cc C : Addr} {name qual : Str} {params : Arguments} {rest : List Stmt} {scope : Scope} {doc pm ct : Value} {an : Option Addr} {N ps : List Str} {sp : Sp} {ar : Arg} {pl : Sem Bool}
    {p0 p1 p2 apos cpos pos : Pos} {j : Nat} {txt : Str}
    (F : ExF P K C f c cc (fdE name qual params (.Expr (.Call (.Attribute (.Call (.Name "super" p0) [] [] p1) "__init__" apos) [.Constant (.str txt) j p2] [] cpos) pos :: rest) scope cc c doc pm ct an))
    (hcd : PySem.W.codeIn K (.ref c) qual = true) (S : NdefX.NScope N ps ["__class__"] scope) (len : ∀ vs H Q E, sp vs H Q E → vs.length = ps.length) (hks : scope.names.lookup ("super" : Str) = some .globalImplicit)
    (hp : (params.posonlyargs ++ params.args).head? = some ar) (hN : N[0]? = some ar.arg) (hka : scope.names.lookup ar.arg = some .local) (hm : mg "super" = none)
    (hline : ∀ L : Addr, interactive (NdefX.envF (nfE name qual params (.Expr (.Call (.Attribute (.Call (.Name "super" p0) [] [] p1) "__init__" apos) [.Constant (.str txt) j p2] [] cpos) pos :: rest) scope cc c) f L) = false ∧ swapsWith (.Call (.Attribute (.Call (.Name "super" p0) [] [] p1) "__init__" apos) [.Constant (.str txt) j p2] [] cpos) none pos.line (NdefX.envF (nfE name qual params (.Expr (.Call (.Attribute (.Call (.Name "super" p0) [] [] p1) "__init__" apos) [.Constant (.str txt) j p2] [] cpos) pos :: rest) scope cc c) f L) = pure false ∧
      eval (.Call (.Attribute (.Call (.Name "super" p0) [] [] p1) "__init__" apos) [.Constant (.str txt) j p2] [] cpos) (NdefX.envF (nfE name qual params (.Expr (.Call (.Attribute (.Call (.Name "super" p0) [] [] p1) "__init__" apos) [.Constant (.str txt) j p2] [] cpos) pos :: rest) scope cc c) f L) = (do
        let ov ← attributeBase (.Call (.Name "super" p0) [] [] p1) "__init__" (NdefX.envF (nfE name qual params (.Expr (.Call (.Attribute (.Call (.Name "super" p0) [] [] p1) "__init__" apos) [.Constant (.str txt) j p2] [] cpos) pos :: rest) scope cc c) f L) (eval (.Call (.Name "super" p0) [] [] p1) (NdefX.envF (nfE name qual params (.Expr (.Call (.Attribute (.Call (.Name "super" p0) [] [] p1) "__init__" apos) [.Constant (.str txt) j p2] [] cpos) pos :: rest) scope cc c) f L))
        standAt apos.atName
        let (g, first) ← holding [ov] (getMethod ov "__init__" pl)
        callWith cpos g first (backTo cpos (starEach [.Constant (.str txt) j p2] (NdefX.envF (nfE name qual params (.Expr (.Call (.Attribute (.Call (.Name "super" p0) [] [] p1) "__init__" apos) [.Constant (.str txt) j p2] [] cpos) pos :: rest) scope cc c) f L))) []))
    (hbody : ∀ (A : Around) (outer : List Env) (s : Shared) (H : Hp) (vs : List V) (Q : VK) (E : XK), sp vs H Q E → ∃ a, vs[0]? = some (.ref a) ∧ H a = some (exo a C none) ∧
      ∃ t, PSs (NdefX.ncx CX P w K mg base N (nfE name qual params (.Expr (.Call (.Attribute (.Call (.Name "super" p0) [] [] p1) "__init__" apos) [.Constant (.str txt) j p2] [] cpos) pos :: rest) scope cc c) f A outer s H E) rest t ∧ t { nx := fun _ H' => Q .non H', rt := Q } (NdefX.startF N vs [none]) H) :
    FnOk P w K mg base CX (k + 1) f (fdE name qual params (.Expr (.Call (.Attribute (.Call (.Name "super" p0) [] [] p1) "__init__" apos) [.Constant (.str txt) j p2] [] cpos) pos :: rest) scope cc c doc pm ct an) ps sp := by
  refine ⟨len, fun A outer s H args us vs Q E hr e0 hb r hsp => ?_⟩
  obtain ⟨oc, od, osl, lk⟩ := F.fn
  obtain ⟨cl, cld, csl, hcell⟩ := F.cell
  have hl := len _ _ _ _ hsp
  have KX : K.In s.heap := e0.mod.kin.keeps fun b o e => (e0.bs b o e).1
  have lim : s.heap.NoLimit := e0.mod.nolimit.keeps fun b o e => (e0.bs b o e).1
  obtain ⟨a, h0, ea, t, ht, hq⟩ := hbody A outer s H vs Q E hsp
  have hcc := e0.mod.kin _ _ hcell
  have CA : NdefX.CellsAt [(("__class__" : Str), cc)] ["__class__"] [none] s.heap H := by
    have one : ∀ (y : Str) (c' : Addr), ([(("__class__" : Str), cc)] : List (Str × Addr)).lookup y = some c' → c' = cc ∧ y = "__class__" := fun y c' e => by
      simp only [List.lookup] at e
      split at e
      · rename_i q
        cases e
        exact ⟨rfl, by simpa using q⟩
      · cases e
    refine ⟨rfl, fun y c' e => ?_, fun x y c' e1 e2 => ?_, fun i y e => ?_⟩
    · obtain ⟨rfl, _⟩ := one y c' e
      exact ⟨(e0.bs _ _ hcc).2, _, _, (e0.bs _ _ hcc).1, rfl⟩
    · rw [(one x c' e1).2, (one y c' e2).2]
    · cases i with
      | zero =>
        simp at e
        subst e
        exact ⟨cc, by simp [List.lookup], fun v z => by simp at z⟩
      | succ i => simp at e
  refine ks_codeAny_call_defAt hr.depth (KX _ _ lk) rfl lim (PySem.W.codeRec_of KX hcd) rfl hb S.nocell (fun ⟨n, v⟩ hy => S.par n (List.of_mem_zip hy).1) (fun h₁ hns hk => ?_) S.co S.gen S.kind
  have I : L2.Inv (NdefX.ncx CX P w K mg base N (nfE name qual params (.Expr (.Call (.Attribute (.Call (.Name "super" p0) [] [] p1) "__init__" apos) [.Constant (.str txt) j p2] [] cpos) pos :: rest) scope cc c) f A outer s H E) [] (NdefX.startF N vs [none]) H { s with heap := h₁, toks := s.toks + (ps.zip us).length } := NdefX.inv_startN S hr.hd e0 hl r CA hns hk
  obtain ⟨hi, hs, hmc⟩ := hline s.heap.objs.size
  have hs0 : (NdefX.startF N vs [none])[0]? = some (some (.ref a)) := by
    unfold NdefX.startF
    cases vs with
    | nil => simp at h0
    | cons v vs => simp at h0; subst h0; simp
  refine ks_wpAt_execs_cons (ks_wpAt_mono (exc_first (X := NdefX.ncx CX P w K mg base N (nfE name qual params (.Expr (.Call (.Attribute (.Call (.Name "super" p0) [] [] p1) "__init__" apos) [.Constant (.str txt) j p2] [] cpos) pos :: rest) scope cc c) f A outer s H E) F I rfl rfl (by simp [NdefX.ncx, List.lookup]) hks (S.frk _ (by simp)) hp hN hka hs0 hm ea hi hs hmc rfl rfl) (fun fl s' z => ?_) fun e s' z => z)
  obtain ⟨rfl, J⟩ := z
  refine wpAt_of_wpAny (wpAny_mono (ht.run [] s' _ H _ J hq) (fun fl s2 hs2 => ?_) fun e s2 z => z)
  have fin : ∀ {σ' : L2.St} {H' : Hp} {v : V} {u : Value}, L2.Inv (NdefX.ncx CX P w K mg base N (nfE name qual params (.Expr (.Call (.Attribute (.Call (.Name "super" p0) [] [] p1) "__init__" apos) [.Constant (.str txt) j p2] [] cpos) pos :: rest) scope cc c) f A outer s H E) [] σ' H' s2 → L2.RelV v u → Q v H' → CE outer P w H s Q u s2 :=
    fun {σ' H' v u} J rv q => ⟨v, H', J.os, J.bare, J.base, J.hok, rv, q⟩
  cases fl with
  | ret u =>
    obtain ⟨v, σ', H', J, rv, q⟩ := hs2
    exact fin J rv q
  | next =>
    obtain ⟨σ', H', J, q⟩ := hs2
    exact fin (v := V.non) (u := Value.none) J rfl q
  | brk =>
    obtain ⟨_, _, _, q⟩ := hs2
    exact False.elim q
  | cont =>
    obtain ⟨_, _, _, q⟩ := hs2
    exact False.elim q
end W3
end

section
namespace W3
open PySem PySem.Spec PyProof.Rows PySem.W
open L2
def spE1 (C : Addr) (f1 : Str) : Sp := fun vs H Q E => ∃ (a : Addr) (y1 : V), vs = [.ref a, y1] ∧ H a = some (exo a C none) ∧ ∀ dx, H dx = none → dx ≠ a → Q .non (upd (upd H dx (exd dx [(f1, y1)])) a (exo a C (some dx)))
section
variable {X : Cx} {q1 q2 q3 q4 r1 r2 r3 r4 : Pos} {sf a1 a2 f1 f2 : Str} {C : Addr}
theorem body1 {σ : L2.St} {H : Hp} {D : Ends} (T : OexC X.K C) (n1 : PySem.W.findIn X.K (.ref C) f1 = some none) (hN0 : X.N[0]? = some sf) (hN1 : X.N[1]? = some a1) (v0 : Vis X.env.scope sf) (v1 : Vis X.env.scope a1) (hd0 : (sf == ("__debug__" : Str)) = false) (hc0 : (sf == ("__classdict__" : Str)) = false) (hd1 : (a1 == ("__debug__" : Str)) = false) (hc1 : (a1 == ("__classdict__" : Str)) = false)
    (hs : swapsWith (.Name a1 q3) (some (.Attribute (.Name sf q1) f1 q2)) q4.line X.env = pure false) {a : Addr} {y1 : V} (e0 : σ[0]? = some (some (.ref a))) (e1 : σ[1]? = some (some y1)) (ea : H a = some (exo a C none)) (q : ∀ dx, H dx = none → dx ≠ a → D.nx σ (upd (upd H dx (exd dx [(f1, y1)])) a (exo a C (some dx)))) :
    ∃ t, PSs X [.Assign [.Attribute (.Name sf q1) f1 q2] (.Name a1 q3) q4] t ∧ t D σ H :=
  ⟨_, pss_one (ps_ost (pe_var (i := 0) hN0 v0 hd0 hc0) (pe_var (i := 1) hN1 v1 hd1 hc1) hs), ⟨y1, e1, .ref a, e0, a, C, rfl, T, n1, .inl ⟨ea, q⟩⟩⟩
end
def ssRaiseX (c : Str) (ns : List Str) (a : SA) : SS := fun σ h => (a σ h).flo σ fun xs h1 => if xs.length = ns.length then .exc c (ns.zip xs).reverse σ h1 else .stk
section
variable {X : Cx} {P : Pq} {W : WX} {e : Expr} {es : List Expr} {ar : SA} {x : Str} {C fI : Addr} {k : Nat} {fd : FuncData} {ps : List Str} {p pos pos' : Pos}
theorem exc_out {m : Mp} {H : Hp} {h : Hh} {σV : L2.St} {σ : St3} {D : Ends} {fs : List (Str × T)} {fv : List (Str × V)} {c : Str} (A : At X.K X.mg P m H σV σ h) (hm : X.mg c = some (.ref C)) (o : OutS X.K X.mg W D m H (.exc c fs σ h)) (r : RF X.K X.mg m H fs fv) {d : Addr} (hd : H d = none) : W (.ref C) (some d) σV (upd H d (.xd fv)) := by
  have E := Ext.garbage (o := .xd fv) A.hr hd
  exact o (.ref C) (some d) σV m _ E (A.sr.ext E) ⟨hm, .inr ⟨d, fv, rfl, upd_same, r.ext E⟩⟩ (A.hr.garbage hd)
theorem ds_raise1 {f1 : Str} (hc : X.calm = true) (tk : Takes X W) (T : OexC X.K C) (iC : PySem.W.findIn X.K (.ref C) "__init__" = some (some (.ref fI))) (tI : PySem.W.typeIn X.K (.ref fI) = some (.type "function"))
    (F1 : FnOk X.prog X.w X.K X.mg X.base (L2.CX X.prog X.w) k fI fd ps (spE1 C f1)) (hr : Room (k + 1) X.A) (hb : Binds X.K fd ps []) (hg : Gl X x) (hm : X.mg x = some (.ref C)) (ha : DA X P W (e :: es) ar)
    (hdb : (x == ("__debug__" : Str)) = false := by decide) (he : starEach (e :: es) X.env = (false, eval e X.env) :: starEach es X.env := by rfl) (hpl : (backTo pos (starEach es X.env)).any (·.1) = false := by rfl) :
    DS X P W (.Raise (some (.Call (.Name x p) (e :: es) [] pos)) none pos') (ssRaiseX x [f1] ar) := by
  refine PS.imp (ps_raise hc tk (pmk_oex T iC tI F1 hr hb .nil (passes_call tk fun _ _ _ _ z => z.elim) hg hm ha hdb he hpl)) fun D σV H ⟨m, h, σ, A, o⟩ => ?_
  refine A.flo (rel1 := RTs X.K X.mg) o fun m1 h1 ts vs H1 E1 r A1 o1 => ?_
  split at o1
  · rename_i hl
    match ts, hl with
    | [t], _ =>
      obtain ⟨v, rfl, rv⟩ := r.one
      refine ⟨by simp, fun a hn => ⟨a, v, rfl, upd_same, fun dx hdx hne => ⟨rfl, dx, [(f1, v)], upd_same, ?_, ?_, ?_⟩⟩⟩
      · rw [upd_ne hne, upd_same]
      · rw [upd_ne hne] at hdx; exact hdx
      · have hdx' : H1 dx = none := by rw [upd_ne hne] at hdx; exact hdx
        have eq : upd (del (upd (upd (upd H1 a (exo a C none)) dx (exd dx [(f1, v)])) a (exo a C (some dx))) a) dx (.xd [(f1, v)]) = upd H1 dx (.xd [(f1, v)]) := by
          funext b
          by_cases hb : b = dx
          · rw [hb, upd_same, upd_same]
          · rw [upd_ne hb, upd_ne hb]
            by_cases hb2 : b = a
            · rw [hb2, del_same, hn]
            · rw [del_ne hb2, upd_ne hb2, upd_ne hb, upd_ne hb2]
        rw [eq]
        exact exc_out A1 hm o1 (.cons rv .nil) hdx'
  · exact False.elim o1
end
end W3
end

section
namespace W3
open PySem PySem.Spec PyProof.Rows
open L2
abbrev Tsu := Addr → Value → Option Addr → TS
def wManyA (K : PySem.W.Frag) (Wout : WX) (D : Ends) : List (Value × Option Nat × Tsu) → WX
  | [] => Wout
  | (c, none, ts) :: r => fun cls d σ H => ∃ b, PySem.W.exmOne K cls c = some b ∧ (b = true → ∀ a, H a = none → ts a cls d D σ H) ∧ (b = false → wManyA K Wout D r cls d σ H)
  | (c, some i, ts) :: r => fun cls d σ H => ∃ b, PySem.W.exmOne K cls c = some b ∧ (b = true → ∀ a, H a = none → ts a cls d { nx := fun σ' H' => D.nx (σ'.set i none) H', rt := D.rt, bk := fun σ' H' => D.bk (σ'.set i none) H', ct := fun σ' H' => D.ct (σ'.set i none) H' } (σ.set i (some (.ref a))) H) ∧ (b = false → wManyA K Wout D r cls d σ H)
inductive HdsA (X : Cx) : List ExceptHandler → List (Value × Option Nat × Tsu) → Prop
  | nil : HdsA X [] []
  | cons {x : Str} {c : Value} {ts : Tsu} {b₀ : Stmt} {suite : List Stmt} {np pos' : Pos} {hds : List ExceptHandler} {l : List (Value × Option Nat × Tsu)} (hc : Names X x c)
      (hsu : ∀ (a : Addr) (oe : Obj) (cls : Value) (d : Option Addr) (pn : List (Addr × Obj)), Zc cls d oe → (∃ vs, oe.data = .fields vs) → PSs (X.suite a ((a, oe) :: pn)) (b₀ :: suite) (ts a cls d)) (r : HdsA X hds l) :
      HdsA X (.ExceptHandler (some (.Name x np)) none (b₀ :: suite) pos' :: hds) ((c, none, ts) :: l)
  | cas {x n : Str} {i : Nat} {c : Value} {ts : Tsu} {b₀ : Stmt} {suite : List Stmt} {np pos' : Pos} {hds : List ExceptHandler} {l : List (Value × Option Nat × Tsu)} (hi : X.N[i]? = some n) (hln : X.env.kindOf n = some .local) (hc : Names X x c)
      (hsu : ∀ (a : Addr) (oe : Obj) (cls : Value) (d : Option Addr) (pn : List (Addr × Obj)), Zc cls d oe → (∃ vs, oe.data = .fields vs) → PSs (X.suite a ((a, oe) :: pn)) (b₀ :: suite) (ts a cls d)) (r : HdsA X hds l) :
      HdsA X (.ExceptHandler (some (.Name x np)) (some n) (b₀ :: suite) pos' :: hds) ((c, some i, ts) :: l)
section
variable {X : Cx} {body : List Stmt} {h₀ : ExceptHandler} {hds : List ExceptHandler} {l : List (Value × Option Nat × Tsu)} {pos : Pos} {tb : WX → TS} {Wout : WX}
theorem ps_tryA (hs : X.stack = X.env :: X.outer) (hf : X.env.frame = some X.env.locals) (hN : X.N.Nodup) (tk : Takes X Wout)
    (hb : ∀ (W : WX) (pn : List (Addr × Obj)) (xe : Value → Shared → Prop), Takes (X.tr pn xe) W → PassesOwn (model X.prog X.w) X.A X.env xe → PSs (X.tr pn xe) body (tb W))
    (hh : HdsA X (h₀ :: hds) l) : PS X (.Try body (h₀ :: hds) [] [] pos) (fun D σ H => tb (wManyA X.K Wout D l) D σ H) := by
  refine ⟨fun pins s σ H D I h => ?_⟩
  have ok := I.ok
  have hfr : X.A.frames = some (X.env :: X.outer) := by rw [ok.frames, hs]
  refine wpAny_Try_except ?_
  refine wpAny_mono ((hb (wManyA X.K Wout D l) (X.pn ++ pins) (fun e s₁ => wpAny (model X.prog X.w) X.A (noteFrame e X.env) (fun _ s₂ => wpAny (model X.prog X.w) X.A (setFlight e none) (fun _ s₃ =>
    wpAny (model X.prog X.w) X.A (handleBy e X.env (h₀ :: hds)) (SP X pins D) X.xe s₃) X.xe s₂) X.xe s₁) (fun u s' xx => ?_) PassesOwn.looking).run [] s σ H D (I.toTry _) h) (fun f s1 hsp => ?_) (fun e s1 he => he)
  · obtain ⟨a, B, sI, pins', σ', H', cls, d, rfl, J', nb, up, sky, na, os, ag, w⟩ := xx
    have J : L2.Inv X pins σ' H' sI := J'.ofTry ok
    have sky' : Sky B (X.env :: X.outer) a (Zc cls d) X.env.locals s'.heap := by rw [← hs]; exact sky
    show wpAny (model X.prog X.w) X.A (noteFrame (.ref a) X.env) _ _ _
    refine Sky.land Zc.steady hfr hf sky' fun h3 fl3 up3 => ?_
    have J3 : L2.Inv X pins σ' H' { s' with heap := h3 } := J.landed nb fl3.1 (up.trans up3) os ag
    obtain ⟨oe3, vs3, he3, hz3, hd3⟩ := fl3.there
    have notFr : ∀ {h : Heap} {o : Obj} {vs : Array Value}, h.FunFrames B (X.env :: X.outer) → h.get? a = some o → o.data = .fields vs → a ∉ frs (X.env :: X.outer) := fun {h o vs} ff e dd hm => by
      obtain ⟨_, o', e', hnf⟩ := ff.mem hm
      rw [e] at e'; cases e'
      exact hnf _ dd
    have nfr := notFr fl3.2.2.1 he3 hd3
    have nL : a ≠ X.env.locals := fun z => nfr (List.mem_filterMap.mpr ⟨X.env, List.mem_cons_self, by rw [hf, z]⟩)
    have nF : a ∉ X.fs := fun hm => by
      obtain ⟨e, he, q⟩ := List.mem_filterMap.mp hm
      exact nfr (List.mem_filterMap.mpr ⟨e, List.mem_cons_of_mem _ he, q⟩)
    have S3 := J3.suite he3 hd3 na nL nF
    have LT : PySem.W.Looks (model X.prog X.w) h3 (typeOf (.ref a)) cls := fun A Q E s k q => wpAny_typeOf_ref (k _ _ he3) (by rw [hz3.1]; exact q)
    have test : ∀ {x : Str} {c : Value} {np : Pos} {Q : Value → Shared → Prop} {E : Value → Shared → Prop}, Names X x c → Q c { s' with heap := h3 } → wpAny (model X.prog X.w) (X.A.mark (some (.ref a))) (eval (.Name x np) X.env) Q E { s' with heap := h3 } := fun {x c np Q E} hc q => by
      obtain ⟨hg, hdbg, hm | ⟨hm, hv, hnn⟩⟩ := hc
      · exact ld_glob (X := X.suite a ((a, oe3) :: (X.pn ++ pins))) S3 hg hm q hdbg
      · exact ld_blt (X := X.suite a ((a, oe3) :: (X.pn ++ pins))) S3 hg hm hv q hnn hdbg
    have go : ∀ {hds' : List ExceptHandler} {l' : List (Value × Option Nat × Tsu)}, HdsA X hds' l' → wManyA X.K Wout D l' cls d σ' H' →
        wpAny (model X.prog X.w) X.A (handleBy (.ref a) X.env hds') (SP X pins D) X.xe { s' with heap := h3 } := by
      intro hds' l' hk
      induction hk with
      | nil =>
        intro w
        refine wpAny_handleBy_nil ?_
        obtain ⟨k1, k2, k3, oe, vs, T, oT, ts', he, hz, hd, h1, hr⟩ := id fl3
        unfold PySem.passOn
        refine wpAny_bind (wpAny_field he hd h1 ?_)
        rw [if_neg (show ¬ ((Value.ref T == Value.none) = true) from by simp)]
        have fin : wpAny (model X.prog X.w) X.A (setFlight (.ref a) X.env.frame) (fun _ s4 => wpAny (model X.prog X.w) X.A (throw (.ref a) : Sem Flow) (SP X pins D) X.xe s4) X.xe { s' with heap := h3 } := by
          rw [hf]
          refine HandSPX.setFlight_upZ fl3 fun h4 hh4 up4 => wpAny_throw (tk _ _ ?_)
          exact ⟨a, B, sI, pins, σ', H', cls, d, rfl, J, nb, (up.trans up3).trans up4, .inr (.inr (by rw [hs]; exact hh4)), na, os, ag, w⟩
        first
          | exact wpAny_bind (wpAny_pure (wpAny_bind fin))
          | exact wpAny_bind fin
      | @cons x c ts b₀ suite np pos' hds2 l2 hc hsu r ih =>
        intro w
        obtain ⟨b, hb1, hyes, hno⟩ := w
        refine wpAny_handleBy_cons (codeAny_handlers_test ?_) (by intro q; cases q)
        have LM := PySem.W.exm_one (M := model X.prog X.w) (J3.kIn) LT hb1
        refine test hc (LM.here ?_)
        cases b with
        | true =>
          refine codeAny_handlers_suite ?_
          refine HandSPX.lands_againZ fl3 fun h4 fl4 up4 => ?_
          have J4 : L2.Inv X pins σ' H' { s' with heap := h4 } := J.landed nb fl4.1 ((up.trans up3).trans up4) os ag
          obtain ⟨oe4, vs4, he4, hz4, hd4⟩ := fl4.there
          have S4 := J4.suite he4 hd4 na nL nF
          refine wpAny_mono ((hsu a oe4 cls d (X.pn ++ pins) hz4 ⟨_, hd4⟩).run [] _ _ H' _ S4 (hyes rfl a na)) (fun f s6 hsp => ?_) (fun _ _ z => False.elim z)
          cases f with
          | next =>
            obtain ⟨σ6, H6, S6, q6⟩ := hsp
            exact ⟨_, _, S6.unsuite ok, q6⟩
          | brk =>
            obtain ⟨σ6, H6, S6, q6⟩ := hsp
            exact ⟨_, _, S6.unsuite ok, q6⟩
          | cont =>
            obtain ⟨σ6, H6, S6, q6⟩ := hsp
            exact ⟨_, _, S6.unsuite ok, q6⟩
          | ret u =>
            obtain ⟨v6, σ6, H6, S6, r6, q6⟩ := hsp
            exact ⟨_, _, _, S6.unsuite ok, r6, q6⟩
        | false =>
          show wpAny _ X.A (handleBy (.ref a) X.env hds2) _ _ _
          exact ih (hno rfl)
      | @cas x n i c ts b₀ suite np pos' hds2 l2 hi hln hc hsu r ih =>
        intro w
        obtain ⟨b, hb1, hyes, hno⟩ := w
        have hloc : Loc X.env.scope n := .inl hln
        refine wpAny_handleBy_cons (codeAny_handlers_test ?_) (by intro q; cases q)
        have LM := PySem.W.exm_one (M := model X.prog X.w) (J3.kIn) LT hb1
        refine test hc (LM.here ?_)
        cases b with
        | true =>
          refine codeAny_handlers_suite_as ?_
          refine HandSPX.lands_againZ fl3 fun h4 fl4 up4 => ?_
          have J4 : L2.Inv X pins σ' H' { s' with heap := h4 } := J.landed nb fl4.1 ((up.trans up3).trans up4) os ag
          obtain ⟨oe4, vs4, he4, hz4, hd4⟩ := fl4.there
          have S4 := J4.suite he4 hd4 na nL nF
          refine store_ok (X := X.suite a ((a, oe4) :: (X.pn ++ pins))) (v := .ref a) S4 hN hi hloc rfl (fun s5 S5 => ?_) (.inr hln)
          refine wpAny_mono ((hsu a oe4 cls d (X.pn ++ pins) hz4 ⟨_, hd4⟩).run [] s5 _ H' _ S5 (hyes rfl a na)) (fun f s6 hsp => ?_) (fun _ _ z => False.elim z)
          have end_ : ∀ {σ6 : L2.St} {H6 : Hp} {Q : Shared → Prop}, L2.Inv (X.suite a ((a, oe4) :: (X.pn ++ pins))) [] σ6 H6 s6 → (∀ s7, L2.Inv X pins (σ6.set i none) H6 s7 → Q s7) →
              wpAny (model X.prog X.w) X.A (do bindName X.env n .none; unbindBehindTheSuite X.env n pos') (fun _ s7 => Q s7) X.xe s6 := fun {σ6 H6 Q} S6 hq => gone_ok (S6.unsuite ok) hN hi hln hq
          cases f with
          | next =>
            obtain ⟨σ6, H6, S6, q6⟩ := hsp
            exact end_ S6 fun s7 J7 => ⟨_, _, J7, q6⟩
          | brk =>
            obtain ⟨σ6, H6, S6, q6⟩ := hsp
            exact end_ S6 fun s7 J7 => ⟨_, _, J7, q6⟩
          | cont =>
            obtain ⟨σ6, H6, S6, q6⟩ := hsp
            exact end_ S6 fun s7 J7 => ⟨_, _, J7, q6⟩
          | ret u =>
            obtain ⟨v6, σ6, H6, S6, r6, q6⟩ := hsp
            exact end_ S6 fun s7 J7 => ⟨_, _, _, J7, r6, q6⟩
        | false =>
          show wpAny _ X.A (handleBy (.ref a) X.env hds2) _ _ _
          exact ih (hno rfl)
    exact go hh w
  · cases f with
    | next =>
      obtain ⟨σ', H', J', q⟩ := hsp
      exact wpAny_execs_nil ⟨σ', H', J'.ofTry ok, q⟩
    | brk =>
      obtain ⟨σ', H', J', q⟩ := hsp
      exact ⟨σ', H', J'.ofTry ok, q⟩
    | cont =>
      obtain ⟨σ', H', J', q⟩ := hsp
      exact ⟨σ', H', J'.ofTry ok, q⟩
    | ret u =>
      obtain ⟨v, σ', H', J', r, q⟩ := hsp
      exact ⟨v, σ', H', J'.ofTry ok, r, q⟩
end
abbrev XSub := List (Str × List Str)
structure Hdl where
  x : Str
  sl : Option Nat
  k : Str → List (Str × T) → SS
def clrF : Option Nat → Flo → Flo
  | none, .exc _ _ _ _ => .stk
  | none, r => r
  | some i, .nx σ h => .nx (σ.set i none) h
  | some i, .bk σ h => .bk (σ.set i none) h
  | some i, .ct σ h => .ct (σ.set i none) h
  | some _, .rt t h => .rt t h
  | some _, _ => .stk
def slSet : Option Nat → St3 → St3 | none, σ => σ | some i, σ => σ.set i none
def tryGo (XS : XSub) : List Hdl → Str → List (Str × T) → SS
  | [], c, fs => fun σ h => .exc c fs σ h
  | hd :: r, c, fs => fun σ h => match XS.lookup c with
    | none => .stk
    | some ss => if ss.contains hd.x then clrF hd.sl (hd.k c fs (slSet hd.sl σ) h) else tryGo XS r c fs σ h
def ssTryX (XS : XSub) (a : SS) (hs : List Hdl) : SS := fun σ h => match a σ h with
  | .exc c fs σ1 h1 => tryGo XS hs c fs σ1 h1
  | r => r
def tHG {α β : Type} (K : PySem.W.Frag) (mg : Str → Option Value) (sl : Option Nat) (a : Addr) (c : Str) (fs : List (Str × T)) (cls : Value) (d : Option Addr) (rel : Mp → Hp → α → β → Prop) (se : St3 → Hh → Res α) : L2.St → Hp → (β → Hp → Prop) → Prop := fun σV H Q =>
  ∃ m h σ, At K mg PqT m H σV σ h ∧ (∀ i, sl = some i → i < σV.length → σV[i]? = some (some (.ref a))) ∧ XR K mg m H c fs cls d ∧ Out K mg rel WF σV Q m H (se σ h)
def tH (K : PySem.W.Frag) (mg : Str → Option Value) (sl : Option Nat) (a : Addr) (c : Str) (fs : List (Str × T)) (cls : Value) (d : Option Addr) (ss : SS) : TS := fun D σV H =>
  ∃ m h σ, At K mg PqT m H σV σ h ∧ (∀ i, sl = some i → i < σV.length → σV[i]? = some (some (.ref a))) ∧ XR K mg m H c fs cls d ∧ OutS K mg WF D m H (ss σ h)
def HOk (X : Cx) (XS : XSub) (sl : Option Nat) (suite : List Stmt) (k : Str → List (Str × T) → SS) : Prop := ∀ (a : Addr) (oe : Obj) (cls : Value) (d : Option Addr) (pn : List (Addr × Obj)) (c : Str) (ss : List Str) (fs : List (Str × T)), Zc cls d oe → (∃ vs, oe.data = .fields vs) → XS.lookup c = some ss → X.mg c = some cls →
  PSs (X.suite a ((a, oe) :: pn)) suite (tH X.K X.mg sl a c fs cls d (k c fs))
def Catches (X : Cx) (XS : XSub) (x : Str) (cv : Value) : Prop := ∀ c ss cls, XS.lookup c = some ss → X.mg c = some cls → PySem.W.exmOne X.K cls cv = some (ss.contains x)
inductive DHs (X : Cx) (XS : XSub) : List ExceptHandler → List Hdl → Prop
  | nil : DHs X XS [] []
  | cons {x : Str} {cv : Value} {b₀ : Stmt} {suite : List Stmt} {np pos' : Pos} {hds : List ExceptHandler} {l : List Hdl} {k : Str → List (Str × T) → SS} (hc : Names X x cv) (hx : Catches X XS x cv) (hk : HOk X XS none (b₀ :: suite) k) (r : DHs X XS hds l) :
      DHs X XS (.ExceptHandler (some (.Name x np)) none (b₀ :: suite) pos' :: hds) (⟨x, none, k⟩ :: l)
  | cas {x n : Str} {i : Nat} {cv : Value} {b₀ : Stmt} {suite : List Stmt} {np pos' : Pos} {hds : List ExceptHandler} {l : List Hdl} {k : Str → List (Str × T) → SS} (hi : X.N[i]? = some n) (hln : X.env.kindOf n = some .local) (hc : Names X x cv) (hx : Catches X XS x cv)
      (hk : HOk X XS (some i) (b₀ :: suite) k) (r : DHs X XS hds l) :
      DHs X XS (.ExceptHandler (some (.Name x np)) (some n) (b₀ :: suite) pos' :: hds) (⟨x, some i, k⟩ :: l)
section
variable {X : Cx} {P : Pq} {W : WX}
theorem SR.setN {m : Mp} {H : Hp} {σ : St3} {σV : L2.St} (r : SR X.K X.mg m H σ σV) (i : Nat) (o : Option V) : SR X.K X.mg m H (σ.set i none) (σV.set i o) := by
  refine ⟨by rw [List.length_set, List.length_set]; exact r.1, fun j u e => ?_⟩
  by_cases hj : i = j
  · subst hj
    by_cases hi : i < σ.length
    · rw [List.getElem?_set_self hi] at e; cases e
    · rw [List.getElem?_eq_none (by rw [List.length_set]; omega)] at e; cases e
  · rw [List.getElem?_set_ne hj] at e
    obtain ⟨w, e2, q2⟩ := r.2 j u e
    exact ⟨w, by rw [List.getElem?_set_ne hj]; exact e2, q2⟩
def tsOf (X : Cx) (XS : XSub) (sl : Option Nat) (k : Str → List (Str × T) → SS) : Tsu := fun a cls d D σV H => ∃ c ss fs, XS.lookup c = some ss ∧ X.mg c = some cls ∧ tH X.K X.mg sl a c fs cls d (k c fs) D σV H
theorem hok_ps {XS : XSub} {sl : Option Nat} {suite : List Stmt} {k : Str → List (Str × T) → SS} (hk : HOk X XS sl suite k) (a : Addr) (oe : Obj) (cls : Value) (d : Option Addr) (pn : List (Addr × Obj)) (hz : Zc cls d oe) (hv : ∃ vs, oe.data = .fields vs) :
    PSs (X.suite a ((a, oe) :: pn)) suite (tsOf X XS sl k a cls d) :=
  ⟨fun pins s σ H D I ⟨c, ss, fs, h1, h2, h⟩ => (hk a oe cls d pn c ss fs hz hv h1 h2).run pins s σ H D I h⟩
theorem dhs_go {XS : XSub} {D : Ends} : ∀ {hds : List ExceptHandler} {l : List Hdl}, DHs X XS hds l → ∃ lv : List (Value × Option Nat × Tsu), HdsA X hds lv ∧ ∀ {c : Str} {fs : List (Str × T)} {σ1 : St3} {h1 : Hh} {m : Mp} {H : Hp} {cls : Value} {d : Option Addr} {σV : L2.St},
    SR X.K X.mg m H σ1 σV → XR X.K X.mg m H c fs cls d → HR X.K X.mg m h1 H → OutS X.K X.mg W D m H (tryGo XS l c fs σ1 h1) → wManyA X.K W D lv cls d σV H
  | _, _, .nil => ⟨[], .nil, fun {c fs σ1 h1 m H cls d σV} sr xr hr o => o cls d σV m H (Ext.refl _ _) sr xr hr⟩
  | _, _, .cons (k := k) hc hx hk r => by
    obtain ⟨lv, hl, go⟩ := dhs_go (D := D) r
    refine ⟨_ :: lv, .cons hc (fun a oe cls d pn hz hv => hok_ps hk a oe cls d pn hz hv) hl, fun {c fs σ1 h1 m H cls d σV} sr xr hr o => ?_⟩
    unfold tryGo at o
    dsimp only at o
    split at o
    · exact False.elim o
    · rename_i ss hss
      refine ⟨_, hx c ss cls hss xr.1, fun hb a na => ⟨c, ss, fs, hss, xr.1, m, h1, σ1, ⟨sr, hr, trivial⟩, (fun i z => nomatch z), xr, ?_⟩, fun hb => go sr xr hr ?_⟩
      · rw [if_pos hb] at o
        show OutS X.K X.mg WF D m H (k c fs σ1 h1)
        have o' : OutS X.K X.mg W D m H (clrF none (k c fs σ1 h1)) := o
        cases e : k c fs σ1 h1 with
        | nx σ2 h2 => rw [e] at o'; exact o'
        | rt t h2 => rw [e] at o'; exact o'
        | bk σ2 h2 => rw [e] at o'; exact o'
        | ct σ2 h2 => rw [e] at o'; exact o'
        | exc _ _ _ _ => rw [e] at o'; exact False.elim o'
        | stk => rw [e] at o'; exact o'
      · rw [if_neg (by rw [hb]; exact Bool.false_ne_true)] at o; exact o
  | _, _, .cas (k := k) (i := i) hi hln hc hx hk r => by
    obtain ⟨lv, hl, go⟩ := dhs_go (D := D) r
    refine ⟨_ :: lv, .cas hi hln hc (fun a oe cls d pn hz hv => hok_ps hk a oe cls d pn hz hv) hl, fun {c fs σ1 h1 m H cls d σV} sr xr hr o => ?_⟩
    unfold tryGo at o
    dsimp only at o
    split at o
    · exact False.elim o
    · rename_i ss hss
      refine ⟨_, hx c ss cls hss xr.1, fun hb a na => ⟨c, ss, fs, hss, xr.1, m, h1, σ1.set i none, ⟨sr.setN i _, hr, trivial⟩, (fun i' z hlt => ?_), xr, ?_⟩, fun hb => go sr xr hr ?_⟩
      · cases z
        rw [List.length_set] at hlt
        rw [List.getElem?_set_self hlt]
      · rw [if_pos hb] at o
        show OutS X.K X.mg WF _ m H (k c fs (σ1.set i none) h1)
        have o' : OutS X.K X.mg W D m H (clrF (some i) (k c fs (σ1.set i none) h1)) := o
        cases e : k c fs (σ1.set i none) h1 with
        | nx σ2 h2 => rw [e] at o'; exact fun σV2 m2 H2 E2 s2 R2 => o' _ m2 H2 E2 (s2.setN i none) R2
        | rt t h2 => rw [e] at o'; exact o'
        | bk σ2 h2 => rw [e] at o'; exact fun σV2 m2 H2 E2 s2 R2 => o' _ m2 H2 E2 (s2.setN i none) R2
        | ct σ2 h2 => rw [e] at o'; exact fun σV2 m2 H2 E2 s2 R2 => o' _ m2 H2 E2 (s2.setN i none) R2
        | exc _ _ _ _ => rw [e] at o'; exact False.elim o'
        | stk => rw [e] at o'; exact o'
      · rw [if_neg (by rw [hb]; exact Bool.false_ne_true)] at o; exact o
theorem ds_try {XS : XSub} {body : List Stmt} {h₀ : ExceptHandler} {hds : List ExceptHandler} {x1 : SS} {l : List Hdl} {pos : Pos} (hs : X.stack = X.env :: X.outer) (hf : X.env.frame = some X.env.locals) (hN : X.N.Nodup) (tk : Takes X W)
    (hb : ∀ (W : WX) (pn : List (Addr × Obj)) (xe : Value → Shared → Prop), Takes (X.tr pn xe) W → PassesOwn (model X.prog X.w) X.A X.env xe → DSs (X.tr pn xe) P W body x1) (hh : DHs X XS (h₀ :: hds) l) :
    DS X P W (.Try body (h₀ :: hds) [] [] pos) (ssTryX XS x1 l) := by
  refine ⟨fun pins s σV H D I h => ?_⟩
  obtain ⟨lv, hl, go⟩ := dhs_go (W := W) (D := D) hh
  refine (ps_tryA (tb := fun W => tS X.K X.mg P W x1) hs hf hN tk hb hl).run pins s σV H D I ?_
  obtain ⟨m, h, σ, A, o⟩ := h
  refine ⟨m, h, σ, A, ?_⟩
  unfold ssTryX at o
  cases e : x1 σ h with
  | nx σ1 h1 => rw [e] at o; exact o
  | rt t h1 => rw [e] at o; exact o
  | bk σ1 h1 => rw [e] at o; exact o
  | ct σ1 h1 => rw [e] at o; exact o
  | stk => rw [e] at o; exact o
  | exc c fs σ1 h1 =>
    rw [e] at o
    exact fun cls d σV' m' H' E sr xr hr => go sr xr hr (OutS.ext E o)
end
end W3
end

section
namespace PySem.W
open PySem PySem.Spec PySem.Calls PyProof.Rows
section
variable {prog : Program} {w : World} {A : Around} {E : Value → Shared → Prop} {s : Shared} {K : Frag} {x D : Addr} {ox : Obj} {od : Option Obj}
theorem findObj_dataW {C : Addr} {name : Str} {a g : Value} (hc : (clsIn K C).isSome = true) (ha : findIn K (.ref C) name = some (some a)) (hg : specialIn K a "__get__" = some (some g)) (ht : takesIn K a = some true) : findObj K C od name = some (.bind g a) := by
  obtain ⟨cd, hc⟩ := Option.isSome_iff_exists.mp hc
  unfold findObj
  rw [hc, Option.bind_some, ha, Option.bind_some]
  simp [hg, ht]
theorem kin_classW {Q : Option Value → Shared → Prop} (hga : findIn K (.ref D) "__getattribute__" = some (some (.builtin "BaseException.__getattribute__"))) (hgt : findIn K (.ref D) "__getattr__" = some none) (hsub : subIn K (.ref D) (.type "BaseException") = some true)
    (hdct : hasDictIn K D = true) (ha : findIn K (.ref D) "__class__" = some (some (.builtin "object.__class__")))
    (hn : specialIn K (.builtin "object.__class__") "__get__" = some (some (.builtin "getset_descriptor.__get__"))) (htk : takesIn K (.builtin "object.__class__") = some true) (hm : mroIn K D (.type "object") = some true)
    (X : K.In s.heap) (I : InstAt s.heap x ox D od) (h : Q (some (.ref D)) { s with toks := s.toks + 1 }) : wpAny (model prog w) A (getAttr? (.ref x) "__class__") Q E s := by
  have hf : findObj K D od "__class__" = some (.bind (.builtin "getset_descriptor.__get__") (.builtin "object.__class__")) := findObj_dataW (by obtain ⟨cd, hc, _⟩ := any_some hdct; rw [hc]; rfl) ha hn htk
  obtain ⟨hp, g, d, t, os⟩ := s
  have L0 := I.type (M := model prog w)
  have L1 := looks_findIn (M := model prog w) X hga
  have L2 := looks_findIn (M := model prog w) X hgt
  have L3 := looks_find (M := model prog w) X I hf
  have sub : Looks (model prog w) hp (isInstance (.ref x) (.type "BaseException")) true := L0.andThen (looks_subIn X hsub)
  have hx0 : (false && onTheHeap (Value.builtin "BaseException.__getattribute__")) = false := rfl
  have hx2 : (Value.builtin "BaseException.__getattribute__" == Value.builtin "object.__getattribute__") = false := by decide +kernel
  have hx1 : (onTheHeap (Value.ref D) && Value.builtin "BaseException.__getattribute__" == Value.builtin "object.__getattribute__") = false := by rw [hx2]; rfl
  unfold getAttr? getAttrBy? getAttrBy
  refine wpAny_bind (wpAny_mkText (wpAny_bind (wpAny_attempt (wpAny_holding (wpAny_bind (L0.at (wpAny_bind (L1.at ?_))))))))
  show wpAny _ _ (if (onTheHeap (Value.ref D) && Value.builtin "BaseException.__getattribute__" == Value.builtin "object.__getattribute__") = true then _ else _) _ _ _
  rw [hx1, if_neg Bool.false_ne_true]
  unfold getAttrByItsOwn hookBefore
  refine wpAny_bind ?_
  rw [if_pos (show onTheHeap (Value.ref D) = true from rfl)]
  refine L2.at ?_
  refine wpAny_bind (wpAny_attempt (wpAny_holding ?_))
  unfold callGetattribute
  rw [hx0, if_neg Bool.false_ne_true]
  unfold boundAndCalled
  rw [PySem.F.excAttr_ValueError.ga.bind (.ref x)]
  refine wpAny_bind (wpAny_pure ?_)
  show wpAny _ _ (call (.builtin "BaseException.__getattribute__") [.ref x, .str "__class__" t]) _ _ _
  refine wpAny_call (codeAny_call_builtin PySem.F.excAttr_ValueError.ga.plain PySem.F.entry_bexc_ga ?_)
  refine @check_slot (model prog w) _ _ ⟨hp, g, d, t + 1, os⟩ "BaseException.__getattribute__" "BaseException" "__getattribute__" (.ref x) [.str "__class__" t] [] _ (by decide +kernel) (by decide +kernel) sub (PySem.F.args_bexc_ga (.ref x) (.str "__class__" t)) ?_
  unfold Builtin.«object.__getattribute__»
  refine wpAny_bind (wpAny_of_eq (a := ((Value.ref x : Value), [Value.str "__class__" t])) (by first | rfl | (simp only [slotArgs]; rfl)) ?_)
  refine wpAny_bind (wpAny_pure (wpAny_bind (L0.at (wpAny_bind (L3.at ?_)))))
  show wpAny _ _ (holding [Value.builtin "object.__class__"] (call (.builtin "getset_descriptor.__get__") [.builtin "object.__class__", .ref x, .ref D]) >>= ret) _ _ _
  refine wpAny_bind (wpAny_holding (wpAny_call (class_get (s := ⟨hp, g, d, t + 1, os⟩) (ox := ox) (od := od) X I hm ?_)))
  refine wpAny_pure ?_
  show wpAny _ _ (handedOut (.ref D)) _ _ _
  rw [handedOut_of (v := .ref D) rfl]
  first
    | exact wpAny_pure (wpAny_pure h)
    | exact wpAny_pure h
    | exact wpAny_pure (wpAny_bind (wpAny_pure (wpAny_pure h)))
theorem kitx_excW (hga : findIn K (.ref D) "__getattribute__" = some (some (.builtin "BaseException.__getattribute__"))) (hgt : findIn K (.ref D) "__getattr__" = some none) (hsub : subIn K (.ref D) (.type "BaseException") = some true) (hdct : hasDictIn K D = true) (ha : findIn K (.ref D) "__class__" = some (some (.builtin "object.__class__")))
    (hn : specialIn K (.builtin "object.__class__") "__get__" = some (some (.builtin "getset_descriptor.__get__"))) (htk : takesIn K (.builtin "object.__class__") = some true) (hm : mroIn K D (.type "object") = some true) :
    KitX K (.ref x) (.ref D) (fun h => InstAt h x ox D od) where
  ty := fun _ _ _ I => I.type
  it := fun _ _ X _ => by
    obtain ⟨cdD, hcD, _⟩ := any_some hdct
    unfold clsIn at hcD
    split at hcD
    · rename_i c' d' cd' sl' ho
      intro A' Q' E' s' k q
      unfold isType loadHead
      exact wpAny_bind (wpAny_loadPart (k _ _ (X _ _ ho)) (wpAny_pure q))
    · cases hcD
  ne := fun h tp dd its n sl X htp => by
    obtain ⟨cdD, hcD, _⟩ := any_some hdct
    refine Bool.eq_false_iff.mpr fun q => ?_
    have e : D = tp := Value.ref.inj (beq_iff_eq.mp q)
    subst e
    unfold clsIn at hcD
    split at hcD
    · rename_i c' d' cd' sl' ho
      have z := (X _ _ ho).symm.trans htp
      cases z
    · cases hcD
  ca := fun X I k => kin_classW hga hgt hsub hdct ha hn htk hm X I k
end
end PySem.W
namespace W3
open PySem PySem.Spec PyProof.Rows
open L2
theorem call_isX {X : Cx} {a D : Addr} {oe : Obj} {d : Option Addr} {pn : List (Addr × Obj)} (C : ExcC X.K D) (hz : Zc (.ref D) d oe) (hf : ∃ vs, oe.data = .fields vs) : CallR (X.suite a ((a, oe) :: pn)) (.builtin "isinstance") (fun xs H Q => (∀ dd, d = some dd → ∃ fv, H dd = some (.xd fv)) ∧ rIsE X.K D a xs H Q) := by
  intro pins s σ H xs us Q I r ⟨hdd, h⟩
  obtain ⟨c, cv, b, rfl, hcv, e, q⟩ := h
  cases r with
  | cons rx rr =>
    cases rr with
    | cons rt rr =>
      cases rr
      cases rx
      have ec := hcv _ rt
      subst ec
      obtain ⟨hget, _⟩ := I.pin (a, oe) (List.mem_append.mpr (.inl List.mem_cons_self))
      obtain ⟨vs, hv⟩ := hf
      have J : ∃ od, PySem.W.InstAt s.heap a oe D od := by
        obtain ⟨oc, od, oda, osl⟩ := oe
        obtain ⟨h1, h2⟩ := hz
        dsimp only at h1 h2 hv
        subst h1 h2 hv
        cases od with
        | none => exact ⟨none, hget, rfl, rfl, trivial⟩
        | some dd =>
          obtain ⟨fv, hx⟩ := hdd dd rfl
          obtain ⟨mA, hns, _⟩ := I.hok dd _ hx
          obtain ⟨o, es, ep, ho, _⟩ := hns
          exact ⟨some o, hget, rfl, rfl, ho⟩
      obtain ⟨od, J⟩ := J
      exact PySem.W.kia_one (PySem.W.kitx_excW C.hg C.hk C.hs C.hd C.ha C.hn C.ht C.hm) I.kIn J e (fun z => nomatch z) fun tk => ⟨.bl b, H, I.kept (t' := tk) fun _ _ z => z, rfl, q⟩
def sXf (fs : List (Str × T)) (f : Str) : SE := fun _ h => match fs.lookup f with | some t => .ok t h | none => .stk
section
variable {X : Cx} {a : Addr} {oe : Obj} {pn : List (Addr × Obj)} {sl : Option Nat} {c : Str} {fs : List (Str × T)} {cls : Value} {d : Option Addr} {e : Expr} {es : List Expr} {se : SE} {ar : SA} {pos p p1 p2 : Pos}
abbrev HE (X : Cx) (a : Addr) (oe : Obj) (pn : List (Addr × Obj)) (sl : Option Nat) (c : Str) (fs : List (Str × T)) (cls : Value) (d : Option Addr) (e : Expr) (se : SE) : Prop := PE (X.suite a ((a, oe) :: pn)) e (tHG X.K X.mg sl a c fs cls d (RT X.K X.mg) se)
abbrev HA (X : Cx) (a : Addr) (oe : Obj) (pn : List (Addr × Obj)) (sl : Option Nat) (c : Str) (fs : List (Str × T)) (cls : Value) (d : Option Addr) (es : List Expr) (se : SA) : Prop := PA (X.suite a ((a, oe) :: pn)) es (tHG X.K X.mg sl a c fs cls d (RTs X.K X.mg) se)
theorem he_lift (h : DE (X.suite a ((a, oe) :: pn)) PqT WF e se) : HE X a oe pn sl c fs cls d e se := PE.imp h fun σV H Q ⟨m, h, σ, A, _, _, o⟩ => ⟨m, h, σ, A, o⟩
theorem XR.ext {m m' : Mp} {H H' : Hp} (x : XR X.K X.mg m H c fs cls d) (E : Ext m H m' H') : XR X.K X.mg m' H' c fs cls d := by
  refine ⟨x.1, ?_⟩
  rcases x.2 with z | ⟨dd, fv, h1, h2, h3⟩
  · exact .inl z
  · exact .inr ⟨dd, fv, h1, E.xds _ _ h2, h3.ext E⟩
theorem he_fld {i : Nat} {n f : Str} {C : Addr} (hN : X.N[i]? = some n) (hv : Vis X.env.scope n) (T : XfC X.K C) (hno : PySem.W.findIn X.K (.ref C) f = some none) (hcl : cls = .ref C) (hz : Zc cls d oe) (hf : ∃ vs, oe.data = .fields vs)
    (hd : (n == ("__debug__" : Str)) = false := by decide) (hcd : (n == ("__classdict__" : Str)) = false := by decide) (hb : attributeBase (.Name n p) f X.env (eval (.Name n p) X.env) = eval (.Name n p) X.env := by rfl) :
    HE X a oe pn (some i) c fs cls d (.Attribute (.Name n p) f pos) (sXf fs f) := by
  refine ⟨fun pins s σV H Q I ⟨m, h, σ, A, hi, xr, o⟩ => ?_⟩
  refine (pe_xf T hno hz hf (pe_var (X := X.suite a ((a, oe) :: pn)) (i := i) hN hv hd hcd) hb).run pins s σV H Q I ?_
  have hl : i < σV.length := by
    rw [I.len]
    exact (List.getElem?_eq_some_iff.mp hN).1
  have o' : Out X.K X.mg (RT X.K X.mg) WF σV Q m H (match fs.lookup f with | some t => .ok t h | none => .stk) := o
  split at o'
  · rename_i t ht
    rcases xr.2 with ⟨z, _⟩ | ⟨dd, fv, h1, h2, h3⟩
    · rw [z] at ht; cases ht
    · obtain ⟨v, hv', rv⟩ := h3.lookup ht
      exact ⟨.ref a, hi i rfl hl, rfl, hcl, dd, fv, v, h1, h2, hv', o' v m H (Ext.refl _ _) rv A.hr⟩
  · exact False.elim o'
theorem he_isi {i : Nat} {n x : Str} {D : Addr} {cv : Addr} {b : Bool} (hN : X.N[i]? = some n) (hv : Vis X.env.scope n) (C : ExcC X.K D) (hcl : cls = .ref D) (hz : Zc cls d oe) (hf : ∃ vs, oe.data = .fields vs) (hg : Gl X "isinstance") (hm : X.mg "isinstance" = none) (hgx : Gl X x) (hmx : X.mg x = some (.ref cv)) (hk : PySem.W.kitOne X.K (.ref D) (.ref cv) = some b)
    (hd : (n == ("__debug__" : Str)) = false := by decide) (hcd : (n == ("__classdict__" : Str)) = false := by decide) (hdx : (x == ("__debug__" : Str)) = false := by decide)
    (he : starEach [.Name n p1, .Name x p2] X.env = (false, eval (.Name n p1) X.env) :: starEach [.Name x p2] X.env := by rfl) (hpl : (backTo pos (starEach [.Name x p2] X.env)).any (·.1) = false := by rfl) (hs2 : starEach [.Name x p2] X.env = (false, eval (.Name x p2) X.env) :: starEach [] X.env := by rfl) :
    HE X a oe pn (some i) c fs cls d (.Call (.Name "isinstance" p) [.Name n p1, .Name x p2] [] pos) (sC (.bl b)) := by
  subst hcl
  refine ⟨fun pins s σV H Q I ⟨m, h, σ, A, hi, xr, o⟩ => ?_⟩
  refine (pe_callB (X := X.suite a ((a, oe) :: pn)) (call_isX C hz hf) hg hm boot_isinstance (pa_cons (pe_var (X := X.suite a ((a, oe) :: pn)) (i := i) hN hv hd hcd) (pa_cons (pe_glob (X := X.suite a ((a, oe) :: pn)) (v := .ref cv) hgx hmx rfl hdx) pa_nil hs2) he) (by decide) (by decide) he hpl).run pins s σV H Q I ?_
  have hl : i < σV.length := by
    rw [I.len]
    exact (List.getElem?_eq_some_iff.mp hN).1
  refine ⟨.ref a, hi i rfl hl, fun dd hdd => ?_, .ref cv, .ref cv, b, rfl, fun u hu => hu, hk, o _ m H (Ext.refl _ _) (.bl b) A.hr⟩
  rcases xr.2 with ⟨_, z⟩ | ⟨dd', fv, h1, h2, h3⟩
  · rw [z] at hdd; cases hdd
  · rw [h1] at hdd; cases hdd; exact ⟨fv, h2⟩
theorem ha_nil : HA X a oe pn sl c fs cls d [] saNil := PA.imp pa_nil fun σV H Q ⟨m, h, σ, A, _, _, o⟩ => o [] m H (Ext.refl _ _) .nil A.hr
theorem ha_cons (h1 : HE X a oe pn sl c fs cls d e se) (h2 : HA X a oe pn sl c fs cls d es ar) (hs : starEach (e :: es) X.env = (false, eval e X.env) :: starEach es X.env := by rfl) : HA X a oe pn sl c fs cls d (e :: es) (saCons se ar) :=
  PA.imp (pa_cons h1 h2 hs) fun σV H Q ⟨m, h, σ, A, hi, xr, o⟩ => by
    refine ⟨m, h, σ, A, hi, xr, ?_⟩
    refine (Out.bind (rel1 := RT X.K X.mg) o).mono fun b H1 ⟨m1, h1, t, E, r, R, o1⟩ => ?_
    refine ⟨m1, h1, σ, A.ext E R, hi, xr.ext E, ?_⟩
    refine (Out.bind (rel1 := RTs X.K X.mg) o1).mono fun bs H2 ⟨m2, h2, ts, E2, r2, R2, o2⟩ => ?_
    exact o2 _ m2 H2 (Ext.refl _ _) (.cons (r.ext E2) r2) R2
theorem he_tup {x1} (h : HA X a oe pn sl c fs cls d es ar) : HE X a oe pn sl c fs cls d (.Tuple es x1 pos) (sTup ar) := PE.imp (pe_tupN h) fun σV H Q ⟨m, h, σ, A, hi, xr, o⟩ => by
  refine ⟨m, h, σ, A, hi, xr, ?_⟩
  refine (Out.bind (rel1 := RTs X.K X.mg) o).mono fun bs H1 ⟨m1, h1, ts, E, r, R, o1⟩ => ?_
  split at o1
  · rename_i hz
    exact ⟨by rw [← r.length]; exact hz, fun p ob hp hd => OutP.newTup R r (o1.outP (fun _ _ _ z => by cases z)) hp hd⟩
  · exact False.elim o1
end
section
variable {X : Cx} {XS : XSub} {sl : Option Nat} {e : Expr} {pos py : Pos}
abbrev HEs (X : Cx) (XS : XSub) (sl : Option Nat) (e : Expr) (se : Str → List (Str × T) → SE) : Prop := ∀ (a : Addr) (oe : Obj) (cls : Value) (d : Option Addr) (pn : List (Addr × Obj)) (c : Str) (ss : List Str) (fs : List (Str × T)), Zc cls d oe → (∃ vs, oe.data = .fields vs) → XS.lookup c = some ss → X.mg c = some cls → HE X a oe pn sl c fs cls d e (se c fs)
theorem hok_ret {se : Str → List (Str × T) → SE} (h : HEs X XS sl e se) : HOk X XS sl [.Return (some e) pos] (fun c fs => ssRet (se c fs)) := fun a oe cls d pn c ss fs hz hf hl hm =>
  PSs.imp (pss_one (ps_ret (h a oe cls d pn c ss fs hz hf hl hm))) fun D σV H ⟨m, h, σ, A, hi, xr, o⟩ => by
    refine ⟨m, h, σ, A, hi, xr, ?_⟩
    have o' : OutS X.K X.mg WF D m H ((se c fs σ h).flo σ fun x h1 => .rt x h1) := o
    cases e1 : se c fs σ h with
    | ok t h1 => rw [e1] at o'; exact fun v m1 H1 E r R => o' v m1 H1 E r R
    | exc _ _ h1 => rw [e1] at o'; exact fun cls d m1 H1 E x R => o' cls d σV m1 H1 E (A.sr.ext E) x R
    | stk => rw [e1] at o'; exact o'
end
end W3
end

section
namespace W3
open PySem PySem.Spec PyProof.Rows
open L2
theorem bindsE {K : PySem.W.Frag} {fd : FuncData} {ps : List Str} (h : ∀ us : List Value, us.length = ps.length → bindArgs fd ⟨us, []⟩ = pure (ps.zip us)) : Binds K fd ps [] := by
  intro s us _ hl
  rw [List.append_nil] at hl ⊢
  exact .of_eq (h us hl)
abbrev envE (name qual : Str) (st : Stmt) (cc c f L : Addr) : Env := NdefX.envF (nfE name qual (defArgs st) (defBody st) (defScope st) cc c) f L
abbrev supS (p0 p1 p2 apos cpos pos : Pos) (j : Nat) (txt : Str) : Stmt := .Expr (.Call (.Attribute (.Call (.Name "super" p0) [] [] p1) "__init__" apos) [.Constant (.str txt) j p2] [] cpos) pos
abbrev stoS (sf f1 a1 : Str) (q1 q2 q3 q4 : Pos) : Stmt := .Assign [.Attribute (.Name sf q1) f1 q2] (.Name a1 q3) q4
def LineE (name qual : Str) (st : Stmt) (cc c f : Addr) (p0 p1 p2 apos cpos pos : Pos) (j : Nat) (txt : Str) (pl : Sem Bool) : Prop := ∀ L : Addr, interactive (envE name qual st cc c f L) = false ∧
  swapsWith (.Call (.Attribute (.Call (.Name "super" p0) [] [] p1) "__init__" apos) [.Constant (.str txt) j p2] [] cpos) none pos.line (envE name qual st cc c f L) = pure false ∧
  eval (.Call (.Attribute (.Call (.Name "super" p0) [] [] p1) "__init__" apos) [.Constant (.str txt) j p2] [] cpos) (envE name qual st cc c f L) = (do
    let ov ← attributeBase (.Call (.Name "super" p0) [] [] p1) "__init__" (envE name qual st cc c f L) (eval (.Call (.Name "super" p0) [] [] p1) (envE name qual st cc c f L))
    standAt apos.atName
    let (g, first) ← holding [ov] (getMethod ov "__init__" pl)
    callWith cpos g first (backTo cpos (starEach [.Constant (.str txt) j p2] (envE name qual st cc c f L))) [])
theorem exc_ok1 {P : Program} {w : World} {K : PySem.W.Frag} {mg : Str → Option Value} {base : Heap} {f c cc C : Addr} {st : Stmt} {name qual sf a1 f1 txt : Str} {doc pm ct : Value} {an : Option Addr} {ar : Arg} {pl : Sem Bool} {p0 p1 p2 apos cpos pos q1 q2 q3 q4 : Pos} {j : Nat}
    (F : ExF P K C f c cc (fdE name qual (defArgs st) (defBody st) (defScope st) cc c doc pm ct an)) (hb : defBody st = [supS p0 p1 p2 apos cpos pos j txt, stoS sf f1 a1 q1 q2 q3 q4]) (hcd : PySem.W.codeIn K (.ref c) qual = true)
    (S : NdefX.NScope [sf, a1, "__class__"] [sf, a1] ["__class__"] (defScope st)) (hks : (defScope st).names.lookup ("super" : Str) = some .globalImplicit) (hp : ((defArgs st).posonlyargs ++ (defArgs st).args).head? = some ar) (har : ar.arg = sf) (hm : mg "super" = none) (hline : LineE name qual st cc c f p0 p1 p2 apos cpos pos j txt pl)
    (n1 : PySem.W.findIn K (.ref C) f1 = some none) (hs1 : ∀ L, swapsWith (.Name a1 q3) (some (.Attribute (.Name sf q1) f1 q2)) q4.line (envE name qual st cc c f L) = pure false)
    (hd0 : (sf == ("__debug__" : Str)) = false := by decide) (hc0 : (sf == ("__classdict__" : Str)) = false := by decide) (hd1 : (a1 == ("__debug__" : Str)) = false := by decide) (hc1 : (a1 == ("__classdict__" : Str)) = false := by decide) :
    FnOk P w K mg base (L2.CX P w) 1 f (fdE name qual (defArgs st) (defBody st) (defScope st) cc c doc pm ct an) [sf, a1] (spE1 C f1) := by
  unfold LineE at hline
  simp only [hb] at F hline hs1 ⊢
  refine fn_exc (k := 0) (pl := pl) F hcd S (fun vs H Q E ⟨a, y1, e, _⟩ => by rw [e]; rfl) hks hp (by rw [har]; rfl) (by rw [har]; exact S.par _ (by simp)) hm hline ?_
  rintro A outer s H vs Q E ⟨a, y1, rfl, ea, q⟩
  exact ⟨a, rfl, ea, body1 F.oex n1 rfl rfl (.inl (S.par _ (by simp))) (.inl (S.par _ (by simp))) hd0 hc0 hd1 hc1 (hs1 _) rfl rfl ea q⟩
def CatchesK (K : PySem.W.Frag) (mg : Str → Option Value) (XS : XSub) (x : Str) (cv : Value) : Prop := ∀ c ss cls, XS.lookup c = some ss → mg c = some cls → PySem.W.exmOne K cls cv = some (ss.contains x)
def XfAll (K : PySem.W.Frag) (mg : Str → Option Value) (XS : XSub) (FL : List Str) : Prop := ∀ c ss cls, XS.lookup c = some ss → mg c = some cls → ∃ C, cls = .ref C ∧ XfC K C ∧ ExcC K C ∧ ∀ f ∈ FL, PySem.W.findIn K (.ref C) f = some none
def IsAll (K : PySem.W.Frag) (mg : Str → Option Value) (XS : XSub) (x : Str) (cv : Addr) : Prop := ∀ c ss cls C, XS.lookup c = some ss → mg c = some cls → cls = .ref C → PySem.W.kitOne K (.ref C) (.ref cv) = some (ss.contains x)
def ssOf (XS : XSub) (c : Str) : List Str := (XS.lookup c).getD []
section
variable {X : Cx} {XS : XSub} {sl : Option Nat} {i : Nat} {n f x : Str} {FL : List Str} {p p1 p2 pos : Pos} {e : Expr} {es : List Expr} {se : SE} {sx : Str → List (Str × T) → SE} {ar : Str → List (Str × T) → SA}
theorem hx_lift (h : ∀ (a : Addr) (oe : Obj) (pn : List (Addr × Obj)), DE (X.suite a ((a, oe) :: pn)) PqT WF e se) : HEs X XS sl e (fun _ _ => se) := fun a oe cls d pn c ss fs _ _ _ _ => he_lift (h a oe pn)
theorem hx_fld (A : XfAll X.K X.mg XS FL) (hf : f ∈ FL) (hN : X.N[i]? = some n) (hv : Vis X.env.scope n) (hd : (n == ("__debug__" : Str)) = false := by decide) (hcd : (n == ("__classdict__" : Str)) = false := by decide) (hb : attributeBase (.Name n p) f X.env (eval (.Name n p) X.env) = eval (.Name n p) X.env := by rfl) :
    HEs X XS (some i) (.Attribute (.Name n p) f pos) (fun _ fs => sXf fs f) := fun a oe cls d pn c ss fs hz hv' hl hm => by
  obtain ⟨C, h1, h2, h3, h4⟩ := A c ss cls hl hm
  exact he_fld hN hv h2 (h4 f hf) h1 hz hv' hd hcd hb
theorem hx_isi {cv : Addr} (A : XfAll X.K X.mg XS FL) (I : IsAll X.K X.mg XS x cv) (hN : X.N[i]? = some n) (hv : Vis X.env.scope n) (hg : Gl X "isinstance") (hm : X.mg "isinstance" = none) (hgx : Gl X x) (hmx : X.mg x = some (.ref cv))
    (hd : (n == ("__debug__" : Str)) = false := by decide) (hcd : (n == ("__classdict__" : Str)) = false := by decide) (hdx : (x == ("__debug__" : Str)) = false := by decide)
    (he : starEach [.Name n p1, .Name x p2] X.env = (false, eval (.Name n p1) X.env) :: starEach [.Name x p2] X.env := by rfl) (hpl : (backTo pos (starEach [.Name x p2] X.env)).any (·.1) = false := by rfl) (hs2 : starEach [.Name x p2] X.env = (false, eval (.Name x p2) X.env) :: starEach [] X.env := by rfl) :
    HEs X XS (some i) (.Call (.Name "isinstance" p) [.Name n p1, .Name x p2] [] pos) (fun c _ => sC (.bl ((ssOf XS c).contains x))) := fun a oe cls d pn c ss fs hz hv' hl hmc => by
  obtain ⟨C, h1, h2, h3, h4⟩ := A c ss cls hl hmc
  have hk := I c ss cls C hl hmc h1
  have : ssOf XS c = ss := by unfold ssOf; rw [hl]; rfl
  show HE X a oe pn (some i) c fs cls d _ (sC (T.bl ((ssOf XS c).contains x)))
  rw [this]
  exact he_isi hN hv h3 h1 hz hv' hg hm hgx hmx hk hd hcd hdx he hpl hs2
abbrev HAs (X : Cx) (XS : XSub) (sl : Option Nat) (es : List Expr) (ar : Str → List (Str × T) → SA) : Prop := ∀ (a : Addr) (oe : Obj) (cls : Value) (d : Option Addr) (pn : List (Addr × Obj)) (c : Str) (ss : List Str) (fs : List (Str × T)), Zc cls d oe → (∃ vs, oe.data = .fields vs) → XS.lookup c = some ss → X.mg c = some cls → HA X a oe pn sl c fs cls d es (ar c fs)
theorem hxa_nil : HAs X XS sl [] (fun _ _ => saNil) := fun _ _ _ _ _ _ _ _ _ _ _ _ => ha_nil
theorem hxa_cons (h1 : HEs X XS sl e sx) (h2 : HAs X XS sl es ar) (hs : starEach (e :: es) X.env = (false, eval e X.env) :: starEach es X.env := by rfl) : HAs X XS sl (e :: es) (fun c fs => saCons (sx c fs) (ar c fs)) :=
  fun a oe cls d pn c ss fs hz hv hl hm => ha_cons (h1 a oe cls d pn c ss fs hz hv hl hm) (h2 a oe cls d pn c ss fs hz hv hl hm) hs
theorem hx_tup {x1} (h : HAs X XS sl es ar) : HEs X XS sl (.Tuple es x1 pos) (fun c fs => sTup (ar c fs)) := fun a oe cls d pn c ss fs hz hv hl hm => he_tup (h a oe cls d pn c ss fs hz hv hl hm)
end
end W3
end

section
namespace W3
open PySem PySem.Spec PyProof.Rows
open L2
def XAll (P : Str → List Str → Prop) : XSub → Prop
  | [] => True
  | (c, ss) :: r => P c ss ∧ XAll P r
theorem XAll.look {P : Str → List Str → Prop} : ∀ {XS : XSub}, XAll P XS → ∀ {c ss}, XS.lookup c = some ss → P c ss
  | [], _, _, _, e => by simp at e
  | (c, ss) :: r, h, c', ss', e => by
    simp only [List.lookup] at e
    split at e
    · rename_i q
      cases e
      obtain rfl : c' = c := by simpa using q
      exact h.1
    · exact h.2.look e
theorem catches_of {K : PySem.W.Frag} {mg : Str → Option Value} {XS : XSub} {x : Str} {cv : Value} (h : XAll (fun c ss => ∃ cls, mg c = some cls ∧ PySem.W.exmOne K cls cv = some (ss.contains x)) XS) : CatchesK K mg XS x cv := fun c ss cls hl hm => by
  obtain ⟨cls', h1, h2⟩ := h.look hl
  rw [hm] at h1; cases h1; exact h2
theorem xfall_of {K : PySem.W.Frag} {mg : Str → Option Value} {XS : XSub} {FL : List Str} (h : XAll (fun c ss => ∃ C, mg c = some (.ref C) ∧ XfC K C ∧ ExcC K C ∧ ∀ f ∈ FL, PySem.W.findIn K (.ref C) f = some none) XS) : XfAll K mg XS FL := fun c ss cls hl hm => by
  obtain ⟨C, h1, h2⟩ := h.look hl
  rw [hm] at h1; cases h1; exact ⟨C, rfl, h2⟩
theorem isall_of {K : PySem.W.Frag} {mg : Str → Option Value} {XS : XSub} {x : Str} {cv : Addr} (h : XAll (fun c ss => ∃ C, mg c = some (.ref C) ∧ PySem.W.kitOne K (.ref C) (.ref cv) = some (ss.contains x)) XS) : IsAll K mg XS x cv := fun c ss cls C hl hm e => by
  obtain ⟨C', h1, h2⟩ := h.look hl
  rw [hm] at h1; cases h1; cases e; exact h2
end W3
end

section
namespace W3
open PySem PySem.Spec PyProof.Rows
open L2
def dicB (h : Hh) : T → Bool | .ref l => (match h[l]? with | some (.dic []) => true | _ => false) | _ => false
def oNeD (x y : T) (h : Hh) : Res T := if dicB h x = true ∧ dicB h y = true then .ok (.bl false) h else oNe x y h
section
variable {X : Cx}
end
def bIntB (xs : List T) (h : Hh) : Res T :=
  match xs with
  | [.int i] => .ok (.int i) h
  | [.bl b] => .ok (.int (if b then 1 else 0)) h
  | _ => .stk
@[simp] theorem e_intB_b (b : Bool) (h : Hh) : bIntB [.bl b] h = .ok (.int (if b then 1 else 0)) h := Eq.trans rfl rfl
@[simp] theorem e_intB_i (i : Int) (h : Hh) : bIntB [.int i] h = .ok (.int i) h := Eq.trans rfl rfl
end W3
end

section
namespace W3
open PySem PySem.Spec PyProof.Rows
open L2
section
variable {X : Cx} {XS : XSub} {sl : Option Nat} {e1 e2 : Expr} {pos p1 p2 : Pos} {rest : List Stmt}
end
section
variable {X : Cx} {XS : XSub} {i q : Nat} {n x1 x2 : Str} {FL : List Str} {p p1 p2 p3 tpos pos : Pos}
end
end W3
end

section
namespace L2
open PySem PySem.Spec PyProof.Rows
end L2
namespace L2
open PySem PySem.Spec PyProof.Rows
section
variable {X : Cx}
end
end L2
namespace W3
open PySem PySem.Spec PyProof.Rows
open L2
noncomputable def oMulT (x y : T) (h : Hh) : Res T :=
  match x, y with
  | .tup ts, .int k => if ts ≠ [] ∧ 1 ≤ k ∧ k ≤ 1000 ∧ ts.length ≤ 1000 then .ok (.tup (List.replicate k.toNat ts).flatten) h else .stk
  | x, y => oMul x y h
theorem RTs.app {K : PySem.W.Frag} {mg : Str → Option Value} {m : Mp} {H : Hp} : ∀ {ts : List T} {vs : List V} {ts' : List T} {vs' : List V}, RTs K mg m H ts vs → RTs K mg m H ts' vs' → RTs K mg m H (ts ++ ts') (vs ++ vs')
  | _, _, _, _, .nil, r => r
  | _, _, _, _, .cons a b, r => .cons a (RTs.app b r)
@[simp] theorem e_mulT_i (i : Int) (y : T) (h : Hh) : oMulT (.int i) y h = oMul (.int i) y h := by unfold oMulT; rfl
end W3
end

section
namespace W3
open PySem PySem.Spec PyProof.Rows
open L2
abbrev SGH := T → St3 → Hh → Option St3
def sgLst (n : Nat) (g : SGs) : SGH := fun t σ h => match t with
  | .ref l => match lstAt h l with | some ts => if ts.length = n then g ts σ else none | none => none
  | _ => none
def forRunH (s : Src) (g : SGH) (b : SS) : Nat → Nat → St3 → Hh → Flo
  | k, i, σ, h => match s.at h i with
    | none => .stk
    | some none => .nx σ h
    | some (some x) => match k with
      | 0 => .stk
      | k + 1 => match g x σ h with
        | none => .stk
        | some σ1 => match b σ1 h with
          | .nx σ2 h2 => forRunH s g b k (i + 1) σ2 h2
          | .ct σ2 h2 => forRunH s g b k (i + 1) σ2 h2
          | .bk σ2 h2 => .nx σ2 h2
          | r => r
def ssForH (si : SI) (g : SGH) (b : SS) : SS := fun σ h => (si σ h).flo σ fun s h1 => forRunH s g b (s.len h1) 0 σ h1
def tTgH (K : PySem.W.Frag) (mg : Str → Option Value) (P : Pq) (is : List Nat) (g : SGH) : TG := fun v σV H Q => ∃ m h σ t, At K mg P m H σV σ h ∧ RT K mg m H t v ∧
  (match g t σ h with | some σ' => ∀ σV', SR K mg m H σ' σV' → Only3 is σV σV' → Q σV' H | none => False)
abbrev DGH (X : Cx) (P : Pq) (tg : Expr) (is : List Nat) (g : SGH) : Prop := PG X tg (tTgH X.K X.mg P is g)
section
variable {X : Cx} {P : Pq} {W : WX} {tg iter : Expr} {si : SI} {body : List Stmt} {x1 : SS} {pos : Pos} {es : List Expr}
theorem dgh_lst {k n : Nat} {is : List Nat} {gs : SGs} (hc : X.calm = true) (h : DGs X P es is gs) (hn : (assignEach es X.env).length = n := by rfl) (hst : (assignEach es X.env).findIdx? (·.1) = none := by rfl) : DGH X P (.Tuple es k pos) is (sgLst n gs) :=
  PG.imp (pg_lst hc h hn hst) fun v σV H Q ⟨m, h, σ, t, A, r, q⟩ => by
    unfold sgLst at q
    split at q
    · rename_i σ' e
      split at e
      · rename_i l
        split at e
        · rename_i ts hts
          split at e
          · rename_i hl
            cases r with
            | @ref _ a hm =>
              have hob : h[l]? = some (.lst ts) := by
                unfold lstAt at hts
                split at hts
                · rename_i e2; cases hts; exact e2
                · cases hts
              obtain ⟨a', ha, vs, hv, rr⟩ := A.hr.ob l _ hob
              rw [hm] at ha; cases ha
              refine ⟨a, vs, rfl, .inl (.inl hv), by rw [← rr.length]; exact hl, m, h, σ, ts, A, rr, ?_⟩
              rw [e]; exact q
          · cases e
        · cases e
      · cases e
    · exact False.elim q
end
end W3
end

section
namespace W3
open PySem PySem.Spec PyProof.Rows
open L2
def isT : T → Bool | .tup _ => true | _ => false
def sMtA (f : T → List T → Hh → Res T) (o : SE) (a : SA) : SE := fun σ h => (o σ h).bind fun x h1 => if (isL x h1 || isT x) = true then (a σ h1).bind fun xs h2 => f x xs h2 else .stk
section
variable {X : Cx} {P : Pq} {W : WX} {o e : Expr} {so : SE} {apos cpos : Pos} {es : List Expr} {ar : SA}
end
end W3
end

section
namespace W3
open PySem PySem.Spec PyProof.Rows
open L2
abbrev TKs := List Key
abbrev hTk (P : Program) (w : World) (k : TKs) : Int := tupleKeyHash (mixKind P w) k
abbrev IsTk (P : Program) (w : World) (h : Heap) (k : TKs) (b : Addr) : Prop := IsTupleKey (mixKind P w) h k b
def flatV (v : Value) : Prop := (∃ i t, v = .int i t) ∨ ∃ x t, v = .str x t
theorem flat_items {P : Program} {w : World} {k : TKs} {vs : List Value} (r : ItemsAre (mixKind P w) k vs) : ∀ v ∈ vs, flatV v := by
  induction r with
  | nil => exact fun v z => nomatch z
  | cons e _ ih =>
    intro v z
    cases z with
    | head => exact (keyIs_shape e).elim (fun ⟨i, t, q, _⟩ => .inl ⟨_, _, by assumption⟩) (fun ⟨x, t, q, _⟩ => .inr ⟨_, _, by assumption⟩)
    | tail _ z => exact ih v z
theorem flat_cls {v : Value} (f : flatV v) (n : Nat) : ofAClassStatement n v = pure false := by
  rcases f with ⟨i, t, rfl⟩ | ⟨x, t, rfl⟩ <;> cases n <;> rfl
theorem flat_hash {v : Value} (f : flatV v) (n : Nat) : ∃ r, hashByValue n v = pure r := by
  rcases f with ⟨i, t, rfl⟩ | ⟨x, t, rfl⟩ <;> cases n <;> exact ⟨_, rfl⟩
section
variable {P : Program} {w : World} {A : Around} {E : Value → Shared → Prop} {s : Shared}
theorem tk_cls {k : TKs} {b : Addr} {Q : Bool → Shared → Prop} (hk : IsTk P w s.heap k b) (fin : Q false s) : wpAny (model P w) A (ofAClassStatement 8 (.ref b)) Q E s := by
  have ty := hk.typeIs
  obtain ⟨ob, its, n, e1, _, e2, r⟩ := hk
  unfold ofAClassStatement
  refine wpAny_bind (wpAny_typeOf ty ?_)
  dsimp only
  have yes : (("tuple" : String) == "tuple") = true := by decide
  simp only [yes, if_true, Bool.not_true, Bool.false_eq_true, if_false]
  try refine wpAny_bind (wpAny_pure ?_)
  try simp only [Bool.not_true, Bool.false_eq_true, if_false]
  show wpAny _ _ (seqItems? (.ref b) >>= _) _ _ s
  refine wpAny_bind (wpAny_seqItems e1 e2 (wpAny_bind ?_))
  show wpAny _ _ (forIn its _ _) _ _ s
  rw [← Array.forIn_toList]
  refine wpAny_forIn_list _ (fun left r z => (r.1 = none ∧ z = s) ∧ ∀ v ∈ left, flatV v) _ (fun v left r z q => ?_) (fun r z q => ?_) _ _ ⟨⟨rfl, rfl⟩, flat_items r⟩
  · obtain ⟨⟨_, rfl⟩, all⟩ := q
    rw [flat_cls (all v (.head _))]
    refine wpAny_bind (wpAny_pure ?_)
    simp only [Bool.false_eq_true, if_false]
    exact wpAny_pure ⟨⟨rfl, rfl⟩, fun u hu => all u (.tail _ hu)⟩
  · obtain ⟨r1, r2⟩ := r
    obtain ⟨⟨e, rfl⟩, _⟩ := q
    simp only at e
    subst e
    exact wpAny_pure fin
theorem tk_hashBy {k : TKs} {b : Addr} {Q : Bool → Shared → Prop} (hk : IsTk P w s.heap k b) (fin : ∀ r, Q r s) : wpAny (model P w) A (hashByValue 8 (.ref b)) Q E s := by
  have ty := hk.typeIs
  obtain ⟨ob, its, n, e1, _, e2, r⟩ := hk
  unfold hashByValue
  refine wpAny_bind (wpAny_specialOf ty PySem.F.slot_tuple_hash.lookup ?_)
  show wpAny _ _ (seqItems? (.ref b) >>= _) _ _ s
  refine wpAny_bind (wpAny_seqItems e1 e2 (wpAny_bind ?_))
  show wpAny _ _ (forIn its _ _) _ _ s
  rw [← Array.forIn_toList]
  refine wpAny_forIn_list _ (fun left r z => z = s ∧ ∀ v ∈ left, flatV v) _ (fun v left r z q => ?_) (fun r z q => ?_) _ _ ⟨rfl, flat_items r⟩
  · obtain ⟨rfl, all⟩ := q
    obtain ⟨a, ea⟩ := flat_hash (all v (.head _)) 7
    rw [ea]
    refine wpAny_bind (wpAny_pure ?_)
    cases a with
    | true => simp only [Bool.not_true, Bool.false_eq_true, if_false]; exact wpAny_pure ⟨rfl, fun u hu => all u (.tail _ hu)⟩
    | false => simp only [Bool.not_false, if_true]; exact wpAny_pure (wpAny_pure (fin _))
  · obtain ⟨r1, r2⟩ := r
    obtain ⟨rfl, _⟩ := q
    cases r1 with
    | none => exact wpAny_pure (fin _)
    | some x => exact wpAny_pure (fin _)
theorem tk_seen {k : TKs} {b : Addr} {Q : Bool → Shared → Prop} (hk : IsTk P w s.heap k b) {ys : List Value} (hy : ∀ y ∈ ys, ∃ j c, y = Value.ref c ∧ IsTk P w s.heap j c) (fin : Q false s) :
    wpAny (model P w) A (searchCouldBeSeen (.ref b) ys) Q E s := by
  unfold searchCouldBeSeen
  refine wpAny_bind (wpAny_forIn_list _ (fun left r z => (r.1 = none ∧ z = s) ∧ ∀ y ∈ left, ∃ j c, y = Value.ref c ∧ IsTk P w s.heap j c) _ (fun v left r z q => ?_) (fun r z q => ?_) _ _ ⟨⟨rfl, rfl⟩, hy⟩)
  · obtain ⟨⟨_, rfl⟩, all⟩ := q
    obtain ⟨j, c, rfl, hc⟩ := all v (.head _)
    have go : (none : Option Bool) = none ∧ z = z := ⟨rfl, rfl⟩
    dsimp only
    by_cases hv : (b == c || (carriedByValue (.ref b) && carriedByValue (.ref c))) = true
    · exact wp_if_pos hv (wpAny_pure ⟨⟨rfl, rfl⟩, fun u hu => all u (.tail _ hu)⟩)
    · refine wp_if_neg hv (wpAny_bind (wpAny_eqIsQuiet_tuple hk ?_))
      simp only [Bool.not_true, Bool.false_eq_true, if_false]
      refine wpAny_bind (wpAny_eqIsQuiet_tuple hc ?_)
      simp only [Bool.not_true, Bool.false_eq_true, if_false]
      refine wpAny_bind (tk_cls hk ?_)
      simp only [Bool.false_eq_true, if_false]
      refine wpAny_bind (tk_cls hc ?_)
      simp only [Bool.false_eq_true, if_false]
      exact wpAny_pure ⟨⟨rfl, rfl⟩, fun u hu => all u (.tail _ hu)⟩
  · obtain ⟨r1, r2⟩ := r
    obtain ⟨⟨e, rfl⟩, _⟩ := q
    simp only at e
    subst e
    exact wpAny_pure fin
end
abbrev TkL := List (Addr × TKs)
def rowTk (P : Program) (w : World) (p : Addr × TKs) : Int × Value := (hTk P w p.2, .ref p.1)
structure SetTk (P : Program) (w : World) (h : Heap) (a : Addr) (L : TkL) (es : Array (Int × Value)) (ep : Nat) (t : SetTable) : Prop where
  at_ : ∃ o, h.get? a = some o ∧ o.ExactSet ∧ o.data = .set es ep t
  rows : es.toList = L.map (rowTk P w)
  tab : TabOk t ((L.map (rowTk P w)).map (·.1))
  nd : (L.map (·.2)).Nodup
  tup : ∀ p ∈ L, IsTk P w h p.2 p.1
  room : L.length * 5 < t.mask * 3
  few : L.length < 64
section
variable {P : Program} {w : World} {A : Around} {E : Value → Shared → Prop} {s : Shared} {a : Addr} {L : TkL} {es : Array (Int × Value)} {ep : Nat} {t : SetTable}
theorem rows_size (h : es.toList = L.map (rowTk P w)) : es.size = L.length := by
  rw [← Array.length_toList, h, List.length_map]
theorem rows_at (h : es.toList = L.map (rowTk P w)) {i : Nat} {p : Addr × TKs} (e : L[i]? = some p) : es[i]? = some (rowTk P w p) := by
  rw [← Array.getElem?_toList, h, List.getElem?_map, e]
  rfl
theorem fits_of (e : t.place.size = es.size) (d : t.dummies = #[]) (m : es.size ≤ t.mask) : t.fits es.size = true := by
  unfold SetTable.fits SetTable.fill
  rw [d, Bool.and_eq_true, beq_iff_eq, decide_eq_true_eq]
  exact ⟨e, by show t.place.size + 0 ≤ t.mask; omega⟩
theorem SetTk.fits (R : SetTk P w s.heap a L es ep t) : t.fits es.size = true := by
  have z1 := R.tab.sz
  have z2 := rows_size R.rows
  have z3 := R.room
  simp only [List.length_map] at z1
  exact fits_of (by omega) R.tab.dm (by omega)
abbrev stp (m : Nat) (h : Int) (n : Nat) : SetTable.Probe := nth m (runAt m (SetTable.bits h % (m + 1)) (SetTable.bits h)) n
theorem stp_dummy (m : Nat) (h : Int) (n : Nat) : (stp m h n).dummy = none := by
  have go : ∀ (n : Nat) (p : SetTable.Probe), p.dummy = none → (nth m p n).dummy = none := fun n => by
    induction n with
    | zero => exact fun p z => z
    | succ n ih => exact fun p z => ih (adv m p) (by unfold adv; split <;> exact z)
  exact go n _ rfl
theorem stp_add (m : Nat) (h : Int) (c q : Nat) : nth m (stp m h c) q = stp m h (c + q) := (nth_add m c _ q).symm
theorem tk_search (R : SetTk P w s.heap a L es ep t) {x : Addr} {k : TKs} (hx : IsTk P w s.heap k x) (hu : A.units < cLine) {N : Nat} (hN : N < 10 * SetTable.turns t.mask)
    (free : way t.mask (hTk P w k) N ∉ t.place.toList) (full : ∀ c, c < N → way t.mask (hTk P w k) c ∈ t.place.toList) {Q : SetFound → Shared → Prop}
    (yes : k ∈ L.map (·.2) → Q (.there none) s) (no : k ∉ L.map (·.2) → Q (.free (way t.mask (hTk P w k) N) false) s) :
    ∀ (f c : Nat) (st : Option SetTable.Probe), st.getD (t.probeStart (hTk P w k)) = stp t.mask (hTk P w k) c → c ≤ N → N - c < f →
      (∀ (i : Nat) p, L[i]? = some p → p.2 = k → ∃ d, (c ≤ d ∧ d < N) ∧ t.place.toList[i]? = some (way t.mask (hTk P w k) d)) → wpAny (model P w) A (setSearchFrom a (.ref x) (hTk P w k) true f st) Q E s := by
  intro f
  induction f with
  | zero => exact fun c st _ _ z _ => absurd z (Nat.not_lt_zero _)
  | succ f ih =>
    intro c st est hc hf ahead
    obtain ⟨o, ho, _, hd⟩ := R.at_
    have odd : ¬ t.gaveWay = true := by unfold SetTable.gaveWay; rw [mask_odd R.tab.mok]; decide
    rw [setSearchFrom_succ]
    refine wpAny_bind (wpAny_setState_of ho hd R.fits ?_)
    dsimp only
    refine wp_if_neg odd ?_
    try refine wpAny_bind (wpAny_pure ?_)
    have j1 : ∀ q, (nth t.mask (stp t.mask (hTk P w k) c) q).j = way t.mask (hTk P w k) (c + q) := fun q => congrArg SetTable.Probe.j (stp_add _ _ c q)
    have hashes : ∀ (i : Nat) p, L[i]? = some p → (es[i]?.map (·.1)).getD 0 = hTk P w p.2 := fun i p e => by rw [rows_at R.rows e]; rfl
    have plan := go_spec t R.tab.ris R.tab.dm (fun i => (es[i]?.map (·.1)).getD 0) (hTk P w k) (10 * SetTable.turns t.mask) (N - c) _ (stp_dummy t.mask (hTk P w k) c) (by omega)
      (fun q hq => by rw [j1]; exact full (c + q) (by omega)) (by rw [j1, show c + (N - c) = N by omega]; exact free)
    rcases plan with ⟨q, i, hq, hi, hh, before, ep1⟩ | ⟨before, ep1⟩
    · have ep2 : t.probe (fun i => (es[i]?.map (·.1)).getD 0) (hTk P w k) (st.getD (t.probeStart (hTk P w k))) = some (.candidate (way t.mask (hTk P w k) (c + q)) i (stp t.mask (hTk P w k) (c + (q + 1)))) := by
        rw [est, ← j1, ← stp_add]
        exact ep1
      rw [ep2]
      dsimp only
      rw [j1] at hi
      obtain ⟨p, hp⟩ : ∃ p, L[i]? = some p := by
        have z1 := (List.getElem?_eq_some_iff.mp hi).1
        have z2 := R.tab.sz
        simp only [List.length_map, Array.length_toList] at z1 z2
        exact ⟨L[i]'(by omega), List.getElem?_eq_getElem _⟩
      have hm := List.mem_of_getElem? hp
      have live : t.slot (way t.mask (hTk P w k) (c + q)) = .live i := slot_live R.tab.ris hi
      have tail : wpAny (model P w) A (searchRest a (.ref x) (hTk P w k) true f es t (way t.mask (hTk P w k) (c + q)) i (stp t.mask (hTk P w k) (c + (q + 1)))) Q E s := by
        unfold searchRest
        rw [rows_at R.rows hp]
        dsimp only [rowTk]
        refine wpAny_bind (wpAny_holding (wpAny_eqBool_tuple hu (R.tup p hm) hx (wpAny_bind (wpAny_setState_of ho hd R.fits ?_))))
        dsimp only
        by_cases ek : p.2 = k
        · exact wp_if_pos (by simp [ek]) (wpAny_pure (yes (List.mem_map.mpr ⟨p, hm, ek⟩)))
        · refine wp_if_neg (by simp [ek]) ?_
          try refine wpAny_bind (wpAny_pure ?_)
          rw [sameMem]
          dsimp only
          simp only [if_true, live, rows_at R.rows hp, rowTk]
          refine wpAny_bind (wpAny_isSame_ref_self (wpAny_bind (wpAny_pure ?_)))
          simp only [if_true]
          refine wp_if_neg (by simp [ek]) (ih (c + (q + 1)) _ rfl (by omega) (by omega) fun i0 p0 e0 k0 => ?_)
          obtain ⟨d, ⟨d1, d2⟩, d3⟩ := ahead i0 p0 e0 k0
          refine ⟨d, ⟨?_, d2⟩, d3⟩
          by_cases lt : d < c + q
          · exact absurd ((hashes i0 p0 e0).trans (congrArg (hTk P w) k0)) (before (d - c) i0 (by omega) (by rw [j1, show c + (d - c) = d by omega]; exact d3))
          · by_cases eq : d = c + q
            · subst eq
              have l2 := slot_live R.tab.ris d3
              rw [live] at l2
              injection l2 with l2
              subst l2
              rw [hp] at e0
              cases e0
              exact absurd k0 ek
            · omega
      by_cases ld : t.led = true
      · refine wp_if_neg (by simp [ld]) ?_
        try refine wpAny_bind (wpAny_pure ?_)
        exact tail
      · refine wp_if_pos (by simp [ld]) (wpAny_bind (tk_seen hx (fun y hy => ?_) (wp_if_neg (by decide) ?_)))
        · obtain ⟨e, he, rfl⟩ := List.mem_map.mp hy
          have he2 : e ∈ es.toList := by
            have : e ∈ es ∧ e.1 = hTk P w k := by simpa using he
            simpa using this.1
          rw [R.rows] at he2
          obtain ⟨p2, hp2, rfl⟩ := List.mem_map.mp he2
          exact ⟨p2.2, p2.1, rfl, R.tup p2 hp2⟩
        · try refine wpAny_bind (wpAny_pure ?_)
          exact tail
    · have ep2 : t.probe (fun i => (es[i]?.map (·.1)).getD 0) (hTk P w k) (st.getD (t.probeStart (hTk P w k))) = some (.empty (way t.mask (hTk P w k) N) none) := by
        rw [est, show way t.mask (hTk P w k) N = (nth t.mask (stp t.mask (hTk P w k) c) (N - c)).j by rw [j1, show c + (N - c) = N by omega]]
        exact ep1
      rw [ep2]
      dsimp only
      refine wpAny_pure (no fun hm => ?_)
      obtain ⟨p0, h0, k0⟩ := List.mem_map.mp hm
      obtain ⟨i0, e0⟩ := List.getElem?_of_mem h0
      obtain ⟨d, ⟨d1, d2⟩, d3⟩ := ahead i0 p0 e0 k0
      exact before (d - c) i0 (by omega) (by rw [j1, show c + (d - c) = d by omega]; exact d3) ((hashes i0 p0 e0).trans (congrArg (hTk P w) k0))
theorem tk_find (R : SetTk P w s.heap a L es ep t) {x : Addr} {k : TKs} (hx : IsTk P w s.heap k x) (hu : A.units < cLine) {Q : SetFound → Shared → Prop} (yes : k ∈ L.map (·.2) → Q (.there none) s)
    (no : ∀ N, k ∉ L.map (·.2) → way t.mask (hTk P w k) N ∉ t.place.toList → (∀ c, c < N → way t.mask (hTk P w k) c ∈ t.place.toList) → Q (.free (way t.mask (hTk P w k) N) false) s) : wpAny (model P w) A (setSearch a (.ref x) (hTk P w k) true) Q E s := by
  have rm := R.room
  obtain ⟨N, n1, n2, n3⟩ := R.tab.first (by simp only [List.length_map]; omega) (hTk P w k)
  have big : N < 100000 := by
    have : 10 * SetTable.turns t.mask ≤ 1420 := by
      unfold SetTable.turns
      rcases R.tab.mok with e | e | e <;> omega
    omega
  unfold setSearch
  refine tk_search R hx hu n1 n2 n3 yes (fun z => no N z n2 n3) 100000 0 none rfl (Nat.zero_le _) (by omega) fun i p e ek => ?_
  have z1 : ((L.map (rowTk P w)).map (·.1))[i]? = some (hTk P w k) := by simp only [List.getElem?_map, e, Option.map_some, rowTk, ek]
  have z2 : i < t.place.toList.length := by
    have q1 := (List.getElem?_eq_some_iff.mp e).1
    have q2 := R.tab.sz
    simp only [List.length_map] at q2
    rw [Array.length_toList]
    omega
  obtain ⟨d, d1, d2⟩ := R.tab.before n2 z1 (List.getElem?_eq_getElem z2)
  exact ⟨d, ⟨Nat.zero_le _, d1⟩, by rw [List.getElem?_eq_getElem z2, d2]⟩
theorem tk_same {h h2 : Heap} {k : TKs} {b : Addr} {o : Obj} (hb : IsTk P w h k b) (ho : h.get? a = some o) (hd : o.data = .set es ep t) (sb : Heap.SameBut a h h2) : IsTk P w h2 k b := by
  obtain ⟨o2, its, n, e1, e2, e3, e4⟩ := hb
  refine ⟨o2, its, n, (sb.2 b fun z => ?_).trans e1, e2, e3, e4⟩
  subst z
  rw [ho] at e1
  cases e1
  rw [hd] at e3
  cases e3
theorem fm_all {α : Type} (L : List α) : (List.range L.length).filterMap (fun i => L[i]?) = L := by
  have e1 : (List.range L.length).map (fun i => L[i]?) = L.map some := by
    apply List.ext_getElem?
    intro i
    rw [List.getElem?_map, List.getElem?_map]
    by_cases h : i < L.length
    · simp [h]
    · simp [h]
  have e2 : (List.range L.length).filterMap (fun i => L[i]?) = ((List.range L.length).map (fun i => L[i]?)).filterMap id := by rw [List.filterMap_map]; rfl
  rw [e2, e1, List.filterMap_map]
  simp
theorem fm_rows {ord : List Nat} (h : es.toList = L.map (rowTk P w)) : ord.filterMap (fun i => es[i]?) = (ord.filterMap fun i => L[i]?).map (rowTk P w) := by
  rw [List.map_filterMap]
  congr 1
  funext i
  rw [← Array.getElem?_toList, h, List.getElem?_map]
theorem tk_relay {o : Obj} (ho : s.heap.get? a = some o) (hex : o.ExactSet) (hd : o.data = .set es ep t) (hr : es.toList = L.map (rowTk P w)) (hsz : t.place.size = es.size) (hdm : t.dummies = #[]) (hfl : es.size ≤ t.mask)
    (nd : (L.map (·.2)).Nodup) (tup : ∀ p ∈ L, IsTk P w s.heap p.2 p.1) (few : L.length < 64) {wanted M : Nat} (hM : MaskOk M) (hw : SetTable.sizeAbove wanted - 1 = M) (hw2 : SetTable.sizeAbove wanted ≤ 128) (rm : L.length * 5 < M * 3) {Q : Unit → Shared → Prop}
    (fin : ∀ h2 L2 es2 ep2 t2, Heap.SameBut a s.heap h2 → SetTk P w h2 a L2 es2 ep2 t2 → L2.Perm L → Q () { s with heap := h2 }) : wpAny (model P w) A (setRelay a wanted) Q E s := by
  have ln := rows_size hr
  obtain ⟨t2, ord, e, pm, tb, em, _, _, ed⟩ := relaid_ok t (hs := es.map (·.1)) (wanted := wanted) hw hM (by rw [Array.size_map, ln]; omega)
  rw [Array.size_map, ln] at pm
  obtain ⟨L2, hL2⟩ : ∃ L2, L2 = ord.toList.filterMap fun i => L[i]? := ⟨_, rfl⟩
  have pm2 : L2.Perm L := by
    have := pm.filterMap fun i => L[i]?
    rw [fm_all] at this
    rw [hL2]; exact this
  have er : (ord.filterMap (es[·]?)).toList = L2.map (rowTk P w) := by
    rw [Array.toList_filterMap, hL2]; exact fm_rows hr
  have sz2 : (ord.filterMap (es[·]?)).size = es.size := by rw [rows_size er, ln, pm2.length_eq]
  have eh : (ord.toList.map fun i => (es.map (·.1)).getD i 0) = (L2.map (rowTk P w)).map (·.1) := by
    rw [← er, Array.toList_filterMap]
    have lt : ∀ i ∈ ord.toList, i < es.size := fun i hi => by rw [ln]; exact List.mem_range.mp (pm.mem_iff.mp hi)
    generalize ord.toList = os at lt
    induction os with
    | nil => rfl
    | cons i os ih =>
      have hi := lt i (.head _)
      have ei : es[i]? = some es[i] := by simp [hi]
      rw [List.map_cons, List.filterMap_cons_some ei, List.map_cons, ih fun j hj => lt j (.tail _ hj)]
      congr 1
      simp [Array.getD_eq_getD_getElem?, hi]
  rw [eh] at tb
  rw [setRelay_eq]
  refine wpAny_bind (wpAny_setState_of ho hd (fits_of hsz hdm hfl) ?_)
  dsimp only
  refine wp_if_neg (by rw [sizeLine_eq]; omega) ?_
  try refine wpAny_bind (wpAny_pure ?_)
  rw [e]
  dsimp only
  refine wpAny_bind (wp_if_neg (by rw [sz2]; simp) ?_)
  try refine wpAny_bind (wpAny_pure ?_)
  refine wpAny_pure ?_
  dsimp only
  refine wpAny_storeSet_of ho hd ?_ (by rw [sz2, ln, sizeLine_eq]; omega)
  have sb : Heap.SameBut a s.heap (s.heap.update a (Obj.putSet (ord.filterMap (es[·]?)) t2)) := Heap.SameBut.update ..
  exact fin _ L2 _ (ep + 1) t2 sb ⟨⟨_, store_at ho hd, ⟨hex.1, hex.2.1, hex.2.2⟩, rfl⟩, er, tb, (pm2.map (·.2)).nodup_iff.mpr nd, fun p hp => tk_same (tup p (pm2.mem_iff.mp hp)) ho hd sb, by rw [pm2.length_eq, em]; exact rm, by rw [pm2.length_eq]; exact few⟩ pm2
theorem tk_add (R : SetTk P w s.heap a L es ep t) {x : Addr} {k : TKs} (hx : IsTk P w s.heap k x) (hu : A.units < cLine) (few : L.length + 1 < 64) {Q : Bool → Shared → Prop}
    (fin : ∀ b h2 L2 es2 ep2 t2, Heap.SameBut a s.heap h2 → SetTk P w h2 a L2 es2 ep2 t2 → ((k ∈ L.map (·.2) ∧ L2 = L) ∨ (k ∉ L.map (·.2) ∧ L2.Perm ((x, k) :: L))) → Q b { s with heap := h2 }) :
    wpAny (model P w) A (setAddHashed a (.ref x) (hTk P w k)) Q E s := by
  obtain ⟨o, ho, hex, hd⟩ := R.at_
  have ln := rows_size R.rows
  have rm := R.room
  unfold setAddHashed
  refine wpAny_holding ?_
  rw [show (100000 : Nat) = 99999 + 1 from rfl, setAddHashedIn_succ]
  refine wpAny_bind (wpAny_setState_of ho hd R.fits ?_)
  dsimp only
  refine wp_if_neg (by simp [byScan, Value.scannable]) ?_
  try refine wpAny_bind (wpAny_pure ?_)
  refine wpAny_bind (tk_find R hx hu (fun hm => ?_) fun N hm n2 n3 => ?_)
  · dsimp only
    exact wpAny_pure (fin false s.heap L es ep t (Heap.SameBut.refl a s.heap) R (.inl ⟨hm, rfl⟩))
  · dsimp only
    refine wpAny_bind (wpAny_setState_of ho hd R.fits ?_)
    dsimp only
    have put := R.tab.put n2 n3
    generalize hpt : t.put (way t.mask (hTk P w k) N) = pt at put ⊢
    obtain ⟨t1, p⟩ := pt
    dsimp only at put ⊢
    obtain ⟨g1, g2, g3, g4, g5, g6, g7, g8, g9⟩ := put
    subst g1
    generalize hpp : SetTable.below t.place (way t.mask (hTk P w k) N) = p at g2 g3 ⊢
    have rest : ∀ t1' : SetTable, t1'.place = t1.place → t1'.dummies = t1.dummies → t1'.mask = t1.mask → t1'.fill = t1.fill → wpAny (model P w) A (do
        storeSet a (SetTable.insertAt es p (hTk P w k, Value.ref x)) t1'
        if !false && t1'.tooFull then setRelay a (SetTable.grown (es.size + 1))
        return true) Q E s := by
      intro t1' w1 w2 w3 w4
      obtain ⟨L1, hL1⟩ : ∃ L1, L1 = L.take p ++ (x, k) :: L.drop p := ⟨_, rfl⟩
      have pm : L1.Perm ((x, k) :: L) := by rw [hL1]; exact put_perm L p (x, k)
      have er : (SetTable.insertAt es p (hTk P w k, Value.ref x)).toList = L1.map (rowTk P w) := by
        rw [SetTable.toList_insertAt, R.rows, hL1, List.map_append, List.map_cons, List.map_take, List.map_drop]; rfl
      have tb : TabOk t1' ((L1.map (rowTk P w)).map (·.1)) := by
        have e : (L1.map (rowTk P w)).map (·.1) = ((L.map (rowTk P w)).map (·.1)).take p ++ hTk P w k :: ((L.map (rowTk P w)).map (·.1)).drop p := by
          rw [hL1, List.map_append, List.map_cons, List.map_append, List.map_cons, List.map_take, List.map_drop, List.map_take, List.map_drop]; rfl
        rw [e]
        exact ⟨by rw [w1]; exact g3.ris, by rw [w2]; exact g3.dm, by rw [w1]; exact g3.sz, by rw [w3]; exact g3.mok, by rw [w1, w3]; exact g3.bd, by rw [w1, w3]; exact g3.reach⟩
      have l1 := pm.length_eq
      rw [List.length_cons] at l1
      have nd1 : (L1.map (·.2)).Nodup := (pm.map (·.2)).nodup_iff.mpr (by rw [List.map_cons]; exact List.nodup_cons.mpr ⟨hm, R.nd⟩)
      have sz1 := rows_size er
      generalize SetTable.insertAt es p (hTk P w k, Value.ref x) = es1 at er sz1 ⊢
      refine wpAny_bind (wpAny_storeSet_of ho hd ?_ (by rw [sz1, l1, sizeLine_eq]; omega))
      have sb : Heap.SameBut a s.heap (s.heap.update a (Obj.putSet es1 t1')) := Heap.SameBut.update ..
      have ho1 := store_at (es' := es1) (t' := t1') ho hd
      generalize s.heap.update a (Obj.putSet es1 t1') = h1 at sb ho1 ⊢
      have tup1 : ∀ q ∈ L1, IsTk P w h1 q.2 q.1 := fun q hq => by
        rcases List.mem_cons.mp (pm.mem_iff.mp hq) with e | z
        · rw [e]; exact tk_same hx ho hd sb
        · exact tk_same (R.tup q z) ho hd sb
      have fl : t1'.fill = L.length + 1 := by rw [w4, g9]; simp only [List.length_map]
      by_cases hf : t1'.tooFull = true
      · have big : (L.length + 1) * 5 ≥ t1'.mask * 3 := by
          have q := hf
          unfold SetTable.tooFull at q
          rw [decide_eq_true_eq, fl] at q
          exact q
        have two : (t.mask = 7 ∧ L.length = 4) ∨ (t.mask = 31 ∧ L.length = 18) := by
          rw [w3, g4] at big
          rcases R.tab.mok with e | e | e
          · exact .inl ⟨e, by rw [e] at big rm; omega⟩
          · exact .inr ⟨e, by rw [e] at big rm; omega⟩
          · exfalso; rw [e] at big; omega
        have ps : t1'.place.size = es1.size := by
          have q := tb.sz
          simp only [List.length_map] at q
          omega
        have go : ∀ M, MaskOk M → SetTable.sizeAbove (SetTable.grown (L.length + 1)) - 1 = M → SetTable.sizeAbove (SetTable.grown (L.length + 1)) ≤ 128 → (L.length + 1) * 5 < M * 3 →
            wpAny (model P w) A (setRelay a (SetTable.grown (L.length + 1))) (fun _ z => wpAny (model P w) A (pure true) Q E z) E { s with heap := h1 } := fun M m1 m2 m3 m4 =>
          tk_relay (s := { s with heap := h1 }) ho1 ⟨hex.1, hex.2.1, hex.2.2⟩ rfl er ps tb.dm (by rw [sz1, l1, w3, g4]; rcases two with ⟨e, e2⟩ | ⟨e, e2⟩ <;> omega) nd1 tup1 (by omega) m1 m2 m3 (by rw [l1]; exact m4)
            fun h2 L2 es2 ep2 t2 sb2 R2 pm2 => wpAny_pure (fin true h2 L2 es2 ep2 t2 (sb.trans sb2) R2 (.inr ⟨hm, pm2.trans pm⟩))
        have go2 : wpAny (model P w) A (setRelay a (SetTable.grown (L.length + 1))) (fun _ z => wpAny (model P w) A (pure true) Q E z) E { s with heap := h1 } := by
          rcases two with ⟨_, e2⟩ | ⟨_, e2⟩
          · exact go 31 (.inr (.inl rfl)) (by rw [e2, size_20]) (by rw [e2, size_20]; decide) (by omega)
          · exact go 127 (.inr (.inr rfl)) (by rw [e2, size_76]) (by rw [e2, size_76]; decide) (by omega)
        rw [ln]
        first
          | exact wpAny_bind (wp_if_pos (by simp [hf]) go2)
          | exact wp_if_pos (by simp [hf]) (wpAny_bind go2)
      · have fin2 : wpAny (model P w) A (pure true) Q E { s with heap := h1 } := by
          refine wpAny_pure (fin true h1 L1 es1 (ep + 1) t1' sb ⟨⟨_, ho1, ⟨hex.1, hex.2.1, hex.2.2⟩, rfl⟩, er, tb, nd1, tup1, ?_, by omega⟩ (.inr ⟨hm, pm⟩))
          have q := hf
          unfold SetTable.tooFull at q
          rw [decide_eq_true_eq, fl] at q
          rw [l1]
          omega
        first
          | exact wp_if_neg (by simp [hf]) fin2
          | exact wpAny_bind (wp_if_neg (by simp [hf]) (wpAny_pure fin2))
    have both : ∀ r : Bool, wpAny (model P w) A (do
        storeSet a (SetTable.insertAt es p (hTk P w k, Value.ref x)) (if r = true then t1 else { t1 with plain := false })
        if !false && (if r = true then t1 else { t1 with plain := false }).tooFull then setRelay a (SetTable.grown (es.size + 1))
        return true) Q E s := fun r => by
      cases r with
      | true => exact rest t1 rfl rfl rfl rfl
      | false => exact rest { t1 with plain := false } rfl rfl rfl rfl
    by_cases pl : t1.plain = true
    · first
        | exact wpAny_bind (wp_if_pos pl (tk_hashBy hx both))
        | exact wp_if_pos pl (wpAny_bind (tk_hashBy hx both))
    · first
        | exact wpAny_bind (wp_if_neg pl (wpAny_pure (both true)))
        | exact wp_if_neg pl (wpAny_bind (wpAny_pure (both true)))
end
structure Has (ks : TkL) (i : Nat) (L : TkL) : Prop where
  sub : ∀ p ∈ L, p ∈ ks.take i
  all : ∀ p ∈ ks.take i, p.2 ∈ L.map (·.2)
  le : L.length ≤ i
theorem Has.next {ks L L2 : TkL} {i : Nat} {x : Addr × TKs} (g : Has ks i L) (h : ks[i]? = some x) (c : (x.2 ∈ L.map (·.2) ∧ L2 = L) ∨ (x.2 ∉ L.map (·.2) ∧ L2.Perm (x :: L))) : Has ks (i + 1) L2 := by
  have et : ks.take (i + 1) = ks.take i ++ [x] := by rw [List.take_add_one, h]; rfl
  rcases c with ⟨hm, rfl⟩ | ⟨_, pm⟩
  · refine ⟨fun p hp => by rw [et]; exact List.mem_append_left _ (g.sub p hp), fun p hp => ?_, Nat.le_succ_of_le g.le⟩
    rw [et] at hp
    rcases List.mem_append.mp hp with z | z
    · exact g.all p z
    · rw [List.mem_singleton.mp z]; exact hm
  · refine ⟨fun p hp => ?_, fun p hp => ?_, by rw [pm.length_eq, List.length_cons]; exact Nat.succ_le_succ g.le⟩
    · rw [et]
      rcases List.mem_cons.mp (pm.mem_iff.mp hp) with e | z
      · rw [e]; exact List.mem_append_right _ (List.mem_singleton.mpr rfl)
      · exact List.mem_append_left _ (g.sub p z)
    · rw [(pm.map (·.2)).mem_iff, List.map_cons]
      rw [et] at hp
      rcases List.mem_append.mp hp with z | z
      · exact .tail _ (g.all p z)
      · rw [List.mem_singleton.mp z]; exact .head _
section
variable {P : Program} {w : World} {A : Around} {E : Value → Shared → Prop} {s : Shared}
theorem tk_keep {h h2 : Heap} {k : TKs} {b : Addr} (x : IsTk P w h k b) (kp : ∀ c o, h.get? c = some o → h2.get? c = some o) : IsTk P w h2 k b :=
  let ⟨o, its, n, e, r⟩ := x
  ⟨o, its, n, kp b o e, r⟩
theorem SetTk.keep {h h2 : Heap} {a : Addr} {L : TkL} {es : Array (Int × Value)} {ep : Nat} {t : SetTable} (R : SetTk P w h a L es ep t) (ha : ∀ o, h.get? a = some o → h2.get? a = some o) (ht : ∀ p ∈ L, IsTk P w h2 p.2 p.1) : SetTk P w h2 a L es ep t :=
  let ⟨o, e, r⟩ := R.at_
  ⟨⟨o, ha o e, r⟩, R.rows, R.tab, R.nd, ht, R.room, R.few⟩
theorem tk_fresh {h : Heap} {a : Addr} (e : h.get? a = some (freshSet w)) : SetTk P w h a [] #[] 0 (.fresh 0 0 (!w.params.followText "set-order")) where
  at_ := ⟨_, e, ⟨rfl, rfl, rfl⟩, rfl⟩
  rows := rfl
  tab := ⟨.nil, rfl, rfl, .inl rfl, fun x z => (by cases z), fun i h j z => (by simp at z)⟩
  nd := List.nodup_nil
  tup := fun p z => (by cases z)
  room := by show 0 * 5 < 7 * 3; decide
  few := by show 0 < 64; decide
theorem loopTk {I : Addr} {fp wr : List Addr} {G : Array GenState → Array GenState → Prop} {n : Nat} {Pv : Nat → Value → Prop} {St : Nat → Shared → Prop} {R : Result → Shared → Prop}
    (Wk : WalksS P w A.in1 I fp wr G n Pv St) (D : Addr) (nD : D ∉ fp) (ks : TkL) (hn : n = ks.length) (few : ks.length < 64) (hv : ∀ i v, Pv i v → ∃ p, ks[i]? = some p ∧ v = .ref p.1) (h0 : Heap) (hk : ∀ p ∈ ks, IsTk P w h0 p.2 p.1) (d0 : h0.get? D = none)
    (w0 : ∀ b ∈ wr, h0.get? b = none) (hu : A.in1.units < cLine) :
    ∀ (left i : Nat) (z : Shared), n - i = left → i ≤ n → St i z → (∀ b o, h0.get? b = some o → z.heap.get? b = some o) → (∃ L es ep t, SetTk P w z.heap D L es ep t ∧ Has ks i L) →
      (∀ z2 L es ep t, Moved (D :: wr) G z z2 → SetTk P w z2.heap D L es ep t → Has ks n L → (∀ b o, h0.get? b = some o → z2.heap.get? b = some o) → R (.ok (.ret .none)) z2) → codeAny (model P w) A (.builtin "set.update.loop" ⟨[.ref D, .ref I], []⟩) R z := by
  have nW : D ∉ wr := fun q => nD (Wk.sub _ q)
  have more : ∀ b ∈ wr, b ∈ D :: wr := fun b q => .tail _ q
  have mv0 : ∀ {z z2 : Shared}, Moved wr G z z2 → (∀ b o, h0.get? b = some o → z.heap.get? b = some o) → ∀ b o, h0.get? b = some o → z2.heap.get? b = some o := fun mv kp b o e => mv.heap b o (fun q => by rw [w0 b q] at e; cases e) (kp b o e)
  intro left
  induction left with
  | zero =>
    intro i z e1 e2 st kp ⟨L, es, ep, t, S, g⟩ fin
    obtain rfl : i = n := by omega
    refine codeAny_builtin PyProof.Rows.F.entry_set_update_loop ?_
    rw [Around.under_plainId PyProof.Rows.F.plain_set_update_loop _]
    show wpAny _ A.in1 (pyNext (.ref I) >>= _) _ _ z
    refine wpAny_bind (Wk.done z _ _ st fun z2 mv => ?_)
    show wpAny _ A.in1 (ret Value.none) _ _ z2
    have kp2 := mv0 mv kp
    exact wpAny_pure (fin z2 L es ep t (mv.mono more) (S.keep (fun o q => mv.heap D o nW q) fun p hp => tk_keep (hk p (List.mem_of_mem_take (g.sub p hp))) kp2) g kp2)
  | succ left ih =>
    intro i z e1 e2 st kp ⟨L, es, ep, t, S, g⟩ fin
    have lt : i < n := by omega
    refine codeAny_builtin PyProof.Rows.F.entry_set_update_loop ?_
    rw [Around.under_plainId PyProof.Rows.F.plain_set_update_loop _]
    show wpAny _ A.in1 (pyNext (.ref I) >>= _) _ _ z
    refine wpAny_bind (Wk.item i z _ _ lt st fun v z2 pv st2 mv => ?_)
    obtain ⟨p, hp, rfl⟩ := hv i v pv
    have kp2 := mv0 mv kp
    have S2 : SetTk P w z2.heap D L es ep t := S.keep (fun o q => mv.heap D o nW q) fun q hq => tk_keep (hk q (List.mem_of_mem_take (g.sub q hq))) kp2
    have hx : IsTk P w z2.heap p.2 p.1 := tk_keep (hk p (List.mem_of_getElem? hp)) kp2
    show wpAny _ A.in1 (holding [Value.ref p.1] (setAdd D (.ref p.1)) >>= _) _ _ z2
    refine wpAny_bind (wpAny_holding ?_)
    unfold setAdd
    refine wpAny_holding (wpAny_bind (wpAny_pyHash_tuple hu hx ?_))
    refine tk_add (s := { z2 with toks := z2.toks + (p.2.length + 1) }) S2 hx hu (by have := g.le; omega) fun b h3 L3 es3 ep3 t3 sb S3 c => ?_
    have kp3 : ∀ b o, h0.get? b = some o → h3.get? b = some o := fun b o e => (sb.2 b (fun q => by rw [q, d0] at e; cases e)).trans (kp2 b o e)
    refine wpAny_pure ⟨plainId_quiet PyProof.Rows.F.plain_set_update_loop _, ih (i + 1) _ (by omega) lt (Wk.frame _ z2 _ _ st2 (Nat.le_add_right _ _) fun b hb o q => ?_) kp3 ⟨L3, es3, ep3, t3, S3, g.next hp c⟩ fun z4 L4 es4 ep4 t4 mv4 S4 g4 kp4 => ?_⟩
    · rw [sb.2 b (fun q : b = D => nD (q ▸ hb))]; exact q
    · refine fin z4 L4 es4 ep4 t4 (Moved.trans Wk.gtrans ((mv.mono more).then_heap (Nat.le_add_right _ _) fun b o hb q => ?_) mv4) S4 g4 kp4
      rw [sb.2 b (fun q : b = D => hb (by rw [q]; exact .head _))]; exact q
set_option maxHeartbeats 3200000 in
theorem call_setTk {l : Addr} {items : Array Value} (ks : TkL) {Q : Value → Shared → Prop} (hh : A.handled = none) (hl : s.heap.IsTuple l items) (hit : items.toList = ks.map fun p => Value.ref p.1) (hk : ∀ p ∈ ks, IsTk P w s.heap p.2 p.1) (few : ks.length < 64) (hu : A.units + 3 < cLine)
    (fin : ∀ (h2 : Heap) (tk : Nat) L es ep t, SetTk P w h2 s.heap.objs.size L es ep t → Has ks ks.length L → (∀ b o, s.heap.get? b = some o → h2.get? b = some o) → Q (.ref s.heap.objs.size) { s with heap := h2, toks := tk }) :
    wpAny (model P w) A (call (.type "set") [.ref l]) Q E s := by
  have hisz : items.size = ks.length := by rw [← Array.length_toList, hit, List.length_map]
  obtain ⟨c, tl, hmro⟩ := PySem.F.called_set.mro
  have hmade := PySem.F.called_set.made
  have hsub := PySem.F.called_set.sub
  refine wpAny_call (codeAny_of_tree ?_)
  show wpAny _ _ (callAny (.type "set") _) _ _ _
  refine wpAny_pure ⟨Code.quiet_builtin _ (by decide +kernel), codeAny_builtin PySem.F.entry_type_call ?_⟩
  rw [Around.under_plain (weight_type_call_type "set" [.ref l] []) rfl]
  have h1 := PySem.F.called_set.notType
  have h2 := PySem.F.called_set.canCreate
  have hct := PySem.F.typeCall_set_1 (.ref l)
  repeat (any_goals (first | assumption | wp_step))
  refine codeAny_mono (code_set_led1 (.ref l) (E := E) (Q₁ := fun obj z => obj = .ref s.heap.objs.size ∧ z = { s with heap := s.heap.push (freshSet w) }) ⟨rfl, rfl⟩) fun r z hr => ?_
  cases r with
  | error e => exact hr
  | ok fl =>
    cases fl with
    | next => exact hr.elim
    | brk => exact hr.elim
    | cont => exact hr.elim
    | ret obj =>
      obtain ⟨rfl, rfl⟩ := hr
      have hS : (s.heap.push (freshSet w)).get? s.heap.objs.size = some (freshSet w) := Heap.get?_push_size _ rfl
      have hT : Shared.TypeIs { s with heap := s.heap.push (freshSet w) } (.ref s.heap.objs.size) "set" := ⟨_, hS, rfl⟩
      have hli := PySem.F.called_set.init.lookup
      have hbi := PySem.F.called_set.init.bind (.ref s.heap.objs.size)
      repeat (any_goals (first | assumption | wp_step))
      refine codeAny_mono (codeAny_call_builtin (R := wants (fun r z => r = .none ∧ ∃ h2 tk L es ep t, z = { s with heap := h2, toks := tk } ∧ SetTk P w h2 s.heap.objs.size L es ep t ∧ Has ks ks.length L ∧ ∀ b o, s.heap.get? b = some o → h2.get? b = some o) E)
        PySem.F.called_set.init.plain PySem.F.entry_set_init (check_set_init_1 hT ?_)) fun r2 z2 hr2 => ?_
      · obtain ⟨⟨oc, od, odat, osl⟩, hol, hcl, nl, hdl⟩ := hl
        simp only at hcl hdl
        subst hcl
        subst hdl
        have hol' : (s.heap.push (freshSet w)).get? l = some { cls := .type "tuple", dict := od, data := .seq items nl, slots := osl } := Heap.get?_push_of_some _ hol
        have hsls := PySem.F.sub_tuple_set
        have hslf := PySem.F.sub_tuple_frozenset
        have hne : (Value.type "tuple" == Value.type "dict") = false := by decide
        have hl1 : (s.heap.push (freshSet w)).IsTuple l items := ⟨_, hol', rfl, nl, rfl⟩
        unfold Builtin.«set.__init__» noKeywords Builtin.Frozenset.updateFrom
        generalize hPI : pyIter = PI
        wp_walk
        subst hPI
        refine wpAny_pyIter_tuple hl1 (wpAny_bind (wpAny_runValue ?_))
        have lS : l < s.heap.objs.size := Heap.lt_size hol
        have hh3 : A.in1.in1.in1.handled = none := by simp [hh]
        have neI : l ≠ (s.heap.push (freshSet w)).objs.size := by
          rw [Heap.size_push]
          exact Nat.ne_of_lt (Nat.lt_succ_of_lt lS)
        have nSf : s.heap.objs.size ∉ [(s.heap.push (freshSet w)).objs.size, l] := by
          rw [Heap.size_push]
          simp only [List.mem_cons, List.not_mem_nil, or_false, not_or]
          exact ⟨Nat.ne_of_lt (Nat.lt_succ_self _), Nat.ne_of_gt lS⟩
        have none_of : ∀ b, s.heap.objs.size ≤ b → s.heap.get? b = none := fun b hb => by
          cases q : s.heap.get? b with
          | none => rfl
          | some o => exact absurd (Nat.lt_of_lt_of_le (Heap.lt_size q) hb) (Nat.lt_irrefl _)
        refine loopTk ((Walks.tuple hh3 _ l neI items).toS) s.heap.objs.size nSf ks hisz few (fun i v q => ?_) s.heap hk (none_of _ (Nat.le_refl _)) (fun b hb => none_of b (by rw [List.mem_singleton.mp hb, Heap.size_push]; exact Nat.le_succ _)) hu items.size 0 _ (by omega) (Nat.zero_le _)
          ⟨⟨_, Heap.get?_push_size _ rfl, rfl, rfl⟩, hl1.push _⟩ (fun b o q => Heap.get?_push_of_some _ (Heap.get?_push_of_some _ q)) ⟨[], #[], 0, _, tk_fresh (Heap.get?_push_of_some _ hS), ⟨fun p z => (by cases z), fun p z => (by simp at z), Nat.le_refl _⟩⟩ ?_
        · have q2 : items.toList[i]? = some v := by rw [Array.getElem?_toList]; exact q
          rw [hit, List.getElem?_map] at q2
          cases hq : ks[i]? with
          | none => rw [hq] at q2; cases q2
          | some p => rw [hq] at q2; exact ⟨p, rfl, (Option.some.inj q2).symm⟩
        · intro z4 L es ep t mv S4 g4 kp
          obtain ⟨h4, g2, d4, tk4, os4⟩ := z4
          have eg : g2 = s.gens := mv.gens
          have ed : d4 = s.drawn := mv.drawn
          have eo : os4 = s.os := mv.os
          subst eg; subst ed; subst eo
          refine wpAny_pure ?_
          show wpAny _ _ (ret Value.none) _ _ _
          exact wpAny_pure ⟨rfl, h4, tk4, L, es, ep, t, rfl, S4, hisz ▸ g4, kp⟩
      · cases r2 with
        | error e => exact hr2
        | ok fl2 =>
          cases fl2 with
          | next => exact hr2.elim
          | brk => exact hr2.elim
          | cont => exact hr2.elim
          | ret r =>
            obtain ⟨rfl, h4, tk, L, es, ep, t, rfl, S4, g4, kp⟩ := hr2
            repeat (any_goals (first | assumption | wp_step))
            exact fin _ _ _ _ _ _ S4 g4 kp
end
end W3
end

section
namespace W3
open PySem PySem.Spec PyProof.Rows
open L2
instance decMemTk (k : TKs) (l : List TKs) : Decidable (k ∈ l) := decidable_of_iff (l.any (fun j => decide (j = k)) = true) (by simp [List.any_eq_true])
def uqT : List TKs → List TKs
  | [] => []
  | k :: ks => if k ∈ ks then uqT ks else k :: uqT ks
theorem uqT_mem (k : TKs) : ∀ ks, k ∈ uqT ks ↔ k ∈ ks
  | [] => by simp [uqT]
  | j :: ks => by
    unfold uqT
    split
    · rename_i h
      rw [uqT_mem k ks, List.mem_cons]
      exact ⟨.inr, fun z => z.elim (fun e => e ▸ h) id⟩
    · rw [List.mem_cons, List.mem_cons, uqT_mem k ks]
theorem uqT_nd : ∀ ks, (uqT ks).Nodup
  | [] => List.nodup_nil
  | j :: ks => by
    unfold uqT
    split
    · exact uqT_nd ks
    · rename_i h
      exact List.nodup_cons.mpr ⟨fun z => h ((uqT_mem j ks).mp z), uqT_nd ks⟩
theorem uqT_le : ∀ ks, (uqT ks).length ≤ ks.length
  | [] => Nat.le_refl _
  | j :: ks => by
    have := uqT_le ks
    unfold uqT
    split
    · rw [List.length_cons]; omega
    · rw [List.length_cons, List.length_cons]; omega
theorem uqT_len (ks : List TKs) : (uqT ks).length = ks.length ↔ ks.Nodup := by
  induction ks with
  | nil => simp [uqT]
  | cons j ks ih =>
    have := uqT_le ks
    unfold uqT
    rw [List.nodup_cons]
    split
    · rename_i h
      rw [List.length_cons]
      exact ⟨fun z => by omega, fun z => absurd h z.1⟩
    · rename_i h
      rw [List.length_cons, List.length_cons, ← ih]
      exact ⟨fun z => ⟨h, by omega⟩, fun z => by omega⟩
theorem has_len {ks L : TkL} (g : Has ks ks.length L) (nd : (L.map (·.2)).Nodup) : L.length = (uqT (ks.map (·.2))).length := by
  have e : L.length = (L.map (·.2)).length := by simp
  rw [e]
  apply Nat.le_antisymm
  · refine List.Nodup.length_le_of_subset nd fun k hk => ?_
    obtain ⟨p, hp, rfl⟩ := List.mem_map.mp hk
    exact (uqT_mem _ _).mpr (List.mem_map.mpr ⟨p, List.mem_of_mem_take (g.sub p hp), rfl⟩)
  · refine List.Nodup.length_le_of_subset (uqT_nd _) fun k hk => ?_
    obtain ⟨p, hp, rfl⟩ := List.mem_map.mp ((uqT_mem _ _).mp hk)
    exact g.all p (by rw [List.take_length]; exact hp)
def SetN (a : Addr) (n : Nat) : HO := .ext fun h => ∃ o es ep t, h.get? a = some o ∧ o.ExactSet ∧ o.data = .set es ep t ∧ t.fits es.size = true ∧ es.size = n ∧ n < 64
section
variable {X : Cx} {P : Pq} {W : WX} {a : Expr} {sa : SE} {pos p p2 q2 : Pos}
theorem cr_lenN : CallR X (.builtin "len") (fun xs H Q => ∃ D n, xs = [.ref D] ∧ H D = some (SetN D n) ∧ Q (.int n) H) := by
  intro pins s σ H xs us Q I ru hq
  obtain ⟨D, n, rfl, hD, q⟩ := hq
  obtain ⟨u, rfl, r1⟩ := vals1 ru
  obtain rfl : _ = Value.ref D := r1
  obtain ⟨⟨ob, es, ep, t, ho, hex, hd, hf, hn, hb⟩, _⟩ := I.hok D _ hD
  have h63 : es.size < 2 ^ 63 := Nat.lt_trans (by omega : es.size < 64) (by decide)
  exact call_len_set ho hex hd hf (by exact_mod_cast h63) ⟨.int n, H, I.tok _, ⟨_, by rw [hn]⟩, q⟩
theorem cr_setN (hc : X.calm = true) (hu : X.A.units + 65 < cLine) : CallR X (.type "set") (fun xs H Q => ∃ (l : Addr) (ks : TkL), xs = [.ref l] ∧ SqT X.K H l (ks.map fun p => V.ref p.1) ∧ (∀ p ∈ ks, SqT X.K H p.1 (p.2.map kV)) ∧ ks.length < 64 ∧
    ∀ D, H D = none → Q (.ref D) (upd H D (SetN D (uqT (ks.map (·.2))).length))) := by
  intro pins s σ H xs us Q I ru hq
  obtain ⟨l, ks, rfl, hl, hks, few, q⟩ := hq
  obtain ⟨u, rfl, r1⟩ := vals1 ru
  obtain rfl : _ = Value.ref l := r1
  obtain ⟨its, rv, ht, _⟩ := I.tuple hl
  have refs : ∀ (ks : TkL) (vs : List Value), Vals (ks.map fun p => V.ref p.1) vs → vs = ks.map fun p => Value.ref p.1 := fun ks => by
    induction ks with
    | nil => intro vs r; cases r; rfl
    | cons k ks ih =>
      intro vs r
      cases r with
      | cons r rr => cases r; rw [ih _ rr]; rfl
  have items : ∀ (k : TKs) (vs : List Value), Vals (k.map kV) vs → ItemsAre (mixKind X.prog X.w) k vs := fun k => by
    induction k with
    | nil => intro vs r; cases r; exact .nil
    | cons k ks ih =>
      intro vs r
      cases r with
      | cons r rr => exact .cons (kV_is r) (ih _ rr)
  have hk : ∀ p ∈ ks, IsTk X.prog X.w s.heap p.2 p.1 := fun p hp => by
    obtain ⟨its2, r2, ⟨o, e1, e2, n, e3⟩, _⟩ := I.tuple (hks p hp)
    exact ⟨o, its2.toArray, n, e1, e2, e3, by simpa using items _ _ r2⟩
  refine call_setTk ks (I.ok.hd hc) ht (by simpa using refs ks its rv) hk few (by omega) fun h2 tk L es ep t S g kp => ?_
  have en := has_len g S.nd
  have sz := rows_size S.rows
  have few2 := S.few
  obtain ⟨o, e1, e2, e3⟩ := S.at_
  refine ⟨.ref s.heap.objs.size, _, I.laid (t' := tk) (o := SetN s.heap.objs.size (uqT (ks.map (·.2))).length) kp (Nat.le_refl _) ⟨⟨o, es, ep, t, e1, e2, e3, SetTk.fits (s := { s with heap := h2 }) S, by omega, by omega⟩, ⟨o, e1⟩, ?_⟩, rfl, q _ (I.hok.fresh (Nat.le_refl _))⟩
  intro h1 h2 ⟨o, es, ep, t, e1, r⟩ k
  exact ⟨o, es, ep, t, k o e1, r⟩
def tkT : T → Option TKs | .tup us => keysT us | _ => none
def oLenSetP (x : T) (h : Hh) : Res T := match x with
  | .tup ts => (match optL tkT ts with | some ks => if ks.length < 64 then .ok (.int (uqT ks).length) h else .stk | none => .stk)
  | _ => .stk
theorem nx_olensetP : NoX1 oLenSetP := fun x h c fs h' e => by unfold oLenSetP at e; (repeat' split at e) <;> cases e
theorem tks_of {m : Mp} {H : Hp} : ∀ {ts : List T} {vs : List V} {ks : List TKs}, RTs X.K X.mg m H ts vs → optL tkT ts = some ks → ∃ L : TkL, vs = L.map (fun p => V.ref p.1) ∧ L.map (·.2) = ks ∧ ∀ p ∈ L, SqT X.K H p.1 (p.2.map kV)
  | _, _, _, .nil, e => by cases e; exact ⟨[], rfl, rfl, fun p z => by cases z⟩
  | _, _, _, .cons (t := t) (ts := ts) r q, e => by
    unfold optL at e
    cases h1 : tkT t with
    | none => rw [h1] at e; simp at e
    | some k =>
      cases h2 : optL tkT ts with
      | none => rw [h1, h2] at e; simp at e
      | some ks =>
        rw [h1, h2] at e
        cases e
        obtain ⟨L, rfl, rfl, hL⟩ := tks_of q h2
        cases r with
        | @tup b vs us hq rr =>
          have e3 := keys_of rr (show keysT us = some k from h1)
          subst e3
          exact ⟨(b, k) :: L, rfl, rfl, fun p hp => by rcases List.mem_cons.mp hp with rfl | z; exact hq.t; exact hL p z⟩
        | _ => cases h1
theorem de_lenSetP (hc : X.calm = true) (hu : X.A.units + 65 < cLine) (hg : Gl X "len") (hm : X.mg "len" = none) (hg2 : Gl X "set") (hm2 : X.mg "set" = none) (ha : DE X P W a sa)
    (he : starEach [a] X.env = (false, eval a X.env) :: starEach [] X.env := by rfl) (hpl : (backTo p2 (starEach [] X.env)).any (·.1) = false := by rfl)
    (he2 : starEach [.Call (.Name "set" q2) [a] [] p2] X.env = (false, eval (.Call (.Name "set" q2) [a] [] p2) X.env) :: starEach [] X.env := by rfl) (hpl2 : (backTo pos (starEach [] X.env)).any (·.1) = false := by rfl) :
    DE X P W (.Call (.Name "len" p) [.Call (.Name "set" q2) [a] [] p2] [] pos) (s1 oLenSetP sa) :=
  PE.imp (pe_callB cr_lenN hg hm boot_len (pa_cons (pe_callTy (cr_setN hc hu) hg2 hm2 boot_set (pa_cons ha pa_nil he) (by decide) (by decide) he hpl) pa_nil he2) (by decide) (by decide) he2 hpl2) fun σV H Q h => by
    refine tG.mono (fun v H1 hq => ?_) (one nx_olensetP h)
    obtain ⟨m, h, t, r, R, o⟩ := hq
    cases r with
    | @tup l vs ts hl rr =>
      have o' : OutP X.K X.mg Q m H1 (match optL tkT ts with
        | some ks => if ks.length < 64 then .ok (.int (uqT ks).length) h else .stk
        | none => .stk) := o
      split at o'
      · rename_i ks hk
        split at o'
        · rename_i few
          obtain ⟨L, rfl, rfl, hL⟩ := tks_of rr hk
          refine ⟨l, L, rfl, hl.t, hL, by simpa using few, fun D hD => ⟨D, _, rfl, upd_same, ?_⟩⟩
          exact o' _ m _ (Ext.garbage R hD) (.int _) (R.garbage hD)
        · exact False.elim o'
      · exact False.elim o'
    | _ => exact False.elim o
end
end W3
end

section
namespace W3
open PySem PySem.Spec PyProof.Rows
open L2
section
variable {prog : Program} {w : World} {A : Around} {E : Value → Shared → Prop} {s : Shared}
theorem collect_seq {l : Addr} {o : Obj} {n : Nat} {T : String} {vs : List Value} {Q : List Value → Shared → Prop} (ho : s.heap.get? l = some o) (hT : T = "list" ∨ T = "tuple") (hc : o.cls = .type T) (hd : o.data = .seq vs.toArray n) (hz : vs.length ≤ sizeLine)
    (fin : Q vs { s with heap := (s.heap.push (seqObj "list" #[] 0)).update s.heap.objs.size (Obj.mapSeq (· ++ vs.toArray)) }) : wpAny (model prog w) A (collect (.ref l)) Q E s := by
  have new : (s.heap.push (seqObj "list" #[] 0)).get? s.heap.objs.size = some (seqObj "list" #[] 0) := Heap.get?_push_size _ rfl
  have ho2 : (s.heap.push (seqObj "list" #[] 0)).get? l = some o := Heap.get?_push_of_some _ ho
  unfold collect
  refine wpAny_bind (wpAny_runValue (codeAny_builtin entry_proto_collect' ?_))
  show wpAny _ _ (do again (.builtin "list.__iadd__" ⟨[← newList [], .ref l], []⟩)) _ _ s
  refine wpAny_bind (wpAny_newList (wpAny_pure ⟨Code.quiet_builtin _ (by decide +kernel), codeAny_builtin entry_list_iadd' ?_⟩))
  show wpAny _ _ (Builtin.List.listExtendWith (.ref s.heap.objs.size) (.ref l) (.ref s.heap.objs.size)) _ _ { s with heap := s.heap.push (seqObj "list" #[] 0) }
  unfold Builtin.List.listExtendWith
  refine wpAny_bind (wpAny_typeOf (T := T) ⟨o, ho2, hc⟩ ?_)
  have q1 : (Value.type "list" == Value.type "list") = true := by decide
  have q2 : (Value.type "tuple" == Value.type "tuple") = true := by decide
  refine wp_if_pos (by rcases hT with rfl | rfl <;> simp [q1, q2]) ?_
  refine wpAny_bind (listItems_at ho2 hd (wpAny_bind (listItems_at new rfl (wp_if_neg (by simp) (wpAny_bind (listUpdate_at new rfl ?_ (Nat.zero_le _) ?_))))))
  · refine wpAny_pure ?_
    show wpAny (model prog w) A (load s.heap.objs.size >>= _) Q E _
    refine wpAny_bind (wpAny_load (get?_update_seq new _) ?_)
    show wpAny _ _ (pure ((#[] : Array Value) ++ vs.toArray).toList) Q E _
    rw [show ((#[] : Array Value) ++ vs.toArray).toList = vs by simp]
    exact wpAny_pure fin
  · show (#[] ++ vs.toArray).size ≤ sizeLine + 1
    simp only [Array.size_append, List.size_toArray, List.length_nil]
    omega
theorem sorted_seq {β : Type} {R : Value → β → Prop} {enc : β → PyData} {bs : List β} {l : Addr} {o : Obj} {n : Nat} {T : String} {vs : List Value} {Q : Value → Shared → Prop} (ho : s.heap.get? l = some o) (hT : T = "list" ∨ T = "tuple") (hc : o.cls = .type T) (hd : o.data = .seq vs.toArray n)
    (e : PySem.W.EachIs R vs bs) (er : PySem.W.EachIs (fun v b => ∃ as, Reads s.heap v (enc b) as) vs bs) (hal : PySem.W.AllAlike (bs.map enc)) (hk : PySem.W.Sortable (bs.map enc)) (hz : bs.length ≤ sizeLine) (hu : ∀ b, b ∈ bs → A.units + 2 + (enc b).depth < cLine)
    (fin : ∀ out, PySem.W.EachIs R out (bs.mergeSort (PySem.W.dataLe false enc)) → Q (.ref (s.heap.objs.size + 1)) { s with heap := sortedAll s.heap vs (List.toArray out) }) : wpAny (model prog w) A (call (.builtin "sorted") [.ref l]) Q E s := by
  have hz2 : vs.length ≤ sizeLine := by rw [e.length]; exact hz
  have er2 : PySem.W.EachIs (fun v b => ∃ as, Reads (PySem.W.sortingHeap (PySem.W.copyHeap s.heap vs) (s.heap.objs.size + 1) vs) v (enc b) as) vs bs := er.mono fun _ _ ⟨as, r⟩ => ⟨as, PyProof.Rows.Reads.keeps (fun _ _ => PySem.W.sorting_copy_old) r⟩
  have S := PySem.W.SortsAt.data (prog := prog) (w := w) (A := A.in1.in1) (s := { s with heap := PySem.W.sortingHeap (PySem.W.copyHeap s.heap vs) (s.heap.objs.size + 1) vs }) (PySem.W.each_map (R := fun v d => ∃ as, Reads (PySem.W.sortingHeap (PySem.W.copyHeap s.heap vs) (s.heap.objs.size + 1) vs) v d as) enc er2) hal hk (PySem.W.bound_map hu)
  refine PySem.Calls.call_function_entry kind_sorted plain_sorted entry_sorted (args_sorted1 _) ?_
  unfold Builtin.«sorted»
  refine wpAny_bind (m := checkCount "sorted" 1 1 _) (wpAny_pure (wpAny_bind (collect_seq ho hT hc hd hz2 (wpAny_bind (wpAny_newList ?_ hz2)))))
  have sz2 : ((s.heap.push (seqObj "list" #[] 0)).update s.heap.objs.size (Obj.mapSeq (· ++ vs.toArray))).objs.size = s.heap.objs.size + 1 := by rw [Heap.size_update, size_push']
  show wpAny _ _ _ _ _ { s with heap := PySem.W.copyHeap s.heap vs }
  rw [sz2]
  refine wpAny_bind (wpAny_holding (wpAny_call_entry slot_list_sort ⟨_, PySem.W.copyHeap_at s.heap vs, rfl⟩ entry_list_sort (PySem.W.list_sort_vals (s := { s with heap := PySem.W.copyHeap s.heap vs }) (PySem.W.copyHeap_at s.heap vs) S hz2 ⟨_, rfl, ?_⟩) (args_list_sort _)))
  exact wpAny_pure ⟨_, rfl, fin _ (PySem.W.sortVals_data false e er2 hal)⟩
end
section
variable {X : Cx} {P : Pq} {W : WX}
theorem each_of_vals {xs : List V} {us : List Value} (r : Vals xs us) : ∀ {ds : List PyData}, xs.length = ds.length → PySem.W.EachIs (fun v (b : V × PyData) => L2.RelV b.1 v) us (xs.zip ds) := by
  induction r with
  | nil => intro ds e; cases ds with | nil => exact .nil | cons _ _ => simp at e
  | cons r _ ih =>
    intro ds e
    cases ds with
    | nil => simp at e
    | cons d ds => exact .cons r (ih (by simpa using e))
theorem vals_of_each : ∀ {us : List Value} {bs : List (V × PyData)}, PySem.W.EachIs (fun v (b : V × PyData) => L2.RelV b.1 v) us bs → Vals (bs.map (·.1)) us
  | _, _, .nil => .nil
  | _, _, .cons r h => .cons r (vals_of_each h)
theorem each_reads {pins : List (Addr × Obj)} {s : Shared} {σ : L2.St} {H : Hp} (I : L2.Inv X pins σ H s) : ∀ {us : List Value} {bs : List (V × PyData)}, PySem.W.EachIs (fun v (b : V × PyData) => L2.RelV b.1 v) us bs → (∀ b ∈ bs, Dp X.K H b.1 b.2) → PySem.W.EachIs (fun v (b : V × PyData) => ∃ as, Reads s.heap v b.2 as) us bs
  | _, _, .nil, _ => .nil
  | _, _, .cons (b := b) r h, q => .cons (Dp.reads I b.2 b.1 _ (q b (.head _)) r) (each_reads I h fun c hc => q c (.tail _ hc))
abbrev leD (a b : V × PyData) : Bool := PySem.W.dataLe false (fun b : V × PyData => b.2) a b
theorem cr_sorted (hu : X.A.units + 65 < cLine) : CallR X (.builtin "sorted") (fun xs H Q => ∃ (p : Addr) (bs : List (V × PyData)), xs = [.ref p] ∧ (SqL X.K H p (bs.map (·.1)) ∨ SqT X.K H p (bs.map (·.1))) ∧ (∀ b ∈ bs, Dp X.K H b.1 b.2 ∧ b.2.depth ≤ 24) ∧
    PySem.W.AllAlike (bs.map (·.2)) ∧ PySem.W.Sortable (bs.map (·.2)) ∧ bs.length ≤ 1000 ∧ ∀ q, H q = none → Q (.ref q) (upd H q (.lst ((bs.mergeSort leD).map (·.1))))) := by
  intro pins s σ H xs us Q I r h
  obtain ⟨p, bs, rfl, hp, hb, al, so, few, q⟩ := h
  obtain ⟨u, rfl, rx⟩ := vals1 r
  obtain rfl : _ = Value.ref p := rx
  have z : bs.length ≤ sizeLine := by rw [sizeLine_eq]; omega
  have obj : ∃ (its : List Value) (o : Obj) (n : Nat) (T : String), Vals (bs.map (·.1)) its ∧ s.heap.get? p = some o ∧ (T = "list" ∨ T = "tuple") ∧ o.cls = .type T ∧ o.data = .seq its.toArray n := by
    rcases hp with hp | hp
    · obtain ⟨its, rv, ⟨o, n, e1, e2, _, e3⟩, _⟩ := I.list hp
      exact ⟨its, o, n, "list", rv, e1, .inl rfl, e2, e3⟩
    · obtain ⟨its, rv, ⟨o, e1, e2, n, e3⟩, _⟩ := I.tuple hp
      exact ⟨its, o, n, "tuple", rv, e1, .inr rfl, e2, e3⟩
  obtain ⟨its, o, n, T, rv, e1, hT, e2, e3⟩ := obj
  have ez : (bs.map (·.1)).zip (bs.map (·.2)) = bs := by
    rw [List.zip_map']
    simp
  have ea := each_of_vals rv (ds := bs.map (·.2)) (by simp)
  rw [ez] at ea
  refine sorted_seq (enc := fun b : V × PyData => b.2) e1 hT e2 e3 ea (each_reads I ea fun b q => (hb b q).1) al so z (fun b q => by have := (hb b q).2; omega) fun out eo => ?_
  have vo := vals_of_each eo
  refine ⟨.ref (s.heap.objs.size + 1), _, I.laid (t' := s.toks) (o := .lst ((bs.mergeSort leD).map (·.1))) (fun b o e => sortedAll_old e) (Nat.le_succ _) ⟨?_, out, ?_⟩, rfl, q _ (I.hok.fresh (Nat.le_succ _))⟩
  · rw [List.length_map, List.length_mergeSort]; exact z
  · obtain ⟨n2, e4⟩ := sortedAll_at s.heap its out.toArray
    exact ⟨n2, vo, e4⟩
def alikeB (ds : List PyData) : Bool := ds.all fun d => ds.all fun e => PySem.W.alike d e
def isTup1 : PyData → Bool | .tuple (_ :: _) => true | _ => false
def isOth : PyData → Bool | .none => false | .tuple _ => false | _ => true
def sortableB (ds : List PyData) : Bool := ds.all isTup1 || ds.all isOth
abbrev leT (a b : T × PyData) : Bool := PySem.W.dataLe false (fun b : T × PyData => b.2) a b
def sortT (ts : List T) (ds : List PyData) : List T := ((ts.zip ds).mergeSort leT).map (·.1)
def bSortI (ts : List T) (h : Hh) : Res T := match optL (toD h 24) ts with
  | some ds => if alikeB ds = true ∧ sortableB ds = true ∧ ts.length ≤ 1000 then alloc (.lst (sortT ts ds)) h else .stk
  | none => .stk
def bSorted (xs : List T) (h : Hh) : Res T := match xs with
  | [.tup ts] => bSortI ts h
  | [.fl ts] => bSortI ts h
  | [.ref l] => (match lstAt h l with | some ts => bSortI ts h | none => .stk)
  | _ => .stk
theorem nx_sorted : NoXL bSorted := fun x h c fs h' e => by unfold bSorted bSortI alloc at e; (repeat' split at e) <;> cases e
theorem optL_len {α : Type} {f : T → Option α} : ∀ {ts : List T} {ds : List α}, optL f ts = some ds → ts.length = ds.length
  | [], _, e => by cases e; rfl
  | t :: ts, ds, e => by
    unfold optL at e
    cases h1 : f t with
    | none => rw [h1] at e; simp at e
    | some d =>
      cases h2 : optL f ts with
      | none => rw [h1, h2] at e; simp at e
      | some ds => rw [h1, h2] at e; cases e; simp [optL_len h2]
theorem sort_rel {m : Mp} {H : Hp} {ts : List T} {vs : List V} (r : RTs X.K X.mg m H ts vs) (ds : List PyData) (hl : ts.length = ds.length) : RTs X.K X.mg m H (sortT ts ds) (((vs.zip ds).mergeSort leD).map (·.1)) := by
  have key : ∀ (ts : List T) (vs : List V) (ds : List PyData), RTs X.K X.mg m H ts vs → ts.length = ds.length → ∃ zs : List ((T × V) × PyData), ts.zip ds = zs.map (fun z => (z.1.1, z.2)) ∧ vs.zip ds = zs.map (fun z => (z.1.2, z.2)) ∧ ∀ z ∈ zs, RT X.K X.mg m H z.1.1 z.1.2 := by
    intro ts vs ds r
    induction ds generalizing ts vs with
    | nil => intro e; cases r with | nil => exact ⟨[], rfl, rfl, fun z h => (by cases h)⟩ | cons _ _ => simp at e
    | cons d ds ih =>
      intro e
      cases r with
      | nil => simp at e
      | @cons t0 _ v0 _ r1 rr =>
        obtain ⟨zs, e1, e2, e3⟩ := ih _ _ rr (by simpa using e)
        exact ⟨((t0, v0), d) :: zs, by simp [e1], by simp [e2], fun z h => by rcases List.mem_cons.mp h with rfl | h; exact r1; exact e3 z h⟩
  obtain ⟨zs, e1, e2, e3⟩ := key ts vs ds r hl
  unfold sortT
  rw [e1, e2]
  rw [← PySem.W.sort_maps (r := fun a b : (T × V) × PyData => PySem.W.dataLe false (fun z : (T × V) × PyData => z.2) a b) (s := leT) (fun z : (T × V) × PyData => (z.1.1, z.2)) (fun a _ b _ => rfl), ← PySem.W.sort_maps (r := fun a b : (T × V) × PyData => PySem.W.dataLe false (fun z : (T × V) × PyData => z.2) a b) (s := leD) (fun z : (T × V) × PyData => (z.1.2, z.2)) (fun a _ b _ => rfl), List.map_map, List.map_map]
  have all : ∀ z ∈ zs.mergeSort (fun a b : (T × V) × PyData => PySem.W.dataLe false (fun z : (T × V) × PyData => z.2) a b), RT X.K X.mg m H z.1.1 z.1.2 := fun z h => e3 z (List.mem_mergeSort.mp h)
  generalize zs.mergeSort (fun a b : (T × V) × PyData => PySem.W.dataLe false (fun z : (T × V) × PyData => z.2) a b) = ys at all
  induction ys with
  | nil => exact .nil
  | cons y ys ih => exact .cons (all y (.head _)) (ih fun z h => all z (.tail _ h))
theorem cs_sorted (hu : X.A.units + 65 < cLine) : CallR X (.builtin "sorted") (rPL X.K X.mg bSorted) := by
  intro pins s σ H xs us Q I ru ⟨m, h, ts, r, R, o⟩
  have go : ∀ (p : Addr) (vs : List V) (us' : List T), xs = [.ref p] → (SqL X.K H p vs ∨ SqT X.K H p vs) → RTs X.K X.mg m H us' vs → OutP X.K X.mg Q m H (bSortI us' h) → wpAny (model X.prog X.w) X.A (call (.builtin "sorted") us) (EP X pins σ Q) X.xe s := by
    intro p vs ts ex hp rr o
    unfold bSortI at o
    split at o
    · rename_i ds ed
      split at o
      · rename_i cond
        obtain ⟨c1, c2, c3⟩ := cond
        obtain ⟨d1, d2, d3⟩ := optL_dp (n := 24) (fun t v d r e => toD_dp R 24 t v d r e) rr ed
        have hl := optL_len ed
        have hl2 := rr.length
        have z1 : (vs.zip ds).map (·.1) = vs := List.map_fst_zip (by omega)
        have z2 : (vs.zip ds).map (·.2) = ds := List.map_snd_zip (by omega)
        have dps : ∀ (vs : List V) (ds : List PyData), DpAll X.K H vs ds → PyData.depthAll ds ≤ 24 → ∀ b ∈ vs.zip ds, Dp X.K H b.1 b.2 ∧ b.2.depth ≤ 24 := by
          intro vs
          induction vs with
          | nil => intro ds q _ b hb; cases q; cases hb
          | cons v vs ih =>
            intro ds q dd b hb
            cases q with
            | cons q1 q2 =>
              simp only [PyData.depthAll] at dd
              rcases List.mem_cons.mp hb with rfl | hb
              · exact ⟨q1, by simp only; omega⟩
              · exact ih _ q2 (by omega) b hb
        refine cr_sorted hu pins s σ H xs us Q I ru ⟨p, vs.zip ds, ex, by rw [z1]; exact hp, dps vs ds d1 d3, ?_, ?_, by rw [List.length_zip]; omega, fun q hq => OutP.newLst R (sort_rel rr ds hl) o hq⟩
        · rw [z2]
          intro d hd e he
          exact List.all_eq_true.mp (List.all_eq_true.mp c1 d hd) e he
        · rw [z2]
          unfold sortableB at c2
          rw [Bool.or_eq_true] at c2
          rcases c2 with c2 | c2
          · refine .inl fun d hd => ?_
            have := List.all_eq_true.mp c2 d hd
            unfold isTup1 at this
            split at this
            · exact ⟨_, _, rfl⟩
            · cases this
          · refine .inr fun d hd => ?_
            have := List.all_eq_true.mp c2 d hd
            unfold isOth at this
            split at this
            · cases this
            · cases this
            · rename_i h1 h2; exact ⟨h1, h2⟩
      · exact False.elim o
    · exact False.elim o
  unfold bSorted at o
  split at o
  · obtain ⟨v, rfl, r1⟩ := r.one
    cases r1 with
    | tup hq r2 => exact go _ _ _ rfl (.inr hq.t) r2 o
  · obtain ⟨v, rfl, r1⟩ := r.one
    cases r1 with
    | fl hq r2 => exact go _ _ _ rfl (.inl hq.sq) r2 o
  · obtain ⟨v, rfl, r1⟩ := r.one
    split at o
    · rename_i ts q1
      cases r1 with
      | ref e1 =>
        obtain ⟨vs, g1, r2⟩ := R.lst e1 q1
        exact go _ _ _ rfl (.inl (SqL.of g1)) r2 o
    · exact False.elim o
  · exact False.elim o
end
end W3
end

section
namespace W3
open PySem PySem.Spec PyProof.Rows
open L2
def It2 (K : PySem.W.Frag) (a b : Addr) : It where
  go := fun i H => ∃ (xs ys : List V) (x y : V), (SqT K H a xs ∧ xs[i]? = some x) ∧ SqT K H b ys ∧ ys[i]? = some y
  yld := fun i H v H2 => ∃ q x y ob, (v = .ref q ∧ H q = none ∧ ob.dict = none) ∧ H2 = upd H q (.frz ob (.tup [x, y])) ∧ (∀ xs, SqT K H a xs → xs[i]? = some x) ∧ ∀ ys, SqT K H b ys → ys[i]? = some y
  stop := fun i H => ∃ xs ys : List V, (SqT K H a xs ∧ SqT K H b ys) ∧ (xs.length ≤ i ∨ ys.length ≤ i)
theorem turn2 {P : Program} {w : World} {K : PySem.W.Frag} {elts : List Expr} {kk : Nat} {tpos : Pos} {a b z TI TO j1 j2 : Addr} (D : ZipApart z TI TO j1 j2 a b) :
    Turn P w K (.Tuple elts kk tpos) (It2 K a b) [z, TI, TO, j1, j2] z (fun i h => IsZip h z TI TO .none ∧ IsPair h TI (.ref j1) (.ref j2) ∧ (∃ x y, IsPair h TO x y) ∧ h.IsTupleIter j1 a i ∧ h.IsTupleIter j2 b i) where
  mem := .head _
  obj := fun i h st c hc => by
    obtain ⟨s1, s2, ⟨_, _, s3⟩, ⟨o4, s4, _, d4⟩, o5, s5, _, d5⟩ := st
    simp only [List.mem_cons, List.not_mem_nil, or_false] at hc
    rcases hc with rfl | rfl | rfl | rfl | rfl
    · exact ⟨_, s1, fun _ q => nomatch q⟩
    · exact ⟨_, s2, fun _ q => nomatch q⟩
    · exact ⟨_, s3, fun _ q => nomatch q⟩
    · exact ⟨o4, s4, fun _ q => by rw [d4] at q; cases q⟩
    · exact ⟨o5, s5, fun _ q => by rw [d5] at q; cases q⟩
  keep := fun i h h2 st k => by
    obtain ⟨s1, s2, ⟨x, y, s3⟩, s4, s5⟩ := st
    exact ⟨k z (by simp) _ s1, k TI (by simp) _ s2, ⟨x, y, k TO (by simp) _ s3⟩, s4.at fun o q => k j1 (by simp) o q, s5.at fun o q => k j2 (by simp) o q⟩
  item := by
    intro X hP hw hK hc i pins s σ H E I hf st hg
    subst hP hw hK
    obtain ⟨s1, s2, ⟨x0, y0, s3⟩, s4, s5⟩ := st
    obtain ⟨xs, ys, x, y, ⟨qx, ex⟩, qy, ey⟩ := hg
    obtain ⟨us, rv, p1, _⟩ := I.tuple qx
    obtain ⟨ws, rw, p2, _⟩ := I.tuple qy
    obtain ⟨u, eu, ru⟩ := rv.get ex
    obtain ⟨v, ev, rv2⟩ := rw.get ey
    have zl : z < s.heap.objs.size := Heap.lt_size s1
    refine RZ.pyNext_zipT_item D s1 s2 s3 s4 s5 p1 p2 (x := u) (y := v) (by simpa using eu) (by simpa using ev) fun h2 g1 g3 g4 g5 gT gs gk => ?_
    refine ⟨_, rfl, wpAny_letOwnedTupleGo_zip (s := { s with heap := h2 }) g1 fun h3 f1 sb => ?_⟩
    have at3 : h3.get? s.heap.objs.size = some { cls := .type "tuple", data := .seq #[u, v] } := (sb.2 _ (Nat.ne_of_gt zl)).trans gT
    have new : ObjOk X.prog X.w (upd H s.heap.objs.size (.frz { cls := .type "tuple", data := .seq #[u, v] } (.tup [x, y]))) h3 s.heap.objs.size (.frz { cls := .type "tuple", data := .seq #[u, v] } (.tup [x, y])) :=
      ⟨at3, by show 2 ≤ sizeLine; decide, [u, v], .cons ru (.cons rv2 .nil), _, at3, rfl, _, rfl⟩
    have J : L2.Inv X pins σ (upd H s.heap.objs.size (.frz { cls := .type "tuple", data := .seq #[u, v] } (.tup [x, y]))) { s with heap := h3 } :=
      I.turnedNew (t' := s.toks) (ch := [z, TI, TO, j1, j2]) (fun c o hb q => (sb.2 c (fun e => hb (by simp [e]))).trans (gk c o (fun e => hb (by simp [e])) (fun e => hb (by simp [e])) (fun e => hb (by simp [e])) (fun e => hb (by simp [e])) q)) hf (Nat.le_refl _) new
    refine ⟨.ref s.heap.objs.size, _, J, rfl, ⟨_, x, y, _, ⟨rfl, I.hok.fresh (Nat.le_refl _), rfl⟩, rfl, fun l hl => by rw [I.tuple_inj hl qx]; exact ex, fun l hl => by rw [I.tuple_inj hl qy]; exact ey⟩,
      ⟨f1, (sb.2 _ D.TIz).trans (gk _ _ D.TIz D.TITO D.TIi1 D.TIi2 s2), ⟨u, v, (sb.2 _ D.TOz).trans g3⟩, g4.at fun o q => (sb.2 _ D.i1z).trans q, g5.at fun o q => (sb.2 _ D.i2z).trans q⟩, fun c hcm => ?_⟩
    have hlt : c < s.heap.objs.size := by
      simp only [List.mem_cons, List.not_mem_nil, or_false] at hcm
      rcases hcm with rfl | rfl | rfl | rfl | rfl
      · exact zl
      · exact Heap.lt_size s2
      · exact Heap.lt_size s3
      · obtain ⟨_, e, _⟩ := s4; exact Heap.lt_size e
      · obtain ⟨_, e, _⟩ := s5; exact Heap.lt_size e
    rw [upd_ne (Nat.ne_of_lt hlt)]
    exact (hf c hcm).1
  done := by
    intro X hP hw hK hc i pins s σ H E I hf st hg
    subst hP hw hK
    obtain ⟨s1, s2, ⟨x0, y0, s3⟩, s4, s5⟩ := st
    obtain ⟨xs, ys, ⟨qx, qy⟩, en⟩ := hg
    obtain ⟨us, rv, p1, _⟩ := I.tuple qx
    obtain ⟨ws, rw, p2, _⟩ := I.tuple qy
    have n1 := rv.length
    have n2 := rw.length
    have he : us.toArray[i]? = none ∨ ws.toArray[i]? = none := en.elim (fun q => .inl (by simp; omega)) (fun q => .inr (by simp; omega))
    exact RZ.pyNext_zipT_end (I.ok.hd hc) D s1 s2 s3 s4 s5 p1 p2 he fun h2 gk => ⟨rfl, I.turnedL (t' := s.toks) (ch := [z, TI, TO, j1, j2]) (fun c o hb q =>
      gk c o (fun e => hb (by simp [e])) (fun e => hb (by simp [e])) (fun e => hb (by simp [e])) (fun e => hb (by simp [e])) q) hf⟩
  self := fun A i s Q E st h => wpAny_pyIter_zip st.1 h
theorem pi_zip2 {X : Cx} {e e2 : Expr} {ta : TA} {p pos tpos : Pos} {elts : List Expr} {kk : Nat} (hg : Gl X "zip") (hm : X.mg "zip" = none) (ha : PA X [e, e2] ta)
    (hs : starEach [e, e2] X.env = (false, eval e X.env) :: starEach [e2] X.env) (hpl : (backTo pos (starEach [e2] X.env)).any (·.1) = false) :
    PI X (.Tuple elts kk tpos) (.Call (.Name "zip" p) [e, e2] [] pos) (fun σ H R => ta σ H fun vs H1 => ∃ a b xs ys, vs = [.ref a, .ref b] ∧ (SqT X.K H1 a xs ∧ SqT X.K H1 b ys) ∧ R (It2 X.K a b) H1) := by
  refine ⟨fun pins s σ H R I h => Call_ (ld_blt I hg hm PyProof.Rows.boot_zip (PyProof.Rows.callWith_type1 (thn (ha.run pos pins s σ H _ I h) fun us s1 ⟨vs, H1, I1, r1, q1⟩ => ?_) hs hpl))⟩
  obtain ⟨a, b, xs, ys, rfl, ⟨qx, qy⟩, q⟩ := q1
  obtain ⟨u1, u2, rfl, ra, rb⟩ := Vals.two r1
  cases ra
  cases rb
  obtain ⟨its1, _, p1, _⟩ := I1.tuple qx
  obtain ⟨its2, _, p2, _⟩ := I1.tuple qy
  obtain ⟨o1, ho1, _⟩ := id p1
  obtain ⟨o2, ho2, _⟩ := id p2
  refine RZ.call_zipT (show s1.heap.IsTuple a its1.toArray from p1) (show s1.heap.IsTuple b its2.toArray from p2) fun h2 g1 g2 g3 g4 g5 gs gk => wpAny_pyIter_zip g1 ?_
  refine ⟨s1.heap.objs.size + 4, [s1.heap.objs.size + 4, s1.heap.objs.size + 2, s1.heap.objs.size + 3, s1.heap.objs.size, s1.heap.objs.size + 1], _, _, H1, rfl, I1.kept (t' := s1.toks) gk,
    turn2 (PySem.W.ktu_apart s1.heap.objs.size a b (Heap.lt_size ho1) (Heap.lt_size ho2)), ⟨g1, g2, ⟨_, _, g3⟩, g4, g5⟩, fun c hc => ?_, q⟩
  have hle : s1.heap.objs.size ≤ c := by
    simp only [List.mem_cons, List.not_mem_nil, or_false] at hc
    rcases hc with rfl | rfl | rfl | rfl | rfl <;> first | exact Nat.le_refl _ | exact Nat.le_add_right _ _
  exact I1.fpOk hle (I1.hok.fresh hle)
def zipL : List T → List T → List T
  | x :: xs, y :: ys => .tup [x, y] :: zipL xs ys
  | _, _ => []
theorem zipL_get : ∀ (xs ys : List T) (i : Nat), (zipL xs ys)[i]? = match xs[i]?, ys[i]? with | some x, some y => some (.tup [x, y]) | _, _ => none
  | [], ys, i => by simp [zipL]
  | x :: xs, [], i => by simp [zipL]
  | x :: xs, y :: ys, 0 => by simp [zipL]
  | x :: xs, y :: ys, i + 1 => by
    show (zipL xs ys)[i]? = _
    rw [zipL_get xs ys i]
    simp
section
variable {K : PySem.W.Frag} {mg : Str → Option Value} {m : Mp} {H : Hp}
theorem srcj_zip2 {a b : Addr} {vs ws : List V} {ts us : List T} (hq : SqT K H a vs) (r : RTs K mg m H ts vs) (hq2 : SqT K H b ws) (r2 : RTs K mg m H us ws) : SrcJ K mg m H (.its (zipL ts us)) (It2 K a b) where
  go := fun m' h' H' i x E R e => by
    have e' : (zipL ts us)[i]? = some x := Option.some.inj e
    rw [zipL_get] at e'
    cases hx : ts[i]? with
    | none => rw [hx] at e'; cases e'
    | some t =>
      cases hy : us[i]? with
      | none => rw [hx, hy] at e'; cases e'
      | some u =>
        rw [hx, hy] at e'
        have e2 : T.tup [t, u] = x := Option.some.inj e'
        subst e2
        obtain ⟨v, ev, rv⟩ := r.get hx
        obtain ⟨w, ew, rw⟩ := r2.get hy
        refine ⟨⟨vs, ws, v, w, ⟨SqT.tr E hq, ev⟩, SqT.tr E hq2, ew⟩, fun y H2 ⟨q, z1, z2, ob, ⟨e1, hT, hd⟩, e2, e3, e4⟩ => ?_⟩
        subst e1 e2
        have q1 := e3 vs (SqT.tr E hq)
        rw [ev] at q1; cases q1
        have q2 := e4 ws (SqT.tr E hq2)
        rw [ew] at q2; cases q2
        have E2 := Ext.garbage (o := .frz ob (.tup [v, w])) R hT
        exact ⟨E2, R.garbage hT, .tup (.inl ⟨ob, upd_same, hd⟩) (.cons ((rv.tr E).ext E2) (.cons ((rw.tr E).ext E2) .nil))⟩
  stop := fun m' h' H' i E R e => by
    have e' : (zipL ts us)[i]? = none := Option.some.inj e
    rw [zipL_get] at e'
    refine ⟨vs, ws, ⟨SqT.tr E hq, SqT.tr E hq2⟩, ?_⟩
    rw [← r.length, ← r2.length]
    cases hx : ts[i]? with
    | none => exact .inl (List.getElem?_eq_none_iff.mp hx)
    | some t =>
      cases hy : us[i]? with
      | none => exact .inr (List.getElem?_eq_none_iff.mp hy)
      | some u => rw [hx, hy] at e'; cases e'
end
def zipOf (xs : List T) (h : Hh) : Res Src := match xs with | [.tup ts, .tup us] => .ok (.its (zipL ts us)) h | _ => .stk
def siZip (a : SA) : SI := fun σ h => (a σ h).bind zipOf
section
variable {X : Cx} {P : Pq} {W : WX} {a b c : Expr} {ar : SA} {sb : SE} {pos p : Pos}
theorem di_zip {p tpos : Pos} {elts : List Expr} {kk : Nat} (hg : Gl X "zip") (hm : X.mg "zip" = none) (ha : DA X P W [a, b] ar) (hs : starEach [a, b] X.env = (false, eval a X.env) :: starEach [b] X.env := by rfl) (hpl : (backTo pos (starEach [b] X.env)).any (·.1) = false := by rfl) : DI X P W (.Tuple elts kk tpos) (.Call (.Name "zip" p) [a, b] [] pos) (siZip ar) :=
  PI.imp (pi_zip2 hg hm ha hs hpl) fun σV H R ⟨m, h, σ, A, o⟩ => by
    refine A.first (rel1 := RTs X.K X.mg) o fun m1 h1 ts x H1 E1 r A1 o1 => ?_
    unfold zipOf at o1
    split at o1
    · obtain ⟨v, w, rfl, r1, r2⟩ := r.two
      cases r1 with
      | @tup a vs ts hq q1 =>
        cases r2 with
        | @tup b ws us hq2 q2 =>
          exact ⟨a, b, vs, ws, rfl, ⟨hq.t, hq2.t⟩, o1 _ m1 H1 (Ext.refl _ _) (srcj_zip2 hq.t q1 hq2.t q2) A1.hr⟩
    · exact False.elim o1
def KIs (K : PySem.W.Frag) (mg : Str → Option Value) (a : Addr) (t : T) : Prop := ∀ m H, RT K mg m H t (.ref a)
theorem dgk {x : Str} {t : T} (hm : ∃ a, X.mg x = some (.ref a) ∧ KIs X.K X.mg a t) (hg : Gl X x := by rfl) (hd : (x == ("__debug__" : Str)) = false := by decide) : DE X P W (.Name x pos) (sC t) := by
  obtain ⟨a, hm, k⟩ := hm
  exact de_glob (v := .ref a) hg hm rfl (fun m H => k m H) hd
inductive StrsK : List Str → List Value → Prop
  | nil : StrsK [] []
  | cons {s : Str} {t : Tok} {ss : List Str} {vs : List Value} : StrsK ss vs → StrsK (s :: ss) (.str s t :: vs)
theorem kis_strs {K : PySem.W.Frag} {mg : Str → Option Value} {a : Addr} {ss : List Str} {its : Array Value} {n : Nat} {sl : Array (Option Value)} (hk : K.lookup a = some ⟨.type "tuple", none, .seq its n, sl⟩) (hz : its.size ≤ sizeLine) (hs : StrsK ss its.toList) (ho : ss.all PyData.strOk = true) : KIs K mg a (.tup (ss.map T.str)) := fun m H => by
  have v : Vals (ss.map V.str) its.toList := by
    generalize its.toList = vs at hs
    induction hs with
    | nil => exact .nil
    | cons _ ih => exact .cons ⟨_, rfl⟩ (ih (by simp only [List.all_cons, Bool.and_eq_true] at ho; exact ho.2))
  refine .tup (vs := ss.map V.str) (.inr ⟨_, its, n, hk, rfl, rfl, rfl, hz, v⟩) ?_
  clear hs v
  induction ss with
  | nil => exact .nil
  | cons s ss ih =>
    simp only [List.all_cons, Bool.and_eq_true] at ho
    exact .cons (.str ho.1) (ih ho.2)
def KDic (K : PySem.W.Frag) (w : World) (mg : Str → Option Value) (a : Addr) (kvs : List (Str × T)) : Prop := ∀ k t, kvs.lookup k = some t → ∃ b, KDct K w a k (.ref b) ∧ KIs K mg b t
def oMenu (kvs : List (Str × T)) (x : T) (h : Hh) : Res T := match x with | .str s => (match kvs.lookup s with | some t => .ok t h | none => .stk) | _ => .stk
theorem nx_menu (kvs : List (Str × T)) : NoX1 (oMenu kvs) := fun x h c fs h' e => by unfold oMenu at e; (repeat' split at e) <;> cases e
theorem de_menu {x : Str} {kvs : List (Str × T)} (hm : ∃ a, X.mg x = some (.ref a) ∧ KDic X.K X.w X.mg a kvs) (hb : DE X P W b sb) (hg : Gl X x := by rfl) (hd : (x == ("__debug__" : Str)) = false := by decide) (hs : PlainIx b := by intro _ _; rfl) :
    DE X P W (.Subscript (.Name x p) b pos) (s1 (oMenu kvs) sb) := by
  obtain ⟨a, hm, kd⟩ := hm
  refine PE.imp (pe_ix ix_kdict (pe_glob (v := .ref a) hg hm rfl hd) hb hs) fun σV H Q h => ?_
  refine tG.mono (fun v H1 hq => ?_) (one (nx_menu kvs) h)
  obtain ⟨m, h, t, r, R, o⟩ := hq
  cases r with
  | str hs =>
    rename_i k
    have o' : OutP X.K X.mg Q m H1 (match kvs.lookup k with | some t => .ok t h | none => .stk) := o
    split at o'
    · rename_i t e
      obtain ⟨b, q1, q2⟩ := kd k t e
      exact ⟨a, k, _, rfl, rfl, q1, o' _ m H1 (Ext.refl _ _) (q2 m H1) R⟩
    · exact False.elim o'
  | _ => exact False.elim o
end
end W3
namespace W3
open PySem PySem.Spec PyProof.Rows
open L2
inductive KRows (K : PySem.W.Frag) (w : World) (mg : Str → Option Value) (a : Addr) : List (Str × T) → Prop
  | nil : KRows K w mg a []
  | cons {k : Str} {t : T} {r : List (Str × T)} : (∃ b, KDct K w a k (.ref b) ∧ KIs K mg b t) → KRows K w mg a r → KRows K w mg a ((k, t) :: r)
theorem kdic_of {K : PySem.W.Frag} {w : World} {mg : Str → Option Value} {a : Addr} {kvs : List (Str × T)} (h : KRows K w mg a kvs) : KDic K w mg a kvs := by
  induction h with
  | nil => intro k t e; simp [List.lookup] at e
  | @cons k0 t0 r q _ ih =>
    intro k t e
    simp only [List.lookup] at e
    split at e
    · rename_i hk
      cases e
      have : k = k0 := by simpa using hk
      subst this
      exact q
    · exact ih k t e
end W3
end

section
namespace W3
open PySem L2
theorem RTs.eraseIdx {K : PySem.W.Frag} {mg : Str → Option Value} {m : Mp} {H : Hp} : ∀ {ts : List T} {vs : List V} (i : Nat), RTs K mg m H ts vs → RTs K mg m H (ts.eraseIdx i) (vs.eraseIdx i)
  | _, _, _, .nil => .nil
  | _, _, 0, .cons _ q => q
  | _, _, i + 1, .cons p q => .cons p (RTs.eraseIdx i q)
def mPop (x : T) (vs : List T) (h : Hh) : Res T :=
  match x, vs with
  | .ref l, [.int i] => (match lstAt h l with
    | some ts => if 0 ≤ i ∧ i < 1000000 then (match ts[i.toNat]? with | some t => .ok t (h.set l (.lst (ts.eraseIdx i.toNat))) | none => .stk) else .stk
    | none => .stk)
  | _, _ => .stk
section
variable {X : Cx}
def ssPar2 (i j : Nat) (sa : SA) : SS := fun σ h => (sa σ h).flo σ fun xs h1 => match xs with | [x, y] => .nx ((σ.set i (some x)).set j (some y)) h1 | _ => .stk
end
@[simp] theorem e_ssPar2 (i j : Nat) (sa : SA) (σ : St3) (h : Hh) : ssPar2 i j sa σ h = (sa σ h).flo σ fun xs h1 => match xs with | [x, y] => .nx ((σ.set i (some x)).set j (some y)) h1 | _ => .stk := Eq.trans rfl rfl
@[simp] theorem e_pop (l : Nat) (i : Int) (h : Hh) : mPop (.ref l) [.int i] h = match lstAt h l with
    | some ts => if 0 ≤ i ∧ i < 1000000 then (match ts[i.toNat]? with | some t => .ok t (h.set l (.lst (ts.eraseIdx i.toNat))) | none => .stk) else .stk
    | none => .stk := Eq.trans rfl rfl
end W3
end

section
namespace W3
open PySem PySem.Spec PyProof.Rows
open L2
theorem funOfD {K : PySem.W.Frag} {x qual : Str} {st : Stmt} {f : Addr} {fd : FuncData} (F : FunD K x qual (defArgs st) (defBody st) (defScope st) [] [] f fd) : Fun K x qual st f fd := by
  obtain ⟨⟨oc, od, dV, kV, doc, pm, an, cdv, ct, osl, e, l, c, d, k⟩, kp⟩ := F
  have h : dV = .none := by
    rcases d with ⟨_, h⟩ | ⟨h, _⟩
    · exact h
    · exact absurd rfl h
  subst h
  exact ⟨⟨oc, od, kV, doc, pm, an, cdv, ct, osl, e, l, c⟩, kp⟩
theorem oexB_ok {K : PySem.W.Frag} {C : Addr} (h : oexB K C = true) : ∃ nm q N bs bm sn sub ab col dd k0 k1 k2 k3 k5, K.lookup C = some (excClassObj nm q C N bs bm true sn sub ab col dd k0 k1 k2 k3 k5 "ValueError.__new__") ∧ PySem.HandSPX.refsVE bm = true := by
  unfold oexB at h
  split at h
  · rename_i t dd cd sl ho
    obtain ⟨h1, h2⟩ := He.ba h
    have e1 := of_decide_eq_true h1
    subst e1
    split at h2
    · rename_i C' bm k0 k1 k2 k3 n k5 hm hs
      obtain ⟨a1, h3⟩ := He.ba h2
      obtain ⟨a2, h4⟩ := He.ba h3
      obtain ⟨a3, h5⟩ := He.ba h4
      obtain ⟨a4, a5⟩ := He.ba h5
      have e1 := of_decide_eq_true a1
      have e2 := of_decide_eq_true a2
      obtain ⟨nm, bs, mro, ns, qn, hd, sn, sub, ab, col, del⟩ := cd
      dsimp only at hm a3 a4
      have e3 : del = false := by simpa using a3
      subst e1 e2 e3 a4 hm
      have hsl : sl = #[k0, k1, k2, k3, some (.builtin "ValueError.__new__"), k5] := by
        obtain ⟨l⟩ := sl
        simp only at hs
        rw [hs]
      subst hsl
      exact ⟨nm, qn, ns, bs, bm, sn, sub, ab, col, dd, k0, k1, k2, k3, k5, ho, a5⟩
    · cases h2
  · cases h
structure XInit (prog : Program) (K : PySem.W.Frag) (C f : Addr) (qual : Str) (st : Stmt) : Prop where
  ex : ∃ (cc c : Addr) (doc pm ct : Value) (an : Option Addr), (∃ oc od osl, K.lookup f = some ⟨oc, od, .func (fdE "__init__" qual (defArgs st) (defBody st) (defScope st) cc c doc pm ct an), osl⟩) ∧
    (∃ ccl cdd vs ccs file tf, K.lookup c = some ⟨ccl, cdd, .fields vs, ccs⟩ ∧ vs[2]? = some (.str file tf) ∧ ((prog.main.file : Str) == file) = true) ∧
    (∃ cl cld csl, K.lookup cc = some ⟨cl, cld, .cell (some (.ref C)), csl⟩) ∧ PySem.W.codeIn K (.ref c) qual = true
theorem xinit_of {prog : Program} {K : PySem.W.Frag} {C f : Addr} {qual : Str} {st : Stmt} (e : fnE K f = xeV qual st) (h : initB K C f prog.main.file qual = true) : XInit prog K C f qual st := by
  unfold fnE xeV at e
  unfold initB at h
  cases q : K.lookup f with
  | none => rw [q] at h; cases h
  | some o =>
    obtain ⟨oc, od, dt, osl⟩ := o
    rw [q] at h e
    cases dt with
    | func fd =>
      obtain ⟨n1, n2, n3, n4, n5, n6, n7, n8, n9, n10, n11, n12, n13, n14, n15⟩ := fd
      dsimp only at h e
      simp only [Option.some.injEq, Prod.mk.injEq] at e
      obtain ⟨h1, h2, h3, h4, h5, h6, h7, h8, h9, h10⟩ := e
      split at h
      · rename_i x cc c
        have hx : x = ("__class__" : Str) := List.head_eq_of_cons_eq h7
        subst h1 h2 h3 h4 h5 h6 h8 h9 h10 hx
        obtain ⟨b1, b2⟩ := He.ba h
        obtain ⟨b2, b3⟩ := He.ba b2
        refine ⟨cc, c, _, _, _, _, ⟨_, _, _, q⟩, ?_, ?_, b3⟩
        · unfold fileB at b2
          split at b2
          · rename_i ho
            split at b2
            · rename_i hv
              exact ⟨_, _, _, _, _, _, ho, hv, b2⟩
            · cases b2
          · cases b2
        · unfold cellB at b1
          split at b1
          · rename_i ho
            have := of_decide_eq_true b1
            subst this
            exact ⟨_, _, _, ho⟩
          · cases b1
      · cases h
    | _ => cases h
theorem strsA_ok : ∀ {ss : List Str} {vs : List Value}, strsA ss vs = true → StrsK ss vs
  | [], [], _ => .nil
  | [], _ :: _, h => by cases h
  | _ :: _, [], h => by cases h
  | s :: ss, v :: vs, h => by
    cases v with
    | str t tk =>
      obtain ⟨h1, h2⟩ := He.ba (show (decide (s = t) && strsA ss vs) = true from h)
      have := of_decide_eq_true h1
      subst this
      exact .cons (strsA_ok h2)
    | _ => cases h
theorem strsB_ok {K : PySem.W.Frag} {mg : Str → Option Value} {a : Addr} {ss : List Str} (h : strsB K a ss = true) (ho : ss.all PyData.strOk = true) : KIs K mg a (.tup (ss.map T.str)) := by
  unfold strsB at h
  split at h
  · rename_i t its n sl hk
    obtain ⟨h1, h2⟩ := He.ba h
    obtain ⟨h2, h3⟩ := He.ba h2
    have := of_decide_eq_true h1
    subst this
    exact kis_strs hk (of_decide_eq_true h2) (strsA_ok h3) ho
  · cases h
section
variable {fn : List He.DefD} {ts : List He.Tab} {xs : List (PySem.W.Frag → Addr)} {es : List FnE} {bs : List (PySem.W.Frag → Bool)} {w : World} {K : PySem.W.Frag}
theorem SaysZ.t (c : SaysZ fn ts xs es bs w K) : He.SaysT [] fn ts w K := congrArg (fun z : AlZ => z.1) c
theorem SaysZ.b (c : SaysZ fn ts xs es bs w K) (i : Nat) {b : PySem.W.Frag → Bool} (h : bs[i]? = some b := by rfl) : b K = true := by
  have c1 : (bs.all fun b => b K) = true := congrArg (fun z : AlZ => z.2.2) c
  exact List.all_eq_true.mp c1 b (List.mem_of_getElem? h)
theorem SaysZ.x (c : SaysZ fn ts xs es bs w K) (i : Nat) {f : PySem.W.Frag → Addr} {e : FnE} (h : xs[i]? = some f := by rfl) (he : es[i]? = some e := by rfl) : fnE K (f K) = e := by
  have c1 : xs.map (fun f => fnE K (f K)) = es := congrArg (fun z : AlZ => z.2.1) c
  have c2 : (xs.map fun f => fnE K (f K))[i]? = es[i]? := by rw [c1]
  rw [List.getElem?_map, h, he] at c2
  exact Option.some.inj c2
end
theorem walk3E {l : PySem.W.OpenLaw} {q : Program} {loose : List Str} {XP : (Str → Option Value) → Heap → Prop} {YP : World → Heap → Prop} {d : DefRec} {f : List T → Hh → Res T} {k : Nat} {x : Str} (hn : l.most = some 63) (hdf : d.params.defaults = []) (hr : Room k callerA)
    (hf : ∀ ns : List Int, ns.length ≤ 63 → ∃ h', f [.fl (ns.map T.int)] [] = .ok (.bl true) h')
    (F : ∀ (w : World) (mg : Str → Option Value) (fa : Addr) (h : Heap), YP w h → h.Ns mainGlobals mg → mg d.name = some (.ref fa) →
      ∃ (K : PySem.W.Frag) (fd : FuncData), K.In h ∧ (∀ (s : Shared) (u : Value), BindsTo s fd ⟨[u], []⟩ [(x, u)]) ∧ ∀ base : Heap, K.In base → base.Ns mainGlobals mg → FnOk l.prog w K mg base (L2.CX l.prog w) k fa fd [x] (spL K f)) :
    PySem.W.WalkO q loose XP YP l.row.toRowW d [] (fun f vs => PySem.call f vs) := by
  refine Att.attach_call hn hdf fun w s₀ s₁ mg mb fa o pm cd doc a vs ns G Y ho hd hcd hmg hobj hints hlen hg => ?_
  obtain ⟨K, fd, KX, hb, hF⟩ := F w mg fa _ Y G.T.g hmg
  exact law_call KX G.T.g G.T.b G.T.builtins G.T.nolimit hg hobj hints (Nat.le_trans hlen (by decide)) hr hF hb (fun H hO hS mg => sp_law hf hlen hO hS) fun H e s' z => by
    obtain ⟨_, _, _, _, _, _, _, _, _, _, _, _, z⟩ := z
    exact z.elim
end W3
end

section
namespace W3
open PySem PySem.Spec PyProof.Rows
open L2
def dgetT : List (T × T) → Str → Option T
  | [], _ => none
  | (.str s, t) :: r, k => if s = k then some t else dgetT r k
  | _ :: r, k => dgetT r k
def dsetT : List (T × T) → Str → T → List (T × T)
  | [], _, _ => []
  | (.str s, u) :: r, k, t => (.str s, if s = k then t else u) :: dsetT r k t
  | p :: r, k, t => p :: dsetT r k t
def dputT (kvs : List (T × T)) (k : Str) (t : T) : List (T × T) := if (dgetT kvs k).isSome = true then dsetT kvs k t else kvs ++ [(.str k, t)]
section
variable {K : PySem.W.Frag} {mg : Str → Option Value} {m : Mp} {H : Hp} {kvs : List (T × T)} {ks : List (Key × V)}
theorem RK.get (r : RK K mg m H kvs ks) (k : Str) : (∀ t, dgetT kvs k = some t → ∃ v, valV ks (.inr k) = some v ∧ RT K mg m H t v) ∧ (dgetT kvs k = none → valV ks (.inr k) = none) := by
  induction r with
  | nil => exact ⟨fun t e => (by cases e), fun _ => rfl⟩
  | @cons f t v fs fv r _ ih =>
    by_cases e : f = k
    · subst e
      refine ⟨fun u h => ?_, fun h => ?_⟩
      · simp only [dgetT, if_true] at h
        cases h
        exact ⟨v, valV_pos rfl, r⟩
      · simp [dgetT] at h
    · have ne : ¬ ((Sum.inr f : Key) = .inr k) := fun z => e (Sum.inr.inj z)
      have e1 : dgetT ((.str f, t) :: fs) k = dgetT fs k := by simp only [dgetT]; rw [if_neg e]
      rw [e1, valV_neg (p := (Sum.inr f, v)) ne]
      exact ih
theorem RK.isSome (r : RK K mg m H kvs ks) (k : Str) : (dgetT kvs k).isSome = (valV ks (.inr k)).isSome := by
  obtain ⟨h1, h2⟩ := r.get k
  cases e : dgetT kvs k with
  | none => rw [h2 e]; rfl
  | some t =>
    obtain ⟨v, h, _⟩ := h1 t e
    rw [h]
    rfl
theorem RK.length (r : RK K mg m H kvs ks) : kvs.length = ks.length := by
  induction r with
  | nil => rfl
  | cons _ _ ih => simp [ih]
theorem RK.snoc (r : RK K mg m H kvs ks) {k : Str} {t : T} {v : V} (q : RT K mg m H t v) : RK K mg m H (kvs ++ [(.str k, t)]) (ks ++ [(.inr k, v)]) := by
  induction r with
  | nil => exact .cons q .nil
  | cons r _ ih => exact .cons r ih
theorem RK.set (r : RK K mg m H kvs ks) {k : Str} {t : T} {v : V} (q : RT K mg m H t v) : RK K mg m H (dsetT kvs k t) (ks.map fun kv => if kv.1 = (.inr k : Key) then (kv.1, v) else kv) := by
  induction r with
  | nil => exact .nil
  | @cons f u w fs fv r _ ih =>
    simp only [dsetT, List.map_cons]
    by_cases e : f = k
    · subst e
      rw [if_pos rfl, if_pos rfl]
      exact .cons q ih
    · rw [if_neg e, if_neg (fun z => e (Sum.inr.inj z))]
      exact .cons r ih
theorem RK.put (r : RK K mg m H kvs ks) {k : Str} {t : T} {v : V} (q : RT K mg m H t v) : RK K mg m H (dputT kvs k t) (putK ks (.inr k) v) := by
  unfold dputT putK
  rw [valV_any, ← r.isSome k]
  split
  · exact r.set q
  · exact r.snoc q
theorem HR.dic {h : Hh} (R : HR K mg m h H) {l : Nat} {a : Addr} (e : m l = some a) (hl : h[l]? = some (.dic kvs)) : ∃ ks, H a = some (.dK ks) ∧ RK K mg m H kvs ks := by
  obtain ⟨b, e1, r⟩ := R.ob l _ hl
  rw [e] at e1
  cases e1
  exact r
end
def dicAt (h : Hh) (l : Nat) : Option (List (T × T)) := match h[l]? with | some (.dic kvs) => some kvs | _ => none
def oDGet (x k : T) (h : Hh) : Res T := match x, k with
  | .ref l, .str s => (match dicAt h l with
    | some kvs => (match dgetT kvs s with | some t => .ok t h | none => .stk)
    | none => .stk)
  | _, _ => .stk
def oDIn (k x : T) (h : Hh) : Res T := match x, k with
  | .ref l, .str s => (match dicAt h l with
    | some kvs => .ok (.bl (dgetT kvs s).isSome) h
    | none => .stk)
  | _, _ => .stk
def ssDSub (so si sv : SE) : SS := fun σ h => (sv σ h).flo σ fun y h1 => (so σ h1).flo σ fun x h2 => (si σ h2).flo σ fun k h3 => match x, k with
  | .ref l, .str s => (match dicAt h3 l with
    | some kvs => if kvs.length < 1000 then .nx σ (h3.set l (.dic (dputT kvs s y))) else .stk
    | none => .stk)
  | _, _ => .stk
section
variable {X : Cx} {P : Pq} {W : WX} {a b c : Expr} {sa sb sc : SE} {pos p : Pos}
end
end W3
end

section
namespace W3
open PySem
open Sem (wp)
section
variable {prog : Program} {w : World} {A : Around} {E : Value → Shared → Prop} {s : Shared}
end
section
variable {prog : Program} {w : World}
end
end W3
namespace W3
open PySem PySem.Spec PyProof.Rows
open L2
end W3
namespace W3
open PySem PySem.Spec PyProof.Rows
open L2
def mkvT : List T → List T → Option (List (Str × T))
  | [], [] => some []
  | .str s :: ts, u :: us => (mkvT ts us).map ((s, u) :: ·)
  | _, _ => none
def dmrgT (acc : List (T × T)) (fs : List (Str × T)) : List (T × T) := fs.foldl (fun acc p => dputT acc p.1 p.2) acc
def dicZ (xs : List T) (h : Hh) : Res T := match xs with
  | [.tup ts, .tup us] => (match mkvT ts us with
    | some fs => alloc (.dic (dmrgT [] fs)) h
    | none => .stk)
  | _ => .stk
def sDicZ (ar : SA) : SE := fun σ h => (ar σ h).bind dicZ
section
variable {X : Cx} {P : Pq} {W : WX} {a b : Expr} {ar : SA} {pos pos2 p p2 : Pos}
end
end W3
end

section
namespace W3
open PySem PySem.Spec PyProof.Rows
open L2
structure DPs (X : Cx) (P : Pq) (W : WX) (pos : Pos) (keys : List (Option Expr)) (values : List Expr) (ks : List Str) (ar : SA) : Prop where
  ex : ∃ trs, PPs X pos keys values trs ∧ ∀ (σV : L2.St) (H : Hp) (Q : List (V × V) → Hp → Prop), tAr X.K X.mg P W ar σV H (fun vs H1 => Q (List.zipWith (fun k v => (V.str k, v)) ks vs) H1) → tPairs trs σV H Q
section
variable {X : Cx} {P : Pq} {W : WX} {sa : SE} {ar : SA} {pos p : Pos} {v : Expr} {keys : List (Option Expr)} {values : List Expr} {k : Str} {ks : List Str} {j : Nat}
def sDisp (ks : List Str) (ar : SA) : SE := fun σ h => (ar σ (h ++ [.dic []])).bind fun xs h2 => match dicAt h2 h.length with
  | some [] => if xs.length = ks.length ∧ ks.length ≤ 15 then .ok (.ref h.length) (h2.set h.length (.dic (dmrgT [] (ks.zip xs)))) else .stk
  | _ => .stk
end
end W3
namespace W3
open PySem PySem.Spec PyProof.Rows
open L2
def ssPar3 (i j l : Nat) (sa : SA) : SS := fun σ h => (sa σ h).flo σ fun xs h1 => match xs with | [x, y, z] => .nx (((σ.set i (some x)).set j (some y)).set l (some z)) h1 | _ => .stk
section
variable {X : Cx}
end
@[simp] theorem e_ssPar3 (i j l : Nat) (sa : SA) (σ : St3) (h : Hh) : ssPar3 i j l sa σ h = (sa σ h).flo σ fun xs h1 => match xs with | [x, y, z] => .nx (((σ.set i (some x)).set j (some y)).set l (some z)) h1 | _ => .stk := Eq.trans rfl rfl
@[simp] theorem e_dget (l : Nat) (s : Str) (h : Hh) : oDGet (.ref l) (.str s) h = match dicAt h l with
    | some kvs => (match dgetT kvs s with | some t => .ok t h | none => .stk)
    | none => .stk := Eq.trans rfl rfl
@[simp] theorem e_din (l : Nat) (s : Str) (h : Hh) : oDIn (.str s) (.ref l) h = match dicAt h l with
    | some kvs => .ok (.bl (dgetT kvs s).isSome) h
    | none => .stk := Eq.trans rfl rfl
@[simp] theorem e_ssDSub (so si sv : SE) (σ : St3) (h : Hh) : ssDSub so si sv σ h = (sv σ h).flo σ fun y h1 => (so σ h1).flo σ fun x h2 => (si σ h2).flo σ fun k h3 => match x, k with
    | .ref l, .str s => (match dicAt h3 l with
      | some kvs => if kvs.length < 1000 then .nx σ (h3.set l (.dic (dputT kvs s y))) else .stk
      | none => .stk)
    | _, _ => .stk := Eq.trans rfl rfl
@[simp] theorem e_sDicZ (ar : SA) (σ : St3) (h : Hh) : sDicZ ar σ h = (ar σ h).bind dicZ := Eq.trans rfl rfl
@[simp] theorem e_dicZ (ts us : List T) (h : Hh) : dicZ [.tup ts, .tup us] h = match mkvT ts us with
    | some fs => alloc (.dic (dmrgT [] fs)) h
    | none => .stk := Eq.trans rfl rfl
@[simp] theorem e_sDisp (ks : List Str) (ar : SA) (σ : St3) (h : Hh) : sDisp ks ar σ h = (ar σ (h ++ [.dic []])).bind fun xs h2 => match dicAt h2 h.length with
    | some [] => if xs.length = ks.length ∧ ks.length ≤ 15 then .ok (.ref h.length) (h2.set h.length (.dic (dmrgT [] (ks.zip xs)))) else .stk
    | _ => .stk := Eq.trans rfl rfl
end W3
end

section
namespace RZ4
open PySem
open PySem.Sem (wp)
open RZ
structure At4 (z TI TO i1 i2 i3 i4 l1 l2 l3 l4 : Nat) : Prop where
  e2 : i2 = i1 + 1
  e3 : i3 = i1 + 2
  e4 : i4 = i1 + 3
  eI : TI = i1 + 4
  eO : TO = i1 + 5
  ez : z = i1 + 6
  f1 : l1 < i1
  f2 : l2 < i1
  f3 : l3 < i1
  f4 : l4 < i1
section
variable {prog : Program} {w : World} {A : Around} {E : Value → Shared → Prop} {s : Shared}
end
section
variable {prog : Program} {w : World} {A : Around} {E : Value → Shared → Prop} {s : Shared}
end
end RZ4
end

section
namespace W3
open PySem PySem.Spec PyProof.Rows
open L2
open RZ4
def zip4L : List T → List T → List T → List T → List T
  | x :: xs, y :: ys, u :: us, v :: vs => .tup [x, y, u, v] :: zip4L xs ys us vs
  | _, _, _, _ => []
section
variable {K : PySem.W.Frag} {mg : Str → Option Value} {m : Mp} {H : Hp}
end
def zip4Of (xs : List T) (h : Hh) : Res Src := match xs with
  | [.tup t1, .tup t2, .tup t3, .tup t4] => if t2.length = t1.length ∧ t3.length = t1.length ∧ t4.length = t1.length then .ok (.its (zip4L t1 t2 t3 t4)) h else .stk
  | _ => .stk
def siZip4 (a : SA) : SI := fun σ h => (a σ h).bind zip4Of
@[simp] theorem e_siZip4 (a : SA) (σ : St3) (h : Hh) : siZip4 a σ h = (a σ h).bind zip4Of := Eq.trans rfl rfl
section
variable {X : Cx} {P : Pq} {W : WX} {a b c d : Expr} {ar : SA} {pos p : Pos}
end
end W3
end

section
namespace W3
open PySem PySem.Spec PyProof.Rows
open L2
def ssAsgH (a : SE) (g : SGH) : SS := fun σ h => (a σ h).flo σ fun x h1 => match g x σ h1 with | some σ' => .nx σ' h1 | none => .stk
section
variable {X : Cx} {P : Pq} {W : WX} {tg a : Expr} {sa : SE} {pos : Pos}
theorem asgH_read {is : List Nat} {g : SGH} {D : Ends} {σV : L2.St} {H : Hp} (h : tS X.K X.mg P W (ssAsgH sa g) D σV H) : tAsg (tI X.K X.mg P W sa) (tTgH X.K X.mg P is g) D σV H := by
  obtain ⟨m, h, σ, A, o⟩ := h
  refine A.flo (rel1 := RT X.K X.mg) o fun m1 h1 t x H1 E1 r A1 o1 => ?_
  refine ⟨m1, h1, σ, t, A1, r, ?_⟩
  cases e : g t σ h1 with
  | none => rw [e] at o1; exact o1
  | some σ' => rw [e] at o1; exact fun σV' s' _ => o1 σV' m1 H1 (Ext.refl _ _) s' A1.hr
theorem ds_asgH {is : List Nat} {g : SGH} (ha : DE X P W a sa) (hg : DGH X P tg is g) (hs : swapsWithSole [tg] a pos.line X.env = pure false := by rfl) (hw : swappedStores [tg] a X.env = pure none := by rfl)
    (h1 : (assignEach [tg] X.env).map (·.2) = [assign tg X.env] := by rfl) : DS X P W (.Assign [tg] a pos) (ssAsgH sa g) := PS.imp (ps_asg ha hg hs hw h1) fun D σV H h => asgH_read h
end
@[simp] theorem e_ssAsgH (a : SE) (g : SGH) (σ : St3) (h : Hh) : ssAsgH a g σ h = (a σ h).flo σ fun x h1 => match g x σ h1 with | some σ' => .nx σ' h1 | none => .stk := Eq.trans rfl rfl
@[simp] theorem e_sgLst (n : Nat) (g : SGs) (l : Nat) (σ : St3) (h : Hh) : sgLst n g (.ref l) σ h = match lstAt h l with | some ts => if ts.length = n then g ts σ else none | none => none := Eq.trans rfl rfl
end W3
end

section
namespace OwLen
open PySem PySem.Spec PyProof.Rows
section
variable {prog : Program} {w : World} {A : Around} {E : Value → Shared → Prop} {s : Shared} {K : PySem.W.Frag} {x C D f : Addr} {ox od : Obj} {odd : Option Obj}
end
end OwLen
namespace L2
open PySem PySem.Spec PyProof.Rows
section
variable {X : Cx} {CX : CXT} {k : Nat} {C g : Addr} {fd : FuncData} {ps : List Str} {sp : Sp} {E : XK}
end
end L2
end

section
namespace W3
open PySem PySem.Spec PyProof.Rows
open L2
def fLen (cn : Str) (ff : List T → Hh → Res T) (xs : List T) (h : Hh) : Res T := match xs with
  | [.ref l] => (match insAt h l with
    | some (d, _) => if d = cn then (match ff [.ref l] h with
      | .ok (.int i) h' => if 0 ≤ i ∧ i < 2 ^ 63 then .ok (.int i) h' else .stk
      | _ => .stk) else .stk
    | none => bLen [.ref l] h)
  | _ => bLen xs h
theorem takesWF (X : Cx) : Takes X WF := fun u s' ⟨_, _, _, _, _, _, _, _, _, _, _, _, _, _, _, _, w⟩ => False.elim w
def sProp (cn : Str) (ff : List T → Hh → Res T) (so : SE) : SE := fun σ h => (so σ h).bind fun x h1 => match x with
  | .ref l => (match insAt h1 l with
    | some (d, _) => if d = cn then (match ff [.ref l] h1 with | .ok t h2 => .ok t h2 | _ => .stk) else .stk
    | none => .stk)
  | _ => .stk
@[simp] theorem e_sProp (cn : Str) (ff : List T → Hh → Res T) (so : SE) (σ : St3) (h : Hh) : sProp cn ff so σ h = (so σ h).bind fun x h1 => match x with
  | .ref l => (match insAt h1 l with
    | some (d, _) => if d = cn then (match ff [.ref l] h1 with | .ok t h2 => .ok t h2 | _ => .stk) else .stk
    | none => .stk)
  | _ => .stk := Eq.trans rfl rfl
end W3
end

section
namespace W3
open PySem PySem.Spec PyProof.Rows
open L2
end W3
end

section
namespace W3
open PySem PySem.Spec PyProof.Rows
open L2
def fGet (cn : Str) (ff : List T → Hh → Res T) (x i : T) (h : Hh) : Res T := match x with
  | .ref l => (match insAt h l with
    | some (d, _) => if d = cn then ff [.ref l, i] h else .stk
    | none => oIx (.ref l) i h)
  | _ => oIx x i h
def fIn (cn : Str) (ff : List T → Hh → Res T) (y x : T) (h : Hh) : Res T := match x with
  | .ref l => (match insAt h l with
    | some (d, _) => if d = cn then (match ff [.ref l, y] h with
      | .ok (.bl b) h' => .ok (.bl b) h'
      | _ => .stk) else .stk
    | none => oIn y (.ref l) h)
  | _ => oIn y x h
def fNotIn (cn : Str) (ff : List T → Hh → Res T) (y x : T) (h : Hh) : Res T := match x with
  | .ref l => (match insAt h l with
    | some (d, _) => if d = cn then (match ff [.ref l, y] h with
      | .ok (.bl b) h' => .ok (.bl (!b)) h'
      | _ => .stk) else .stk
    | none => oNotIn y (.ref l) h)
  | _ => oNotIn y x h
def fEq (cn : Str) (ff : List T → Hh → Res T) (x y : T) (h : Hh) : Res T := match x, y with
  | .ref l, .ref j => (match insAt h l, insAt h j with
    | some (d, _), some (e, _) => if d = cn ∧ e = cn then (match ff [.ref l, .ref j] h with
      | .ok (.bl b) h' => .ok (.bl b) h'
      | _ => .stk) else .stk
    | none, _ => oEq (.ref l) (.ref j) h
    | _, _ => .stk)
  | _, _ => oEq x y h
def ssSetO (cn : Str) (ff : List T → Hh → Res T) (o i v : SE) : SS := fun σ h => (v σ h).flo σ fun y h1 => (o σ h1).flo σ fun x h2 => (i σ h2).flo σ fun k h3 => match x with
  | .ref l => (match insAt h3 l with
    | some (d, _) => if d = cn then (ff [.ref l, k, y] h3).flo σ fun _ h4 => .nx σ h4 else .stk
    | none => .stk)
  | _ => .stk
section
variable {X : Cx} {P : Pq} {W : WX} {a b : Expr} {sa sb : SE} {pos : Pos} {cn : Str} {C g : Addr} {k : Nat} {fd : FuncData} {ps : List Str} {ff : List T → Hh → Res T}
theorem run_in1 {CX : CXT} {sp : Sp} {E : XK} {pins : List (Addr × Obj)} {σ : L2.St} {H : Hp} {s : Shared} {Q : VK} {us : List Value} {vs : List V} (F : FnOk X.prog X.w X.K X.mg X.base CX k g fd ps sp) (hr : Room (k + 1) X.A) (hb : Binds X.K fd ps [])
    (hx : PassesAt CX X σ E) (I : L2.Inv X pins σ H s) (r : Vals vs us) (q : sp vs H Q E) : wpAny (model X.prog X.w) X.A.in1 (call (.ref g) us) (EP X pins σ Q) X.xe s := by
  have hl : (us ++ ([] : List Value)).length = ps.length := by
    rw [List.append_nil, ← r.length]
    exact F.len _ _ _ _ q
  have e0 := hb s us I.kIn hl
  rw [List.append_nil] at e0
  refine wpAny_call (codeAny_mono (F.run X.A.in1 X.stack s H ⟨us, []⟩ us vs _ E hr.in1 I.env0.in1 e0 r q) fun r s' hq => ?_)
  cases r with
  | error e => exact hx pins H s e s' I hq
  | ok fl =>
    cases fl with
    | ret u => exact I.after hq
    | next => exact False.elim hq
    | brk => exact False.elim hq
    | cont => exact False.elim hq
theorem op_eqO (hC : X.mg cn = some (.ref C)) (hs : PySem.W.findIn X.K (.ref C) "__eq__" = some (some (.ref g))) (hf : PySem.W.isFn X.K (.ref g) = true)
    (F : FnOk X.prog X.w X.K X.mg X.base (L2.CX X.prog X.w) k g fd ps (spT X.K X.mg 2 ff)) (hr : Room k X.A) (hb : Binds X.K fd ps []) (ho : OpR X (compareOp .Eq) (rP2 X.K X.mg oEq)) : OpR X (compareOp .Eq) (rP2 X.K X.mg (fEq cn ff)) := by
  intro pins s σ H x y u v Q I rx ry ⟨m, h, tx, ty, r1, r2, R, o⟩
  unfold fEq at o
  split at o
  · rename_i l j
    split at o
    · rename_i d fs e' fs' q1 q2
      split at o
      · rename_i hd
        obtain ⟨hd1, hd2⟩ := hd
        subst hd1
        subst hd2
        split at o
        · rename_i b h' eff
          cases r1 with
          | @ref _ ad e1 =>
            cases r2 with
            | @ref _ ae e2 =>
              obtain ⟨C', dx, fv, g1, g2, rf⟩ := R.ins e1 q1
              obtain ⟨C2, dx2, fv2, g3, g4, rf2⟩ := R.ins e2 q2
              rw [hC] at g1 g3
              cases g1
              cases g3
              cases rx
              cases ry
              obtain ⟨mA, O, _, _, _, _⟩ := ins_get I.hok g2
              obtain ⟨mB, O2, _, _, _, _⟩ := ins_get I.hok g4
              obtain ⟨od, J, _⟩ := O.look
              obtain ⟨od2, J2, _⟩ := O2.look
              obtain ⟨mf, hF⟩ := I.fr
              have sp : spT X.K X.mg 2 ff [.ref ad, .ref ae] H (fun z H' => z = .bl b ∧ Q (.bl b) H') (fun _ _ _ => False) := by
                refine ⟨rfl, m, h, [.ref l, .ref j], .cons (.ref e1) (.cons (.ref e2) .nil), R, ?_⟩
                rw [eff]
                intro z m' H' E rt R'
                cases rt
                exact ⟨rfl, o _ m' H' E (.bl _) R'⟩
              refine PySem.W.cmp_K (op := .Eq) (tb := .ref C) hr.units0 hF I.ok.mod.kin J J2.type (by simp [PySem.W.notFirst]) hs hf (wpAny_mono (run_fn (vs := [.ref ad, .ref ae]) (dvs := []) (ds := []) F hr hb .nil (fun pins σ H s e s' I c => passAt (takesWF X) σ pins H s e s' I c) I (.cons rfl (.cons rfl .nil)) sp) (fun w s' z => ?_) fun _ _ x => x)
              obtain ⟨z', H', I', rz, ez, qz⟩ := z
              subst ez
              cases rz
              exact ⟨.bl b, H', I', rfl, qz⟩
        · exact False.elim o
      · exact False.elim o
    · exact ho pins s σ H x y u v Q I rx ry ⟨m, h, _, _, r1, r2, R, o⟩
    · exact False.elim o
  · exact ho pins s σ H x y u v Q I rx ry ⟨m, h, _, _, r1, r2, R, o⟩
theorem nx_eqO : NoX2 (fEq cn ff) := fun x y h c fs h' e => by
  unfold fEq oEq at e
  (repeat' split at e) <;> cases e
end
section
variable {h : Hh}
@[simp] theorem e_fGet (cn : Str) (ff : List T → Hh → Res T) (l : Nat) (i : T) : fGet cn ff (.ref l) i h = match insAt h l with
  | some (d, _) => if d = cn then ff [.ref l, i] h else .stk
  | none => oIx (.ref l) i h := Eq.trans rfl rfl
@[simp] theorem e_fGet_tup (cn : Str) (ff : List T → Hh → Res T) (ts : List T) (i : T) : fGet cn ff (.tup ts) i h = oIx (.tup ts) i h := Eq.trans rfl rfl
@[simp] theorem e_fIn (cn : Str) (ff : List T → Hh → Res T) (l : Nat) (y : T) : fIn cn ff y (.ref l) h = match insAt h l with
  | some (d, _) => if d = cn then (match ff [.ref l, y] h with
    | .ok (.bl b) h' => .ok (.bl b) h'
    | _ => .stk) else .stk
  | none => oIn y (.ref l) h := Eq.trans rfl rfl
@[simp] theorem e_fIn_tup (cn : Str) (ff : List T → Hh → Res T) (ts : List T) (y : T) : fIn cn ff y (.tup ts) h = oIn y (.tup ts) h := Eq.trans rfl rfl
@[simp] theorem e_fNotIn (cn : Str) (ff : List T → Hh → Res T) (l : Nat) (y : T) : fNotIn cn ff y (.ref l) h = match insAt h l with
  | some (d, _) => if d = cn then (match ff [.ref l, y] h with
    | .ok (.bl b) h' => .ok (.bl (!b)) h'
    | _ => .stk) else .stk
  | none => oNotIn y (.ref l) h := Eq.trans rfl rfl
@[simp] theorem e_fNotIn_tup (cn : Str) (ff : List T → Hh → Res T) (ts : List T) (y : T) : fNotIn cn ff y (.tup ts) h = oNotIn y (.tup ts) h := Eq.trans rfl rfl
@[simp] theorem e_ssSetO (cn : Str) (ff : List T → Hh → Res T) (o i v : SE) (σ : St3) : ssSetO cn ff o i v σ h = (v σ h).flo σ fun y h1 => (o σ h1).flo σ fun x h2 => (i σ h2).flo σ fun k h3 => match x with
  | .ref l => (match insAt h3 l with
    | some (d, _) => if d = cn then (ff [.ref l, k, y] h3).flo σ fun _ h4 => .nx σ h4 else .stk
    | none => .stk)
  | _ => .stk := Eq.trans rfl rfl
end
end W3
namespace W3
open PySem PySem.Spec PyProof.Rows
open L2
def ssRaise0 (c : Str) : SS := fun σ h => .exc c [] σ h
@[simp] theorem e_ssRaise0 (c : Str) (σ : St3) (h : Hh) : ssRaise0 c σ h = .exc c [] σ h := Eq.trans rfl rfl
end W3
namespace W3
open PySem PySem.Spec PyProof.Rows
open L2
end W3
end

section
namespace W3
open PySem PySem.Spec PyProof.Rows
open L2
def isO (cn : Str) (x : T) (h : Hh) : Bool := match x with
  | .ref l => (match insAt h l with | some (d, _) => decide (d = cn) | none => false)
  | _ => false
def oIsO (cn : Str) (x : T) (h : Hh) : Res T := if isO cn x h = true then .ok (.bl true) h else .stk
theorem nx_isO {cn : Str} : NoX1 (oIsO cn) := fun x h c fs h' e => by
  unfold oIsO at e
  split at e <;> cases e
structure IsoC (K : PySem.W.Frag) (C : Addr) : Prop where
  cl : Cls K C
  ha : PySem.W.findIn K (.ref C) "__class__" = some (some (.builtin "object.__class__"))
  hn : PySem.W.specialIn K (.builtin "object.__class__") "__get__" = some (some (.builtin "getset_descriptor.__get__"))
  ht : PySem.W.takesIn K (.builtin "object.__class__") = some true
  hm : PySem.W.mroIn K C (.type "object") = some true
theorem de_isO {X : Cx} {P : Pq} {W : WX} {a : Expr} {sa : SE} {cn : Str} {C : Addr} {p p2 pos : Pos} (I : IsoC X.K C) (hg : Gl X "isinstance") (hm : X.mg "isinstance" = none) (hgx : Gl X cn) (hC : X.mg cn = some (.ref C)) (ha : DE X P W a sa) (hdx : (cn == ("__debug__" : Str)) = false := by decide)
    (he : starEach [a, .Name cn p2] X.env = (false, eval a X.env) :: starEach [.Name cn p2] X.env := by rfl) (hpl : (backTo pos (starEach [.Name cn p2] X.env)).any (·.1) = false := by rfl) (hs2 : starEach [.Name cn p2] X.env = (false, eval (.Name cn p2) X.env) :: starEach [] X.env := by rfl) :
    DE X P W (.Call (.Name "isinstance" p) [a, .Name cn p2] [] pos) (s1 (oIsO cn) sa) :=
  PE.imp (pe_callB call_isi hg hm boot_isinstance (pa_cons ha (pa_cons (pe_glob (v := .ref C) hgx hC rfl hdx) pa_nil hs2) he) (by decide) (by decide) he hpl) fun σV H Q h => by
    refine tG.mono (fun v H1 hq => ?_) (one nx_isO h)
    obtain ⟨m, h, t, r, R, o⟩ := hq
    cases t with
    | ref l =>
      cases q1 : insAt h l with
      | none =>
        have : oIsO cn (.ref l) h = .stk := by simp [oIsO, isO, q1]
        rw [this] at o
        exact False.elim o
      | some p =>
        obtain ⟨d, fs⟩ := p
        by_cases hd : d = cn
        · have : oIsO cn (.ref l) h = .ok (.bl true) h := by simp [oIsO, isO, q1, hd]
          rw [this] at o
          subst hd
          cases r with
          | @ref _ ad e1 =>
            obtain ⟨C', dx, fv, g1, g2, rf⟩ := R.ins e1 q1
            rw [hC] at g1
            cases g1
            exact ⟨.ref ad, .ref C, .ref C, .ref C, true, rfl, .own C, .base (.ins g2 I.cl I.ha I.hn I.ht I.hm), by simp [PySem.W.kitOne], o _ m H1 (Ext.refl _ _) (.bl _) R⟩
        · have : oIsO cn (.ref l) h = .stk := by simp [oIsO, isO, q1, hd]
          rw [this] at o
          exact False.elim o
    | _ => exact False.elim o
theorem isO_of {cn : Str} {l : Nat} {h : Hh} {fs : List (Str × T)} (e : insAt h l = some (cn, fs)) : oIsO cn (.ref l) h = .ok (.bl true) h := by simp [oIsO, isO, e]
end W3
end

section
namespace W3
open PySem PySem.Spec PyProof.Rows
open L2
def strsOf : List T → Option (List Str)
  | [] => some []
  | .str s :: r => (strsOf r).map (s :: ·)
  | _ :: _ => none
def joinT (a : Str) (ts : List T) (h : Hh) : Res T := match strsOf ts with
  | some ys => if (ys.map (·.length)).sum + ys.length * a.length ≤ 16777216 then .ok (.str (Txt.join a ys)) h else .stk
  | none => .stk
def mJoin (x : T) (vs : List T) (h : Hh) : Res T := match x, vs with
  | .str a, [.ref l] => (match lstAt h l with | some ts => joinT a ts h | none => .stk)
  | .str a, [.tup ts] => joinT a ts h
  | _, _ => .stk
def sMtS (f : T → List T → Hh → Res T) (o : SE) (a : SA) : SE := fun σ h => (o σ h).bind fun x h1 => match x with
  | .str s => (a σ h1).bind fun xs h2 => f (.str s) xs h2
  | _ => .stk
section
variable {X : Cx} {P : Pq} {W : WX} {a b c o e : Expr} {sa sb sc so : SE} {pos pos' apos cpos p : Pos} {es : List Expr} {ar : SA}
open Classical in
noncomputable def rngOf2 (xs : List T) (h1 : Hh) : Res Src := match xs with
  | [.int i, .int j] => if RngOk i ∧ RngOk j then .ok (.its (rangeT i (j - i).toNat)) h1 else .stk
  | _ => .stk
noncomputable def siRange2 (a : SA) : SI := fun σ h => (a σ h).bind rngOf2
@[simp] theorem e_siRange2 (a : SA) (σ : St3) (h : Hh) : siRange2 a σ h = (a σ h).bind rngOf2 := Eq.trans rfl rfl
@[simp] theorem e_sMtS (f : T → List T → Hh → Res T) (o : SE) (a : SA) (σ : St3) (h : Hh) : sMtS f o a σ h = (o σ h).bind fun x h1 => match x with
  | .str s => (a σ h1).bind fun xs h2 => f (.str s) xs h2
  | _ => .stk := Eq.trans rfl rfl
@[simp] theorem e_join_ref (a : Str) (l : Nat) (h : Hh) : mJoin (.str a) [.ref l] h = match lstAt h l with | some ts => joinT a ts h | none => .stk := Eq.trans rfl rfl
end
end W3
end

section
namespace W3.Ne
open PySem PySem.Spec PyProof.Rows PySem.W
section
variable {prog : Program} {w : World} {A : Around} {E : Value → Shared → Prop} {s : Shared} {K : PySem.W.Frag} {x y C L g : Addr} {h₀ : Heap} {m : Str → Option Value} {ox : Obj} {od : Option Obj}
theorem ifNe_K {M : Model} {A : Around} {args : List Value} {Q : Option Value → Shared → Prop} (X : K.In s.heap) (I : InstAt s.heap x ox C od) (hs : findIn K (.ref C) "__ne__" = some (some (.builtin "object.__ne__")))
    (h : wpAny M A (call (.builtin "object.__ne__") (.ref x :: args)) (fun v => Q (some v)) E s) : wpAny M A (callSpecialIfBound? (.ref x) "__ne__" args) Q E s := by
  simp only [callSpecialIfBound?, bindSpecialIfBound?]
  refine wpAny_holding (wpAny_bind (wpAny_bind (wpAny_bind (I.type.here ((looks_findIn X hs).here ?_)))))
  simp only [PySem.F.cmp_object.ne.bind]
  refine wpAny_bind (wpAny_askSetting (wpAny_ite ?_))
  have fin : wpAny M A (call (.builtin "object.__ne__") ([.ref x] ++ args) >>= fun v => pure (some v)) Q E s := wpAny_bind (wpAny_mono h (fun v s' h' => wpAny_pure h') fun _ _ h' => h')
  split
  · exact wpAny_bind (wpAny_pure (wpAny_pure fin))
  · exact wpAny_tryCatch (wpAny_bind (wpAny_pure (wpAny_pure fin)))
theorem objNe_K (hu : A.units < cLine) (X : K.In s.heap) (I : InstAt s.heap x ox C od) (he : findIn K (.ref C) "__eq__" = some (some (.ref g))) (hf : isFn K (.ref g) = true) {Q : Fin → Shared → Prop}
    (hcall : wpAny (model prog w) A (call (.ref g) [.ref x, .ref y]) (fun v s' => ∃ b, v = .bool b ∧ Q (.done (.ret (.bool (!b)))) s') E s) :
    wpAny (model prog w) A (Builtin.«object.__ne__» ⟨[.ref x, .ref y], []⟩) Q E s := by
  unfold Builtin.«object.__ne__»
  repeat (first
    | with_reducible refine wpAny_cRoomFor hu ?_
    | (refine wpAny_bind (m := callSpecialIfBound? (.ref x) (Str.ofString "__eq__") [.ref y])
        (ifBound_K X I he hf (wpAny_mono hcall (fun r s' hr => by
          obtain ⟨b, rfl, hq⟩ := hr
          repeat (first | exact hq | exact wpAny_pure hq | exact wpAny_truthy_bool hq | (refine wpAny_bind (m := truthy (.bool _)) (wpAny_truthy_bool ?_)) | wp_step)) fun _ _ e => e)))
    | wp_step)
theorem ne_K {Q : Value → Shared → Prop} (hu : A.units + 1 < cLine) (F : Fr h₀ L s.heap m) (X₀ : K.In h₀) (I : InstAt s.heap x ox C od) (hb : Looks (model prog w) s.heap (typeOf (.ref y)) (.ref C))
    (hm : mroIn K C (.type "object") = some true) (hs : findIn K (.ref C) "__ne__" = some (some (.builtin "object.__ne__"))) (he : findIn K (.ref C) "__eq__" = some (some (.ref g))) (hf : isFn K (.ref g) = true)
    (h : wpAny (model prog w) A.in1 (call (.ref g) [.ref x, .ref y]) (fun v s' => ∃ b, v = .bool b ∧ Q (.bool (!b)) s') E s) : wpAny (model prog w) A (richCompare .NotEq (.ref x) (.ref y)) Q E s := by
  have X := X₀.keeps F.keep
  have sub : Looks (model prog w) s.heap (isInstance (.ref x) (.type "object")) true := by
    have L0 := I.type (M := model prog w)
    have L1 := looks_mroIn (M := model prog w) X hm
    exact L0.andThen L1
  have one : wpAny (model prog w) A (tryCompare (.ref x) "__ne__" (.ref y)) (fun r s' => ∃ v, r = some v ∧ Q v s') E s := by
    unfold tryCompare
    refine wpAny_bind (ifNe_K X I hs (wpAny_call (codeAny_call_builtin PySem.F.cmp_object.ne.plain PySem.F.cmpEntry_ne
      (check_slot PySem.F.cmpKind_ne PySem.F.cmpSplit_ne sub (PySem.F.cmpArgs_ne _ _) (objNe_K (A := A.in1) hu X I he hf (wpAny_mono h (fun v s' hv => ?_) fun _ _ e => e))))))
    obtain ⟨b, rfl, hq⟩ := hv
    first | exact ⟨b, rfl, wpAny_pure ⟨_, rfl, hq⟩⟩ | exact ⟨b, rfl, wpAny_pure (wpAny_pure ⟨_, rfl, hq⟩)⟩ | exact ⟨b, rfl, _, rfl, hq⟩
  unfold richCompare
  simp only [oneThing_ref]
  refine wpAny_holding (wpAny_bind (wpAny_cRoomFor (Nat.lt_of_succ_lt hu) ?_))
  rw [cmpInfo_NotEq]
  dsimp only
  refine wpAny_bind (I.type.here (wpAny_bind (hb.here ?_)))
  rw [show (Value.ref C != Value.ref C) = false from by simp]
  simp only [Bool.false_eq_true, if_false]
  refine wpAny_bind (wpAny_pure ?_)
  simp only [Bool.false_eq_true, if_false]
  refine wpAny_bind (wpAny_mono one (fun r s' z => ?_) fun _ _ e => e)
  obtain ⟨v, rfl, hq⟩ := z
  exact wpAny_pure hq
end
end W3.Ne
namespace W3
open PySem PySem.Spec PyProof.Rows
open L2
section
variable {X : Cx} {P : Pq} {W : WX} {a b : Expr} {sa sb : SE} {pos : Pos} {cn : Str} {C g : Addr} {k : Nat} {fd : FuncData} {ps : List Str} {ff : List T → Hh → Res T}
def fNeO (cn : Str) (ff : List T → Hh → Res T) (x y : T) (h : Hh) : Res T := match x, y with
  | .ref l, .ref j => (match insAt h l, insAt h j with
    | some (d, _), some (e, _) => if d = cn ∧ e = cn then (match ff [.ref l, .ref j] h with
      | .ok (.bl b) h' => .ok (.bl (!b)) h'
      | _ => .stk) else .stk
    | none, _ => oNe (.ref l) (.ref j) h
    | _, _ => .stk)
  | _, _ => oNe x y h
theorem op_neO (hC : X.mg cn = some (.ref C)) (hm : PySem.W.mroIn X.K C (.type "object") = some true) (hn : PySem.W.findIn X.K (.ref C) "__ne__" = some (some (.builtin "object.__ne__"))) (hs : PySem.W.findIn X.K (.ref C) "__eq__" = some (some (.ref g))) (hf : PySem.W.isFn X.K (.ref g) = true)
    (F : FnOk X.prog X.w X.K X.mg X.base (L2.CX X.prog X.w) k g fd ps (spT X.K X.mg 2 ff)) (hr : Room (k + 1) X.A) (hb : Binds X.K fd ps []) (ho : OpR X (compareOp .NotEq) (rP2 X.K X.mg oNe)) : OpR X (compareOp .NotEq) (rP2 X.K X.mg (fNeO cn ff)) := by
  intro pins s σ H x y u v Q I rx ry ⟨m, h, tx, ty, r1, r2, R, o⟩
  unfold fNeO at o
  split at o
  · rename_i l j
    split at o
    · rename_i d fs e' fs' q1 q2
      split at o
      · rename_i hd
        obtain ⟨hd1, hd2⟩ := hd
        subst hd1
        subst hd2
        split at o
        · rename_i b h' eff
          cases r1 with
          | @ref _ ad e1 =>
            cases r2 with
            | @ref _ ae e2 =>
              obtain ⟨C', dx, fv, g1, g2, rf⟩ := R.ins e1 q1
              obtain ⟨C2, dx2, fv2, g3, g4, rf2⟩ := R.ins e2 q2
              rw [hC] at g1 g3
              cases g1
              cases g3
              cases rx
              cases ry
              obtain ⟨mA, O, _, _, _, _⟩ := ins_get I.hok g2
              obtain ⟨mB, O2, _, _, _, _⟩ := ins_get I.hok g4
              obtain ⟨od, J, _⟩ := O.look
              obtain ⟨od2, J2, _⟩ := O2.look
              obtain ⟨mf, hF⟩ := I.fr
              have sp : spT X.K X.mg 2 ff [.ref ad, .ref ae] H (fun z H' => z = .bl b ∧ Q (.bl (!b)) H') (fun _ _ _ => False) := by
                refine ⟨rfl, m, h, [.ref l, .ref j], .cons (.ref e1) (.cons (.ref e2) .nil), R, ?_⟩
                rw [eff]
                intro z m' H' E rt R'
                cases rt
                exact ⟨rfl, o _ m' H' E (.bl _) R'⟩
              have hu1 : X.A.units + 1 < cLine := hr.in1.units0
              show wpAny _ _ (richCompare .NotEq _ _) _ _ _
              refine W3.Ne.ne_K hu1 hF I.ok.mod.kin J J2.type hm hn hs hf (wpAny_mono (run_in1 (vs := [.ref ad, .ref ae]) F hr hb (passAt (takesWF X) σ) I (.cons rfl (.cons rfl .nil)) sp) (fun w s' z => ?_) fun _ _ x => x)
              obtain ⟨z', H', I', rz, ez, qz⟩ := z
              subst ez
              cases rz
              exact ⟨b, rfl, .bl (!b), H', I', rfl, qz⟩
        · exact False.elim o
      · exact False.elim o
    · exact ho pins s σ H x y u v Q I rx ry ⟨m, h, _, _, r1, r2, R, o⟩
    · exact False.elim o
  · exact ho pins s σ H x y u v Q I rx ry ⟨m, h, _, _, r1, r2, R, o⟩
theorem nx_neO : NoX2 (fNeO cn ff) := fun x y h c fs h' e => by
  unfold fNeO oNe at e
  (repeat' split at e) <;> cases e
end
end W3
end

section
namespace W3
open PySem PySem.Spec PyProof.Rows
open L2
def sTupRev (a : SE) : SE := fun σ h => (a σ h).bind fun x h1 => match x with
  | .ref l => (match lstAt h1 l with | some ts => .ok (.tup ts.reverse) h1 | none => .stk)
  | _ => .stk
section
variable {X : Cx} {P : Pq} {W : WX} {a : Expr} {sa : SE}
theorem RTs.reverse {K : PySem.W.Frag} {mg : Str → Option Value} {m : Mp} {H : Hp} : ∀ {ts : List T} {vs : List V}, RTs K mg m H ts vs → RTs K mg m H ts.reverse vs.reverse
  | _, _, .nil => .nil
  | _, _, .cons a b => by
    rw [List.reverse_cons, List.reverse_cons]
    exact RTs.append b.reverse (.cons a .nil)
theorem de_tupRev {p p2 pos pos2 : Pos} (hc : X.calm = true) (hg : Gl X "tuple") (hm : X.mg "tuple" = none) (hg2 : Gl X "reversed") (hm2 : X.mg "reversed" = none) (ha : DE X P W a sa)
    (hs : starEach [a] X.env = (false, eval a X.env) :: starEach [] X.env := by rfl)
    (hs2 : starEach [.Call (.Name "reversed" p2) [a] [] pos2] X.env = (false, eval (.Call (.Name "reversed" p2) [a] [] pos2) X.env) :: starEach [] X.env := by rfl) :
    DE X P W (.Call (.Name "tuple" p) [.Call (.Name "reversed" p2) [a] [] pos2] [] pos) (sTupRev sa) := by
  refine ⟨fun pins s σV H Q I ⟨m0, h, σ, A, o⟩ => ?_⟩
  have pre : tI X.K X.mg P W sa σV H fun x H1 => ∃ m1 h1 t, RT X.K X.mg m1 H1 t x ∧ At X.K X.mg P m1 H1 σV σ h1 ∧ Out X.K X.mg (RT X.K X.mg) W σV Q m1 H1 (match t with
      | .ref l => (match lstAt h1 l with | some ts => .ok (.tup ts.reverse) h1 | none => .stk)
      | _ => .stk) := A.first (rel1 := RT X.K X.mg) o fun m1 h1 t1 x H1 E1 r1 A1 o1 => ⟨m1, h1, t1, r1, A1, o1⟩
  refine Call_ (ld_blt I hg hm boot_tuple (PyProof.Rows.callWith_type1 (args_cons (Call_ (ld_blt I hg2 hm2 PyProof.Rows.boot_reversed (PyProof.Rows.callWith_type1 (args_cons (thn (ha.run pins s σV H _ I pre) fun u s1 ⟨v, H1, I1, rv1, m1, h1, t, r1, A1, o1⟩ => args_nil ?_) hs) hs rfl))) hs2) hs2 rfl))
  cases r1 with
  | @ref l ad e1 =>
    have o1 : Out X.K X.mg (RT X.K X.mg) W σV Q m1 H1 (match lstAt h1 l with | some ts => .ok (.tup ts.reverse) h1 | none => .stk) := o1
    split at o1
    · rename_i ts q1
      obtain ⟨xs, g1, r2⟩ := A1.hr.lst e1 q1
      obtain rfl : u = Value.ref ad := rv1
      have hq : SqL X.K H1 ad xs := .of g1
      obtain ⟨its, rv, p', hz⟩ := I1.list hq
      refine call_reversed_list p'.isList (args_nil ?_)
      have k0 : ∀ b o, s1.heap.get? b = some o → (s1.heap.push (revObj ad ((its.toArray.size : Int) - 1))).get? b = some o := fun b o e => Heap.get?_push_of_some _ e
      have I2 : L2.Inv X pins σV H1 { s1 with heap := s1.heap.push (revObj ad ((its.toArray.size : Int) - 1)) } := I1.kept (t' := s1.toks) k0
      obtain ⟨f0, f1, f2, f3, f4, f5⟩ := I1.fpOk (H' := H1) (b := s1.heap.objs.size) (Nat.le_refl _) (I1.hok.fresh (Nat.le_refl _))
      have hl := p'.isList
      obtain ⟨ol, hol, _⟩ := id hl
      have hne : ad ≠ s1.heap.objs.size := Nat.ne_of_lt (Heap.lt_size hol)
      have hn : its.toArray.size ≤ sizeLine := by rw [List.size_toArray, ← rv.length]; exact hz
      refine _root_.RT.call_tuple_rev (s := { s1 with heap := s1.heap.push (revObj ad ((its.toArray.size : Int) - 1)) }) (I1.ok.hd hc) ⟨_, Heap.get?_push_size _ rfl, rfl, rfl⟩ (hl.push _) hne hn fun h' tk acc hk hi => ?_
      have I3 : L2.Inv X pins σV H1 { s1 with heap := h', toks := tk } := I2.turned (t' := tk) (fun b o hb e => hk b o hb e) f0 f1 f3 f4 f5
      refine ⟨.ref h'.objs.size, upd H1 h'.objs.size (.frz { cls := .type "tuple", data := .seq acc } (.tup xs.reverse)), I3.laid (t' := tk) (fun c o e => Heap.get?_push_of_some _ e) (Nat.le_refl _) (show ObjOk X.prog X.w _ _ _ (.frz { cls := .type "tuple", data := .seq acc } (.tup xs.reverse)) from ⟨Heap.get?_push_size _ rfl, by rw [List.length_reverse]; exact hz, acc.toList, _root_.RT.vals_rev rv hi, ?_⟩), rfl, ?_⟩
      · rw [Array.toArray_toList]
        exact IsTup.new _ _
      · exact OutP.newTup A1.hr r2.reverse (o1.outP fun _ _ _ z => by cases z) (I3.hok.fresh (Nat.le_refl _)) rfl
    · exact False.elim o1
  | _ => exact False.elim o1
end
@[simp] theorem e_sTupRev (a : SE) (σ : St3) (h : Hh) : sTupRev a σ h = (a σ h).bind fun x h1 => match x with
  | .ref l => (match lstAt h1 l with | some ts => .ok (.tup ts.reverse) h1 | none => .stk)
  | _ => .stk := Eq.trans rfl rfl
end W3
end

section
namespace W3
open PySem
theorem sz : sizeLine = 16777216 := by decide +kernel
@[simp] theorem sz_0 : 0 ≤ sizeLine := by decide +kernel
@[simp] theorem sz_1 : 1 ≤ sizeLine := by decide +kernel
@[simp] theorem sz_2 : 2 ≤ sizeLine := by decide +kernel
@[simp] theorem sz_3 : 3 ≤ sizeLine := by decide +kernel
@[simp] theorem sz_4 : 4 ≤ sizeLine := by decide +kernel
@[simp] theorem sz_5 : 5 ≤ sizeLine := by decide +kernel
@[simp] theorem sz_6 : 6 ≤ sizeLine := by decide +kernel
@[simp] theorem sz_7 : 7 ≤ sizeLine := by decide +kernel
@[simp] theorem sz_8 : 8 ≤ sizeLine := by decide +kernel
@[simp] theorem sz_9 : 9 ≤ sizeLine := by decide +kernel
@[simp] theorem sz_10 : 10 ≤ sizeLine := by decide +kernel
@[simp] theorem sz_11 : 11 ≤ sizeLine := by decide +kernel
@[simp] theorem sz_12 : 12 ≤ sizeLine := by decide +kernel
@[simp] theorem sz_13 : 13 ≤ sizeLine := by decide +kernel
@[simp] theorem sz_14 : 14 ≤ sizeLine := by decide +kernel
@[simp] theorem sz_15 : 15 ≤ sizeLine := by decide +kernel
@[simp] theorem sz_16 : 16 ≤ sizeLine := by decide +kernel
@[simp] theorem sz_17 : 17 ≤ sizeLine := by decide +kernel
@[simp] theorem sz_18 : 18 ≤ sizeLine := by decide +kernel
@[simp] theorem sz_19 : 19 ≤ sizeLine := by decide +kernel
@[simp] theorem sz_20 : 20 ≤ sizeLine := by decide +kernel
@[simp] theorem sz_21 : 21 ≤ sizeLine := by decide +kernel
@[simp] theorem sz_22 : 22 ≤ sizeLine := by decide +kernel
@[simp] theorem sz_23 : 23 ≤ sizeLine := by decide +kernel
@[simp] theorem sz_24 : 24 ≤ sizeLine := by decide +kernel
@[simp] theorem sz_25 : 25 ≤ sizeLine := by decide +kernel
@[simp] theorem sz_26 : 26 ≤ sizeLine := by decide +kernel
@[simp] theorem sz_ne : (sizeLine = 0) = False := by rw [sz]; simp
@[simp] theorem sz_lt1 : 0 < sizeLine := by decide +kernel
theorem szle {n : Nat} (h : n ≤ 16777216) : n ≤ sizeLine := by rw [sz]; exact h
def mOk (c m : Str) (x : T) (h : Hh) : Bool := match x with
  | .ref l => match insAt h l with
    | some (d, fs) => decide (d = c ∧ fs.lookup m = none)
    | none => false
  | _ => false
def fSet (cs : List (Str × List Str)) (x : T) (f : Str) (y : T) (σ : St3) (h2 : Hh) : Flo := match x with
  | .ref l => match insAt h2 l with
    | some (c, fs) => match cs.lookup c with
      | some as => if as.contains f && decide (fs.length < 1000) then .nx σ (h2.set l (.ins c (putT f y fs))) else .stk
      | none => .stk
    | none => .stk
  | _ => .stk
section
variable {σ : St3} {h : Hh}
@[simp] theorem e_sC (t : T) : sC t σ h = .ok t h := Eq.trans rfl rfl
@[simp] theorem e_s1 (f : T → Hh → Res T) (a : SE) : s1 f a σ h = (a σ h).bind f := Eq.trans rfl rfl
@[simp] theorem e_s2 (f : T → T → Hh → Res T) (a b : SE) : s2 f a b σ h = (a σ h).bind fun x h1 => (b σ h1).bind fun y h2 => f x y h2 := Eq.trans rfl rfl
@[simp] theorem e_sVar (i : Nat) : sVar i σ h = match σ[i]? with | some (some t) => .ok t h | _ => .stk := Eq.trans rfl rfl
@[simp] theorem e_sT (a : SE) : sT a σ h = (a σ h).bind fun x h1 => match x with | .bl b => .ok b h1 | _ => .stk := Eq.trans rfl rfl
@[simp] theorem e_stAnd (a b : ST) : stAnd a b σ h = (a σ h).bind fun x h1 => if x = true then b σ h1 else .ok false h1 := Eq.trans rfl rfl
@[simp] theorem e_stOr (a b : ST) : stOr a b σ h = (a σ h).bind fun x h1 => if x = true then .ok true h1 else b σ h1 := Eq.trans rfl rfl
@[simp] theorem e_stNot (a : ST) : stNot a σ h = (a σ h).bind fun x h1 => .ok (!x) h1 := Eq.trans rfl rfl
@[simp] theorem e_sB (a : ST) : sB a σ h = (a σ h).bind fun x h1 => .ok (.bl x) h1 := Eq.trans rfl rfl
@[simp] theorem e_sIf (c : ST) (a b : SE) : sIf c a b σ h = (c σ h).bind fun x h1 => if x = true then a σ h1 else b σ h1 := Eq.trans rfl rfl
@[simp] theorem e_sChain (f g : T → T → Hh → Res T) (a b c : SE) : sChain f g a b c σ h = (a σ h).bind fun x h1 => (b σ h1).bind fun y h2 => (f x y h2).bind fun z h3 => match z with
  | .bl k => if k = true then (c σ h3).bind fun w h4 => g y w h4 else .ok (.bl false) h3
  | _ => .stk := Eq.trans rfl rfl
@[simp] theorem e_saNil : saNil σ h = .ok [] h := Eq.trans rfl rfl
@[simp] theorem e_saCons (a : SE) (r : SA) : saCons a r σ h = (a σ h).bind fun x h1 => (r σ h1).bind fun xs h2 => .ok (x :: xs) h2 := Eq.trans rfl rfl
@[simp] theorem e_sTup (a : SA) : sTup a σ h = (a σ h).bind fun xs h1 => if xs.length ≤ sizeLine then .ok (.tup xs) h1 else .stk := Eq.trans rfl rfl
@[simp] theorem e_sLst (a : SA) : sLst a σ h = (a σ h).bind fun xs h1 => if xs.length ≤ sizeLine then alloc (.lst xs) h1 else .stk := Eq.trans rfl rfl
@[simp] theorem e_sCl (f : List T → Hh → Res T) (a : SA) : sCl f a σ h = (a σ h).bind f := Eq.trans rfl rfl
@[simp] theorem e_sOver (f : List T → Hh → Res T) (a : SA) : sOver f a σ h = (a σ h).bind f := Eq.trans rfl rfl
@[simp] theorem e_sLc (a : SA) : sLc a σ h = (a σ h).bind fun xs h1 => alloc (.lst xs) h1 := Eq.trans rfl rfl
@[simp] theorem e_sMt (f : T → List T → Hh → Res T) (o : SE) (a : SA) : sMt f o a σ h = (o σ h).bind fun x h1 => (a σ h1).bind fun xs h2 => f x xs h2 := Eq.trans rfl rfl
@[simp] theorem e_sMtL (f : T → List T → Hh → Res T) (o : SE) (a : SA) : sMtL f o a σ h = (o σ h).bind fun x h1 => if isL x h1 = true then (a σ h1).bind fun xs h2 => f x xs h2 else .stk := Eq.trans rfl rfl
@[simp] theorem e_soNone : soNone σ h = .ok none h := Eq.trans rfl rfl
@[simp] theorem e_soSome (a : SE) : soSome a σ h = (a σ h).bind fun x h1 => match x with | .int i => .ok (some i) h1 | _ => .stk := Eq.trans rfl rfl
@[simp] theorem e_sSl (a : SE) (lo hi : SO) : sSl a lo hi σ h = (a σ h).bind fun x h1 => (lo σ h1).bind fun l h2 => (hi σ h2).bind fun u h3 => oSl x l u h3 := Eq.trans rfl rfl
@[simp] theorem e_sDic0 : sDic0 σ h = alloc (.dic []) h := Eq.trans rfl rfl
@[simp] theorem e_alloc (o : Ob) : alloc o h = .ok (.ref h.length) (h ++ [o]) := Eq.trans rfl rfl
@[simp] theorem e_arN (n : Nat) (f : List T → Hh → Res T) (xs : List T) : arN n f xs h = if xs.length = n then f xs h else .stk := Eq.trans rfl rfl
@[simp] theorem e_siE (a : SE) : siE a σ h = (a σ h).bind srcOf := Eq.trans rfl rfl
@[simp] theorem e_siRange1 (a : SA) : siRange1 a σ h = (a σ h).bind rngOf := Eq.trans rfl rfl
@[simp] theorem e_rng {j : Int} (h0 : -1000000 ≤ j) (h2 : j ≤ 1000000) : rngOf [.int j] h = .ok (.its (rangeT 0 j.toNat)) h := by
  have a1 : RngOk j := by
    have : (2 ^ 62 : Int) = 4611686018427387904 := by decide +kernel
    unfold RngOk
    rw [this]; omega
  unfold rngOf
  simp only [a1, if_true]
@[simp] theorem e_stYes : stYes σ h = .ok true h := Eq.trans rfl rfl
@[simp] theorem e_sgName (i : Nat) (t : T) : sgName i t σ = some (σ.set i (some t)) := Eq.trans rfl rfl
@[simp] theorem e_sgsNil : sgsNil [] σ = some σ := Eq.trans rfl rfl
@[simp] theorem e_sgsCons (g : SG) (r : SGs) (t : T) (ts : List T) : sgsCons g r (t :: ts) σ = match g t σ with | some σ1 => r ts σ1 | none => none := Eq.trans rfl rfl
@[simp] theorem e_sgTup (n : Nat) (g : SGs) (ts : List T) : sgTup n g (.tup ts) σ = if ts.length = n then g ts σ else none := Eq.trans rfl rfl
@[simp] theorem e_saLc (si : SI) (g : SG) (tt : ST) (te : SE) (vs : List Nat) : saLc si g tt te vs σ h = (si σ h).bind fun s h1 => lcRun s g tt te (wipeT σ vs) (s.len h1) 0 [] h1 := Eq.trans rfl rfl
@[simp] theorem e_wipe0 : wipeT σ [] = σ := Eq.trans rfl rfl
@[simp] theorem e_wipe1 (v : Nat) (vs : List Nat) : wipeT σ (v :: vs) = (wipeT σ vs).set v none := Eq.trans rfl rfl
@[simp] theorem e_ssNil : ssNil σ h = .nx σ h := Eq.trans rfl rfl
@[simp] theorem e_ssCons (a b : SS) : ssCons a b σ h = (a σ h).seq b := Eq.trans rfl rfl
@[simp] theorem e_ssIf (c : ST) (a b : SS) : ssIf c a b σ h = (c σ h).flo σ fun x h1 => if x = true then a σ h1 else b σ h1 := Eq.trans rfl rfl
@[simp] theorem e_ssRet (a : SE) : ssRet a σ h = (a σ h).flo σ fun x h1 => .rt x h1 := Eq.trans rfl rfl
@[simp] theorem e_ssRetN : ssRetN σ h = .rt .non h := Eq.trans rfl rfl
@[simp] theorem e_ssExpr (a : SE) : ssExpr a σ h = (a σ h).flo σ fun _ h1 => .nx σ h1 := Eq.trans rfl rfl
@[simp] theorem e_ssAsg (a : SE) (g : SG) : ssAsg a g σ h = (a σ h).flo σ fun x h1 => match g x σ with | some σ1 => .nx σ1 h1 | none => .stk := Eq.trans rfl rfl
@[simp] theorem e_ssStk : ssStk σ h = .stk := Eq.trans rfl rfl
@[simp] theorem e_ssBreak : ssBreak σ h = .bk σ h := Eq.trans rfl rfl
@[simp] theorem e_ssCont : ssCont σ h = .ct σ h := Eq.trans rfl rfl
@[simp] theorem e_ssSub (o i v : SE) : ssSub o i v σ h = (v σ h).flo σ fun y h1 => (o σ h1).flo σ fun x h2 => (i σ h2).flo σ fun k h3 => match x, k with
  | .ref l, .int n => match lstAt h3 l with
    | some ts => match L2.ixN ts.length n with | some j => .nx σ (h3.set l (.lst (ts.set j y))) | none => .stk
    | none => .stk
  | _, _ => .stk := Eq.trans rfl rfl
@[simp] theorem e_ssFldC (cs : List (Str × List Str)) (o v : SE) (f : Str) : ssFldC cs o v f σ h = (v σ h).flo σ fun y h1 => (o σ h1).flo σ fun x h2 => fSet cs x f y σ h2 := Eq.trans rfl rfl
@[simp] theorem e_ssFor (si : SI) (g : SG) (b : SS) : ssFor si g b σ h = (si σ h).flo σ fun s h1 => forRun s g b (s.len h1) 0 σ h1 := Eq.trans rfl rfl
theorem e_sMeth0 (c m : Str) (n : Nat) (f : List T → Hh → Res T) (o : SE) (a : SA) : sMeth c m n f o a σ h = (o σ h).bind fun x h1 => if mOk c m x h1 = true then (a σ h1).bind fun xs h2 => arN n f (x :: xs) h2 else .stk := by
  have key : ∀ x h1, (match x with
      | .ref l => match insAt h1 l with
        | some (d, fs) => if d = c ∧ fs.lookup m = none then (a σ h1).bind fun xs h2 => arN n f (x :: xs) h2 else .stk
        | none => .stk
      | _ => .stk) = if mOk c m x h1 = true then (a σ h1).bind fun xs h2 => arN n f (x :: xs) h2 else .stk := by
    intro x h1
    cases x with
    | ref l =>
      cases hi : insAt h1 l with
      | none => simp only [mOk, hi]; rfl
      | some p =>
        obtain ⟨d, fs⟩ := p
        by_cases q : d = c ∧ fs.lookup m = none
        · simp only [mOk, hi]; rw [if_pos q, if_pos (by simp [q])]
        · simp only [mOk, hi]; rw [if_neg q, if_neg (by simpa using q)]
    | _ => rfl
  unfold sMeth
  congr 1
  funext x h1
  exact key x h1
@[simp] theorem e_sMeth (c m : Str) (n : Nat) (f : List T → Hh → Res T) (o : SE) (a : SA) : sMeth c m n f o a σ h = (o σ h).bind fun x h1 => if mOk c m x h1 = true then (a σ h1).bind fun xs h2 => arN n f (x :: xs) h2 else .stk := e_sMeth0 c m n f o a
@[simp] theorem e_sClK (n q : Nat) (pat : List Bool) (ds : List T) (f : List T → Hh → Res T) (a kw : SA) : sClK n q pat ds f a kw σ h = (a σ h).bind fun xs h1 => (kw σ h1).bind fun zs h2 => if xs.length = n ∧ zs.length = q then f (xs ++ weave pat ds zs) h2 else .stk := Eq.trans rfl rfl
@[simp] theorem e_bMakeK (c : Str) (q n : Nat) (pat : List Bool) (ds : List T) (f : List T → Hh → Res T) (a kw : SA) : bMakeK c q n pat ds f a kw σ h = (a σ h).bind fun xs h1 => (kw σ h1).bind fun zs h2 => if xs.length = n ∧ zs.length = q then bMake c (n + 1 + pat.length) f (xs ++ weave pat ds zs) h2 else .stk := Eq.trans rfl rfl
@[simp] theorem e_bMake (c : Str) (n : Nat) (f : List T → Hh → Res T) (xs : List T) : bMake c n f xs h = (arN n f (.ref h.length :: xs) (h ++ [.ins c []])).bind fun t h1 => match t with | .non => .ok (.ref h.length) h1 | _ => .stk := Eq.trans rfl rfl
@[simp] theorem e_add_ii (i j : Int) : oAdd (.int i) (.int j) h = .ok (.int (i + j)) h := Eq.trans rfl rfl
@[simp] theorem e_add_ss (i j : Str) : oAdd (.str i) (.str j) h = if i.length + j.length ≤ sizeLine then .ok (.str (i ++ j)) h else .stk := Eq.trans rfl rfl
@[simp] theorem e_add_tt (i j : List T) : oAdd (.tup i) (.tup j) h = if i.length + j.length ≤ sizeLine then .ok (.tup (i ++ j)) h else .stk := Eq.trans rfl rfl
@[simp] theorem e_sub_ii (i j : Int) : oSub (.int i) (.int j) h = .ok (.int (i - j)) h := Eq.trans rfl rfl
theorem mul_ok {i j : Int} (q : MulOk i j) : oMul (.int i) (.int j) h = .ok (.int (i * j)) h := by
  unfold oMul
  simp only [q, if_true]
theorem two64 : (2 ^ 64 : Int) = 18446744073709551616 := by decide +kernel
@[simp] theorem e_mul_l {i j : Int} (h0 : -18446744073709551616 < i) (h1 : i < 18446744073709551616) : oMul (.int i) (.int j) h = .ok (.int (i * j)) h := mul_ok (.inl (by rw [two64]; exact ⟨h0, h1⟩))
@[simp] theorem e_mul_r {i j : Int} (h0 : -18446744073709551616 < j) (h1 : j < 18446744073709551616) : oMul (.int i) (.int j) h = .ok (.int (i * j)) h := mul_ok (.inr (by rw [two64]; exact ⟨h0, h1⟩))
@[simp] theorem e_mod_ii (i j : Int) : oMod (.int i) (.int j) h = if 0 < j then .ok (.int (i % j)) h else .stk := Eq.trans rfl rfl
@[simp] theorem e_div_ii (i j : Int) : oDiv (.int i) (.int j) h = if 0 < j ∧ j < 1073741824 then .ok (.int (i / j)) h else .stk := Eq.trans rfl rfl
theorem pow_ok {i j : Int} (q : PowOk i j) : oPow (.int i) (.int j) h = .ok (.int (i ^ j.toNat)) h := by
  unfold oPow
  simp only [q, if_true]
@[simp] theorem e_pow_ii {i j : Int} (h0 : 0 ≤ j) (h1 : j ≤ 1000000) (h2 : i.natAbs < 18446744073709551616) : oPow (.int i) (.int j) h = .ok (.int (i ^ j.toNat)) h := pow_ok ⟨h0, h1, by
  have : (2 ^ 64 : Nat) = 18446744073709551616 := by decide +kernel
  rw [this]; exact h2⟩
@[simp] theorem e_lt_ii (i j : Int) : oLt (.int i) (.int j) h = .ok (.bl (decide (i < j))) h := Eq.trans rfl rfl
@[simp] theorem e_le_ii (i j : Int) : oLe (.int i) (.int j) h = .ok (.bl (decide (i ≤ j))) h := Eq.trans rfl rfl
@[simp] theorem e_gt_ii (i j : Int) : oGt (.int i) (.int j) h = .ok (.bl (decide (j < i))) h := Eq.trans rfl rfl
@[simp] theorem e_ge_ii (i j : Int) : oGe (.int i) (.int j) h = .ok (.bl (decide (j ≤ i))) h := Eq.trans rfl rfl
@[simp] theorem e_is_n (x : T) : oIs x .non h = .ok (.bl (isNonT x)) h := Eq.trans rfl rfl
@[simp] theorem e_is_b (a b : Bool) : oIs (.bl a) (.bl b) h = .ok (.bl (decide (a = b))) h := Eq.trans rfl rfl
@[simp] theorem e_isnot_n (x : T) : oIsNot x .non h = .ok (.bl (!isNonT x)) h := Eq.trans rfl rfl
@[simp] theorem e_isnot_b (a b : Bool) : oIsNot (.bl a) (.bl b) h = .ok (.bl (!decide (a = b))) h := Eq.trans rfl rfl
@[simp] theorem e_nonT0 : isNonT .non = true := Eq.trans rfl rfl
@[simp] theorem e_nonT1 (s : Str) : isNonT (.str s) = false := Eq.trans rfl rfl
@[simp] theorem e_nonT2 (s : List T) : isNonT (.tup s) = false := Eq.trans rfl rfl
@[simp] theorem e_nonT3 (s : Int) : isNonT (.int s) = false := Eq.trans rfl rfl
@[simp] theorem e_nonT4 (s : Bool) : isNonT (.bl s) = false := Eq.trans rfl rfl
@[simp] theorem e_eq_ii (i j : Int) : oEq (.int i) (.int j) h = .ok (.bl (decide (i = j))) h := by
  show Res.ok (T.bl (i == j)) h = _
  rw [show (i == j) = decide (i = j) from rfl]
@[simp] theorem e_eq_ss (i j : Str) : oEq (.str i) (.str j) h = .ok (.bl (decide (i = j))) h := by
  show Res.ok (T.bl (i == j)) h = _
  rw [show (i == j) = decide (i = j) from rfl]
@[simp] theorem e_ne_ii (i j : Int) : oNe (.int i) (.int j) h = .ok (.bl (!decide (i = j))) h := by
  show Res.ok (T.bl (!(i == j))) h = _
  rw [show (i == j) = decide (i = j) from rfl]
@[simp] theorem e_ne_ss (i j : Str) : oNe (.str i) (.str j) h = .ok (.bl (!decide (i = j))) h := by
  show Res.ok (T.bl (!(i == j))) h = _
  rw [show (i == j) = decide (i = j) from rfl]
@[simp] theorem e_ne_bb (i j : Bool) : oNe (.bl i) (.bl j) h = .ok (.bl (!decide (i = j))) h := by
  show Res.ok (T.bl (!(i == j))) h = _
  rw [show (i == j) = decide (i = j) by cases i <;> cases j <;> rfl]
@[simp] theorem e_eq_bb (i j : Bool) : oEq (.bl i) (.bl j) h = .ok (.bl (decide (i = j))) h := by
  show Res.ok (T.bl (i == j)) h = _
  rw [show (i == j) = decide (i = j) by cases i <;> cases j <;> rfl]
@[simp] theorem e_ix_tup (ts : List T) (i : Int) : oIx (.tup ts) (.int i) h = match L2.atI ts i with | some t => .ok t h | none => .stk := Eq.trans rfl rfl
@[simp] theorem e_ix_fl (ts : List T) (i : Int) : oIx (.fl ts) (.int i) h = match L2.atI ts i with | some t => .ok t h | none => .stk := Eq.trans rfl rfl
@[simp] theorem e_ix_ref (l : Nat) (i : Int) : oIx (.ref l) (.int i) h = match lstAt h l with
      | some ts => match L2.atI ts i with | some t => .ok t h | none => .stk
      | none => .stk := Eq.trans rfl rfl
@[simp] theorem e_ix_str (z : Str) (i : Int) : oIx (.str z) (.int i) h = if z.length ≤ sizeLine then (match L2.atI z.cps.toList i with | some c => .ok (.str ⟨#[c]⟩) h | none => .stk) else .stk := Eq.trans rfl rfl
@[simp] theorem e_sl_tup (ts : List T) (lo hi : Option Int) : oSl (.tup ts) lo hi h = .ok (.tup (cutT ts lo hi)) h := Eq.trans rfl rfl
@[simp] theorem e_sl_fl (ts : List T) (lo hi : Option Int) : oSl (.fl ts) lo hi h = alloc (.lst (cutT ts lo hi)) h := Eq.trans rfl rfl
@[simp] theorem e_sl_ref (l : Nat) (lo hi : Option Int) : oSl (.ref l) lo hi h = match lstAt h l with | some ts => alloc (.lst (cutT ts lo hi)) h | none => .stk := Eq.trans rfl rfl
@[simp] theorem e_sl_str (z : Str) (lo hi : Option Int) : oSl (.str z) lo hi h = if z.length ≤ sizeLine then .ok (.str (L2.cutS z lo hi)) h else .stk := Eq.trans rfl rfl
@[simp] theorem e_len_tup (ts : List T) : bLen [.tup ts] h = .ok (.int ts.length) h := Eq.trans rfl rfl
@[simp] theorem e_len_fl (ts : List T) : bLen [.fl ts] h = .ok (.int ts.length) h := Eq.trans rfl rfl
@[simp] theorem e_len_str (z : Str) : bLen [.str z] h = if z.length ≤ sizeLine then .ok (.int z.length) h else .stk := Eq.trans rfl rfl
@[simp] theorem e_len_ref (l : Nat) : bLen [.ref l] h = match lstAt h l with | some ts => .ok (.int ts.length) h | none => .stk := Eq.trans rfl rfl
@[simp] theorem e_int (i : Int) : bInt [.int i] h = .ok (.int i) h := Eq.trans rfl rfl
@[simp] theorem e_bTup (ts : List T) : bTup ts h = .ok (.tup ts) h := Eq.trans rfl rfl
@[simp] theorem e_tuple_tup (ts : List T) : bTuple [.tup ts] h = .ok (.tup ts) h := Eq.trans rfl rfl
@[simp] theorem e_tuple_ref (l : Nat) : bTuple [.ref l] h = match lstAt h l with | some ts => .ok (.tup ts) h | none => .stk := Eq.trans rfl rfl
@[simp] theorem e_list_tup (ts : List T) : bList [.tup ts] h = alloc (.lst ts) h := Eq.trans rfl rfl
@[simp] theorem e_list_ref (l : Nat) : bList [.ref l] h = match lstAt h l with | some ts => alloc (.lst ts) h | none => .stk := Eq.trans rfl rfl
@[simp] theorem e_srcOf_tup (ts : List T) : srcOf (.tup ts) h = .ok (.its ts) h := Eq.trans rfl rfl
@[simp] theorem e_srcOf_fl (ts : List T) : srcOf (.fl ts) h = .ok (.its ts) h := Eq.trans rfl rfl
@[simp] theorem e_srcOf_str (z : Str) : srcOf (.str z) h = .ok (.its (z.cps.toList.map fun c => .str ⟨#[c]⟩)) h := Eq.trans rfl rfl
@[simp] theorem e_srcOf_ref (l : Nat) : srcOf (.ref l) h = match lstAt h l with | some _ => .ok (.live l) h | none => .stk := Eq.trans rfl rfl
@[simp] theorem e_isL_ref (l : Nat) : isL (.ref l) h = (lstAt h l).isSome := Eq.trans rfl rfl
@[simp] theorem e_append (l : Nat) (y : T) : mAppend (.ref l) [y] h = match lstAt h l with
    | some ts => if ts.length < sizeLine then .ok .non (h.set l (.lst (ts ++ [y]))) else .stk
    | none => .stk := Eq.trans rfl rfl
@[simp] theorem e_isK_non (k : Kd) : oIsK k .non h = .ok (.bl false) h := Eq.trans rfl rfl
@[simp] theorem e_isK_str (k : Kd) (s : Str) : oIsK k (.str s) h = .ok (.bl (k == .str)) h := Eq.trans rfl rfl
@[simp] theorem e_isK_int (k : Kd) (s : Int) : oIsK k (.int s) h = .ok (.bl (k == .int)) h := Eq.trans rfl rfl
@[simp] theorem e_isK_bl (k : Kd) (s : Bool) : oIsK k (.bl s) h = .ok (.bl (k == .bool || k == .int)) h := Eq.trans rfl rfl
@[simp] theorem e_isK_tup (k : Kd) (s : List T) : oIsK k (.tup s) h = .ok (.bl (k == .tuple)) h := Eq.trans rfl rfl
theorem e_isK_lst {k : Kd} {l : Nat} {ts : List T} (e : lstAt h l = some ts) : oIsK k (.ref l) h = .ok (.bl (k == .list)) h := by
  unfold lstAt at e
  unfold oIsK isK
  split at e
  · rename_i q; simp only [q]
  · cases e
end
@[simp] theorem lstAt_set_self {h : Hh} {l : Nat} {ts : List T} (hl : l < h.length) : lstAt (h.set l (.lst ts)) l = some ts := by
  unfold lstAt; rw [List.getElem?_set_self hl]
theorem lstAt_set_ne {h : Hh} {l k : Nat} {o : Ob} (hl : l ≠ k) : lstAt (h.set l o) k = lstAt h k := by
  unfold lstAt; rw [List.getElem?_set_ne hl]
theorem lstAt_of {h : Hh} {l : Nat} {ts : List T} (e : h[l]? = some (.lst ts)) : lstAt h l = some ts := by
  unfold lstAt; rw [e]
theorem of_lstAt {h : Hh} {l : Nat} {ts : List T} (e : lstAt h l = some ts) : h[l]? = some (.lst ts) := by
  unfold lstAt at e; split at e
  · rename_i q; cases e; exact q
  · cases e
theorem lstAt_lt {h : Hh} {l : Nat} {ts : List T} (e : lstAt h l = some ts) : l < h.length := by
  have := of_lstAt e
  exact (List.getElem?_eq_some_iff.mp this).1
theorem lstAt_app {h : Hh} {l : Nat} {ts : List T} (o : List Ob) (e : lstAt h l = some ts) : lstAt (h ++ o) l = some ts := by
  have := lstAt_lt e
  unfold lstAt at e ⊢
  rw [List.getElem?_append_left this]; exact e
@[simp] theorem lstAt_new {h : Hh} {ts : List T} : lstAt (h ++ [.lst ts]) h.length = some ts := by
  unfold lstAt; simp
@[simp] theorem ixN_of {n : Nat} {i : Int} (h0 : 0 ≤ i) (h1 : i < n) : L2.ixN n i = some i.toNat := by
  unfold L2.ixN; rw [if_pos h0, if_pos h1]
@[simp] theorem atI_z {α : Type} (a : α) (r : List α) : L2.atI (a :: r) 0 = some a := by
  unfold L2.atI L2.ixN; simp [show (0 : Int) < (r.length : Int) + 1 by omega]
@[simp] theorem atI_1 {α : Type} (a b : α) (r : List α) : L2.atI (a :: b :: r) 1 = some b := by
  unfold L2.atI L2.ixN; simp [show (1 : Int) < (r.length : Int) + 1 + 1 by omega]
@[simp] theorem atI_2 {α : Type} (a b c : α) (r : List α) : L2.atI (a :: b :: c :: r) 2 = some c := by
  unfold L2.atI L2.ixN; simp [show (2 : Int) < (r.length : Int) + 1 + 1 + 1 by omega]
@[simp] theorem atI_3 {α : Type} (a b c d : α) (r : List α) : L2.atI (a :: b :: c :: d :: r) 3 = some d := by
  unfold L2.atI L2.ixN; simp [show (3 : Int) < (r.length : Int) + 1 + 1 + 1 + 1 by omega]
@[simp] theorem atI_4 {α : Type} (a b c d e : α) (r : List α) : L2.atI (a :: b :: c :: d :: e :: r) 4 = some e := by
  unfold L2.atI L2.ixN; simp [show (4 : Int) < (r.length : Int) + 1 + 1 + 1 + 1 + 1 by omega]
theorem atI_nat {α : Type} {xs : List α} {i : Nat} {x : α} (e : xs[i]? = some x) : L2.atI xs (i : Int) = some x := by
  have hl := (List.getElem?_eq_some_iff.mp e).1
  unfold L2.atI L2.ixN
  rw [if_pos (by omega), if_pos (by omega)]
  simpa using e
theorem atI_int {α : Type} {xs : List α} {i : Int} (h0 : 0 ≤ i) (h1 : i < xs.length) : ∃ x, L2.atI xs i = some x ∧ xs[i.toNat]? = some x := by
  have hl : i.toNat < xs.length := by omega
  refine ⟨xs[i.toNat], ?_, by simp [hl]⟩
  unfold L2.atI L2.ixN
  rw [if_pos h0, if_pos h1]
  simp [hl]
def Src.Is (s : Src) (ts : List T) (h : Hh) : Prop := match s with | .its us => us = ts | .live l => lstAt h l = some ts
theorem Src.Is.at {s : Src} {ts : List T} {h : Hh} (q : s.Is ts h) (i : Nat) : s.at h i = some ts[i]? := by
  cases s with
  | its us => obtain rfl : us = ts := q; rfl
  | live l => have e : lstAt h l = some ts := q; unfold Src.at; simp only [e]
theorem Src.Is.len {s : Src} {ts : List T} {h : Hh} (q : s.Is ts h) : s.len h = ts.length := by
  cases s with
  | its us => obtain rfl : us = ts := q; rfl
  | live l => have e : lstAt h l = some ts := q; unfold Src.len; simp only [e]
theorem lc_ind {s : Src} {ts : List T} {g : SG} {tt : ST} {te : SE} {σ : St3} (hz : ts.length ≤ sizeLine) (I : Nat → List T → Hh → Prop) (hI : ∀ i acc h, I i acc h → s.Is ts h)
    (hs : ∀ i x acc h, ts[i]? = some x → I i acc h → ∃ σ1, g x σ = some σ1 ∧ ((∃ h1, tt σ1 h = .ok false h1 ∧ I (i + 1) acc h1) ∨ ∃ h1 t h2, tt σ1 h = .ok true h1 ∧ te σ1 h1 = .ok t h2 ∧ I (i + 1) (acc ++ [t]) h2)) :
    ∀ k i acc h, i + k = ts.length → acc.length ≤ i → I i acc h → ∃ acc' h', lcRun s g tt te σ k i acc h = .ok acc' h' ∧ I ts.length acc' h' ∧ acc'.length ≤ ts.length
  | 0, i, acc, h, e, ha, q => by
    have e1 : i = ts.length := by omega
    refine ⟨acc, h, ?_, e1 ▸ q, by omega⟩
    unfold lcRun
    rw [(hI _ _ _ q).at, List.getElem?_eq_none (by omega)]
  | k + 1, i, acc, h, e, ha, q => by
    have hl : i < ts.length := by omega
    have ex : ts[i]? = some ts[i] := by simp [hl]
    obtain ⟨σ1, e1, q1⟩ := hs i _ acc h ex q
    unfold lcRun
    rw [(hI _ _ _ q).at, ex]
    simp only [e1]
    rcases q1 with ⟨h1, e2, q2⟩ | ⟨h1, t, h2, e2, e3, q2⟩
    · simp only [e2]
      exact lc_ind hz I hI hs k (i + 1) acc h1 (by omega) (by omega) q2
    · simp only [e2, e3, if_true]
      rw [if_pos (by omega)]
      exact lc_ind hz I hI hs k (i + 1) _ h2 (by omega) (by simp; omega) q2
theorem lc_run {s : Src} {ts : List T} {g : SG} {tt : ST} {te : SE} {σ : St3} {h : Hh} (hz : ts.length ≤ sizeLine) (I : Nat → List T → Hh → Prop) (hI : ∀ i acc h, I i acc h → s.Is ts h) (h0 : I 0 [] h)
    (hs : ∀ i x acc h, ts[i]? = some x → I i acc h → ∃ σ1, g x σ = some σ1 ∧ ((∃ h1, tt σ1 h = .ok false h1 ∧ I (i + 1) acc h1) ∨ ∃ h1 t h2, tt σ1 h = .ok true h1 ∧ te σ1 h1 = .ok t h2 ∧ I (i + 1) (acc ++ [t]) h2)) :
    ∃ acc' h', lcRun s g tt te σ (s.len h) 0 [] h = .ok acc' h' ∧ I ts.length acc' h' ∧ acc'.length ≤ ts.length := by
  rw [(hI _ _ _ h0).len]
  exact lc_ind hz I hI hs _ _ _ _ (by omega) (Nat.le_refl _) h0
theorem lc_map {s : Src} {ts : List T} {g : SG} {te : SE} {σ : St3} {h : Hh} (f : T → T) (hz : ts.length ≤ sizeLine) (hI : s.Is ts h) (hs : ∀ x ∈ ts, ∃ σ1, g x σ = some σ1 ∧ te σ1 h = .ok (f x) h) :
    lcRun s g stYes te σ (s.len h) 0 [] h = .ok (ts.map f) h := by
  obtain ⟨acc, h', e, ⟨rfl, rfl⟩, _⟩ := lc_run (s := s) (ts := ts) (g := g) (tt := stYes) (te := te) (σ := σ) (h := h) hz (fun i acc h1 => acc = (ts.take i).map f ∧ h1 = h) (fun i acc h1 q => q.2 ▸ hI) ⟨by simp, rfl⟩ fun i x acc h1 ex ⟨q1, q2⟩ => by
    obtain ⟨σ1, e1, e2⟩ := hs x (List.mem_of_getElem? ex)
    subst q2
    refine ⟨σ1, e1, .inr ⟨h1, f x, h1, rfl, e2, ?_, rfl⟩⟩
    rw [q1, List.take_add_one, ex]
    simp
  rw [e, List.take_length]
theorem range_get : ∀ (n : Nat) (lo : Int) (i : Nat), i < n → (rangeT lo n)[i]? = some (.int (lo + i))
  | n + 1, lo, 0, _ => by simp [rangeT]
  | n + 1, lo, i + 1, hi => by
    unfold rangeT
    rw [List.getElem?_cons_succ, range_get n (lo + 1) i (by omega)]
    congr 2; omega
@[simp] theorem range_length : ∀ (n : Nat) (lo : Int), (rangeT lo n).length = n
  | 0, _ => rfl
  | n + 1, lo => by unfold rangeT; rw [List.length_cons, range_length n]
theorem range_at {n : Nat} {i : Nat} {x : T} (e : (rangeT 0 n)[i]? = some x) : x = .int i ∧ i < n := by
  have hl := (List.getElem?_eq_some_iff.mp e).1
  rw [range_length] at hl
  rw [range_get n 0 i hl] at e
  cases e
  exact ⟨by simp, hl⟩
end W3
end

section
namespace W3
open PySem
def BoxL (c : Nat) (i d s n : Int) : List T := [.ref c, .int i, .int d, .int s, .int n]
def IsBox (h : Hh) (l : Nat) : Prop := ∃ (c : Nat) (cells : List Int) (i d s n : Int), lstAt h l = some (BoxL c i d s n) ∧ lstAt h c = some (cells.map T.int) ∧ 0 ≤ i ∧ 0 ≤ d
def BoxC (h : Hh) (l : Nat) : Option Nat := match lstAt h l with | some (.ref c :: _) => some c | _ => none
structure Kp (l n : Nat) (h h' : Hh) : Prop where
  le : n ≤ h'.length
  keep : ∀ k, k < n → k ≠ l → h'[k]? = h[k]?
  box : IsBox h' l
  bc : BoxC h' l = BoxC h l
abbrev Up (l : Nat) (h h' : Hh) : Prop := Kp l h.length h h'
theorem IsBox.ne {h : Hh} {l : Nat} {c : Nat} {cells : List Int} {i d s n : Int} (e : lstAt h l = some (BoxL c i d s n)) (e2 : lstAt h c = some (cells.map T.int)) : l ≠ c := by
  intro q
  subst q
  rw [e] at e2
  cases cells with
  | nil => cases e2
  | cons a r => injection e2 with e2; injection e2 with e2 _; cases e2
theorem IsBox.lt {h : Hh} {l : Nat} (b : IsBox h l) : l < h.length := by
  obtain ⟨c, cells, i, d, s, n, e, _⟩ := b
  exact lstAt_lt e
theorem IsBox.clt {h : Hh} {l c : Nat} (b : IsBox h l) (hc : BoxC h l = some c) : c < h.length := by
  obtain ⟨c, cells, i, d, s, n, e, e2, _⟩ := b
  unfold BoxC at hc
  rw [e] at hc
  cases hc
  exact lstAt_lt e2
theorem Up.refl {l : Nat} {h : Hh} (b : IsBox h l) : Up l h h := ⟨Nat.le_refl _, fun _ _ _ => rfl, b, rfl⟩
theorem Kp.refl {l n : Nat} {h : Hh} (b : IsBox h l) (hn : n ≤ h.length) : Kp l n h h := ⟨hn, fun _ _ _ => rfl, b, rfl⟩
theorem Kp.trans {l n m : Nat} {h h1 h2 : Hh} (a : Kp l n h h1) (b : Kp l m h1 h2) (hm : n ≤ m) : Kp l n h h2 :=
  ⟨Nat.le_trans hm b.le, fun k hk hne => (b.keep k (Nat.lt_of_lt_of_le hk hm) hne).trans (a.keep k hk hne), b.box, b.bc.trans a.bc⟩
theorem Kp.up {l n : Nat} {h h1 h2 : Hh} (a : Kp l n h h1) (b : Up l h1 h2) : Kp l n h h2 := a.trans b a.le
theorem IsBox.app {l : Nat} {h : Hh} (b : IsBox h l) (o : List Ob) : IsBox (h ++ o) l := by
  obtain ⟨c, cells, i, d, s, n, e, e2, h1, h2⟩ := b
  exact ⟨c, cells, i, d, s, n, lstAt_app o e, lstAt_app o e2, h1, h2⟩
theorem Up.app {l : Nat} {h : Hh} (b : IsBox h l) (o : List Ob) : Up l h (h ++ o) := by
  refine ⟨by simp, fun k hk _ => List.getElem?_append_left hk, b.app o, ?_⟩
  obtain ⟨c, cells, i, d, s, n, e, e2, h1, h2⟩ := b
  unfold BoxC
  rw [e, lstAt_app o e]
theorem Kp.app {l n : Nat} {h h1 : Hh} (a : Kp l n h h1) (o : List Ob) : Kp l n h (h1 ++ o) := a.up (Up.app a.box o)
theorem Kp.lst {l n : Nat} {h h' : Hh} (u : Kp l n h h') {k : Nat} {ts : List T} (e : lstAt h k = some ts) (hk : k < n) (hne : k ≠ l) : lstAt h' k = some ts := by
  have := of_lstAt e
  exact lstAt_of ((u.keep k hk hne).trans this)
theorem Up.lst {l : Nat} {h h' : Hh} (u : Up l h h') {k : Nat} {ts : List T} (e : lstAt h k = some ts) (hne : k ≠ l) : lstAt h' k = some ts := Kp.lst u e (lstAt_lt e) hne
theorem IsBox.set {l : Nat} {h : Hh} (b : IsBox h l) {k : Nat} (o : Ob) (hk : k ≠ l) (hc : BoxC h l ≠ some k) : IsBox (h.set k o) l ∧ BoxC (h.set k o) l = BoxC h l := by
  obtain ⟨c, cells, i, d, s, n, e, e2, h1, h2⟩ := b
  have hkc : k ≠ c := by
    intro q
    apply hc
    unfold BoxC
    rw [e]
    simp [BoxL, q]
  refine ⟨⟨c, cells, i, d, s, n, by rw [lstAt_set_ne hk]; exact e, by rw [lstAt_set_ne hkc]; exact e2, h1, h2⟩, ?_⟩
  unfold BoxC
  rw [lstAt_set_ne hk]
theorem Kp.set {l n : Nat} {h h1 : Hh} (a : Kp l n h h1) {k : Nat} (o : Ob) (hb : IsBox h l) (hl : h.length ≤ n) (hn : n ≤ k) : Kp l n h (h1.set k o) := by
  have h0 := hb.lt
  have q := a.box.set (k := k) o (by omega) (by rw [a.bc]; intro z; have := hb.clt z; omega)
  exact ⟨by rw [List.length_set]; exact a.le, fun j hj hne => by rw [List.getElem?_set_ne (by omega)]; exact a.keep j hj hne, q.1, q.2.trans a.bc⟩
theorem cut_ints (ns : List Int) (lo hi : Option Int) : ∃ ms : List Int, cutT (ns.map T.int) lo hi = ms.map T.int ∧ ms.length ≤ ns.length := by
  refine ⟨cutT ns lo hi, ?_, ?_⟩
  · unfold cutT
    rw [List.length_map, List.map_take, List.map_drop]
  · unfold cutT
    rw [List.length_take, List.length_drop]
    omega
theorem map_int_get {ns : List Int} {i : Nat} {x : T} (e : (ns.map T.int)[i]? = some x) : ∃ n, x = .int n := by
  rw [List.getElem?_map] at e
  cases q : ns[i]? with
  | none => rw [q] at e; cases e
  | some n => rw [q] at e; cases e; exact ⟨n, rfl⟩
theorem Str.ext3 {a b : Str} (h : a.cps.toList = b.cps.toList) : a = b := by
  obtain ⟨⟨x⟩⟩ := a
  obtain ⟨⟨y⟩⟩ := b
  simp at h
  rw [h]
theorem str_app (a b : Str) : (a ++ b).cps.toList = a.cps.toList ++ b.cps.toList := by
  show (a.cps ++ b.cps).toList = _
  simp
theorem str_len (a : Str) : a.length = a.cps.toList.length := by simp [Str.length]
@[simp] theorem str_len_app (a b : Str) : (a ++ b).length = a.length + b.length := by
  rw [str_len, str_app, List.length_append, ← str_len, ← str_len]
@[simp] theorem str_len_one (c : Nat) : Str.length ⟨#[c]⟩ = 1 := Eq.trans rfl rfl
def LETS : Str := "abcdefghijklmnopqrstuvwxyz"
def Lt (s : Str) : Prop := ∀ c ∈ s.cps.toList, c ∈ LETS.cps.toList
theorem Lt.app {a b : Str} (ha : Lt a) (hb : Lt b) : Lt (a ++ b) := by
  intro c hc
  rw [str_app, List.mem_append] at hc
  exact hc.elim (ha c) (hb c)
theorem Lt.one {c : Nat} (h : c ∈ LETS.cps.toList) : Lt ⟨#[c]⟩ := by
  intro x hx
  simp at hx
  rw [hx]; exact h
theorem Lt.nil : Lt "" := by
  intro c hc
  have : (Str.ofString "").cps.toList = [] := by decide +kernel
  rw [this] at hc
  cases hc
def Nm (s : Str) : Prop := 1 ≤ s.length ∧ s.length ≤ 8 ∧ Lt s
structure NmL (ss : List Str) : Prop where
  nd : ss.Nodup
  nm : ∀ s ∈ ss, Nm s
theorem NmL.snoc {ss : List Str} (h : NmL ss) {s : Str} (hs : Nm s) (hn : s ∉ ss) : NmL (ss ++ [s]) := by
  refine ⟨List.nodup_append.mpr ⟨h.nd, by simp, fun a ha b hb => ?_⟩, fun x hx => ?_⟩
  · simp at hb
    intro e
    subst hb
    exact hn (e ▸ ha)
  · rw [List.mem_append] at hx
    rcases hx with hx | hx
    · exact h.nm x hx
    · simp at hx; rw [hx]; exact hs
abbrev tSs (ss : List Str) : List T := ss.map T.str
theorem optL_strs (h : Hh) (n : Nat) : ∀ ss : List Str, optL (toD h (n + 1)) (tSs ss) = some (ss.map PyData.str)
  | [] => rfl
  | s :: ss => by
    have e1 : toD h (n + 1) (.str s) = some (.str s) := rfl
    show optL (toD h (n + 1)) (.str s :: tSs ss) = _
    unfold optL
    rw [optL_strs h n ss, e1]
    rfl
theorem any_strs (s : Str) : ∀ ss : List Str, ((ss.map PyData.str).any fun z => PyData.eqv z (.str s)) = decide (s ∈ ss)
  | [] => by simp
  | t :: ss => by
    rw [List.map_cons, List.any_cons, any_strs s ss]
    have : PyData.eqv (.str t) (.str s) = decide (t = s) := by rw [PyData.eqv]; rfl
    rw [this]
    by_cases q : t = s
    · simp [q]
    · have q' : ¬ s = t := fun e => q e.symm
      simp [q, q']
theorem e_in_tup {s : Str} {ss : List Str} {h : Hh} : inT (.str s) (.tup (tSs ss)) h = some (decide (s ∈ ss)) := by
  show (match toD h 24 (.str s), (optL (toD h 23) (tSs ss)).map PyData.tuple with
    | some d, some (.list ds) => some (ds.any fun z => PyData.eqv z d)
    | some d, some (.tuple ds) => some (ds.any fun z => PyData.eqv z d)
    | _, _ => none) = _
  rw [optL_strs h 22]
  show some ((ss.map PyData.str).any fun z => PyData.eqv z (.str s)) = _
  rw [any_strs]
@[simp] theorem oIn_tup {s : Str} {ss : List Str} {h : Hh} : oIn (.str s) (.tup (tSs ss)) h = .ok (.bl (decide (s ∈ ss))) h := by
  unfold oIn; rw [e_in_tup]
@[simp] theorem oNotIn_tup {s : Str} {ss : List Str} {h : Hh} : oNotIn (.str s) (.tup (tSs ss)) h = .ok (.bl (!decide (s ∈ ss))) h := by
  unfold oNotIn; rw [e_in_tup]
abbrev Fn := List T → Hh → Res T
end W3
end

section
namespace W3
open PySem
abbrev EQ := Str → List (Str × T) → Hh → Prop
def Res.wp {α : Type} (r : Res α) (Q : α → Hh → Prop) (E : EQ) : Prop :=
  match r with | .ok a h => Q a h | .exc c fs h => E c fs h | .stk => False
structure FQ where
  n : St3 → Hh → Prop
  r : T → Hh → Prop
  b : St3 → Hh → Prop
  c : St3 → Hh → Prop
  e : Str → List (Str × T) → St3 → Hh → Prop
def Flo.wp (r : Flo) (Q : FQ) : Prop :=
  match r with | .nx σ h => Q.n σ h | .rt t h => Q.r t h | .bk σ h => Q.b σ h | .ct σ h => Q.c σ h | .exc c fs σ h => Q.e c fs σ h | .stk => False
section
variable {α β : Type} {Q : α → Hh → Prop} {E : EQ}
@[simp] theorem wp_ok (a : α) (h : Hh) : (Res.ok a h).wp Q E = Q a h := Eq.trans rfl rfl
@[simp] theorem wp_exc (c : Str) (fs : List (Str × T)) (h : Hh) : (Res.exc c fs h : Res α).wp Q E = E c fs h := Eq.trans rfl rfl
@[simp] theorem wp_stk : (Res.stk : Res α).wp Q E = False := Eq.trans rfl rfl
def kQ (f : α → Hh → Res β) (Q : β → Hh → Prop) (E : EQ) : α → Hh → Prop := fun a h => (f a h).wp Q E
@[simp] theorem kQ_app {Q : β → Hh → Prop} (f : α → Hh → Res β) (a : α) (h : Hh) : kQ f Q E a h = (f a h).wp Q E := Eq.trans rfl rfl
@[simp] theorem wp_bind {Q : β → Hh → Prop} (r : Res α) (f : α → Hh → Res β) : (r.bind f).wp Q E = r.wp (kQ f Q E) E := by
  cases r <;> rfl
@[simp] theorem wp_if (c : Prop) [Decidable c] (a b : Res α) : (if c then a else b).wp Q E = ((c → a.wp Q E) ∧ (¬ c → b.wp Q E)) := by
  by_cases q : c <;> simp [q]
theorem Res.wp.mono {r : Res α} {Q Q' : α → Hh → Prop} {E E' : EQ} (w : r.wp Q E) (hq : ∀ a h, Q a h → Q' a h) (he : ∀ c fs h, E c fs h → E' c fs h) : r.wp Q' E' := by
  cases r with
  | ok a h => exact hq a h w
  | exc c fs h => exact he c fs h w
  | stk => exact w
theorem Res.wp.imp {r : Res α} {Q Q' : α → Hh → Prop} {E : EQ} (w : r.wp Q E) (hq : ∀ a h, Q a h → Q' a h) : r.wp Q' E := w.mono hq fun _ _ _ h => h
abbrev noE : EQ := fun _ _ _ => False
theorem Res.wp.ok {r : Res α} (w : r.wp Q noE) : ∃ a h, r = .ok a h ∧ Q a h := by
  cases r with
  | ok a h => exact ⟨a, h, rfl, w⟩
  | exc c fs h => exact w.elim
  | stk => exact w.elim
end
section
variable {Q : FQ}
@[simp] theorem fp_nx (σ : St3) (h : Hh) : (Flo.nx σ h).wp Q = Q.n σ h := Eq.trans rfl rfl
@[simp] theorem fp_rt (t : T) (h : Hh) : (Flo.rt t h).wp Q = Q.r t h := Eq.trans rfl rfl
@[simp] theorem fp_bk (σ : St3) (h : Hh) : (Flo.bk σ h).wp Q = Q.b σ h := Eq.trans rfl rfl
@[simp] theorem fp_ct (σ : St3) (h : Hh) : (Flo.ct σ h).wp Q = Q.c σ h := Eq.trans rfl rfl
@[simp] theorem fp_exc (c : Str) (fs : List (Str × T)) (σ : St3) (h : Hh) : (Flo.exc c fs σ h).wp Q = Q.e c fs σ h := Eq.trans rfl rfl
@[simp] theorem fp_stk : (Flo.stk).wp Q = False := Eq.trans rfl rfl
def FQ.seq (Q : FQ) (k : SS) : FQ := ⟨fun σ h => (k σ h).wp Q, Q.r, Q.b, Q.c, Q.e⟩
@[simp] theorem fs_n (k : SS) (σ : St3) (h : Hh) : (Q.seq k).n σ h = (k σ h).wp Q := Eq.trans rfl rfl
@[simp] theorem fs_r (k : SS) : (Q.seq k).r = Q.r := Eq.trans rfl rfl
@[simp] theorem fs_b (k : SS) : (Q.seq k).b = Q.b := Eq.trans rfl rfl
@[simp] theorem fs_c (k : SS) : (Q.seq k).c = Q.c := Eq.trans rfl rfl
@[simp] theorem fs_e (k : SS) : (Q.seq k).e = Q.e := Eq.trans rfl rfl
def FQ.loop (Q : FQ) (J : St3 → Hh → Prop) : FQ := ⟨J, Q.r, Q.n, J, Q.e⟩
@[simp] theorem fl_n (J : St3 → Hh → Prop) : (Q.loop J).n = J := Eq.trans rfl rfl
@[simp] theorem fl_r (J : St3 → Hh → Prop) : (Q.loop J).r = Q.r := Eq.trans rfl rfl
@[simp] theorem fl_b (J : St3 → Hh → Prop) : (Q.loop J).b = Q.n := Eq.trans rfl rfl
@[simp] theorem fl_c (J : St3 → Hh → Prop) : (Q.loop J).c = J := Eq.trans rfl rfl
@[simp] theorem fl_e (J : St3 → Hh → Prop) : (Q.loop J).e = Q.e := Eq.trans rfl rfl
def FQ.df (Q : T → Hh → Prop) (E : EQ) : FQ := ⟨fun _ h => Q .non h, Q, fun _ _ => False, fun _ _ => False, fun c fs _ h => E c fs h⟩
@[simp] theorem fd_n (Q : T → Hh → Prop) (E : EQ) (σ : St3) (h : Hh) : (FQ.df Q E).n σ h = Q .non h := Eq.trans rfl rfl
@[simp] theorem fd_r (Q : T → Hh → Prop) (E : EQ) : (FQ.df Q E).r = Q := Eq.trans rfl rfl
@[simp] theorem fd_e (Q : T → Hh → Prop) (E : EQ) (c : Str) (fs : List (Str × T)) (σ : St3) (h : Hh) : (FQ.df Q E).e c fs σ h = E c fs h := Eq.trans rfl rfl
def fQ {α : Type} (k : α → Hh → Flo) (Q : FQ) : α → Hh → Prop := fun a h => (k a h).wp Q
@[simp] theorem fQ_app {α : Type} (k : α → Hh → Flo) (a : α) (h : Hh) : fQ k Q a h = (k a h).wp Q := Eq.trans rfl rfl
def eQ (Q : FQ) (σ : St3) : EQ := fun c fs h => Q.e c fs σ h
@[simp] theorem eQ_app (σ : St3) (c : Str) (fs : List (Str × T)) (h : Hh) : eQ Q σ c fs h = Q.e c fs σ h := Eq.trans rfl rfl
@[simp] theorem eQ_seq (σ : St3) (k : SS) : eQ (Q.seq k) σ = eQ Q σ := Eq.trans rfl rfl
@[simp] theorem eQ_loop (σ : St3) (J : St3 → Hh → Prop) : eQ (Q.loop J) σ = eQ Q σ := Eq.trans rfl rfl
@[simp] theorem eQ_df (σ : St3) (Q : T → Hh → Prop) (E : EQ) : eQ (FQ.df Q E) σ = E := Eq.trans rfl rfl
@[simp] theorem fp_flo {α : Type} (r : Res α) (σ : St3) (k : α → Hh → Flo) : (r.flo σ k).wp Q = r.wp (fQ k Q) (eQ Q σ) := by
  cases r <;> rfl
@[simp] theorem fp_seq (r : Flo) (k : SS) : (r.seq k).wp Q = r.wp (Q.seq k) := by
  cases r <;> rfl
@[simp] theorem fp_if (c : Prop) [Decidable c] (a b : Flo) : (if c then a else b).wp Q = ((c → a.wp Q) ∧ (¬ c → b.wp Q)) := by
  by_cases q : c <;> simp [q]
theorem Flo.wp.mono {r : Flo} {Q Q' : FQ} (w : r.wp Q) (hn : ∀ σ h, Q.n σ h → Q'.n σ h) (hr : ∀ t h, Q.r t h → Q'.r t h) (hb : ∀ σ h, Q.b σ h → Q'.b σ h) (hc : ∀ σ h, Q.c σ h → Q'.c σ h) (he : ∀ c fs σ h, Q.e c fs σ h → Q'.e c fs σ h) : r.wp Q' := by
  cases r with
  | nx σ h => exact hn σ h w
  | rt t h => exact hr t h w
  | bk σ h => exact hb σ h w
  | ct σ h => exact hc σ h w
  | exc c fs σ h => exact he c fs σ h w
  | stk => exact w
end
@[simp] theorem wp_defRun (n : Nat) (b : SS) (ts : List T) (h : Hh) (Q : T → Hh → Prop) (E : EQ) : (defRun n b ts h).wp Q E = (b (startT n ts) h).wp (FQ.df Q E) := by
  unfold defRun
  cases b (startT n ts) h <;> rfl
theorem wp_for {s : Src} {ts : List T} {g : SG} {b : SS} {σ : St3} {h : Hh} {Q : FQ} (I : Nat → St3 → Hh → Prop) (hI : ∀ i σ h, I i σ h → s.Is ts h) (h0 : I 0 σ h)
    (hs : ∀ i x σ h, ts[i]? = some x → I i σ h → ∃ σ1, g x σ = some σ1 ∧ (b σ1 h).wp (Q.loop (I (i + 1))))
    (he : ∀ σ h, I ts.length σ h → Q.n σ h) : (forRun s g b (s.len h) 0 σ h).wp Q := by
  rw [(hI _ _ _ h0).len]
  suffices H : ∀ k i σ h, i + k = ts.length → I i σ h → (forRun s g b k i σ h).wp Q from H _ _ _ _ (by omega) h0
  intro k
  induction k with
  | zero =>
    intro i σ h e q
    have e1 : i = ts.length := by omega
    unfold forRun
    rw [(hI _ _ _ q).at, List.getElem?_eq_none (by omega)]
    exact he σ h (e1 ▸ q)
  | succ k ih =>
    intro i σ h e q
    have ex : ts[i]? = some ts[i] := by simp [show i < ts.length by omega]
    obtain ⟨σ1, e1, w⟩ := hs i _ σ h ex q
    unfold forRun
    rw [(hI _ _ _ q).at, ex]
    simp only [e1]
    revert w
    cases b σ1 h with
    | nx σ2 h2 => exact fun w => ih (i + 1) σ2 h2 (by omega) w
    | ct σ2 h2 => exact fun w => ih (i + 1) σ2 h2 (by omega) w
    | bk σ2 h2 => exact fun w => w
    | rt t h2 => exact fun w => w
    | exc c fs σ2 h2 => exact fun w => w
    | stk => exact fun w => w
theorem wp_lc {s : Src} {ts : List T} {g : SG} {tt : ST} {te : SE} {σ : St3} {h : Hh} {Q : List T → Hh → Prop} {E : EQ} (hz : ts.length ≤ sizeLine) (I : Nat → List T → Hh → Prop) (hI : ∀ i acc h, I i acc h → s.Is ts h) (h0 : I 0 [] h)
    (hs : ∀ i x acc h, ts[i]? = some x → I i acc h → ∃ σ1, g x σ = some σ1 ∧ (tt σ1 h).wp (fun b h1 => if b = true then (te σ1 h1).wp (fun t h2 => I (i + 1) (acc ++ [t]) h2) noE else I (i + 1) acc h1) noE)
    (he : ∀ acc h, I ts.length acc h → Q acc h) : (lcRun s g tt te σ (s.len h) 0 [] h).wp Q E := by
  obtain ⟨acc', h', e, q, _⟩ := lc_run (s := s) (ts := ts) (g := g) (tt := tt) (te := te) (σ := σ) (h := h) hz I hI h0 fun i x acc h ex q => by
    obtain ⟨σ1, e1, w⟩ := hs i x acc h ex q
    refine ⟨σ1, e1, ?_⟩
    obtain ⟨b, h1, e2, w2⟩ := w.ok
    cases b with
    | false => exact .inl ⟨h1, e2, by simpa using w2⟩
    | true =>
      have w2 : (te σ1 h1).wp (fun t h2 => I (i + 1) (acc ++ [t]) h2) noE := by simpa using w2
      obtain ⟨t, h2, e3, w3⟩ := w2.ok
      exact .inr ⟨h1, t, h2, e2, e3, w3⟩
  rw [e]
  exact he _ _ q
theorem wp_lcm {s : Src} {ts : List T} {g : SG} {te : SE} {σ : St3} {h : Hh} {Q : List T → Hh → Prop} {E : EQ} (f : T → T) (hz : ts.length ≤ sizeLine) (hI : s.Is ts h) (hs : ∀ x ∈ ts, ∃ σ1, g x σ = some σ1 ∧ te σ1 h = .ok (f x) h) (k : Q (ts.map f) h) :
    (lcRun s g stYes te σ (s.len h) 0 [] h).wp Q E := by
  rw [lc_map f hz hI hs]; exact k
structure Fr (S : Nat → Prop) (h h' : Hh) : Prop where
  le : h.length ≤ h'.length
  keep : ∀ k, k < h.length → ¬ S k → h'[k]? = h[k]?
theorem Fr.refl {S : Nat → Prop} {h : Hh} : Fr S h h := ⟨Nat.le_refl _, fun _ _ _ => rfl⟩
theorem Fr.trans {S : Nat → Prop} {h h1 h2 : Hh} (a : Fr S h h1) (b : Fr S h1 h2) : Fr S h h2 :=
  ⟨Nat.le_trans a.le b.le, fun k hk hs => (b.keep k (Nat.lt_of_lt_of_le hk a.le) hs).trans (a.keep k hk hs)⟩
end W3
end

section
namespace W3
open PySem
def MixW (f : Fn) : Prop := ∀ {v k : Int} {h : Hh} {Q : T → Hh → Prop} {E : EQ}, (∀ z, Q (.int z) h) → (f [.int v, .int k] h).wp Q E
def DrawW (f : Fn) : Prop := ∀ {h : Hh} {l : Nat} {m : Int} {Q : T → Hh → Prop} {E : EQ}, IsBox h l → 0 < m → m < 1073741824 → (∀ d h', 0 ≤ d → d < m → Up l h h' → Q (.int d) h') → (f [.ref l, .int m] h).wp Q E
def BoxW (f : Fn) : Prop := ∀ {ns : List Int} {h : Hh} {Q : T → Hh → Prop} {E : EQ}, ns.length ≤ 63 → (∀ l h', IsBox h' l → h.length ≤ l → (∀ k, k < h.length → h'[k]? = h[k]?) → (∀ c, BoxC h' l = some c → h.length ≤ c) → Q (.ref l) h') → (f [.fl (ns.map T.int)] h).wp Q E
@[simp] theorem e_startT (n : Nat) (ts : List T) : startT n ts = ts.map some ++ List.replicate (n - ts.length) none := Eq.trans rfl rfl
theorem lstAt_app_ge {h o : Hh} {k : Nat} : lstAt (h ++ o) (h.length + k) = lstAt o k := by
  unfold lstAt; rw [List.getElem?_append_right (by omega)]; simp
@[simp] theorem lstAt_app_k {h o : Hh} {k : Nat} : lstAt (h ++ o) (h.length + k) = lstAt o k := lstAt_app_ge
@[simp] theorem lstAt_app_z {h o : Hh} : lstAt (h ++ o) h.length = lstAt o 0 := by
  have := @lstAt_app_ge h o 0; simpa using this
@[simp] theorem lstAt_0 (o : Ob) (r : Hh) : lstAt (o :: r) 0 = match o with | .lst ts => some ts | _ => none := by
  unfold lstAt; cases o <;> rfl
@[simp] theorem lstAt_s (o : Ob) (r : Hh) (k : Nat) : lstAt (o :: r) (k + 1) = lstAt r k := by
  unfold lstAt; simp
@[simp] theorem e_neg (i : Int) (h : Hh) : oNeg (.int i) h = .ok (.int (-i)) h := Eq.trans rfl rfl
@[simp] theorem e_set_ap {h o : Hh} {k : Nat} {x : Ob} : (h ++ o).set (h.length + k) x = h ++ o.set k x := by
  rw [List.set_append_right _ _ (by omega)]; simp
@[simp] theorem e_set_ap0 {h o : Hh} {x : Ob} : (h ++ o).set h.length x = h ++ o.set 0 x := by
  rw [List.set_append_right _ _ (by omega)]; simp
theorem isK_ok {k : Kd} {x : T} {h : Hh} {b : Bool} (e : isK k x h = some b) : oIsK k x h = .ok (.bl b) h := by
  unfold oIsK; rw [e]
@[simp] theorem lets_len2 : (Str.ofString "abcdefghijklmnopqrstuvwxyz").length = 26 := by decide +kernel
end W3
end

section
namespace W3
open PySem
abbrev Ent := Option Str
def tE : Ent → T | none => .non | some s => .str s
@[simp] theorem tE_n : tE none = .non := Eq.trans rfl rfl
@[simp] theorem tE_s (s : Str) : tE (some s) = .str s := Eq.trans rfl rfl
def tRow (r : List Ent) : T := .tup (r.map tE)
inductive Nr where | alone (r : List Ent) | looks (g : Str) (rs : List (List Ent))
def Nr.tLooks : Nr → T | .alone _ => .non | .looks g _ => .str g
def Nr.tNear : Nr → T | .alone r => tRow r | .looks _ rs => .tup (rs.map tRow)
structure Fd where
  first : Str
  nr : Nr
  far : Option (List Ent)
def tFar : Option (List Ent) → T | none => .non | some r => tRow r
def Fd.ts (f : Fd) : List T := [.str f.first, f.nr.tLooks, f.nr.tNear, tFar f.far]
def Fd.t (f : Fd) : T := .tup f.ts
def tPair (p : Str × Fd) : T := .tup [.str p.1, p.2.t]
structure Fm where
  words : List Str
  fields : List (Str × Fd)
  room : Int
def Fm.names (f : Fm) : List Str := f.fields.map Prod.fst
def Fm.tW (f : Fm) : T := .tup (tSs f.words)
def Fm.tF (f : Fm) : T := .tup (f.fields.map tPair)
structure RowOk (n : Nat) (r : List Ent) : Prop where
  len : r.length = n
  nm : ∀ s, some s ∈ r → Nm s
def NrOk (n : Nat) (ns : List Str) (nm : Str) : Nr → Prop
  | .alone r => RowOk n r
  | .looks g rs => g ∈ ns ∧ g ≠ nm ∧ rs.length = n ∧ ∀ r ∈ rs, RowOk n r
structure FdOk (ws ns : List Str) (nm : Str) (f : Fd) : Prop where
  first : f.first ∈ ws
  nr : NrOk ws.length ns nm f.nr
  far : ∀ r, f.far = some r → RowOk ws.length r
structure FmOk (f : Fm) : Prop where
  w2 : 2 ≤ f.words.length
  w3 : f.words.length ≤ 3
  wn : NmL f.words
  f1 : 1 ≤ f.fields.length
  f3 : f.fields.length ≤ 3
  fn : NmL f.names
  fs : ∀ p ∈ f.fields, FdOk f.words f.names p.1 p.2
  r1 : 1 ≤ f.room
  r3 : f.room ≤ 3
theorem atI_map {α β : Type} (f : α → β) {xs : List α} {i : Int} (h0 : 0 ≤ i) (h1 : i < xs.length) : ∃ x, L2.atI (xs.map f) i = some (f x) ∧ x ∈ xs := by
  obtain ⟨y, e, q⟩ := atI_int (xs := xs.map f) h0 (by simpa using h1)
  rw [List.getElem?_map] at q
  cases z : xs[i.toNat]? with
  | none => rw [z] at q; cases q
  | some x => rw [z] at q; cases q; exact ⟨x, e, List.mem_of_getElem? z⟩
end W3
end

section
namespace W3
open PySem
theorem eq_of_wp {r : Res T} {v : T} {h : Hh} (w : r.wp (fun a h' => a = v ∧ h' = h) noE) : r = .ok v h := by
  obtain ⟨a, h', e, rfl, rfl⟩ := w.ok
  exact e
def Jd (v : T) (h : Hh) : Prop := match v with
  | .ref l => (∃ ts, h[l]? = some (.lst ts)) ∨ ∃ d, h[l]? = some (.dic d)
  | .cls _ => False
  | .str s => s.length ≤ 1000
  | .tup ts => ts.length ≤ 1000
  | _ => True
@[simp] theorem Jd_non (h : Hh) : Jd .non h := trivial
@[simp] theorem Jd_bl (b : Bool) (h : Hh) : Jd (.bl b) h := trivial
@[simp] theorem Jd_int (b : Int) (h : Hh) : Jd (.int b) h := trivial
@[simp] theorem Jd_str (b : Str) (h : Hh) : Jd (.str b) h = (b.length ≤ 1000) := Eq.trans rfl rfl
@[simp] theorem Jd_tup (b : List T) (h : Hh) : Jd (.tup b) h = (b.length ≤ 1000) := Eq.trans rfl rfl
@[simp] theorem Jd_fl (b : List T) (h : Hh) : Jd (.fl b) h := trivial
theorem Jd_lst {l : Nat} {ts : List T} {h : Hh} (e : lstAt h l = some ts) : Jd (.ref l) h := .inl ⟨ts, of_lstAt e⟩
def isStr : T → Bool | .str _ => true | _ => false
def isTup : T → Bool | .tup _ => true | _ => false
def isBl : T → Bool | .bl _ => true | _ => false
theorem j_str {v : T} {h : Hh} (j : Jd v h) : oIsK .str v h = .ok (.bl (isStr v)) h := by
  apply isK_ok
  cases v with
  | ref l => rcases j with ⟨ts, e⟩ | ⟨d, e⟩ <;> simp only [isK, e] <;> rfl
  | cls c => exact j.elim
  | _ => rfl
theorem j_tup {v : T} {h : Hh} (j : Jd v h) : oIsK .tuple v h = .ok (.bl (isTup v)) h := by
  apply isK_ok
  cases v with
  | ref l => rcases j with ⟨ts, e⟩ | ⟨d, e⟩ <;> simp only [isK, e] <;> rfl
  | cls c => exact j.elim
  | _ => rfl
theorem j_bl {v : T} {h : Hh} (j : Jd v h) : oIsK .bool v h = .ok (.bl (isBl v)) h := by
  apply isK_ok
  cases v with
  | ref l => rcases j with ⟨ts, e⟩ | ⟨d, e⟩ <;> simp only [isK, e] <;> rfl
  | cls c => exact j.elim
  | _ => rfl
def ltB (s : Str) : Bool := s.cps.toList.all fun c => decide (c ∈ LETS.cps.toList)
def nmB (s : Str) : Bool := decide (1 ≤ s.length ∧ s.length ≤ 8) && ltB s
def nameB : T → Bool | .str s => nmB s | _ => false
theorem nmB_iff {s : Str} : nmB s = true ↔ Nm s := by
  unfold nmB ltB Nm Lt
  rw [Bool.and_eq_true, decide_eq_true_eq, List.all_eq_true, and_assoc]
  simp only [decide_eq_true_eq]
def oneB (v : T) (ss : List Str) : Bool := match v with | .str s => decide (s ∈ ss) | _ => false
@[simp] theorem blsOf_map {α : Type} (p : α → Bool) : ∀ xs : List α, blsOf (xs.map fun x => T.bl (p x)) = some (xs.map p)
  | [] => rfl
  | x :: xs => by
    show (blsOf (xs.map fun x => T.bl (p x))).map (p x :: ·) = _
    rw [blsOf_map p xs]; rfl
@[simp] theorem bAll_map {α : Type} (p : α → Bool) (xs : List α) (h : Hh) : bAll (xs.map fun x => T.bl (p x)) h = .ok (.bl (xs.all p)) h := by
  unfold bAll; rw [blsOf_map]; simp
@[simp] theorem bAny_map {α : Type} (p : α → Bool) (xs : List α) (h : Hh) : bAny (xs.map fun x => T.bl (p x)) h = .ok (.bl (xs.any p)) h := by
  unfold bAny; rw [blsOf_map]; simp
theorem oIn_ch (c : Nat) (s : Str) (h : Hh) : oIn (.str ⟨#[c]⟩) (.str s) h = .ok (.bl (decide (c ∈ s.cps.toList))) h := by
  unfold oIn inT
  simp only [StrLaws.found_one]
def JdN : Nat → T → Hh → Prop
  | 0, v, h => Jd v h
  | n + 1, v, h => Jd v h ∧ ∀ ts, v = .tup ts → ∀ t ∈ ts, JdN n t h
theorem JdN.jd {n : Nat} {v : T} {h : Hh} (j : JdN n v h) : Jd v h := by
  cases n with
  | zero => exact j
  | succ n => exact j.1
theorem JdN.tup {n : Nat} {ts : List T} {h : Hh} (j : JdN (n + 1) (.tup ts) h) {t : T} (ht : t ∈ ts) : JdN n t h := j.2 ts rfl t ht
def entB (t : T) : Bool := isNonT t || nameB t
def rowB (v : T) (n : Int) : Bool := match v with | .tup ts => decide ((ts.length : Int) = n) && ts.all entB | _ => false
def nearB (v looks : T) (n : Int) : Bool := if isNonT looks then rowB v n else match v with | .tup ts => decide ((ts.length : Int) = n) && ts.all (fun t => rowB t n) | _ => false
def strOf : T → Str | .str s => s | _ => ⟨#[]⟩
def namesB (v : T) (lo hi : Int) : Bool := match v with | .tup ts => decide (lo ≤ ts.length ∧ (ts.length : Int) ≤ hi) && (ts.all nameB && decide ((ts.map strOf).Nodup)) | _ => false
def pairB (v : T) : Bool := match v with | .tup [a, .tup b] => nameB a && decide (b.length = 4) | _ => false
def fstOf : T → T | .tup (a :: _) => a | t => t
def fieldsB (v : T) : Bool := match v with | .tup ts => decide (1 ≤ ts.length ∧ ts.length ≤ 3) && (ts.all pairB && decide ((ts.map fun t => strOf (fstOf t)).Nodup)) | _ => false
abbrev IsB (f : Fn) (n : Nat) (p : T → Bool) : Prop := ∀ {v : T} {h : Hh}, JdN n v h → f [v] h = .ok (.bl (p v)) h
@[simp] theorem isStr_s (s : Str) : isStr (.str s) = true := Eq.trans rfl rfl
@[simp] theorem isTup_s (s : List T) : isTup (.tup s) = true := Eq.trans rfl rfl
theorem of_isStr {v : T} (h : isStr v = true) : ∃ s, v = .str s := by cases v <;> first | exact ⟨_, rfl⟩ | cases h
theorem of_isTup {v : T} (h : isTup v = true) : ∃ s, v = .tup s := by cases v <;> first | exact ⟨_, rfl⟩ | cases h
theorem nameB_not {v : T} (h : ¬ isStr v = true) : nameB v = false := by cases v <;> first | rfl | exact absurd rfl h
theorem lcm_all {p : T → Bool} {s : Src} {ts : List T} {g : SG} {te : SE} {σ : St3} {h : Hh} {Q : T → Hh → Prop} {E E' : EQ} (hz : ts.length ≤ sizeLine) (hI : s.Is ts h) (hs : ∀ x ∈ ts, ∃ σ1, g x σ = some σ1 ∧ te σ1 h = .ok (.bl (p x)) h) (k : Q (.bl (ts.all p)) h) :
    (lcRun s g stYes te σ (s.len h) 0 [] h).wp (kQ bAll Q E') E := by
  refine wp_lcm (fun x => T.bl (p x)) hz hI hs ?_
  simp
  exact k
end W3
end

section
namespace W3
open PySem
def Fm.ins (fm : Fm) : List (Str × T) := [("words", fm.tW), ("fields", fm.tF), ("room", .int fm.room)]
def FormAt (h : Hh) (l : Nat) (fm : Fm) : Prop := h[l]? = some (.ins "Form" fm.ins)
theorem insAt_of {h : Hh} {l : Nat} {c : Str} {fs : List (Str × T)} (e : h[l]? = some (.ins c fs)) : insAt h l = some (c, fs) := by unfold insAt; rw [e]
theorem FormAt.ins {h : Hh} {l : Nat} {fm : Fm} (e : FormAt h l fm) : insAt h l = some (("Form" : Str), fm.ins) := insAt_of e
theorem mOk_of {h : Hh} {l : Nat} {c m : Str} {fs : List (Str × T)} (e : insAt h l = some (c, fs)) (hm : fs.lookup m = none) : mOk c m (.ref l) h = true := by
  unfold mOk; simp only [e]; simp [hm]
theorem FormAt.m {h : Hh} {l : Nat} {fm : Fm} {m : Str} (e : FormAt h l fm) (hm : fm.ins.lookup m = none) : mOk "Form" m (.ref l) h = true := mOk_of e.ins hm
theorem fld_of {cs : List (Str × List Str)} {h : Hh} {l : Nat} {c : Str} {fs : List (Str × T)} {as : List Str} {f : Str} {t : T} (e : insAt h l = some (c, fs)) (hc : cs.lookup c = some as) (ha : as.contains f = true) (hf : fs.lookup f = some t) : oFldC cs f (.ref l) h = .ok t h := by
  simp only [oFldC, e, hc, ha, hf, if_true]
theorem sfld_of {cs : List (Str × List Str)} {h : Hh} {l : Nat} {c : Str} {fs : List (Str × T)} {as : List Str} {f : Str} {y : T} {σ : St3} (e : insAt h l = some (c, fs)) (hc : cs.lookup c = some as) (ha : as.contains f = true) (hl : fs.length < 1000) :
    fSet cs (.ref l) f y σ h = .nx σ (h.set l (.ins c (putT f y fs))) := by
  simp only [fSet, e, hc, ha, hl, decide_true, Bool.and_true, if_true]
theorem jdN_str {n : Nat} {s : Str} {h : Hh} (hs : s.length ≤ 1000) : JdN n (.str s) h := by
  cases n with
  | zero => exact hs
  | succ n => exact ⟨hs, fun ts e => by cases e⟩
theorem jdN_non {n : Nat} {h : Hh} : JdN n .non h := by
  cases n with
  | zero => trivial
  | succ n => exact ⟨trivial, fun ts e => by cases e⟩
theorem jdN_int {n : Nat} {i : Int} {h : Hh} : JdN n (.int i) h := by
  cases n with
  | zero => trivial
  | succ n => exact ⟨trivial, fun ts e => by cases e⟩
theorem jdN_bl {n : Nat} {i : Bool} {h : Hh} : JdN n (.bl i) h := by
  cases n with
  | zero => trivial
  | succ n => exact ⟨trivial, fun ts e => by cases e⟩
theorem jdN_tup {n : Nat} {ts : List T} {h : Hh} (hl : ts.length ≤ 1000) (ht : ∀ t ∈ ts, JdN n t h) : JdN (n + 1) (.tup ts) h := ⟨hl, fun us e t q => by cases e; exact ht t q⟩
theorem jdN_ref {n : Nat} {l : Nat} {h : Hh} (j : Jd (.ref l) h) : JdN n (.ref l) h := by
  cases n with
  | zero => exact j
  | succ n => exact ⟨j, fun ts e => by cases e⟩
theorem Nm.short {s : Str} (h : Nm s) : s.length ≤ 1000 := by have := h.2.1; omega
end W3
end

section
namespace W3
open PySem
def flatT : T → Bool | .non => true | .bl _ => true | .int _ => true | .str _ => true | _ => false
def LstT (h : Hh) (t : T) (ts : List T) : Prop := (∃ l, t = .ref l ∧ lstAt h l = some ts) ∨ t = .fl ts
def SameV (h : Hh) : Nat → T → T → Prop
  | 0, t, u => t = u ∧ flatT t = true
  | n + 1, t, u => (t = u ∧ flatT t = true) ∨ ∃ ts us, ((t = .tup ts ∧ u = .tup us) ∨ (LstT h t ts ∧ LstT h u us)) ∧ ts.length = us.length ∧ ts.length ≤ 100000 ∧ ∀ (i : Nat) (x y : T), ts[i]? = some x → us[i]? = some y → SameV h n x y
def PureT : Nat → T → Prop
  | 0, t => flatT t = true
  | n + 1, t => flatT t = true ∨ ∃ ts, t = .tup ts ∧ ts.length ≤ 100000 ∧ ∀ x ∈ ts, PureT n x
theorem PureT.same {h : Hh} : ∀ {n : Nat} {t : T}, PureT n t → SameV h n t t
  | 0, t, p => ⟨rfl, p⟩
  | n + 1, t, p => by
    rcases p with p | ⟨ts, rfl, hl, p⟩
    · exact .inl ⟨rfl, p⟩
    · refine .inr ⟨ts, ts, .inl ⟨rfl, rfl⟩, rfl, hl, fun i x y ex ey => ?_⟩
      rw [ex] at ey; cases ey
      exact (p x (List.mem_of_getElem? ex)).same
theorem SameV.lists {h : Hh} {n a b : Nat} {ts : List T} (ea : lstAt h a = some ts) (eb : lstAt h b = some ts) (hl : ts.length ≤ 100000) (p : ∀ x ∈ ts, PureT n x) : SameV h (n + 1) (.ref a) (.ref b) := by
  refine .inr ⟨ts, ts, .inr ⟨.inl ⟨a, rfl, ea⟩, .inl ⟨b, rfl, eb⟩⟩, rfl, hl, fun i x y ex ey => ?_⟩
  rw [ex] at ey; cases ey
  exact (p x (List.mem_of_getElem? ex)).same
def SameW (n : Nat) (f : Fn) : Prop := ∀ {t u : T} {h : Hh}, SameV h n t u → f [t, u] h = .ok (.bl true) h
@[simp] theorem e_isK_fl (k : Kd) (s : List T) (h : Hh) : oIsK k (.fl s) h = .ok (.bl (k == .list)) h := Eq.trans rfl rfl
theorem LstT.isK {h : Hh} {t : T} {ts : List T} (e : LstT h t ts) (k : Kd) : oIsK k t h = .ok (.bl (k == .list)) h := by
  rcases e with ⟨l, rfl, e⟩ | rfl
  · exact e_isK_lst e
  · rfl
theorem LstT.len {h : Hh} {t : T} {ts : List T} (e : LstT h t ts) : bLen [t] h = .ok (.int ts.length) h := by
  rcases e with ⟨l, rfl, e⟩ | rfl
  · simp [e]
  · rfl
theorem LstT.ix {h : Hh} {t : T} {ts : List T} (e : LstT h t ts) (i : Int) : oIx t (.int i) h = match L2.atI ts i with | some t => .ok t h | none => .stk := by
  rcases e with ⟨l, rfl, e⟩ | rfl
  · rw [e_ix_ref]; simp only [e] <;> rfl
  · rfl
@[simp] theorem e_saLc2 (si : SI) (g : SG) (tt : ST) (si1 : SI) (g1 : SG) (tt1 : ST) (te : SE) (vs vs1 : List Nat) {σ : St3} {h : Hh} : saLc2 si g tt si1 g1 tt1 te vs vs1 σ h = (si σ h).bind fun s h1 => lc2Run s g tt si1 g1 tt1 te vs1 (wipeT σ vs) (s.len h1) 0 [] h1 := Eq.trans rfl rfl
def enterL (fm : Fm) : List T := fm.names.flatMap fun n => fm.words.map fun w => .tup [.str "enter", .str n, .str w]
def leaveL (fm : Fm) : List T := fm.names.map fun n => .tup [.str "leave", .str n]
def plainL (fm : Fm) : List T := enterL fm ++ leaveL fm ++ [.tup [.str "send"], .tup [.str "answer", .int 0], .tup [.str "answer", .int 1], .tup [.str "answer", .int 2]]
def wholeL (fm : Fm) : List T := plainL fm ++ [.tup [.str "reset"]]
@[simp] theorem e_extend (l b : Nat) (h : Hh) : mExtend (.ref l) [.ref b] h = match lstAt h l, lstAt h b with
    | some ts, some zs => if ts.length + zs.length ≤ sizeLine then .ok .non (h.set l (.lst (ts ++ zs))) else .stk
    | _, _ => .stk := Eq.trans rfl rfl
@[simp] theorem e_clear (l : Nat) (h : Hh) : mClear (.ref l) [] h = match lstAt h l with
    | some _ => .ok .non (h.set l (.lst []))
    | none => .stk := Eq.trans rfl rfl
@[simp] theorem e_add_rr (l b : Nat) (h : Hh) : oAdd (.ref l) (.ref b) h = match lstAt h l, lstAt h b with
    | some xs, some zs => if xs.length + zs.length ≤ sizeLine then alloc (.lst (xs ++ zs)) h else .stk
    | _, _ => .stk := Eq.trans rfl rfl
theorem pure_strs {n : Nat} {ss : List T} (h : ∀ t ∈ ss, flatT t = true) (hl : ss.length ≤ 100000) : PureT (n + 1) (.tup ss) := .inr ⟨ss, rfl, hl, fun x hx => by
  cases n with
  | zero => exact h x hx
  | succ n => exact .inl (h x hx)⟩
theorem wholeL_mem {fm : Fm} {d : T} (hd : d ∈ wholeL fm) : (∃ n ∈ fm.names, ∃ w ∈ fm.words, d = .tup [.str "enter", .str n, .str w]) ∨ (∃ n ∈ fm.names, d = .tup [.str "leave", .str n]) ∨ d = .tup [.str "send"] ∨ (∃ k : Int, 0 ≤ k ∧ k < 3 ∧ d = .tup [.str "answer", .int k]) ∨ d = .tup [.str "reset"] := by
  unfold wholeL plainL enterL leaveL at hd
  simp only [List.mem_append, List.mem_flatMap, List.mem_map, List.mem_cons, List.not_mem_nil, or_false] at hd
  rcases hd with ((⟨n, hn, w, hw, rfl⟩ | ⟨n, hn, rfl⟩) | rfl | rfl | rfl | rfl) | rfl
  · exact .inl ⟨n, hn, w, hw, rfl⟩
  · exact .inr (.inl ⟨n, hn, rfl⟩)
  · exact .inr (.inr (.inl rfl))
  · exact .inr (.inr (.inr (.inl ⟨0, by omega, by omega, rfl⟩)))
  · exact .inr (.inr (.inr (.inl ⟨1, by omega, by omega, rfl⟩)))
  · exact .inr (.inr (.inr (.inl ⟨2, by omega, by omega, rfl⟩)))
  · exact .inr (.inr (.inr (.inr rfl)))
theorem wholeL_pure {fm : Fm} {d : T} (hd : d ∈ wholeL fm) : PureT 1 d := by
  rcases wholeL_mem hd with ⟨n, _, w, _, rfl⟩ | ⟨n, _, rfl⟩ | rfl | ⟨k, _, _, rfl⟩ | rfl <;> exact pure_strs (by simp [flatT]) (by simp)
theorem FormAt.app {h : Hh} {l : Nat} {fm : Fm} (e : FormAt h l fm) (o : Hh) : FormAt (h ++ o) l fm := by
  unfold FormAt
  rw [List.getElem?_append_left (List.getElem?_eq_some_iff.mp e).1]; exact e
theorem FormAt.set {h : Hh} {l k : Nat} {fm : Fm} (e : FormAt h l fm) (o : Ob) (hk : k ≠ l) : FormAt (h.set k o) l fm := by
  unfold FormAt
  rw [List.getElem?_set_ne hk]; exact e
theorem FormAt.lt {h : Hh} {l : Nat} {fm : Fm} (e : FormAt h l fm) : l < h.length := (List.getElem?_eq_some_iff.mp e).1
theorem FormAt.ne {h : Hh} {l r : Nat} {fm : Fm} {ts : List T} (e : FormAt h l fm) (q : lstAt h r = some ts) : r ≠ l := by
  intro z
  subst z
  have := of_lstAt q
  unfold FormAt at e
  rw [e] at this
  cases this
end W3
end

section
namespace W3
open PySem
@[simp] theorem e_raise (c : Str) (ns : List Str) (a : SA) (σ : St3) (h : Hh) : ssRaiseX c ns a σ h = (a σ h).flo σ fun xs h1 => if xs.length = ns.length then .exc c (ns.zip xs).reverse σ h1 else .stk := Eq.trans rfl rfl
def FQ.tr (Q : FQ) (XS : XSub) (hs : List Hdl) : FQ := ⟨Q.n, Q.r, Q.b, Q.c, fun c fs σ h => (tryGo XS hs c fs σ h).wp Q⟩
section
variable {Q : FQ} {XS : XSub} {hs : List Hdl}
@[simp] theorem ft_n : (Q.tr XS hs).n = Q.n := Eq.trans rfl rfl
@[simp] theorem ft_r : (Q.tr XS hs).r = Q.r := Eq.trans rfl rfl
@[simp] theorem ft_b : (Q.tr XS hs).b = Q.b := Eq.trans rfl rfl
@[simp] theorem ft_c : (Q.tr XS hs).c = Q.c := Eq.trans rfl rfl
@[simp] theorem ft_e (c : Str) (fs : List (Str × T)) (σ : St3) (h : Hh) : (Q.tr XS hs).e c fs σ h = (tryGo XS hs c fs σ h).wp Q := Eq.trans rfl rfl
@[simp] theorem fp_try (a : SS) (σ : St3) (h : Hh) : (ssTryX XS a hs σ h).wp Q = (a σ h).wp (Q.tr XS hs) := by
  unfold ssTryX
  cases a σ h <;> rfl
theorem try_hit {x c : Str} {sl : Option Nat} {k : Str → List (Str × T) → SS} {r : List Hdl} {fs : List (Str × T)} {σ : St3} {h : Hh} {ss : List Str} (e : XS.lookup c = some ss) (hc : ss.contains x = true) : tryGo XS (⟨x, sl, k⟩ :: r) c fs σ h = clrF sl (k c fs (slSet sl σ) h) := by
  show (match XS.lookup c with | none => Flo.stk | some ss => if ss.contains x then clrF sl (k c fs (slSet sl σ) h) else tryGo XS r c fs σ h) = _
  rw [e]
  exact if_pos hc
end
@[simp] theorem xf_part2 (n p : T) (σ : St3) (h : Hh) : sXf [("field", n), ("part", p)] "part" σ h = .ok p h := by
  have : List.lookup ("part" : Str) [(("field" : Str), n), ("part", p)] = some p := by
    simp only [List.lookup, show (("part" : Str) == "field") = false by decide +kernel, show (("part" : Str) == "part") = true by decide +kernel]
  unfold sXf; rw [this]
@[simp] theorem xf_field2 (n p : T) (σ : St3) (h : Hh) : sXf [("field", n), ("part", p)] "field" σ h = .ok n h := by
  have : List.lookup ("field" : Str) [(("field" : Str), n), ("part", p)] = some n := by
    simp only [List.lookup, show (("field" : Str) == "field") = true by decide +kernel]
  unfold sXf; rw [this]
theorem xf_one (f : Str) (n : T) (σ : St3) (h : Hh) : sXf [(f, n)] f σ h = .ok n h := by
  have : List.lookup f [(f, n)] = some n := by simp [List.lookup]
  unfold sXf; rw [this]
def eqS (t : T) (s : Str) : Bool := match t with | .str g => decide (g = s) | _ => false
def fieldErr (ws ns : List Str) (nm : Str) (a b c d : T) : Option Str :=
  if oneB a ws = false then some "first"
  else if isNonT b = false ∧ (oneB b ns = false ∨ eqS b nm = true) then some "looks"
  else if nearB c b ws.length = false then some "near"
  else if isNonT d = false ∧ rowB d ws.length = false then some "far"
  else none
def fErr (ws ns : List Str) : List T → Option (Str × Str)
  | [] => none
  | .tup [.str nm, .tup [a, b, c, d]] :: r => match fieldErr ws ns nm a b c d with
    | some p => some (p, nm)
    | none => fErr ws ns r
  | _ :: r => none
def roomB : T → Bool | .int i => decide (1 ≤ i ∧ i ≤ 3) | _ => false
def itsOf : T → List T | .tup ts => ts | _ => []
def initErr (W V R : T) : Option (Str × Str) :=
  if namesB W 2 3 = false then some ("words", "")
  else if fieldsB V = false then some ("fields", "")
  else match fErr ((itsOf W).map strOf) ((itsOf V).map fun t => strOf (fstOf t)) (itsOf V) with
    | some e => some e
    | none => if roomB R = false then some ("room", "") else none
theorem JdN.down {n : Nat} : ∀ {v : T} {h : Hh}, JdN (n + 1) v h → JdN n v h := by
  induction n with
  | zero => exact fun j => j.1
  | succ n ih => exact fun j => ⟨j.1, fun ts e t ht => ih (j.2 ts e t ht)⟩
theorem JdN.to {n k : Nat} {v : T} {h : Hh} (j : JdN (n + k) v h) : JdN n v h := by
  induction k with
  | zero => exact j
  | succ k ih => exact ih j.down
theorem Jd.ext {v : T} {h h' : Hh} (e : ∀ (k : Nat) (o : Ob), h[k]? = some o → h'[k]? = some o) (j : Jd v h) : Jd v h' := by
  cases v with
  | ref l => rcases j with ⟨ts, q⟩ | ⟨d, q⟩; exact .inl ⟨ts, e _ _ q⟩; exact .inr ⟨d, e _ _ q⟩
  | _ => exact j
theorem JdN.ext {n : Nat} : ∀ {v : T} {h h' : Hh}, (∀ (k : Nat) (o : Ob), h[k]? = some o → h'[k]? = some o) → JdN n v h → JdN n v h' := by
  induction n with
  | zero => exact fun e j => Jd.ext e j
  | succ n ih => exact fun e j => ⟨Jd.ext e j.1, fun ts q t ht => ih e (j.2 ts q t ht)⟩
theorem ext_app (h o : Hh) : ∀ (k : Nat) (x : Ob), h[k]? = some x → (h ++ o)[k]? = some x := fun k x e => by
  rw [List.getElem?_append_left (List.getElem?_eq_some_iff.mp e).1]; exact e
def xForm (p : Str) (n : T) : List (Str × T) := [("field", n), ("part", .str p)]
end W3
end

section
namespace W3
open PySem
def fdAt (fm : Fm) (v : T) : Option (Str × Fd) := match v with | .str s => fm.fields.find? (fun p => decide (p.1 = s)) | _ => none
def putF (k : Bool) (fd : Fd) (t : T) : List T := if k then [.str fd.first, fd.nr.tLooks, t, tFar fd.far] else [.str fd.first, fd.nr.tLooks, fd.nr.tNear, t]
end W3
namespace W3
open PySem
def AnsQ (W V R : T) (h : Hh) (Q : T → Hh → Prop) (E : EQ) : Prop :=
  (initErr W V R = none → ∀ (o : Hh) (a : Nat), (h ++ o)[a]? = some (Ob.ins "Form" [("words", W), ("fields", V), ("room", R)]) → Q (.ref a) (h ++ o)) ∧ ∀ p n, initErr W V R = some (p, n) → ∀ o : Hh, E "InvalidForm" (xForm p (.str n)) (h ++ o)
theorem AnsQ.app {W V R : T} {h : Hh} {Q : T → Hh → Prop} {E : EQ} (q : AnsQ W V R h Q E) (o : Hh) : AnsQ W V R (h ++ o) Q E :=
  ⟨fun e o2 a ha => by rw [List.append_assoc] at ha ⊢; exact q.1 e _ a ha, fun p n e o2 => by rw [List.append_assoc]; exact q.2 p n e _⟩
theorem sIx_nat (n d k : Nat) : HT.sIx n d (some (k : Int)) = min k n := by
  exact HT.sIx_nat n d k
theorem cut_to {α : Type} (xs : List α) (k : Nat) : cutT xs none (some (k : Int)) = xs.take k := by
  unfold cutT
  rw [sIx_nat, show HT.sIx xs.length 0 none = 0 from rfl, List.drop_zero, Nat.sub_zero]
  by_cases h : k ≤ xs.length
  · rw [Nat.min_eq_left h]
  · rw [Nat.min_eq_right (by omega), List.take_length, List.take_of_length_le (by omega)]
@[simp] theorem e_neD_s (s : Str) (y : T) (h : Hh) : oNeD (.str s) y h = oNe (.str s) y h := by unfold oNeD; simp [dicB]
theorem fdAt_some {fm : Fm} (o : FmOk fm) {p : Str × Fd} (hp : p ∈ fm.fields) : fdAt fm (.str p.1) = some p := by
  unfold fdAt
  simp only []
  have nd : (fm.fields.map Prod.fst).Nodup := o.fn.nd
  generalize fm.fields = ps at hp nd
  induction ps with
  | nil => cases hp
  | cons q ps ih =>
    rw [List.map_cons, List.nodup_cons] at nd
    rcases List.mem_cons.mp hp with z | z
    · subst z; simp
    · have hne : ¬ q.1 = p.1 := fun e => nd.1 (e ▸ List.mem_map.mpr ⟨p, z, rfl⟩)
      rw [List.find?_cons, show decide (q.1 = p.1) = false by simpa using hne]
      exact ih z nd.2
theorem same_flat {h : Hh} {n : Nat} {t : T} (f : flatT t = true) : SameV h n t t := by
  cases n with
  | zero => exact ⟨rfl, f⟩
  | succ n => exact .inl ⟨rfl, f⟩
theorem SameV.ext {h h' : Hh} (e : ∀ (k : Nat) (o : Ob), h[k]? = some o → h'[k]? = some o) : ∀ {n : Nat} {t u : T}, SameV h n t u → SameV h' n t u
  | 0, _, _, q => q
  | n + 1, _, _, q => by
    rcases q with q | ⟨ts, us, hk, hl, hz, hs⟩
    · exact .inl q
    · have ll : ∀ {t : T} {ts : List T}, LstT h t ts → LstT h' t ts := fun {t ts} z => by
        rcases z with ⟨l, rfl, z⟩ | rfl
        · exact .inl ⟨l, rfl, lstAt_of (e _ _ (of_lstAt z))⟩
        · exact .inr rfl
      refine .inr ⟨ts, us, ?_, hl, hz, fun i x y ex ey => (hs i x y ex ey).ext e⟩
      rcases hk with z | ⟨z1, z2⟩
      · exact .inl z
      · exact .inr ⟨ll z1, ll z2⟩
theorem SameV.up {h : Hh} : ∀ {n : Nat} {t u : T}, SameV h n t u → SameV h (n + 1) t u
  | 0, _, _, q => .inl q
  | n + 1, _, _, q => by
    rcases q with q | ⟨ts, us, hk, hl, hz, hs⟩
    · exact .inl q
    · exact .inr ⟨ts, us, hk, hl, hz, fun i x y ex ey => (hs i x y ex ey).up⟩
end W3
end

section
namespace W3
open PySem
theorem PureT.up : ∀ {n : Nat} {t : T}, PureT n t → PureT (n + 1) t
  | 0, _, h => .inl h
  | n + 1, _, h => by
    rcases h with h | ⟨ts, rfl, hl, hs⟩
    · exact .inl h
    · exact .inr ⟨ts, rfl, hl, fun x hx => (hs x hx).up⟩
theorem PureT.add {n : Nat} {t : T} (h : PureT n t) : ∀ k, PureT (n + k) t
  | 0 => h
  | k + 1 => (h.add k).up
theorem PureT.tup {n : Nat} {ts : List T} (hl : ts.length ≤ 100000) (h : ∀ x ∈ ts, PureT n x) : PureT (n + 1) (.tup ts) := .inr ⟨ts, rfl, hl, h⟩
theorem FormAt.upK {h h' : Hh} {l a : Nat} {fm : Fm} (e : FormAt h a fm) (u : Up l h h') (hne : a ≠ l) : FormAt h' a fm := by
  unfold FormAt
  rw [u.keep a e.lt hne]
  exact e
end W3
end

section
namespace W3
open PySem
@[simp] theorem e_siEnum (a : SA) (σ : St3) (h : Hh) : siEnum a σ h = (a σ h).bind enumOf := Eq.trans rfl rfl
@[simp] theorem enumL_len (k : Nat) (ts : List T) : (enumL k ts).length = ts.length := by
  induction ts generalizing k with
  | nil => rfl
  | cons t ts ih => simp [enumL, ih]
end W3
end

section
namespace W3
open PySem
def wordsB (fm : Fm) (v : T) : Bool := match v with | .tup ts => decide (ts.length = fm.fields.length) && ts.all (fun t => oneB t fm.words) | _ => false
end W3
end

section
namespace W3
open PySem
end W3
end

section
namespace W3
open PySem
@[simp] theorem e_ssForH (si : SI) (g : SGH) (b : SS) (σ : St3) (h : Hh) : ssForH si g b σ h = (si σ h).flo σ fun s h1 => forRunH s g b (s.len h1) 0 σ h1 := Eq.trans rfl rfl
def PickAt (h : Hh) (l : Nat) (t : T) : Prop := ∃ (r : Nat) (a b c : Int), t = .ref r ∧ lstAt h r = some [.int a, .int b, .int c] ∧ r ≠ l
theorem PickAt.up {h h' : Hh} {l : Nat} {t : T} (p : PickAt h l t) (u : Up l h h') : PickAt h' l t := by
  obtain ⟨r, a, b, c, rfl, e, hne⟩ := p
  exact ⟨r, a, b, c, rfl, u.lst e hne, hne⟩
end W3
end

section
namespace W3
open PySem
def flatJ : T → Prop | .non => True | .bl _ => True | .int _ => True | .str s => s.length ≤ 1000 | _ => False
def GV (l : Nat) (h : Hh) : Nat → T → Prop
  | 0, t => flatJ t
  | n + 1, t => flatJ t ∨ (∃ ts, t = .tup ts ∧ ts.length ≤ 1000 ∧ ∀ x ∈ ts, GV l h n x) ∨ ∃ r ts, t = .ref r ∧ r ≠ l ∧ lstAt h r = some ts ∧ ts.length ≤ 1000 ∧ ∀ x ∈ ts, GV l h n x
theorem flatJ.flat {t : T} (h : flatJ t) : flatT t = true := by cases t <;> first | rfl | exact h.elim
theorem flatJ.jdN {t : T} {n : Nat} {h : Hh} (f : flatJ t) : JdN n t h := by
  cases t with
  | non => exact jdN_non
  | bl b => exact jdN_bl
  | int i => exact jdN_int
  | str s => exact jdN_str f
  | _ => exact f.elim
theorem GV.flat {l : Nat} {h : Hh} {n : Nat} {t : T} (f : flatJ t) : GV l h n t := by
  cases n with
  | zero => exact f
  | succ n => exact .inl f
theorem GV.tup {l : Nat} {h : Hh} {n : Nat} {ts : List T} (hl : ts.length ≤ 1000) (g : ∀ x ∈ ts, GV l h n x) : GV l h (n + 1) (.tup ts) := .inr (.inl ⟨ts, rfl, hl, g⟩)
theorem GV.lst {l : Nat} {h : Hh} {n r : Nat} {ts : List T} (hr : r ≠ l) (e : lstAt h r = some ts) (hl : ts.length ≤ 1000) (g : ∀ x ∈ ts, GV l h n x) : GV l h (n + 1) (.ref r) := .inr (.inr ⟨r, ts, rfl, hr, e, hl, g⟩)
theorem GV.up {l : Nat} {h h' : Hh} (u : Up l h h') : ∀ {n : Nat} {t : T}, GV l h n t → GV l h' n t
  | 0, _, g => g
  | n + 1, _, g => by
    rcases g with g | ⟨ts, rfl, hl, g⟩ | ⟨r, ts, rfl, hr, e, hl, g⟩
    · exact .inl g
    · exact .inr (.inl ⟨ts, rfl, hl, fun x hx => (g x hx).up u⟩)
    · exact .inr (.inr ⟨r, ts, rfl, hr, u.lst e hr, hl, fun x hx => (g x hx).up u⟩)
theorem GV.same {l : Nat} {h : Hh} : ∀ {n : Nat} {t : T}, GV l h n t → SameV h n t t
  | 0, _, g => ⟨rfl, flatJ.flat g⟩
  | n + 1, _, g => by
    rcases g with g | ⟨ts, rfl, hl, g⟩ | ⟨r, ts, rfl, hr, e, hl, g⟩
    · exact .inl ⟨rfl, flatJ.flat g⟩
    · refine .inr ⟨ts, ts, .inl ⟨rfl, rfl⟩, rfl, by omega, fun i x y ex ey => ?_⟩
      rw [ex] at ey; cases ey
      exact (g x (List.mem_of_getElem? ex)).same
    · refine .inr ⟨ts, ts, .inr ⟨.inl ⟨r, rfl, e⟩, .inl ⟨r, rfl, e⟩⟩, rfl, by omega, fun i x y ex ey => ?_⟩
      rw [ex] at ey; cases ey
      exact (g x (List.mem_of_getElem? ex)).same
theorem GV.jdN {l : Nat} {h : Hh} : ∀ {n : Nat} {t : T} {m : Nat}, GV l h n t → JdN m t h
  | 0, _, _, g => flatJ.jdN g
  | n + 1, _, m, g => by
    rcases g with g | ⟨ts, rfl, hl, g⟩ | ⟨r, ts, rfl, hr, e, hl, g⟩
    · exact flatJ.jdN g
    · cases m with
      | zero => exact hl
      | succ m => exact ⟨hl, fun us e t ht => by cases e; exact (g t ht).jdN⟩
    · exact jdN_ref (Jd_lst e)
theorem GV.jd {l : Nat} {h : Hh} {n : Nat} {t : T} (g : GV l h n t) : Jd t h := (g.jdN (m := 0))
theorem GV.more {l : Nat} {h : Hh} : ∀ {n : Nat} {t : T}, GV l h n t → GV l h (n + 1) t
  | 0, _, g => .inl g
  | n + 1, _, g => by
    rcases g with g | ⟨ts, rfl, hl, g⟩ | ⟨r, ts, rfl, hr, e, hl, g⟩
    · exact .inl g
    · exact .inr (.inl ⟨ts, rfl, hl, fun x hx => (g x hx).more⟩)
    · exact .inr (.inr ⟨r, ts, rfl, hr, e, hl, fun x hx => (g x hx).more⟩)
end W3
end

section
namespace W3
open PySem
def G0 (l b : Nat) (h : Hh) (t : T) : Prop := match t with
  | .ref r => r ≠ l ∧ ((∃ ts, h[r]? = some (.lst ts)) ∨ ∃ d, h[r]? = some (.dic d))
  | .cls _ => False
  | .fl _ => False
  | .str s => s.length ≤ 1000
  | .tup ts => ts.length ≤ b
  | _ => True
def GJ (l b : Nat) (h : Hh) : Nat → T → Prop
  | 0, t => G0 l b h t
  | n + 1, t => G0 l b h t ∧ ∀ ts, t = .tup ts → ∀ x ∈ ts, GJ l b h n x
def GA (l b : Nat) (h : Hh) (t : T) : Prop := ∀ n, GJ l b h n t
section
variable {l b : Nat} {h h' : Hh} {t : T}
theorem GJ.g0 {n : Nat} (g : GJ l b h n t) : G0 l b h t := by
  cases n with
  | zero => exact g
  | succ n => exact g.1
theorem GA.g0 (g : GA l b h t) : G0 l b h t := g 0
theorem GA.of0 (g : G0 l b h t) (hn : ∀ ts, t ≠ .tup ts) : GA l b h t := fun n => by
  cases n with
  | zero => exact g
  | succ n => exact ⟨g, fun ts e => absurd e (hn ts)⟩
theorem GA.non : GA l b h .non := .of0 trivial fun _ e => by cases e
theorem GA.bl {x : Bool} : GA l b h (.bl x) := .of0 trivial fun _ e => by cases e
theorem GA.int {x : Int} : GA l b h (.int x) := .of0 trivial fun _ e => by cases e
theorem GA.str {x : Str} (hs : x.length ≤ 1000) : GA l b h (.str x) := .of0 hs fun _ e => by cases e
theorem GA.lst {r : Nat} {ts : List T} (hr : r ≠ l) (e : lstAt h r = some ts) : GA l b h (.ref r) := .of0 ⟨hr, .inl ⟨ts, of_lstAt e⟩⟩ fun _ e => by cases e
theorem GA.dic {r : Nat} {d : List (T × T)} (hr : r ≠ l) (e : h[r]? = some (.dic d)) : GA l b h (.ref r) := .of0 ⟨hr, .inr ⟨d, e⟩⟩ fun _ e => by cases e
theorem GA.tup {ts : List T} (hl : ts.length ≤ b) (g : ∀ x ∈ ts, GA l b h x) : GA l b h (.tup ts) := fun n => by
  cases n with
  | zero => exact hl
  | succ n => exact ⟨hl, fun us e x hx => by cases e; exact g x hx n⟩
theorem GA.mem {ts : List T} (g : GA l b h (.tup ts)) {x : T} (hx : x ∈ ts) : GA l b h x := fun n => (g (n + 1)).2 ts rfl x hx
theorem GA.len {ts : List T} (g : GA l b h (.tup ts)) : ts.length ≤ b := g.g0
theorem G0.more {b' : Nat} (hb : b ≤ b') (g : G0 l b h t) : G0 l b' h t := by
  cases t with
  | tup ts => exact Nat.le_trans g hb
  | _ => exact g
theorem GJ.more {b' : Nat} (hb : b ≤ b') : ∀ {n : Nat} {t : T}, GJ l b h n t → GJ l b' h n t
  | 0, _, g => G0.more hb g
  | n + 1, _, g => ⟨G0.more hb g.1, fun ts e x hx => (g.2 ts e x hx).more hb⟩
theorem GA.more {b' : Nat} (g : GA l b h t) (hb : b ≤ b') : GA l b' h t := fun n => (g n).more hb
theorem G0.up (u : Up l h h') (g : G0 l b h t) : G0 l b h' t := by
  cases t with
  | ref r =>
    obtain ⟨hr, g⟩ := g
    refine ⟨hr, ?_⟩
    have hl : r < h.length := by rcases g with ⟨_, e⟩ | ⟨_, e⟩ <;> exact (List.getElem?_eq_some_iff.mp e).1
    rw [u.keep r hl hr]
    exact g
  | _ => exact g
theorem GJ.up (u : Up l h h') : ∀ {n : Nat} {t : T}, GJ l b h n t → GJ l b h' n t
  | 0, _, g => G0.up u g
  | n + 1, _, g => ⟨G0.up u g.1, fun ts e x hx => (g.2 ts e x hx).up u⟩
theorem GA.up (g : GA l b h t) (u : Up l h h') : GA l b h' t := fun n => (g n).up u
theorem G0.jd (hb : b ≤ 1000) (g : G0 l b h t) : Jd t h := by
  cases t with
  | ref r => exact g.2
  | tup ts => exact Nat.le_trans g hb
  | cls c => exact g.elim
  | fl c => exact g.elim
  | str s => exact g
  | _ => trivial
theorem GJ.jdN (hb : b ≤ 1000) : ∀ {n : Nat} {t : T}, GJ l b h n t → JdN n t h
  | 0, _, g => G0.jd hb g
  | n + 1, _, g => ⟨G0.jd hb g.1, fun ts e x hx => (g.2 ts e x hx).jdN hb⟩
theorem GA.jdN {n : Nat} (g : GA l b h t) (hb : b ≤ 1000) : JdN n t h := (g n).jdN hb
theorem GA.jd (g : GA l b h t) (hb : b ≤ 1000) : Jd t h := g.g0.jd hb
theorem cutT_mem {α : Type} {xs : List α} {lo hi : Option Int} {x : α} (hx : x ∈ cutT xs lo hi) : x ∈ xs := by
  unfold cutT at hx
  exact List.mem_of_mem_drop (List.mem_of_mem_take hx)
theorem GA.cut {ts : List T} (g : ∀ x ∈ ts, GA l b h x) {lo hi : Option Int} : ∀ x ∈ cutT ts lo hi, GA l b h x := fun x hx => g x (cutT_mem hx)
end
theorem GA.ent {l b : Nat} {h : Hh} {k : Nat} {r : List Ent} {e : Ent} (ro : RowOk k r) (he : e ∈ r) : GA l b h (tE e) := by
  cases e with
  | none => exact .non
  | some s => exact .str (ro.nm s he).short
theorem GA.row {l b : Nat} {h : Hh} {k : Nat} {r : List Ent} (ro : RowOk k r) (hk : k ≤ b) : GA l b h (tRow r) :=
  .tup (by rw [List.length_map, ro.len]; exact hk) fun t ht => by
    obtain ⟨e, he, rfl⟩ := List.mem_map.mp ht
    exact .ent ro he
theorem GA.fd {l b : Nat} {h : Hh} {ws ns : List Str} {nm : Str} {fd : Fd} (o : FdOk ws ns nm fd) (hw : ws.length ≤ b) (wn : NmL ws) (nn : NmL ns) : ∀ t ∈ fd.ts, GA l b h t := by
  intro t ht
  simp [Fd.ts] at ht
  rcases ht with rfl | rfl | rfl | rfl
  · exact .str (wn.nm _ o.first).short
  · cases hn : fd.nr with
    | alone r => exact .non
    | looks g rs =>
      have nk := o.nr
      rw [hn] at nk
      exact .str (nn.nm g nk.1).short
  · have nk := o.nr
    cases hn : fd.nr with
    | alone r => rw [hn] at nk; exact .row nk hw
    | looks g rs =>
      rw [hn] at nk
      refine .tup (by rw [List.length_map, nk.2.2.1]; exact hw) fun t ht => ?_
      obtain ⟨r, hr, rfl⟩ := List.mem_map.mp ht
      exact .row (nk.2.2.2 r hr) hw
  · cases hf : fd.far with
    | none => exact .non
    | some r => exact .row (o.far r hf) hw
def PairsG (l b : Nat) (h : Hh) (ts : List T) : Prop := ∀ x ∈ ts, ∃ nm fd, x = .tup [.str nm, fd] ∧ nm.length ≤ 8 ∧ GA l b h fd
theorem PairsG.up {l b : Nat} {h h' : Hh} {ts : List T} (p : PairsG l b h ts) (u : Up l h h') : PairsG l b h' ts := fun x hx => by
  obtain ⟨nm, fd, e, hn, g⟩ := p x hx
  exact ⟨nm, fd, e, hn, g.up u⟩
theorem PairsG.more {l b b' : Nat} {h : Hh} {ts : List T} (p : PairsG l b h ts) (hb : b ≤ b') : PairsG l b' h ts := fun x hx => by
  obtain ⟨nm, fd, e, hn, g⟩ := p x hx
  exact ⟨nm, fd, e, hn, g.more hb⟩
theorem PairsG.ga {l b : Nat} {h : Hh} {ts : List T} (p : PairsG l b h ts) (hb : 2 ≤ b) : ∀ x ∈ ts, GA l b h x := fun x hx => by
  obtain ⟨nm, fd, rfl, hn, g⟩ := p x hx
  refine .tup (by simpa using hb) fun y hy => ?_
  simp at hy
  rcases hy with rfl | rfl
  · exact .str (by omega)
  · exact g
end W3
end

section
namespace W3
open PySem
theorem idx_of_nodup {ss : List Str} (nd : ss.Nodup) {i : Nat} {w : Str} (e : ss[i]? = some w) : ss.idxOf w = i := by
  obtain ⟨hi, rfl⟩ := List.getElem?_eq_some_iff.mp e
  exact List.Nodup.idxOf_getElem nd i hi
def wIx (fm : Fm) (w : Str) : Nat := fm.words.idxOf w
def fIx (fm : Fm) (n : Str) : Nat := fm.names.idxOf n
def wAt (fm : Fm) (ss : List Str) (n : Str) : Str := (ss[fIx fm n]?).getD ⟨#[]⟩
def rowAt (r : List Ent) (i : Nat) : Ent := (r[i]?).getD none
def nearV (fm : Fm) (ss : List Str) (p : Str × Fd) : Ent := match p.2.nr with
  | .alone r => rowAt r (wIx fm (wAt fm ss p.1))
  | .looks g rs => rowAt ((rs[wIx fm (wAt fm ss p.1)]?).getD []) (wIx fm (wAt fm ss g))
def farV (fm : Fm) (p : Str × Fd) (w : Str) : Ent := match p.2.far with
  | none => none
  | some r => rowAt r (wIx fm w)
def trueV (fm : Fm) (ss : List Str) (p : Str × Fd) : Ent := match nearV fm ss p with
  | none => farV fm p (wAt fm ss p.1)
  | some m => some m
structure WsOk (fm : Fm) (ss : List Str) : Prop where
  len : ss.length = fm.fields.length
  mem : ∀ s ∈ ss, s ∈ fm.words
theorem WsOk.b {fm : Fm} {ss : List Str} (o : WsOk fm ss) : wordsB fm (.tup (tSs ss)) = true := by
  simp only [wordsB, List.length_map, o.len, decide_true, Bool.true_and, List.all_eq_true]
  intro t ht
  obtain ⟨s, hs, rfl⟩ := List.mem_map.mp ht
  simp [oneB, o.mem s hs]
theorem WsOk.at {fm : Fm} {ss : List Str} (o : WsOk fm ss) {n : Str} (hn : n ∈ fm.names) : ss[fIx fm n]? = some (wAt fm ss n) ∧ wAt fm ss n ∈ fm.words := by
  have hl : fIx fm n < ss.length := by
    have := List.idxOf_lt_length_iff.mpr hn
    rw [o.len]; simpa [fIx, Fm.names] using this
  have e : ss[fIx fm n]? = some ss[fIx fm n] := by simp [hl]
  unfold wAt
  rw [e]
  exact ⟨rfl, o.mem _ (List.getElem_mem hl)⟩
theorem mem_names {fm : Fm} {p : Str × Fd} (hp : p ∈ fm.fields) : p.1 ∈ fm.names := List.mem_map.mpr ⟨p, hp, rfl⟩
@[simp] theorem isT_tup (ts : List T) : isT (.tup ts) = true := Eq.trans rfl rfl
@[simp] theorem e_sMtA (f : T → List T → Hh → Res T) (o : SE) (a : SA) (σ : St3) (h : Hh) : sMtA f o a σ h = (o σ h).bind fun x h1 => if (isL x h1 || isT x) = true then (a σ h1).bind fun xs h2 => f x xs h2 else .stk := Eq.trans rfl rfl
end W3
end

section
namespace W3
open PySem
abbrev Prs := List (Str × Str)
def tPr (p : Str × Str) : T := .tup [.str p.1, .str p.2]
def dPr (p : Str × Str) : PyData := .tuple [.str p.1, .str p.2]
abbrev leP (p q : Str × Str) : Bool := PySem.W.dataLe false dPr p q
def sortP (ps : Prs) : Prs := ps.mergeSort leP
theorem sortP_perm (ps : Prs) : (sortP ps).Perm ps := List.mergeSort_perm _ _
theorem toD_pr (h : Hh) (p : Str × Str) : toD h 24 (tPr p) = some (dPr p) := rfl
theorem optL_prs (h : Hh) : ∀ ps : Prs, optL (toD h 24) (ps.map tPr) = some (ps.map dPr)
  | [] => rfl
  | p :: ps => by
    rw [List.map_cons]
    unfold optL
    rw [toD_pr, optL_prs h ps]
    rfl
theorem alike_pr (p q : Str × Str) : PySem.W.alike (dPr p) (dPr q) = true := by
  simp [dPr, PySem.W.alike, PySem.W.alikeAll]
theorem sort_prs {ps : Prs} {h : Hh} (hl : ps.length ≤ 1000) : bSortI (ps.map tPr) h = alloc (.lst ((sortP ps).map tPr)) h := by
  have a1 : alikeB (ps.map dPr) = true := by
    unfold alikeB
    simp only [List.all_map, List.all_eq_true]
    intro p _
    show List.all ps _ = true
    rw [List.all_eq_true]
    intro q _
    exact alike_pr p q
  have a2 : sortableB (ps.map dPr) = true := by
    unfold sortableB
    rw [Bool.or_eq_true]
    left
    simp only [List.all_map, List.all_eq_true]
    intro p _
    rfl
  have a3 : sortT (ps.map tPr) (ps.map dPr) = (sortP ps).map tPr := by
    unfold sortT sortP
    rw [List.zip_map']
    rw [← PySem.W.sort_maps (r := leP) (s := leT) (fun p : Str × Str => (tPr p, dPr p)) (fun a _ b _ => rfl), List.map_map]
    rfl
  unfold bSortI
  rw [optL_prs]
  simp only [a1, a2, a3, List.length_map, hl, and_self, if_true]
@[simp] theorem e_sorted_tup (ts : List T) (h : Hh) : bSorted [.tup ts] h = bSortI ts h := Eq.trans rfl rfl
@[simp] theorem e_sorted_ref (l : Nat) (h : Hh) : bSorted [.ref l] h = match lstAt h l with | some ts => bSortI ts h | none => .stk := Eq.trans rfl rfl
@[simp] theorem e_siZip (a : SA) (σ : St3) (h : Hh) : siZip a σ h = (a σ h).bind zipOf := Eq.trans rfl rfl
def namePairB (t : T) : Bool := match t with | .tup [.str a, .str b] => nmB a && nmB b && !decide (a = b) | _ => false
def prOf (t : T) : Str × Str := match t with | .tup [.str a, .str b] => (a, b) | _ => (⟨#[]⟩, ⟨#[]⟩)
def pairsB (v : T) : Bool := match v with | .tup ts => ts.all namePairB && decide ((ts.map prOf).Nodup) | _ => false
theorem namePair_inv {t : T} (h : namePairB t = true) : ∃ a b, t = tPr (a, b) ∧ Nm a ∧ Nm b ∧ a ≠ b := by
  unfold namePairB at h
  split at h
  · rename_i a b
    simp only [Bool.and_eq_true, Bool.not_eq_true', decide_eq_false_iff_not] at h
    exact ⟨a, b, rfl, nmB_iff.mp h.1.1, nmB_iff.mp h.1.2, h.2⟩
  · cases h
theorem pairs_prs : ∀ {ts : List T}, ts.all namePairB = true → ts = (ts.map prOf).map tPr
  | [], _ => rfl
  | t :: ts, h => by
    rw [List.all_cons, Bool.and_eq_true] at h
    obtain ⟨a, b, rfl, _⟩ := namePair_inv h.1
    rw [List.map_cons, List.map_cons, ← pairs_prs h.2]
    rfl
structure PrsOk (ps : Prs) : Prop where
  nd : ps.Nodup
  nm : ∀ p ∈ ps, Nm p.1 ∧ Nm p.2 ∧ p.1 ≠ p.2
theorem pairsB_inv {v : T} (h : pairsB v = true) : ∃ ps, v = .tup (ps.map tPr) ∧ PrsOk ps := by
  cases v with
  | tup ts =>
    simp only [pairsB, Bool.and_eq_true, decide_eq_true_eq] at h
    refine ⟨ts.map prOf, by rw [← pairs_prs h.1], h.2, fun p hp => ?_⟩
    obtain ⟨t, ht, rfl⟩ := List.mem_map.mp hp
    obtain ⟨a, b, rfl, q⟩ := namePair_inv (List.all_eq_true.mp h.1 t ht)
    exact q
  | _ => simp [pairsB] at h
theorem prOf_tPr (ps : Prs) : (ps.map tPr).map prOf = ps := by
  rw [List.map_map]
  exact List.map_id' ps
theorem pairsB_prs {ps : Prs} (o : PrsOk ps) : pairsB (.tup (ps.map tPr)) = true := by
  simp only [pairsB, prOf_tPr, o.nd, decide_true, Bool.and_true, List.all_map, List.all_eq_true]
  intro p hp
  obtain ⟨h1, h2, h3⟩ := o.nm p hp
  simp [namePairB, tPr, nmB_iff.mpr h1, nmB_iff.mpr h2, h3]
def keyP (p : Str × Str) : TKs := [.inr p.1, .inr p.2]
theorem optL_tk : ∀ ps : Prs, optL tkT (ps.map tPr) = some (ps.map keyP)
  | [] => rfl
  | p :: ps => by
    rw [List.map_cons]
    unfold optL
    rw [optL_tk ps]
    rfl
theorem lenSet_prs {ps : Prs} {h : Hh} (hl : ps.length < 64) : ∃ n : Int, oLenSetP (.tup (ps.map tPr)) h = .ok (.int n) h ∧ (n = ps.length ↔ ps.Nodup) := by
  refine ⟨(uqT (ps.map keyP)).length, ?_, ?_⟩
  · unfold oLenSetP
    simp only [optL_tk, List.length_map, hl, if_true]
  · have q := uqT_len (ps.map keyP)
    rw [List.length_map] at q
    have q2 : (ps.map keyP).Nodup ↔ ps.Nodup := by
      unfold List.Nodup
      rw [List.pairwise_map]
      constructor
      · exact fun z => z.imp fun hne e => hne (by rw [e])
      · refine fun z => z.imp fun {a b} hne e => hne ?_
        simp only [keyP, List.cons.injEq, Sum.inr.injEq, and_true] at e
        exact Prod.ext e.1 e.2
    rw [← q2, ← q]
    omega
def MEN : List (Str × List Str) := [("opens", ["enter", "leave", "send"]), ("checks", ["enter", "leave"]), ("around", ["own", "looks"]), ("taken", ["any", "same", "last"]), ("sending", ["bar", "wait", "go"])]
abbrev MENT : List (Str × T) := [("opens", T.tup [T.str "enter", T.str "leave", T.str "send"]), ("checks", T.tup [T.str "enter", T.str "leave"]), ("around", T.tup [T.str "own", T.str "looks"]), ("taken", T.tup [T.str "any", T.str "same", T.str "last"]), ("sending", T.tup [T.str "bar", T.str "wait", T.str "go"])]
theorem lookup_map2 {α β : Type} (f : α → β) (k : Str) : ∀ l : List (Str × α), (l.map fun p => (p.1, f p.2)).lookup k = (l.lookup k).map f
  | [] => rfl
  | (a, b) :: l => by
    rw [List.map_cons]
    simp only [List.lookup]
    split
    · rfl
    · exact lookup_map2 f k l
theorem menu_at (s : Str) (h : Hh) : oMenu MENT (.str s) h = match MEN.lookup s with | some ss => .ok (.tup (tSs ss)) h | none => .stk := by
  have e : MENT = MEN.map fun p => (p.1, T.tup (tSs p.2)) := rfl
  unfold oMenu
  rw [e]
  simp only
  rw [lookup_map2 (fun ss => T.tup (tSs ss))]
  cases MEN.lookup s <;> rfl
def fitsB (part : Str) (v : T) : Bool := if part = "wipes" then isBl v else (decide (part = "around") && pairsB v) || (match MEN.lookup part with | some ss => oneB v ss | none => false)
def PARTSL : List Str := ["opens", "checks", "around", "wipes", "taken", "sending"]
def ruleErr : List Str → List T → Option Str
  | p :: ps, v :: vs => if fitsB p v = false then some p else ruleErr ps vs
  | _, _ => none
def sortAro (v : T) : T := match v with | .tup ts => .tup ((sortP (ts.map prOf)).map tPr) | v => v
def ruleIns (o c a w t s : T) : List (Str × T) := [("opens", o), ("checks", c), ("around", sortAro a), ("wipes", w), ("taken", t), ("sending", s)]
def shortT (v : T) : Prop := ∀ ts, v = .tup ts → ts.length < 64
def PairsE (f : Fn) : Prop := ∀ {v : T} {h : Hh}, JdN 2 v h → shortT v → f [v] h = .ok (.bl (pairsB v)) h
def FitsE (f : Fn) : Prop := ∀ {p : Str} {v : T} {h : Hh}, p ∈ PARTSL → JdN 2 v h → shortT v → f [.str p, v] h = .ok (.bl (fitsB p v)) h
def RuleE (f : Fn) : Prop := ∀ {o c a w t s : T} {h : Hh} {Q : T → Hh → Prop} {E : EQ}, (∀ v ∈ [o, c, a, w, t, s], JdN 2 v h ∧ shortT v) →
  (ruleErr PARTSL [o, c, a, w, t, s] = none → ∀ z, (h ++ z)[h.length]? = some (.ins "Rule" (ruleIns o c a w t s)) → Q .non (h ++ z)) →
  (∀ p, ruleErr PARTSL [o, c, a, w, t, s] = some p → ∀ z, E "InvalidRule" [("part", .str p)] (h ++ z)) → (f [.ref h.length, o, c, a, w, t, s] (h ++ [.ins "Rule" []])).wp Q E
inductive Aro where | word (s : Str) | pairs (ps : Prs)
def Aro.t : Aro → T | .word s => .str s | .pairs ps => .tup (ps.map tPr)
structure Ru where
  opens : Str
  checks : Str
  around : Aro
  wipes : Bool
  taken : Str
  sending : Str
structure RuOk (r : Ru) : Prop where
  o : r.opens ∈ (["enter", "leave", "send"] : List Str)
  c : r.checks ∈ (["enter", "leave"] : List Str)
  aw : ∀ s, r.around = .word s → s ∈ (["own", "looks"] : List Str)
  ap : ∀ ps, r.around = .pairs ps → PrsOk ps ∧ ps.length < 64 ∧ sortP ps = ps
  t : r.taken ∈ (["any", "same", "last"] : List Str)
  s : r.sending ∈ (["bar", "wait", "go"] : List Str)
def Ru.ins (r : Ru) : List (Str × T) := [("opens", .str r.opens), ("checks", .str r.checks), ("around", r.around.t), ("wipes", .bl r.wipes), ("taken", .str r.taken), ("sending", .str r.sending)]
def RuleAt (h : Hh) (l : Nat) (r : Ru) : Prop := h[l]? = some (.ins "Rule" r.ins)
theorem RuleAt.lt {h : Hh} {l : Nat} {r : Ru} (e : RuleAt h l r) : l < h.length := (List.getElem?_eq_some_iff.mp e).1
theorem RuleAt.app {h : Hh} {l : Nat} {r : Ru} (e : RuleAt h l r) (o : Hh) : RuleAt (h ++ o) l r := by
  unfold RuleAt
  rw [List.getElem?_append_left e.lt]
  exact e
theorem RuleAt.upK {h h' : Hh} {l a : Nat} {r : Ru} (e : RuleAt h a r) (u : Up l h h') (hne : a ≠ l) : RuleAt h' a r := by
  unfold RuleAt
  rw [u.keep a e.lt hne]
  exact e
theorem RuleAt.ins {h : Hh} {l : Nat} {r : Ru} (e : RuleAt h l r) : insAt h l = some (("Rule" : Str), r.ins) := insAt_of e
end W3
end

section
namespace W3
open PySem
def Fm.firsts (fm : Fm) : List Str := fm.fields.map fun p => p.2.first
def stepIns (d b a e : T) : List (Str × T) := [("deed", d), ("before", b), ("after", a), ("events", e)]
def StepAt (h : Hh) (l : Nat) (d b a e : T) : Prop := h[l]? = some (.ins "Step" (stepIns d b a e))
theorem StepAt.lt {h : Hh} {l : Nat} {d b a e : T} (q : StepAt h l d b a e) : l < h.length := (List.getElem?_eq_some_iff.mp q).1
theorem StepAt.app {h : Hh} {l : Nat} {d b a e : T} (q : StepAt h l d b a e) (o : Hh) : StepAt (h ++ o) l d b a e := by
  unfold StepAt
  rw [List.getElem?_append_left q.lt]
  exact q
theorem StepAt.ins {h : Hh} {l : Nat} {d b a e : T} (q : StepAt h l d b a e) : insAt h l = some (("Step" : Str), stepIns d b a e) := insAt_of q
theorem firsts_len (fm : Fm) : fm.firsts.length = fm.fields.length := List.length_map _
end W3
end

section
namespace W3
open PySem
end W3
end

section
namespace W3
open PySem
def farNames (fm : Fm) : List Str := (fm.fields.filter fun p => p.2.far.isSome).map Prod.fst
theorem far_mem {fm : Fm} {s : Str} (h : s ∈ farNames fm) : ∃ p ∈ fm.fields, p.2.far.isSome = true ∧ p.1 = s := by
  obtain ⟨p, hp, rfl⟩ := List.mem_map.mp h
  obtain ⟨h1, h2⟩ := List.mem_filter.mp hp
  exact ⟨p, h1, h2, rfl⟩
end W3
end

section
namespace W3
open PySem
def GF (t : T) : Prop := ∀ (l : Nat) (h : Hh), GA l 100 h t
theorem GF.str {s : Str} (h : s.length ≤ 1000) : GF (.str s) := fun _ _ => .str h
theorem GF.non : GF .non := fun _ _ => .non
theorem GF.bl {b : Bool} : GF (.bl b) := fun _ _ => .bl
theorem GF.int {i : Int} : GF (.int i) := fun _ _ => .int
theorem GF.tup {ts : List T} (hl : ts.length ≤ 100) (g : ∀ x ∈ ts, GF x) : GF (.tup ts) := fun l h => .tup hl fun x hx => g x hx l h
theorem GF.ent {k : Nat} {r : List Ent} {e : Ent} (ro : RowOk k r) (he : e ∈ r) : GF (tE e) := fun _ _ => .ent ro he
theorem GF.mem {ts : List T} (g : GF (.tup ts)) {x : T} (hx : x ∈ ts) : GF x := fun l h => (g l h).mem hx
end W3
end

section
namespace W3
open PySem
abbrev Kn := Option (Str × Ent)
abbrev Qn := Str × Str × Bool
def tK : Kn → T | none => .non | some (w, e) => .tup [.str w, tE e]
def tQ (q : Qn) : T := .tup [.str q.1, .str q.2.1, .bl q.2.2]
structure Sd where
  words : List Str
  shown : List Bool
  mess : List Ent
  known : List Kn
  quest : List Qn
  wait : Bool
def Sd.t (d : Sd) : T := .tup [.tup (tSs d.words), .tup (d.shown.map T.bl), .tup (d.mess.map tE), .tup (d.known.map tK), .tup (d.quest.map tQ), .bl d.wait]
def KnOk (fm : Fm) (p : Str × Fd) (k : Kn) : Prop := ∀ w e, k = some (w, e) → p.2.far.isSome = true ∧ w ∈ fm.words ∧ e = farV fm p w
def QnOk (fm : Fm) (q : Qn) : Prop := q.1 ∈ farNames fm ∧ q.2.1 ∈ fm.words
structure SdOk (fm : Fm) (snd : Str) (d : Sd) : Prop where
  ws : WsOk fm d.words
  sl : d.shown.length = fm.fields.length
  ml : d.mess.length = fm.fields.length
  mn : ∀ s, some s ∈ d.mess → Nm s
  kl : d.known.length = fm.fields.length
  kn : ∀ q ∈ fm.fields.zip d.known, KnOk fm q.1 q.2
  ql : (d.quest.length : Int) ≤ fm.room
  qn : ∀ q ∈ d.quest, QnOk fm q
  wt : d.wait = true → snd = "wait" ∧ d.quest ≠ []
theorem all_map {α : Type} {B : T → Bool} {f : α → T} {P : α → Prop} (st : ∀ t, B t = true → ∃ x, t = f x ∧ P x) : ∀ {ts : List T}, ts.all B = true → ∃ xs : List α, ts = xs.map f ∧ ∀ x ∈ xs, P x
  | [], _ => ⟨[], rfl, by simp⟩
  | t :: ts, h => by
    rw [List.all_cons, Bool.and_eq_true] at h
    obtain ⟨x, rfl, px⟩ := st t h.1
    obtain ⟨xs, rfl, pxs⟩ := all_map st h.2
    exact ⟨x :: xs, rfl, fun y hy => by
      rcases List.mem_cons.mp hy with rfl | z
      · exact px
      · exact pxs y z⟩
end W3
end

section
namespace W3
open PySem
structure Pl where
  w : Nat
  s : Nat
  m : Nat
  k : Nat
  q : Nat
  t : Nat
def Pl.all (p : Pl) : List Nat := [p.w, p.s, p.m, p.k, p.q, p.t]
def crsIns (lf lr : Nat) (p : Pl) (wt : Bool) : List (Str × T) := [("form", .ref lf), ("rule", .ref lr), ("words_now", .ref p.w), ("shown_fields", .ref p.s), ("messages", .ref p.m), ("far_words", .ref p.k), ("questions", .ref p.q), ("is_waiting", .bl wt), ("told", .ref p.t)]
structure CrsAt (n : Nat) (h : Hh) (a lf lr : Nat) (p : Pl) (d : Sd) (told : List T) : Prop where
  ins : h[a]? = some (.ins "Course" (crsIns lf lr p d.wait))
  ww : lstAt h p.w = some (tSs d.words)
  ss : lstAt h p.s = some (d.shown.map T.bl)
  mm : lstAt h p.m = some (d.mess.map tE)
  kk : lstAt h p.k = some (d.known.map tK)
  qq : lstAt h p.q = some (d.quest.map tQ)
  tt : lstAt h p.t = some told
  nd : p.all.Nodup
  la : n ≤ a
  lo : ∀ x ∈ p.all, n ≤ x
def Fz (n : Nat) (h h' : Hh) : Prop := h.length ≤ h'.length ∧ ∀ k, k < n → h'[k]? = h[k]?
theorem Fz.refl (n : Nat) (h : Hh) : Fz n h h := ⟨Nat.le_refl _, fun _ _ => rfl⟩
theorem Fz.trans {n : Nat} {h h1 h2 : Hh} (a : Fz n h h1) (b : Fz n h1 h2) : Fz n h h2 := ⟨Nat.le_trans a.1 b.1, fun k hk => (b.2 k hk).trans (a.2 k hk)⟩
theorem Fz.app {n : Nat} {h : Hh} (hn : n ≤ h.length) (o : Hh) : Fz n h (h ++ o) := ⟨by simp, fun k hk => List.getElem?_append_left (by omega)⟩
theorem Fz.set {n k : Nat} {h : Hh} (hn : n ≤ k) (o : Ob) : Fz n h (h.set k o) := ⟨by simp, fun j hj => by rw [List.getElem?_set_ne (by omega)]⟩
theorem Fz.out {h h' : Hh} (f : Fz h.length h h') : ∃ z, h' = h ++ z := by
  refine ⟨h'.drop h.length, ?_⟩
  apply List.ext_getElem?
  intro i
  by_cases hi : i < h.length
  · rw [f.2 i hi, List.getElem?_append_left hi]
  · rw [List.getElem?_append_right (by omega), List.getElem?_drop]
    congr 1
    omega
theorem FormAt.fz {n : Nat} {h h' : Hh} {l : Nat} {fm : Fm} (e : FormAt h l fm) (f : Fz n h h') (hl : l < n) : FormAt h' l fm := by
  unfold FormAt
  rw [f.2 l hl]
  exact e
theorem RuleAt.fz {n : Nat} {h h' : Hh} {l : Nat} {r : Ru} (e : RuleAt h l r) (f : Fz n h h') (hl : l < n) : RuleAt h' l r := by
  unfold RuleAt
  rw [f.2 l hl]
  exact e
section
variable {n : Nat} {h : Hh} {a lf lr : Nat} {p : Pl} {d : Sd} {told : List T}
theorem CrsAt.at (c : CrsAt n h a lf lr p d told) : insAt h a = some (("Course" : Str), crsIns lf lr p d.wait) := insAt_of c.ins
theorem CrsAt.alt (c : CrsAt n h a lf lr p d told) : a < h.length := (List.getElem?_eq_some_iff.mp c.ins).1
theorem CrsAt.nl (c : CrsAt n h a lf lr p d told) : n ≤ h.length := Nat.le_of_lt (Nat.lt_of_le_of_lt c.la c.alt)
theorem CrsAt.app (c : CrsAt n h a lf lr p d told) (o : Hh) : CrsAt n (h ++ o) a lf lr p d told where
  ins := by rw [List.getElem?_append_left c.alt]; exact c.ins
  ww := lstAt_app o c.ww
  ss := lstAt_app o c.ss
  mm := lstAt_app o c.mm
  kk := lstAt_app o c.kk
  qq := lstAt_app o c.qq
  tt := lstAt_app o c.tt
  nd := c.nd
  la := c.la
  lo := c.lo
theorem CrsAt.ne (c : CrsAt n h a lf lr p d told) {x : Nat} {ts : List T} (e : lstAt h x = some ts) : x ≠ a := by
  intro q
  subst q
  have := of_lstAt e
  rw [c.ins] at this
  cases this
theorem CrsAt.tell (c : CrsAt n h a lf lr p d told) (e : T) : CrsAt n (h.set p.t (.lst (told ++ [e]))) a lf lr p d (told ++ [e]) := by
  have nd := c.nd
  simp [Pl.all] at nd
  obtain ⟨⟨_, _, _, _, n1⟩, ⟨_, _, _, n2⟩, ⟨_, _, n3⟩, ⟨_, n4⟩, n5⟩ := nd
  exact ⟨by rw [List.getElem?_set_ne (c.ne c.tt)]; exact c.ins, by rw [lstAt_set_ne (Ne.symm n1)]; exact c.ww, by rw [lstAt_set_ne (Ne.symm n2)]; exact c.ss, by rw [lstAt_set_ne (Ne.symm n3)]; exact c.mm, by rw [lstAt_set_ne (Ne.symm n4)]; exact c.kk, by rw [lstAt_set_ne (Ne.symm n5)]; exact c.qq, by rw [lstAt_set_self (lstAt_lt c.tt)], c.nd, c.la, c.lo⟩
theorem CrsAt.wait (c : CrsAt n h a lf lr p d told) (b : Bool) : CrsAt n (h.set a (.ins "Course" (crsIns lf lr p b))) a lf lr p { d with wait := b } told :=
  ⟨by rw [List.getElem?_set_self c.alt], by rw [lstAt_set_ne (Ne.symm (c.ne c.ww))]; exact c.ww, by rw [lstAt_set_ne (Ne.symm (c.ne c.ss))]; exact c.ss, by rw [lstAt_set_ne (Ne.symm (c.ne c.mm))]; exact c.mm, by rw [lstAt_set_ne (Ne.symm (c.ne c.kk))]; exact c.kk, by rw [lstAt_set_ne (Ne.symm (c.ne c.qq))]; exact c.qq, by rw [lstAt_set_ne (Ne.symm (c.ne c.tt))]; exact c.tt, c.nd, c.la, c.lo⟩
end
end W3
end

section
namespace W3
open PySem
section
variable {n : Nat} {h : Hh} {a lf lr : Nat} {p : Pl} {d : Sd} {told : List T}
end
end W3
end

section
namespace W3
open PySem
theorem farV_nm {fm : Fm} (o : FmOk fm) {p : Str × Fd} (hp : p ∈ fm.fields) {w s : Str} (e : farV fm p w = some s) : Nm s := by
  unfold farV at e
  cases hf : p.2.far with
  | none => rw [hf] at e; cases e
  | some r =>
    rw [hf] at e
    simp only [rowAt] at e
    cases hr : r[wIx fm w]? with
    | none => rw [hr] at e; cases e
    | some x =>
      rw [hr] at e
      simp at e
      subst e
      exact ((o.fs p hp).far r hf).nm s (List.mem_of_getElem? hr)
end W3
end

section
namespace W3
open PySem
inductive Ev where
  | entered (n w : Str) | dropped | opened (n : Str) | wiped (n : Str) | checked (n : Str) (e : Ent) | asked (n w : Str)
  | answered (n w : Str) (e : Ent) (tk : Bool) | sent (ws : List Str) | waits | held | reset
def Ev.t : Ev → T
  | .entered n w => .tup [.str "entered", .str n, .str w]
  | .dropped => .tup [.str "dropped"]
  | .opened n => .tup [.str "opened", .str n]
  | .wiped n => .tup [.str "wiped", .str n]
  | .checked n e => .tup [.str "checked", .str n, tE e]
  | .asked n w => .tup [.str "asked", .str n, .str w]
  | .answered n w e tk => .tup [.str "answered", .str n, .str w, tE e, .bl tk]
  | .sent ws => .tup [.str "sent", .tup (tSs ws)]
  | .waits => .tup [.str "waits"]
  | .held => .tup [.str "held"]
  | .reset => .tup [.str "reset"]
abbrev tEs (es : List Ev) : List T := es.map Ev.t
def endV (d : Sd) (told : List Ev) : Sd × List Ev := if d.wait = true then ({ d with wait := false }, told ++ [.dropped]) else (d, told)
def resetV (fm : Fm) (d : Sd) (told : List Ev) : Sd × List Ev := endV { d with words := fm.firsts, shown := List.replicate fm.fields.length false, mess := List.replicate fm.fields.length none } (told ++ [.reset])
inductive Rz where
  | ok (d : Sd) (t : List Ev)
  | many (n : Str)
def Rz.bind : Rz → (Sd → List Ev → Rz) → Rz
  | .ok d t, k => k d t
  | .many n, _ => .many n
def nameAt (fm : Fm) (i : Nat) : Str := (fm.names[i]?).getD ⟨#[]⟩
def showC (fm : Fm) (i : Nat) (d : Sd) (told : List Ev) : Sd × List Ev := if d.shown[i]? = some false then ({ d with shown := d.shown.set i true }, told ++ [.opened (nameAt fm i)]) else (d, told)
def knEnt (w : Str) : Option Kn → Ent × Bool
  | some (some (v, e)) => if v = w then (e, false) else (none, true)
  | _ => (none, true)
def entryC (fm : Fm) (p : Str × Fd) (d : Sd) : Ent × Bool :=
  match nearV fm d.words p with
  | none => if p.2.far.isSome = true then knEnt (wAt fm d.words p.1) (d.known[fIx fm p.1]?) else (none, false)
  | some s => (some s, false)
def elder (n : Str) (q : Qn) : Qn := (q.1, q.2.1, q.2.2 && !decide (q.1 = n))
def askC (fm : Fm) (n w : Str) (d : Sd) (told : List Ev) : Rz :=
  if (n, w, true) ∈ d.quest then .ok d told
  else if (d.quest.length : Int) = fm.room then .many n
  else .ok { d with quest := d.quest.map (elder n) ++ [(n, w, true)] } (told ++ [.asked n w])
def checkC (fm : Fm) (p : Str × Fd) (d : Sd) (told : List Ev) : Rz :=
  if (entryC fm p d).2 = true then askC fm p.1 (wAt fm d.words p.1) { d with mess := d.mess.set (fIx fm p.1) (entryC fm p d).1 } (told ++ [.checked p.1 (entryC fm p d).1])
  else .ok { d with mess := d.mess.set (fIx fm p.1) (entryC fm p d).1 } (told ++ [.checked p.1 (entryC fm p d).1])
def checksC (fm : Fm) : List (Str × Fd) → Sd → List Ev → Rz
  | [], d, t => .ok d t
  | p :: ps, d, t => (checkC fm p d t).bind (checksC fm ps)
def looksAt : Nr → Option Str | .alone _ => none | .looks g _ => some g
def readsC (fm : Fm) (n : Str) : List (Str × Fd) := fm.fields.filter fun q => decide (looksAt q.2.nr = some n)
def foundC (fm : Fm) (r : Ru) (n : Str) : List (Str × Fd) := match r.around with
  | .word s => if s = "own" then [] else readsC fm n
  | .pairs ps => fm.fields.filter fun q => decide ((n, q.1) ∈ ps)
def openC (fm : Fm) (d : Sd) (p : Str × Fd) : Bool := (d.shown[fIx fm p.1]?).getD false
def withC (fm : Fm) (r : Ru) (n : Str) (d : Sd) : List (Str × Fd) := (foundC fm r n).filter (openC fm d)
def aroundL (fm : Fm) (r : Ru) (p : Str × Fd) (d : Sd) : List (Str × Fd) := (if openC fm d p = true then [p] else []) ++ withC fm r p.1 d
def aroundC (fm : Fm) (r : Ru) (p : Str × Fd) (d : Sd) (told : List Ev) : Rz := checksC fm (aroundL fm r p d) d told
def wipeC (r : Ru) (n : Str) (i : Nat) (d : Sd) (told : List Ev) : Sd × List Ev := if r.wipes = true ∧ (rowAt d.mess i).isSome = true then ({ d with mess := d.mess.set i none }, told ++ [.wiped n]) else (d, told)
def enter1 (fm : Fm) (p : Str × Fd) (w : Str) (d : Sd) (told : List Ev) : Sd × List Ev := endV { d with words := d.words.set (fIx fm p.1) w } (told ++ [.entered p.1 w])
def enter2 (fm : Fm) (r : Ru) (p : Str × Fd) (x : Sd × List Ev) : Sd × List Ev := if r.opens = "enter" then showC fm (fIx fm p.1) x.1 x.2 else x
def enterS (fm : Fm) (r : Ru) (p : Str × Fd) (w : Str) (d : Sd) (told : List Ev) : Sd × List Ev := wipeC r p.1 (fIx fm p.1) (enter2 fm r p (enter1 fm p w d told)).1 (enter2 fm r p (enter1 fm p w d told)).2
def enterC (fm : Fm) (r : Ru) (p : Str × Fd) (w : Str) (d : Sd) (told : List Ev) : Rz :=
  if wAt fm d.words p.1 = w then .ok d told
  else if r.checks = "enter" then aroundC fm r p (enterS fm r p w d told).1 (enterS fm r p w d told).2
  else .ok (enterS fm r p w d told).1 (enterS fm r p w d told).2
def leaveS (fm : Fm) (r : Ru) (p : Str × Fd) (d : Sd) (told : List Ev) : Sd × List Ev := if r.opens = "send" then (d, told) else showC fm (fIx fm p.1) d told
def leaveC (fm : Fm) (r : Ru) (p : Str × Fd) (d : Sd) (told : List Ev) : Rz := aroundC fm r p (leaveS fm r p d told).1 (leaveS fm r p d told).2
def showsC (fm : Fm) : Nat → Sd → List Ev → Sd × List Ev
  | 0, d, t => (d, t)
  | k + 1, d, t => showC fm k (showsC fm k d t).1 (showsC fm k d t).2
def hasErr (d : Sd) : Bool := d.mess.any fun e => e.isSome
def endSend (r : Ru) (d : Sd) (told : List Ev) : Sd × List Ev :=
  if hasErr d = true then (d, told ++ [.held])
  else if d.quest = [] ∨ r.sending = "go" then (d, told ++ [.sent d.words])
  else if r.sending = "wait" then ({ d with wait := true }, told ++ [.waits])
  else (d, told ++ [.held])
def sendC (fm : Fm) (r : Ru) (d : Sd) (told : List Ev) : Rz :=
  if d.wait = true then .ok d told
  else (checksC fm fm.fields (showsC fm fm.fields.length d told).1 (showsC fm fm.fields.length d told).2).bind fun d2 t2 => .ok (endSend r d2 t2).1 (endSend r d2 t2).2
def takenC (fm : Fm) (r : Ru) (p : Str × Fd) (w : Str) (nw : Bool) (d : Sd) : Bool := if r.taken = "any" then true else if r.taken = "same" then decide (wAt fm d.words p.1 = w) else nw
def takeMess (fm : Fm) (r : Ru) (p : Str × Fd) (w : Str) (d : Sd) : List Ent := if openC fm d p = true ∧ (¬ r.taken = "same" ∨ nearV fm d.words p = none) then d.mess.set (fIx fm p.1) (farV fm p w) else d.mess
def takeC (fm : Fm) (r : Ru) (p : Str × Fd) (w : Str) (nw : Bool) (d : Sd) : Sd := if takenC fm r p w nw d = true then { d with known := d.known.set (fIx fm p.1) (some (w, farV fm p w)), mess := takeMess fm r p w d } else d
def restC (d : Sd) (told : List Ev) : Sd × List Ev :=
  if d.wait = true ∧ d.quest = [] then ({ d with wait := false }, told ++ [if hasErr d = true then .held else .sent d.words]) else (d, told)
def answerP (fm : Fm) (r : Ru) (p : Str × Fd) (w : Str) (nw : Bool) (d : Sd) (told : List Ev) : Sd × List Ev :=
  restC (takeC fm r p w nw d) (told ++ [.answered p.1 w (farV fm p w) (takenC fm r p w nw d)])
def answerC (fm : Fm) (r : Ru) (i : Nat) (d : Sd) (told : List Ev) : Sd × List Ev := match d.quest[i]? with
  | none => (d, told)
  | some (n, w, nw) => match fdAt fm (.str n) with
    | none => (d, told)
    | some p => answerP fm r p w nw { d with quest := d.quest.eraseIdx i } told
inductive Dd where
  | enter (p : Str × Fd) (w : Str)
  | leave (p : Str × Fd)
  | send
  | answer (i : Nat)
  | reset
def Dd.t : Dd → T
  | .enter p w => .tup [.str "enter", .str p.1, .str w]
  | .leave p => .tup [.str "leave", .str p.1]
  | .send => .tup [.str "send"]
  | .answer i => .tup [.str "answer", .int i]
  | .reset => .tup [.str "reset"]
def DdOk (fm : Fm) : Dd → Prop
  | .enter p w => p ∈ fm.fields ∧ w ∈ fm.words
  | .leave p => p ∈ fm.fields
  | .send => True
  | .answer i => i < 3
  | .reset => True
def Rz.of (x : Sd × List Ev) : Rz := .ok x.1 x.2
def stepC (fm : Fm) (r : Ru) (D : Dd) (d : Sd) : Rz := match D with
  | .enter p w => enterC fm r p w d []
  | .leave p => leaveC fm r p d []
  | .send => sendC fm r d []
  | .answer i => .of (answerC fm r i d [])
  | .reset => .of (resetV fm d [])
structure SdW (fm : Fm) (d : Sd) : Prop where
  ws : WsOk fm d.words
  sl : d.shown.length = fm.fields.length
  ml : d.mess.length = fm.fields.length
  mn : ∀ s, some s ∈ d.mess → Nm s
  kl : d.known.length = fm.fields.length
  kn : ∀ q ∈ fm.fields.zip d.known, KnOk fm q.1 q.2
  ql : (d.quest.length : Int) ≤ fm.room
  qn : ∀ q ∈ d.quest, QnOk fm q
theorem SdOk.w {fm : Fm} {s : Str} {d : Sd} (h : SdOk fm s d) : SdW fm d := ⟨h.ws, h.sl, h.ml, h.mn, h.kl, h.kn, h.ql, h.qn⟩
theorem SdW.ok {fm : Fm} {s : Str} {d : Sd} (h : SdW fm d) (wt : d.wait = true → s = "wait" ∧ d.quest ≠ []) : SdOk fm s d := ⟨h.ws, h.sl, h.ml, h.mn, h.kl, h.kn, h.ql, h.qn, wt⟩
theorem rowAt_nm {k : Nat} {r : List Ent} {i : Nat} {s : Str} (ro : RowOk k r) (e : rowAt r i = some s) : Nm s := by
  unfold rowAt at e
  cases hr : r[i]? with
  | none => rw [hr] at e; cases e
  | some x =>
    rw [hr] at e
    simp at e
    subst e
    exact ro.nm s (List.mem_of_getElem? hr)
theorem nearV_nm {fm : Fm} (o : FmOk fm) {p : Str × Fd} (hp : p ∈ fm.fields) {ws : List Str} {s : Str} (e : nearV fm ws p = some s) : Nm s := by
  have fo := (o.fs p hp).nr
  unfold nearV at e
  cases hn : p.2.nr with
  | alone r =>
    rw [hn] at e fo
    exact rowAt_nm fo e
  | looks g rs =>
    rw [hn] at e fo
    obtain ⟨q1, q2, q3, q4⟩ := fo
    simp only at e
    cases hr : rs[wIx fm (wAt fm ws p.1)]? with
    | none =>
      rw [hr] at e
      simp [rowAt] at e
    | some r =>
      rw [hr] at e
      exact rowAt_nm (q4 r (List.mem_of_getElem? hr)) e
theorem fIx_at {fm : Fm} (o : FmOk fm) {i : Nat} {n : Str} (hi : fm.names[i]? = some n) : fIx fm n = i := idx_of_nodup o.fn.nd hi
theorem fIx_lt {fm : Fm} {p : Str × Fd} (hp : p ∈ fm.fields) : fIx fm p.1 < fm.fields.length := by
  have := List.idxOf_lt_length_iff.mpr (mem_names hp)
  simpa [fIx, Fm.names] using this
theorem fIx_get {fm : Fm} (o : FmOk fm) {p : Str × Fd} (hp : p ∈ fm.fields) : fm.fields[fIx fm p.1]? = some p := by
  obtain ⟨i, hi⟩ := List.getElem?_of_mem hp
  rw [fIx_at o (i := i) (by unfold Fm.names; rw [List.getElem?_map, hi]; rfl)]
  exact hi
theorem known_at {fm : Fm} (o : FmOk fm) {d : Sd} (w : SdW fm d) {p : Str × Fd} (hp : p ∈ fm.fields) : ∃ k, d.known[fIx fm p.1]? = some k ∧ KnOk fm p k := by
  have hl : fIx fm p.1 < d.known.length := by rw [w.kl]; exact fIx_lt hp
  refine ⟨d.known[fIx fm p.1], by simp [hl], ?_⟩
  exact w.kn (p, d.known[fIx fm p.1]) (List.mem_of_getElem? (i := fIx fm p.1) (by rw [List.getElem?_zip_eq_some]; exact ⟨fIx_get o hp, by simp [hl]⟩))
theorem entry_nm {fm : Fm} (o : FmOk fm) {d : Sd} (w : SdW fm d) {p : Str × Fd} (hp : p ∈ fm.fields) {s : Str} (e : (entryC fm p d).1 = some s) : Nm s := by
  unfold entryC at e
  cases hn : nearV fm d.words p with
  | some m =>
    rw [hn] at e
    simp at e
    exact e ▸ nearV_nm o hp hn
  | none =>
    rw [hn] at e
    simp only at e
    split at e
    · obtain ⟨k, hk, ko⟩ := known_at o w hp
      rw [hk] at e
      cases k with
      | none => simp [knEnt] at e
      | some q =>
        obtain ⟨v, x⟩ := q
        obtain ⟨_, _, rfl⟩ := ko v x rfl
        simp only [knEnt] at e
        split at e
        · exact farV_nm o hp e
        · cases e
    · cases e
theorem mess_set {es : List Ent} {i : Nat} {e : Ent} (h : ∀ s, some s ∈ es → Nm s) (he : ∀ s, e = some s → Nm s) : ∀ s, some s ∈ es.set i e → Nm s := fun s hs => by
  rcases List.mem_or_eq_of_mem_set hs with z | z
  · exact h s z
  · exact he s z.symm
theorem SdW.mess {fm : Fm} {d : Sd} (w : SdW fm d) (i : Nat) {e : Ent} (he : ∀ s, e = some s → Nm s) : SdW fm { d with mess := d.mess.set i e } :=
  { w with ml := by simp [w.ml], mn := mess_set w.mn he }
theorem SdW.show {fm : Fm} {d : Sd} (w : SdW fm d) (i : Nat) (told : List Ev) : SdW fm (showC fm i d told).1 := by
  unfold showC
  split
  · exact { w with sl := by simp [w.sl] }
  · exact w
theorem SdW.shows {fm : Fm} {d : Sd} (w : SdW fm d) (told : List Ev) : ∀ k, SdW fm (showsC fm k d told).1
  | 0 => w
  | k + 1 => (w.shows told k).show k _
theorem SdW.endw {fm : Fm} {d : Sd} (w : SdW fm d) (told : List Ev) : SdW fm (endV d told).1 := by
  unfold endV
  split
  · exact { w with }
  · exact w
structure Kept (d d' : Sd) (t t' : List Ev) (k : Nat) : Prop where
  ws : d'.words = d.words
  sh : d'.shown = d.shown
  wt : d'.wait = d.wait
  kn : d'.known = d.known
  ql : d.quest.length ≤ d'.quest.length
  tl : t'.length ≤ t.length + k
theorem Kept.trans {d d1 d2 : Sd} {t t1 t2 : List Ev} {k m : Nat} (a : Kept d d1 t t1 k) (b : Kept d1 d2 t1 t2 m) : Kept d d2 t t2 (k + m) :=
  ⟨b.ws.trans a.ws, b.sh.trans a.sh, b.wt.trans a.wt, b.kn.trans a.kn, Nat.le_trans a.ql b.ql, by have := a.tl; have := b.tl; omega⟩
theorem far_names {fm : Fm} {p : Str × Fd} (hp : p ∈ fm.fields) (hf : p.2.far.isSome = true) : p.1 ∈ farNames fm := by
  unfold farNames
  exact List.mem_map.mpr ⟨p, List.mem_filter.mpr ⟨hp, hf⟩, rfl⟩
theorem ask_kept {fm : Fm} {n w : Str} {d d' : Sd} {t t' : List Ev} (s : SdW fm d) (hn : n ∈ farNames fm) (hw : w ∈ fm.words) (e : askC fm n w d t = .ok d' t') : SdW fm d' ∧ Kept d d' t t' 1 := by
  unfold askC at e
  split at e
  · cases e
    exact ⟨s, rfl, rfl, rfl, rfl, Nat.le_refl _, by omega⟩
  · split at e
    · cases e
    · cases e
      rename_i h1 h2
      refine ⟨{ s with ql := ?_, qn := fun q hq => ?_ }, rfl, rfl, rfl, rfl, by simp, by simp⟩
      · have := s.ql
        simp only [List.length_append, List.length_map, List.length_cons, List.length_nil]
        omega
      · simp only [List.mem_append, List.mem_map, List.mem_singleton] at hq
        rcases hq with ⟨q0, hq0, rfl⟩ | rfl
        · exact s.qn q0 hq0
        · exact ⟨hn, hw⟩
theorem entry_asks {fm : Fm} {p : Str × Fd} {d : Sd} (e : (entryC fm p d).2 = true) : p.2.far.isSome = true := by
  unfold entryC at e
  split at e
  · split at e
    · assumption
    · cases e
  · cases e
theorem check_kept {fm : Fm} (o : FmOk fm) {p : Str × Fd} (hp : p ∈ fm.fields) {d d' : Sd} {t t' : List Ev} (s : SdW fm d) (e : checkC fm p d t = .ok d' t') : SdW fm d' ∧ Kept d d' t t' 2 := by
  have s1 := s.mess (fIx fm p.1) (e := (entryC fm p d).1) fun _ h => entry_nm o s hp h
  have k1 : Kept d { d with mess := d.mess.set (fIx fm p.1) (entryC fm p d).1 } t (t ++ [.checked p.1 (entryC fm p d).1]) 1 := ⟨rfl, rfl, rfl, rfl, Nat.le_refl _, by simp⟩
  unfold checkC at e
  split at e
  · rename_i ha
    obtain ⟨s2, k2⟩ := ask_kept s1 (far_names hp (entry_asks ha)) (s.ws.at (mem_names hp)).2 e
    exact ⟨s2, k1.trans k2⟩
  · cases e
    exact ⟨s1, { k1 with tl := by have := k1.tl; omega }⟩
theorem checks_kept {fm : Fm} (o : FmOk fm) : ∀ {ps : List (Str × Fd)} {d d' : Sd} {t t' : List Ev}, (∀ p ∈ ps, p ∈ fm.fields) → SdW fm d → checksC fm ps d t = .ok d' t' → SdW fm d' ∧ Kept d d' t t' (2 * ps.length)
  | [], d, d', t, t', _, s, e => by
    cases e
    exact ⟨s, rfl, rfl, rfl, rfl, Nat.le_refl _, by omega⟩
  | p :: ps, d, d', t, t', hp, s, e => by
    unfold checksC at e
    cases h1 : checkC fm p d t with
    | many n => rw [h1] at e; cases e
    | ok d1 t1 =>
      rw [h1] at e
      obtain ⟨s1, k1⟩ := check_kept o (hp p (.head _)) s h1
      obtain ⟨s2, k2⟩ := checks_kept o (fun q hq => hp q (.tail _ hq)) s1 e
      refine ⟨s2, (k1.trans k2).ws, (k1.trans k2).sh, (k1.trans k2).wt, (k1.trans k2).kn, (k1.trans k2).ql, ?_⟩
      have := (k1.trans k2).tl
      simp only [List.length_cons]
      omega
end W3
end

section
namespace W3
open PySem
section
variable {n : Nat} {h : Hh} {a lf lr : Nat} {p : Pl} {d : Sd} {told : List T}
end
structure Crz (n : Nat) (h : Hh) (a lf lr : Nat) (fm : Fm) (r : Ru) (p : Pl) (d : Sd) (told : List Ev) : Prop where
  c : CrsAt n h a lf lr p d (tEs told)
  fa : FormAt h lf fm
  ra : RuleAt h lr r
  fl : lf < n
  rl : lr < n
  o : FmOk fm
  ro : RuOk r
  s : SdW fm d
section
variable {n : Nat} {h h' : Hh} {a lf lr : Nat} {fm : Fm} {r : Ru} {p p' : Pl} {d d' : Sd} {told told' : List Ev}
theorem Crz.to (x : Crz n h a lf lr fm r p d told) (fz : Fz n h h') (c : CrsAt n h' a lf lr p' d' (tEs told')) (s : SdW fm d') : Crz n h' a lf lr fm r p' d' told' :=
  ⟨c, x.fa.fz fz x.fl, x.ra.fz fz x.rl, x.fl, x.rl, x.o, x.ro, s⟩
theorem Crz.app (x : Crz n h a lf lr fm r p d told) (o : Hh) : Crz n (h ++ o) a lf lr fm r p d told := x.to (Fz.app x.c.nl o) (x.c.app o) x.s
structure Fx (a : Nat) (p p' : Pl) (h h' : Hh) : Prop where
  le : h.length ≤ h'.length
  keep : ∀ k, k < h.length → k ≠ a → k ∉ p.all → h'[k]? = h[k]?
  pl : ∀ k ∈ p'.all, k ∈ p.all ∨ h.length ≤ k
theorem Fx.refl (a : Nat) (p : Pl) (h : Hh) : Fx a p p h h := ⟨Nat.le_refl _, fun _ _ _ _ => rfl, fun _ hk => .inl hk⟩
theorem Fx.app (a : Nat) (p : Pl) (h o : Hh) : Fx a p p h (h ++ o) := ⟨by simp, fun k hk _ _ => List.getElem?_append_left hk, fun _ hk => .inl hk⟩
theorem Fx.set {a k : Nat} {p : Pl} {h : Hh} (hk : k ∈ p.all) (o : Ob) : Fx a p p h (h.set k o) := ⟨by simp, fun j _ _ hj => by rw [List.getElem?_set_ne (fun e : k = j => hj (e ▸ hk))], fun _ hk => .inl hk⟩
theorem Fx.own {a : Nat} {p p' : Pl} {h : Hh} (o : Ob) (hp : ∀ k ∈ p'.all, k ∈ p.all ∨ h.length ≤ k) : Fx a p p' h (h.set a o) := ⟨by simp, fun j _ ha _ => by rw [List.getElem?_set_ne (Ne.symm ha)], hp⟩
theorem Fx.trans {a : Nat} {p p1 p2 : Pl} {h h1 h2 : Hh} (u : Fx a p p1 h h1) (v : Fx a p1 p2 h1 h2) : Fx a p p2 h h2 :=
  ⟨Nat.le_trans u.le v.le, fun k hk ha hp => (v.keep k (Nat.lt_of_lt_of_le hk u.le) ha fun z => (u.pl k z).elim hp fun q => by omega).trans (u.keep k hk ha hp), fun k hk => (v.pl k hk).elim (u.pl k) fun q => .inr (Nat.le_trans u.le q)⟩
theorem Crz.fz (x : Crz n h a lf lr fm r p d told) (u : Fx a p p' h h') : Fz n h h' := ⟨u.le, fun k hk => u.keep k (Nat.lt_of_lt_of_le hk x.c.nl) (fun e => by have := x.c.la; omega) fun z => by have := x.c.lo k z; omega⟩
theorem Crz.ev (x : Crz n h a lf lr fm r p d told) (e : Ev) : Crz n (h.set p.t (.lst (tEs told ++ [e.t]))) a lf lr fm r p d (told ++ [e]) := by
  refine x.to (Fz.set (x.c.lo p.t (by simp [Pl.all])) _) ?_ x.s
  have := x.c.tell e.t
  rw [show tEs (told ++ [e]) = tEs told ++ [e.t] by simp [tEs]]
  exact this
end
section
variable {n : Nat} {h h' : Hh} {a lf lr : Nat} {fm : Fm} {r : Ru} {p p' : Pl} {d d' : Sd} {told told' : List Ev} {q : Str × Fd}
end
theorem eqv_pr (x y : Str × Str) : PyData.eqv (dPr x) (dPr y) = decide (x = y) := by
  obtain ⟨a, b⟩ := x
  obtain ⟨a', b'⟩ := y
  have e1 : PyData.eqv (.str a) (.str a') = decide (a = a') := by rw [PyData.eqv]; rfl
  have e2 : PyData.eqv (.str b) (.str b') = decide (b = b') := by rw [PyData.eqv]; rfl
  rw [dPr, dPr, PyData.eqv]
  simp only [PyData.eqvAll, e1, e2, Prod.mk.injEq]
  by_cases h1 : a = a' <;> by_cases h2 : b = b' <;> simp [h1, h2]
theorem any_eqv {α : Type} [DecidableEq α] {f : α → PyData} (hf : ∀ x y, PyData.eqv (f x) (f y) = decide (x = y)) (x : α) : ∀ xs : List α, ((xs.map f).any fun z => PyData.eqv z (f x)) = decide (x ∈ xs)
  | [] => by simp
  | y :: ys => by
    rw [List.map_cons, List.any_cons, any_eqv hf x ys, hf]
    by_cases q : y = x
    · simp [q]
    · have q' : ¬ x = y := fun e => q e.symm
      simp [q, q']
theorem optL_map {α β : Type} {g : T → Option β} {f : α → T} {k : α → β} (e : ∀ x, g (f x) = some (k x)) : ∀ xs : List α, optL g (xs.map f) = some (xs.map k)
  | [] => rfl
  | x :: xs => by
    rw [List.map_cons]
    unfold optL
    rw [e, optL_map e xs]
    rfl
theorem toD_prn (h : Hh) (n : Nat) (q : Str × Str) : toD h (n + 2) (tPr q) = some (dPr q) := rfl
theorem toD_lst {h : Hh} {l : Nat} {ts : List T} (e : lstAt h l = some ts) (n : Nat) : toD h (n + 1) (.ref l) = (optL (toD h n) ts).map .list := by
  show (match h[l]? with | some (.lst ts) => (optL (toD h n) ts).map PyData.list | _ => none) = _
  rw [of_lstAt e]
theorem found_mem {fm : Fm} {r : Ru} {n : Str} : (∀ u ∈ foundC fm r n, u ∈ fm.fields) ∧ (foundC fm r n).length ≤ fm.fields.length := by
  unfold foundC
  split
  · split
    · simp
    · exact ⟨fun u hu => (List.mem_filter.mp hu).1, List.length_filter_le _ _⟩
  · exact ⟨fun u hu => (List.mem_filter.mp hu).1, List.length_filter_le _ _⟩
theorem with_mem {fm : Fm} {r : Ru} {n : Str} {d : Sd} : (∀ u ∈ withC fm r n d, u ∈ fm.fields) ∧ (withC fm r n d).length ≤ fm.fields.length :=
  ⟨fun u hu => found_mem.1 u (List.mem_filter.mp hu).1, Nat.le_trans (List.length_filter_le _ _) found_mem.2⟩
theorem SdW.word {fm : Fm} {d : Sd} (w : SdW fm d) (i : Nat) {v : Str} (hv : v ∈ fm.words) : SdW fm { d with words := d.words.set i v } :=
  { w with ws := ⟨by simp [w.ws.len], fun s hs => by
      rcases List.mem_or_eq_of_mem_set hs with z | z
      · exact w.ws.mem s z
      · exact z ▸ hv⟩ }
theorem SdW.wait {fm : Fm} {d : Sd} (w : SdW fm d) (b : Bool) : SdW fm { d with wait := b } := { w with }
theorem endV_len (d : Sd) (t : List Ev) : (endV d t).2.length ≤ t.length + 1 := by unfold endV; split <;> simp
theorem showC_len (fm : Fm) (i : Nat) (d : Sd) (t : List Ev) : (showC fm i d t).2.length ≤ t.length + 1 := by unfold showC; split <;> simp
theorem wipeC_len (r : Ru) (n : Str) (i : Nat) (d : Sd) (t : List Ev) : (wipeC r n i d t).2.length ≤ t.length + 1 := by unfold wipeC; split <;> simp
theorem enter1_len (fm : Fm) (q : Str × Fd) (w : Str) (d : Sd) (t : List Ev) : (enter1 fm q w d t).2.length ≤ t.length + 2 := by
  unfold enter1
  refine Nat.le_trans (endV_len _ _) ?_
  simp
theorem enter2_len (fm : Fm) (r : Ru) (q : Str × Fd) (x : Sd × List Ev) : (enter2 fm r q x).2.length ≤ x.2.length + 1 := by
  unfold enter2
  split
  · exact showC_len _ _ _ _
  · omega
theorem enterS_len (fm : Fm) (r : Ru) (q : Str × Fd) (w : Str) (d : Sd) (t : List Ev) : (enterS fm r q w d t).2.length ≤ t.length + 4 := by
  unfold enterS
  have := wipeC_len r q.1 (fIx fm q.1) (enter2 fm r q (enter1 fm q w d t)).1 (enter2 fm r q (enter1 fm q w d t)).2
  have := enter2_len fm r q (enter1 fm q w d t)
  have := enter1_len fm q w d t
  omega
theorem leaveS_len (fm : Fm) (r : Ru) (q : Str × Fd) (d : Sd) (t : List Ev) : (leaveS fm r q d t).2.length ≤ t.length + 1 := by
  unfold leaveS
  split
  · simp
  · exact showC_len _ _ _ _
theorem showsC_len (fm : Fm) (d : Sd) (t : List Ev) : ∀ k, (showsC fm k d t).2.length ≤ t.length + k
  | 0 => Nat.le_refl _
  | k + 1 => by
    have := showC_len fm k (showsC fm k d t).1 (showsC fm k d t).2
    have := showsC_len fm d t k
    unfold showsC
    omega
theorem SdW.wipe {fm : Fm} {d : Sd} (w : SdW fm d) (r : Ru) (n : Str) (i : Nat) (t : List Ev) : SdW fm (wipeC r n i d t).1 := by
  unfold wipeC
  split
  · exact w.mess i (e := none) (fun s h => by cases h)
  · exact w
theorem dd_mem {fm : Fm} {D : Dd} (k : DdOk fm D) : D.t ∈ wholeL fm := by
  have inl : ∀ {x : T}, x ∈ plainL fm → x ∈ wholeL fm := fun h => List.mem_append.mpr (.inl h)
  have nm : ∀ {p : Str × Fd}, p ∈ fm.fields → p.1 ∈ fm.names := fun hp => mem_names hp
  cases D with
  | enter p w => exact inl (List.mem_append.mpr (.inl (List.mem_append.mpr (.inl (List.mem_flatMap.mpr ⟨p.1, nm k.1, List.mem_map.mpr ⟨w, k.2, rfl⟩⟩)))))
  | leave p => exact inl (List.mem_append.mpr (.inl (List.mem_append.mpr (.inr (List.mem_map.mpr ⟨p.1, nm k, rfl⟩)))))
  | send => exact inl (List.mem_append.mpr (.inr (.head _)))
  | answer i =>
    have k : i < 3 := k
    match i, k with
    | 0, _ => exact inl (List.mem_append.mpr (.inr (.tail _ (.head _))))
    | 1, _ => exact inl (List.mem_append.mpr (.inr (.tail _ (.tail _ (.head _)))))
    | 2, _ => exact inl (List.mem_append.mpr (.inr (.tail _ (.tail _ (.tail _ (.head _))))))
  | reset => exact List.mem_append.mpr (.inr (.head _))
theorem zip_set_kn {fm : Fm} (o : FmOk fm) {ks : List Kn} (hl : ks.length = fm.fields.length) (kn : ∀ q ∈ fm.fields.zip ks, KnOk fm q.1 q.2) {q : Str × Fd} (hp : q ∈ fm.fields) {k : Kn} (hk : KnOk fm q k) : ∀ u ∈ fm.fields.zip (ks.set (fIx fm q.1) k), KnOk fm u.1 u.2 := by
  intro u hu
  obtain ⟨j, hj⟩ := List.getElem?_of_mem hu
  rw [List.getElem?_zip_eq_some] at hj
  obtain ⟨h1, h2⟩ := hj
  by_cases e : fIx fm q.1 = j
  · subst e
    rw [fIx_get o hp] at h1
    rw [List.getElem?_set_self (by rw [hl]; exact fIx_lt hp)] at h2
    have e1 : q = u.1 := by injection h1
    have e2 : k = u.2 := by injection h2
    rw [← e1, ← e2]
    exact hk
  · rw [List.getElem?_set_ne e] at h2
    exact kn u (List.mem_of_getElem? (i := j) (by rw [List.getElem?_zip_eq_some]; exact ⟨h1, h2⟩))
theorem SdW.known {fm : Fm} {d : Sd} (w : SdW fm d) (o : FmOk fm) {q : Str × Fd} (hp : q ∈ fm.fields) {k : Kn} (hk : KnOk fm q k) : SdW fm { d with known := d.known.set (fIx fm q.1) k } :=
  { w with kl := by simp [w.kl], kn := zip_set_kn o w.kl w.kn hp hk }
end W3
namespace W3
open PySem
end W3
end

section
namespace W3
open PySem
theorem around_mem {fm : Fm} {r : Ru} {q : Str × Fd} {d : Sd} (hp : q ∈ fm.fields) : (∀ u ∈ aroundL fm r q d, u ∈ fm.fields) ∧ (aroundL fm r q d).length ≤ 1 + fm.fields.length := by
  unfold aroundL
  obtain ⟨h1, h2⟩ := with_mem (fm := fm) (r := r) (n := q.1) (d := d)
  refine ⟨fun u hu => ?_, ?_⟩
  · rcases List.mem_append.mp hu with z | z
    · split at z
      · simp at z; rw [z]; exact hp
      · cases z
    · exact h1 u z
  · rw [List.length_append]
    split <;> simp <;> omega
theorem around_kept {fm : Fm} (o : FmOk fm) {r : Ru} {q : Str × Fd} (hp : q ∈ fm.fields) {d d' : Sd} {t t' : List Ev} (s : SdW fm d) (e : aroundC fm r q d t = .ok d' t') : SdW fm d' ∧ Kept d d' t t' 8 := by
  obtain ⟨h1, h2⟩ := around_mem (r := r) (d := d) hp
  obtain ⟨s', k⟩ := checks_kept o h1 s e
  have f3 := o.f3
  exact ⟨s', { k with tl := by have := k.tl; omega }⟩
theorem endV_wait (d : Sd) (t : List Ev) : (endV d t).1.wait = false := by
  unfold endV
  cases hw : d.wait <;> simp [hw]
theorem showC_wait (fm : Fm) (i : Nat) (d : Sd) (t : List Ev) : (showC fm i d t).1.wait = d.wait ∧ (showC fm i d t).1.quest = d.quest := by
  unfold showC
  split <;> exact ⟨rfl, rfl⟩
theorem wipeC_wait (r : Ru) (n : Str) (i : Nat) (d : Sd) (t : List Ev) : (wipeC r n i d t).1.wait = d.wait := by
  unfold wipeC
  split <;> rfl
theorem showsC_wait (fm : Fm) (d : Sd) (t : List Ev) : ∀ k, (showsC fm k d t).1.wait = d.wait ∧ (showsC fm k d t).1.quest = d.quest
  | 0 => ⟨rfl, rfl⟩
  | k + 1 => by
    obtain ⟨a, b⟩ := showsC_wait fm d t k
    obtain ⟨c, e⟩ := showC_wait fm k (showsC fm k d t).1 (showsC fm k d t).2
    exact ⟨c.trans a, e.trans b⟩
theorem enterS_sd {fm : Fm} {r : Ru} {q : Str × Fd} {w : Str} {d : Sd} (s : SdW fm d) (hw : w ∈ fm.words) (t : List Ev) : SdW fm (enterS fm r q w d t).1 ∧ (enterS fm r q w d t).1.wait = false := by
  have s1 : SdW fm (enter1 fm q w d t).1 := (s.word (fIx fm q.1) hw).endw _
  have w1 : (enter1 fm q w d t).1.wait = false := endV_wait _ _
  have s2 : SdW fm (enter2 fm r q (enter1 fm q w d t)).1 ∧ (enter2 fm r q (enter1 fm q w d t)).1.wait = false := by
    unfold enter2
    split
    · exact ⟨s1.show _ _, (showC_wait _ _ _ _).1.trans w1⟩
    · exact ⟨s1, w1⟩
  exact ⟨s2.1.wipe _ _ _ _, (wipeC_wait _ _ _ _ _).trans s2.2⟩
theorem leaveS_sd {fm : Fm} {r : Ru} {q : Str × Fd} {d : Sd} (s : SdW fm d) (t : List Ev) : SdW fm (leaveS fm r q d t).1 ∧ (leaveS fm r q d t).1.wait = d.wait ∧ (leaveS fm r q d t).1.quest = d.quest := by
  unfold leaveS
  split
  · exact ⟨s, rfl, rfl⟩
  · exact ⟨s.show _ _, (showC_wait _ _ _ _).1, (showC_wait _ _ _ _).2⟩
theorem take_sd {fm : Fm} (o : FmOk fm) {r : Ru} {q : Str × Fd} {w : Str} {nw : Bool} {d : Sd} (hp : q ∈ fm.fields) (hf : q.2.far.isSome = true) (hw : w ∈ fm.words) (s : SdW fm d) : SdW fm (takeC fm r q w nw d) ∧ (takeC fm r q w nw d).wait = d.wait ∧ (takeC fm r q w nw d).quest = d.quest := by
  unfold takeC
  split
  · have k := s.known o hp (k := some (w, farV fm q w)) fun w' e' e => by cases e; exact ⟨hf, hw, rfl⟩
    refine ⟨?_, rfl, rfl⟩
    unfold takeMess
    split
    · exact k.mess (fIx fm q.1) fun s hs => farV_nm o hp hs
    · exact k
  · exact ⟨s, rfl, rfl⟩
theorem rest_sd {fm : Fm} {snd : Str} {d : Sd} (s : SdW fm d) (hw : d.wait = true → snd = "wait") (t : List Ev) : SdOk fm snd (restC d t).1 := by
  unfold restC
  split
  · exact (s.wait false).ok fun z => by cases z
  · rename_i hn
    refine s.ok fun z => ⟨hw z, fun q => hn ⟨z, q⟩⟩
theorem quest_at {fm : Fm} {d : Sd} (o : FmOk fm) (s : SdW fm d) {i : Nat} {m w : Str} {nw : Bool} (e : d.quest[i]? = some (m, w, nw)) : ∃ q ∈ fm.fields, q.2.far.isSome = true ∧ q.1 = m ∧ w ∈ fm.words ∧ fdAt fm (.str m) = some q := by
  obtain ⟨hm, hw⟩ := s.qn _ (List.mem_of_getElem? e)
  obtain ⟨q, hp, hf, rfl⟩ := far_mem hm
  exact ⟨q, hp, hf, rfl, hw, fdAt_some o hp⟩
theorem step_ok {fm : Fm} (o : FmOk fm) {r : Ru} {d d' : Sd} {D : Dd} {t' : List Ev} (s : SdOk fm r.sending d) (k : DdOk fm D) (e : stepC fm r D d = .ok d' t') : SdOk fm r.sending d' := by
  cases D with
  | enter q w =>
    obtain ⟨hp, hw⟩ := k
    have e : enterC fm r q w d [] = .ok d' t' := e
    unfold enterC at e
    obtain ⟨s1, w1⟩ := enterS_sd (r := r) (q := q) s.w hw []
    split at e
    · cases e; exact s
    · split at e
      · obtain ⟨s2, kp⟩ := around_kept o hp s1 e
        exact s2.ok fun z => by rw [kp.wt, w1] at z; cases z
      · cases e
        exact s1.ok fun z => by rw [w1] at z; cases z
  | leave q =>
    have e : leaveC fm r q d [] = .ok d' t' := e
    obtain ⟨s1, w1, q1⟩ := leaveS_sd (r := r) (q := q) s.w []
    obtain ⟨s2, kp⟩ := around_kept o k s1 e
    refine s2.ok fun z => ?_
    rw [kp.wt, w1] at z
    refine ⟨(s.wt z).1, fun q0 => (s.wt z).2 ?_⟩
    have := kp.ql
    rw [q0, q1] at this
    exact List.length_eq_zero_iff.mp (by simpa using this)
  | send =>
    have e : sendC fm r d [] = .ok d' t' := e
    unfold sendC at e
    split at e
    · cases e; exact s
    · rename_i hw
      cases hc : checksC fm fm.fields (showsC fm fm.fields.length d []).1 (showsC fm fm.fields.length d []).2 with
      | many m => rw [hc] at e; cases e
      | ok d2 t2 =>
        rw [hc] at e
        obtain ⟨s2, kp⟩ := checks_kept o (fun q hq => hq) (s.w.shows [] fm.fields.length) hc
        have w2 : d2.wait = false := by
          rw [kp.wt, (showsC_wait fm d [] fm.fields.length).1]
          simpa using hw
        have e : Rz.ok (endSend r d2 t2).1 (endSend r d2 t2).2 = .ok d' t' := e
        injection e with e1 e2
        rw [← e1]
        unfold endSend
        split
        · exact s2.ok fun z => by rw [w2] at z; cases z
        · split
          · exact s2.ok fun z => by rw [w2] at z; cases z
          · rename_i h1
            split
            · rename_i h3
              exact (s2.wait true).ok fun _ => ⟨h3, fun z => h1 (.inl z)⟩
            · exact s2.ok fun z => by rw [w2] at z; cases z
  | answer i =>
    have e : Rz.of (answerC fm r i d []) = .ok d' t' := e
    unfold Rz.of at e
    injection e with e1 e2
    rw [← e1]
    unfold answerC
    cases hq : d.quest[i]? with
    | none => exact s
    | some x =>
      obtain ⟨m, w, nw⟩ := x
      obtain ⟨q, hp, hf, rfl, hw, ef⟩ := quest_at o s.w hq
      simp only [ef]
      have s1 : SdW fm { d with quest := d.quest.eraseIdx i } := { s.w with ql := (show ((d.quest.eraseIdx i).length : Int) ≤ fm.room by have := List.length_eraseIdx_le d.quest i; have := s.ql; omega), qn := fun u hu => s.qn u (List.mem_of_mem_eraseIdx hu) }
      obtain ⟨s2, w2, q2⟩ := take_sd o (r := r) (nw := nw) hp hf hw s1
      unfold answerP
      exact rest_sd s2 (fun z => by rw [w2] at z; exact (s.wt z).1) _
  | reset =>
    have e : Rz.of (resetV fm d []) = .ok d' t' := e
    unfold Rz.of at e
    injection e with e1 e2
    rw [← e1]
    refine SdW.ok ?_ fun z => by
      have : (resetV fm d []).1.wait = false := endV_wait _ _
      rw [this] at z; cases z
    refine SdW.endw ?_ _
    refine ⟨⟨firsts_len fm, fun s hs => ?_⟩, by simp, by simp, fun s hs => ?_, s.kl, s.kn, s.ql, s.qn⟩
    · obtain ⟨p, hp, rfl⟩ := List.mem_map.mp hs
      exact (o.fs p hp).first
    · exact absurd hs (by simp)
def EvOk (fm : Fm) : Ev → Prop
  | .entered n w => n ∈ fm.names ∧ w ∈ fm.words
  | .dropped => True
  | .opened n => n ∈ fm.names
  | .wiped n => n ∈ fm.names
  | .checked n e => n ∈ fm.names ∧ ∀ s, e = some s → Nm s
  | .asked n w => n ∈ farNames fm ∧ w ∈ fm.words
  | .answered n w e _ => ∃ q ∈ fm.fields, q.2.far.isSome = true ∧ n = q.1 ∧ w ∈ fm.words ∧ e = farV fm q w
  | .sent ws => WsOk fm ws
  | .waits => True
  | .held => True
  | .reset => True
abbrev EvsOk (fm : Fm) (t : List Ev) : Prop := ∀ e ∈ t, EvOk fm e
theorem EvsOk.snoc {fm : Fm} {t : List Ev} (h : EvsOk fm t) {e : Ev} (he : EvOk fm e) : EvsOk fm (t ++ [e]) := fun x hx => by
  rcases List.mem_append.mp hx with z | z
  · exact h x z
  · simp at z; rw [z]; exact he
theorem EvsOk.nil {fm : Fm} : EvsOk fm [] := fun x hx => by cases hx
theorem ask_evs {fm : Fm} {n w : Str} {d d' : Sd} {t t' : List Ev} (hn : n ∈ farNames fm) (hw : w ∈ fm.words) (h : EvsOk fm t) (e : askC fm n w d t = .ok d' t') : EvsOk fm t' := by
  unfold askC at e
  split at e
  · cases e; exact h
  · split at e
    · cases e
    · cases e; exact h.snoc ⟨hn, hw⟩
theorem check_evs {fm : Fm} (o : FmOk fm) {p : Str × Fd} (hp : p ∈ fm.fields) {d d' : Sd} {t t' : List Ev} (s : SdW fm d) (h : EvsOk fm t) (e : checkC fm p d t = .ok d' t') : EvsOk fm t' := by
  have h1 : EvsOk fm (t ++ [.checked p.1 (entryC fm p d).1]) := h.snoc ⟨mem_names hp, fun _ z => entry_nm o s hp z⟩
  unfold checkC at e
  split at e
  · rename_i ha
    exact ask_evs (far_names hp (entry_asks ha)) (s.ws.at (mem_names hp)).2 h1 e
  · cases e; exact h1
theorem checks_evs {fm : Fm} (o : FmOk fm) : ∀ {ps : List (Str × Fd)} {d d' : Sd} {t t' : List Ev}, (∀ p ∈ ps, p ∈ fm.fields) → SdW fm d → EvsOk fm t → checksC fm ps d t = .ok d' t' → EvsOk fm t'
  | [], d, d', t, t', _, s, h, e => by cases e; exact h
  | p :: ps, d, d', t, t', hp, s, h, e => by
    unfold checksC at e
    cases h1 : checkC fm p d t with
    | many n => rw [h1] at e; cases e
    | ok d1 t1 =>
      rw [h1] at e
      exact checks_evs o (fun q hq => hp q (.tail _ hq)) (check_kept o (hp p (.head _)) s h1).1 (check_evs o (hp p (.head _)) s h h1) e
theorem endV_evs {fm : Fm} {d : Sd} {t : List Ev} (h : EvsOk fm t) : EvsOk fm (endV d t).2 := by
  unfold endV
  split
  · exact h.snoc trivial
  · exact h
theorem showC_evs {fm : Fm} {i : Nat} (hi : i < fm.fields.length) {d : Sd} {t : List Ev} (h : EvsOk fm t) : EvsOk fm (showC fm i d t).2 := by
  unfold showC
  split
  · refine h.snoc ?_
    show W3.nameAt fm i ∈ fm.names
    have : i < fm.names.length := by simp [Fm.names, hi]
    simp [W3.nameAt, this]
  · exact h
theorem showsC_evs {fm : Fm} {d : Sd} {t : List Ev} (h : EvsOk fm t) : ∀ k, k ≤ fm.fields.length → EvsOk fm (showsC fm k d t).2
  | 0, _ => h
  | k + 1, hk => showC_evs (by omega) (showsC_evs h k (by omega))
theorem wipeC_evs {fm : Fm} {r : Ru} {n : Str} {i : Nat} {d : Sd} {t : List Ev} (hn : n ∈ fm.names) (h : EvsOk fm t) : EvsOk fm (wipeC r n i d t).2 := by
  unfold wipeC
  split
  · exact h.snoc hn
  · exact h
theorem enterS_evs {fm : Fm} {r : Ru} {q : Str × Fd} {w : Str} {d : Sd} {t : List Ev} (hp : q ∈ fm.fields) (hw : w ∈ fm.words) (h : EvsOk fm t) : EvsOk fm (enterS fm r q w d t).2 := by
  unfold enterS
  refine wipeC_evs (mem_names hp) ?_
  have h1 : EvsOk fm (enter1 fm q w d t).2 := endV_evs (h.snoc ⟨mem_names hp, hw⟩)
  unfold enter2
  split
  · exact showC_evs (fIx_lt hp) h1
  · exact h1
theorem leaveS_evs {fm : Fm} {r : Ru} {q : Str × Fd} {d : Sd} {t : List Ev} (hp : q ∈ fm.fields) (h : EvsOk fm t) : EvsOk fm (leaveS fm r q d t).2 := by
  unfold leaveS
  split
  · exact h
  · exact showC_evs (fIx_lt hp) h
theorem rest_evs {fm : Fm} {d : Sd} {t : List Ev} (w : WsOk fm d.words) (h : EvsOk fm t) : EvsOk fm (restC d t).2 ∧ (restC d t).2.length ≤ t.length + 1 := by
  unfold restC
  split
  · refine ⟨h.snoc ?_, by simp⟩
    split
    · trivial
    · exact w
  · exact ⟨h, by simp⟩
theorem endSend_evs {fm : Fm} {r : Ru} {d : Sd} {t : List Ev} (w : WsOk fm d.words) (h : EvsOk fm t) : EvsOk fm (endSend r d t).2 ∧ (endSend r d t).2.length = t.length + 1 := by
  unfold endSend
  split
  · exact ⟨h.snoc trivial, by simp⟩
  · split
    · exact ⟨h.snoc w, by simp⟩
    · split
      · exact ⟨h.snoc trivial, by simp⟩
      · exact ⟨h.snoc trivial, by simp⟩
theorem step_evs {fm : Fm} (o : FmOk fm) {r : Ru} {d d' : Sd} {D : Dd} {t' : List Ev} (s : SdOk fm r.sending d) (k : DdOk fm D) (e : stepC fm r D d = .ok d' t') : EvsOk fm t' ∧ t'.length ≤ 20 := by
  have f3 := o.f3
  cases D with
  | enter q w =>
    obtain ⟨hp, hw⟩ := k
    have e : enterC fm r q w d [] = .ok d' t' := e
    unfold enterC at e
    have l1 := enterS_len fm r q w d []
    have h1 := enterS_evs (r := r) (d := d) hp hw (EvsOk.nil (fm := fm))
    obtain ⟨s1, w1⟩ := enterS_sd (r := r) (q := q) s.w hw []
    split at e
    · cases e; exact ⟨.nil, by simp⟩
    · split at e
      · have tl := (around_kept o hp s1 e).2.tl
        simp at l1
        exact ⟨checks_evs o (around_mem hp).1 s1 h1 e, by omega⟩
      · cases e
        simp at l1
        exact ⟨h1, by omega⟩
  | leave q =>
    have e : leaveC fm r q d [] = .ok d' t' := e
    have l1 := leaveS_len fm r q d []
    simp at l1
    obtain ⟨s1, w1, q1⟩ := leaveS_sd (r := r) (q := q) s.w []
    have tl := (around_kept o k s1 e).2.tl
    exact ⟨checks_evs o (around_mem k).1 s1 (leaveS_evs k .nil) e, by omega⟩
  | send =>
    have e : sendC fm r d [] = .ok d' t' := e
    unfold sendC at e
    split at e
    · cases e; exact ⟨.nil, by simp⟩
    · cases hc : checksC fm fm.fields (showsC fm fm.fields.length d []).1 (showsC fm fm.fields.length d []).2 with
      | many m => rw [hc] at e; cases e
      | ok d2 t2 =>
        rw [hc] at e
        obtain ⟨s2, kp⟩ := checks_kept o (fun q hq => hq) (s.w.shows [] fm.fields.length) hc
        have e : Rz.ok (endSend r d2 t2).1 (endSend r d2 t2).2 = .ok d' t' := e
        injection e with e1 e2
        rw [← e2]
        have h2 := checks_evs o (fun q hq => hq) (s.w.shows [] fm.fields.length) (showsC_evs .nil _ (Nat.le_refl _)) hc
        obtain ⟨h3, l3⟩ := endSend_evs (r := r) s2.ws h2
        have l1 := showsC_len fm d [] fm.fields.length
        have tl := kp.tl
        simp at l1
        exact ⟨h3, by omega⟩
  | answer i =>
    have e : Rz.of (answerC fm r i d []) = .ok d' t' := e
    unfold Rz.of at e
    injection e with e1 e2
    rw [← e2]
    unfold answerC
    cases hq : d.quest[i]? with
    | none => exact ⟨.nil, by simp⟩
    | some x =>
      obtain ⟨m, w, nw⟩ := x
      obtain ⟨q, hp, hf, rfl, hw, ef⟩ := quest_at o s.w hq
      simp only [ef]
      unfold answerP
      have ww : WsOk fm (takeC fm r q w nw { d with quest := d.quest.eraseIdx i }).words := by
        unfold takeC
        split
        · exact s.ws
        · exact s.ws
      obtain ⟨h1, l1⟩ := rest_evs (t := [] ++ [.answered q.1 w (farV fm q w) (takenC fm r q w nw { d with quest := d.quest.eraseIdx i })]) ww (EvsOk.nil.snoc (show EvOk fm (.answered q.1 w (farV fm q w) (takenC fm r q w nw { d with quest := d.quest.eraseIdx i })) from ⟨q, hp, hf, rfl, hw, rfl⟩))
      exact ⟨h1, by simp at l1 ⊢; omega⟩
  | reset =>
    have e : Rz.of (resetV fm d []) = .ok d' t' := e
    unfold Rz.of at e
    injection e with e1 e2
    rw [← e2]
    unfold resetV
    refine ⟨endV_evs (EvsOk.nil.snoc trivial), Nat.le_trans (endV_len _ _) (by simp)⟩
theorem flat_ent (x : Ent) : flatT (tE x) = true := by cases x <;> rfl
theorem pure_ev {fm : Fm} (o : FmOk fm) {e : Ev} (h : EvOk fm e) : PureT 2 e.t := by
  have f3 := o.f3
  cases e with
  | sent ws =>
    refine PureT.tup (by simp) fun t ht => ?_
    simp at ht
    rcases ht with rfl | rfl
    · exact .inl rfl
    · refine pure_strs (fun t ht => by obtain ⟨s, _, rfl⟩ := List.mem_map.mp ht; rfl) ?_
      rw [List.length_map, (show WsOk fm ws from h).len]; omega
  | checked n e => exact pure_strs (n := 1) (fun t ht => by simp at ht; rcases ht with rfl | rfl | rfl <;> first | rfl | exact flat_ent _) (by simp)
  | answered n w e k => exact pure_strs (n := 1) (fun t ht => by simp at ht; rcases ht with rfl | rfl | rfl | rfl | rfl <;> first | rfl | exact flat_ent _) (by simp)
  | _ => exact pure_strs (n := 1) (fun t ht => by simp at ht; rcases ht with rfl | rfl | rfl <;> rfl) (by simp)
theorem pure_evs {fm : Fm} (o : FmOk fm) {t : List Ev} (h : EvsOk fm t) (hl : t.length ≤ 100) : PureT 3 (.tup (tEs t)) :=
  PureT.tup (by rw [List.length_map]; omega) fun x hx => by
    obtain ⟨e, he, rfl⟩ := List.mem_map.mp hx
    exact pure_ev o (h e he)
theorem pure_sd {fm : Fm} (o : FmOk fm) {d : Sd} (s : SdW fm d) : PureT 4 d.t := by
  have f3 := o.f3
  have ql := s.ql; have r3 := o.r3
  refine PureT.tup (by simp) fun t ht => ?_
  simp only [List.mem_cons, List.not_mem_nil, or_false] at ht
  rcases ht with rfl | rfl | rfl | rfl | rfl | rfl
  · exact pure_strs (fun t ht => by obtain ⟨s, _, rfl⟩ := List.mem_map.mp ht; rfl) (by rw [List.length_map, s.ws.len]; omega)
  · exact pure_strs (fun t ht => by obtain ⟨s, _, rfl⟩ := List.mem_map.mp ht; rfl) (by rw [List.length_map, s.sl]; omega)
  · exact pure_strs (fun t ht => by obtain ⟨s, _, rfl⟩ := List.mem_map.mp ht; exact flat_ent _) (by rw [List.length_map, s.ml]; omega)
  · refine PureT.tup (by rw [List.length_map, s.kl]; omega) fun t ht => ?_
    obtain ⟨k, _, rfl⟩ := List.mem_map.mp ht
    rcases k with _ | ⟨w, e⟩
    · exact .inl rfl
    · exact pure_strs (fun t ht => by simp at ht; rcases ht with rfl | rfl; rfl; exact flat_ent _) (by simp)
  · refine PureT.tup (by rw [List.length_map]; omega) fun t ht => ?_
    obtain ⟨k, _, rfl⟩ := List.mem_map.mp ht
    exact pure_strs (fun t ht => by simp at ht; rcases ht with rfl | rfl | rfl <;> rfl) (by simp)
  · exact .inl rfl
theorem pure_dd {fm : Fm} {D : Dd} (k : DdOk fm D) : PureT 1 D.t := wholeL_pure (dd_mem k)
end W3
end

section
namespace W3
open PySem
structure Made (h : Hh) (l ln ar lf : Nat) (fm : Fm) (r : Ru) : Prop where
  o : FmOk fm
  ro : RuOk r
  bx : IsBox h l
  nm : lstAt h ln = some (tSs fm.names)
  ra : RuleAt h ar r
  fa : FormAt h lf fm
  nl : ln ≠ l
  al : ar ≠ l
  fl : lf ≠ l
theorem Made.up {h h' : Hh} {l ln ar lf : Nat} {fm : Fm} {r : Ru} (m : Made h l ln ar lf fm r) (u : Up l h h') : Made h' l ln ar lf fm r :=
  ⟨m.o, m.ro, u.box, u.lst m.nm m.nl, m.ra.upK u m.al, m.fa.upK u m.fl, m.nl, m.al, m.fl⟩
theorem Made.app {h : Hh} {l ln ar lf : Nat} {fm : Fm} {r : Ru} (m : Made h l ln ar lf fm r) (o : Hh) : Made (h ++ o) l ln ar lf fm r := m.up (Up.app m.bx o)
theorem Made.nlt {h : Hh} {l ln ar lf : Nat} {fm : Fm} {r : Ru} (m : Made h l ln ar lf fm r) : ln < h.length := lstAt_lt m.nm
theorem Made.kp {h h' : Hh} {l ln ar lf n : Nat} {fm : Fm} {r : Ru} (m : Made h l ln ar lf fm r) (u : Kp l n h h') (hn : h.length ≤ n) : Made h' l ln ar lf fm r := by
  refine ⟨m.o, m.ro, u.box, u.lst m.nm (by have := m.nlt; omega) m.nl, ?_, ?_, m.nl, m.al, m.fl⟩
  · unfold RuleAt
    rw [u.keep ar (by have := m.ra.lt; omega) m.al]
    exact m.ra
  · unfold FormAt
    rw [u.keep lf (by have := m.fa.lt; omega) m.fl]
    exact m.fa
end W3
end

section
namespace W3
open PySem
def dE : Ent → PyData | none => .none | some s => .str s
theorem toD_ent (h : Hh) (n : Nat) (e : Ent) : toD h (n + 1) (tE e) = some (dE e) := by cases e <;> rfl
theorem eq_nil {h : Hh} {x y : Nat} {es : List Ent} (ex : lstAt h x = some (es.map tE)) (ey : lstAt h y = some []) : oEq (.ref x) (.ref y) h = .ok (.bl es.isEmpty) h := by
  have e1 : toD h 24 (.ref x) = some (.list (es.map dE)) := by rw [toD_lst ex, optL_map (toD_ent h 22)]; rfl
  have e2 : toD h 24 (.ref y) = some (.list []) := by rw [toD_lst ey]; rfl
  unfold oEq
  rw [e1, e2]
  cases es with
  | nil =>
    have : PyData.eqv (.list []) (.list []) = true := by rw [PyData.eqv]; simp only [PyData.eqvAll]
    simp only [List.map_nil, this]
    rfl
  | cons a r =>
    have : PyData.eqv (.list ((a :: r).map dE)) (.list []) = false := by rw [List.map_cons, PyData.eqv]; simp only [PyData.eqvAll]
    simp only [this]
    rfl
end W3
end

section
namespace W3
open PySem
def Ev.w : Ev → Str
  | .entered _ _ => "entered"
  | .dropped => "dropped"
  | .opened _ => "opened"
  | .wiped _ => "wiped"
  | .checked _ _ => "checked"
  | .asked _ _ => "asked"
  | .answered _ _ _ _ => "answered"
  | .sent _ => "sent"
  | .waits => "waits"
  | .held => "held"
  | .reset => "reset"
def Ev.args : Ev → List T
  | .entered n w => [.str n, .str w]
  | .dropped => []
  | .opened n => [.str n]
  | .wiped n => [.str n]
  | .checked n e => [.str n, tE e]
  | .asked n w => [.str n, .str w]
  | .answered n w e k => [.str n, .str w, tE e, .bl k]
  | .sent ws => [.tup (tSs ws)]
  | .waits => []
  | .held => []
  | .reset => []
def is_sent : Ev → Bool | .sent _ => true | _ => false
end W3
end

section
namespace W3
open PySem
def topT (p : Pl) (b : Bool) : List T := [.ref p.w, .ref p.s, .ref p.m, .ref p.k, .ref p.q, .bl b]
structure LSt (n : Nat) (h : Hh) (ls : Nat) (p : Pl) (d : Sd) : Prop where
  top : lstAt h ls = some (topT p d.wait)
  ww : lstAt h p.w = some (tSs d.words)
  ss : lstAt h p.s = some (d.shown.map T.bl)
  mm : lstAt h p.m = some (d.mess.map tE)
  kk : lstAt h p.k = some (d.known.map tK)
  qq : lstAt h p.q = some (d.quest.map tQ)
  nd : (ls ≠ p.w ∧ ls ≠ p.s ∧ ls ≠ p.m ∧ ls ≠ p.k ∧ ls ≠ p.q) ∧ (p.w ≠ p.s ∧ p.w ≠ p.m ∧ p.w ≠ p.k ∧ p.w ≠ p.q) ∧ (p.s ≠ p.m ∧ p.s ≠ p.k ∧ p.s ≠ p.q) ∧ (p.m ≠ p.k ∧ p.m ≠ p.q) ∧ p.k ≠ p.q
  lo : n ≤ ls ∧ n ≤ p.w ∧ n ≤ p.s ∧ n ≤ p.m ∧ n ≤ p.k ∧ n ≤ p.q
section
variable {n : Nat} {h : Hh} {ls : Nat} {p : Pl} {d : Sd}
theorem LSt.llt (c : LSt n h ls p d) : ls < h.length := lstAt_lt c.top
theorem LSt.nl (c : LSt n h ls p d) : n ≤ h.length := Nat.le_of_lt (Nat.lt_of_le_of_lt c.lo.1 c.llt)
theorem LSt.app (c : LSt n h ls p d) (o : Hh) : LSt n (h ++ o) ls p d := ⟨lstAt_app o c.top, lstAt_app o c.ww, lstAt_app o c.ss, lstAt_app o c.mm, lstAt_app o c.kk, lstAt_app o c.qq, c.nd, c.lo⟩
theorem LSt.lts (c : LSt n h ls p d) : p.w < h.length ∧ p.s < h.length ∧ p.m < h.length ∧ p.k < h.length ∧ p.q < h.length := ⟨lstAt_lt c.ww, lstAt_lt c.ss, lstAt_lt c.mm, lstAt_lt c.kk, lstAt_lt c.qq⟩
theorem LSt.wait (c : LSt n h ls p d) (b : Bool) : LSt n (h.set ls (.lst (topT p b))) ls p { d with wait := b } := by
  obtain ⟨⟨nlw, nls, nlm, nlk, nlq⟩, _⟩ := c.nd
  exact ⟨lstAt_set_self c.llt, by rw [lstAt_set_ne nlw]; exact c.ww, by rw [lstAt_set_ne nls]; exact c.ss, by rw [lstAt_set_ne nlm]; exact c.mm, by rw [lstAt_set_ne nlk]; exact c.kk, by rw [lstAt_set_ne nlq]; exact c.qq, c.nd, c.lo⟩
end
end W3
end

section
namespace W3
open PySem
section
variable {fm : Fm} {r : Ru} {k : Nat} {s : Sd}
end
structure RpOk (fm : Fm) (s : Sd) : Prop where
  ws : WsOk fm s.words
  sl : s.shown.length = fm.fields.length
  ml : s.mess.length = fm.fields.length
  kl : s.known.length = fm.fields.length
  ql : s.quest.length ≤ 100
end W3
end

section
namespace W3
open PySem
def nearRows : Nr → List (List Ent) | .alone r => [r] | .looks _ rs => rs
def farRows : Option (List Ent) → List (List Ent) | none => [] | some r => [r]
def rowsOf (f : Fd) : List (List Ent) := nearRows f.nr ++ farRows f.far
def notesOf (f : Fd) : List Str := (rowsOf f).flatMap fun r => r.filterMap id
def MessOk (fm : Fm) (sh : List Bool) (ms : List Ent) : Prop := ∀ (i : Nat) (q : Str × Fd) (s : Str), fm.fields[i]? = some q → ms[i]? = some (some s) → sh[i]? = some true ∧ s ∈ notesOf q.2
def QuestOk (qs : List Qn) : Prop := qs.Pairwise fun a b => a.1 = b.1 → a.2.2 = false
structure Rc (fm : Fm) (d : Sd) : Prop where
  m : MessOk fm d.shown d.mess
  q : QuestOk d.quest
theorem MessOk.set {fm : Fm} (o : FmOk fm) {sh : List Bool} {ms : List Ent} (h : MessOk fm sh ms) {p : Str × Fd} (hp : p ∈ fm.fields) {e : Ent} (he : ∀ s, e = some s → sh[fIx fm p.1]? = some true ∧ s ∈ notesOf p.2) : MessOk fm sh (ms.set (fIx fm p.1) e) := by
  intro i q s hi hm
  by_cases c : fIx fm p.1 = i
  · subst c
    have ef := fIx_get o hp
    rw [ef] at hi
    cases hi
    by_cases hl : fIx fm p.1 < ms.length
    · rw [List.getElem?_set_self hl] at hm
      injection hm with hm
      exact he s hm
    · rw [List.getElem?_eq_none (by rw [List.length_set]; omega)] at hm
      cases hm
  · rw [List.getElem?_set_ne c] at hm
    exact h i q s hi hm
theorem MessOk.show {fm : Fm} {sh : List Bool} {ms : List Ent} (h : MessOk fm sh ms) (j : Nat) : MessOk fm (sh.set j true) ms := by
  intro i q s hi hm
  obtain ⟨h1, h2⟩ := h i q s hi hm
  refine ⟨?_, h2⟩
  by_cases c : j = i
  · subst c
    rw [List.getElem?_set_self (List.getElem?_eq_some_iff.mp h1).1]
  · rw [List.getElem?_set_ne c]; exact h1
end W3
end

section
namespace W3
open PySem
structure Began (h : Hh) (l ln : Nat) (fm : Fm) : Prop where
  o : FmOk fm
  bx : IsBox h l
  nm : lstAt h ln = some (tSs fm.names)
  nl : ln ≠ l
theorem Began.up {h h' : Hh} {l ln : Nat} {fm : Fm} (m : Began h l ln fm) (u : Up l h h') : Began h' l ln fm := ⟨m.o, u.box, u.lst m.nm m.nl, m.nl⟩
theorem Began.app {h : Hh} {l ln : Nat} {fm : Fm} (m : Began h l ln fm) (o : Hh) : Began (h ++ o) l ln fm := m.up (Up.app m.bx o)
end W3
end

section
namespace W3
open PySem
def Rz.pre (t : List Ev) : Rz → Rz | .ok d u => .ok d (t ++ u) | .many n => .many n
def notWiped : Ev → Bool | .wiped _ => false | _ => true
def Rz.Lk : Rz → Rz → Prop
  | .ok d t, .ok d' t' => d = d' ∧ t.filter notWiped = t'.filter notWiped
  | .many n, .many m => n = m
  | _, _ => False
theorem Rz.Lk.refl (x : Rz) : x.Lk x := by cases x <;> simp [Rz.Lk]
theorem Lk.pre {x : Rz} {t u : List Ev} (h : t.filter notWiped = u.filter notWiped) : (x.pre t).Lk (x.pre u) := by
  cases x with
  | ok d v => simp [Rz.pre, Rz.Lk, h]
  | many n => simp [Rz.pre, Rz.Lk]
end W3
end

section
namespace W3
open PySem
def six (r : Ru) : List T := [.str r.opens, .str r.checks, r.around.t, .bl r.wipes, .str r.taken, .str r.sending]
def strT : T → Str | .str s => s | _ => ⟨#[]⟩
def blT : T → Bool | .bl b => b | _ => false
def aroT : T → Aro | .tup ts => .pairs (sortP (ts.map prOf)) | .str s => .word s | _ => .word ⟨#[]⟩
def s6 (p k : Str) (v x : T) : T := if p = k then v else x
def putR (p : Str) (v : T) (r : Ru) : Ru := { opens := if p = "opens" then strT v else r.opens, checks := if p = "checks" then strT v else r.checks, around := if p = "around" then aroT v else r.around, wipes := if p = "wipes" then blT v else r.wipes, taken := if p = "taken" then strT v else r.taken, sending := if p = "sending" then strT v else r.sending }
theorem fit_wipes (b : Bool) : fitsB "wipes" (.bl b) = true := by
  unfold fitsB
  rw [if_pos rfl]
  rfl
structure Chg (p : Str) (v : T) (r : Ru) (h : Hh) : Prop where
  ok : RuOk (putR p v r)
  ne : ruleErr PARTSL [s6 p "opens" v (.str r.opens), s6 p "checks" v (.str r.checks), s6 p "around" v r.around.t, s6 p "wipes" v (.bl r.wipes), s6 p "taken" v (.str r.taken), s6 p "sending" v (.str r.sending)] = none
  ins : ruleIns (s6 p "opens" v (.str r.opens)) (s6 p "checks" v (.str r.checks)) (s6 p "around" v r.around.t) (s6 p "wipes" v (.bl r.wipes)) (s6 p "taken" v (.str r.taken)) (s6 p "sending" v (.str r.sending)) = (putR p v r).ins
  j : ∀ x ∈ [s6 p "opens" v (.str r.opens), s6 p "checks" v (.str r.checks), s6 p "around" v r.around.t, s6 p "wipes" v (.bl r.wipes), s6 p "taken" v (.str r.taken), s6 p "sending" v (.str r.sending)], JdN 2 x h ∧ shortT x
def takesB (p v : T) : Bool := match p with | .str s => decide (s ∈ PARTSL) && fitsB s v | _ => false
def putP (p v : T) (r : Ru) : Ru := match p with | .str s => putR s v r | _ => r
def WithPW (f : Fn) : Prop := ∀ {h : Hh} {a : Nat} {r : Ru} {p v : T} {Q : T → Hh → Prop} {E : EQ}, RuleAt h a r → RuOk r → Jd p h → JdN 2 v h → shortT v → (takesB p v = true → RuOk (putP p v r) → ∀ b z, h.length ≤ b → RuleAt (h ++ z) b (putP p v r) → Q (.ref b) (h ++ z)) →
  (takesB p v = false → E "InvalidRule" [("part", p)] h) → (f [.ref a, p, v] h).wp Q E
theorem WithPW.good {f : Fn} (W : WithPW f) {h : Hh} {a : Nat} {r : Ru} {p : Str} {v : T} {Q : T → Hh → Prop} {E : EQ} (ra : RuleAt h a r) (o : RuOk r) (hp : p ∈ PARTSL) (hf : fitsB p v = true) (jv : JdN 2 v h) (sv : shortT v)
    (hq : ∀ b z, h.length ≤ b → RuOk (putR p v r) → RuleAt (h ++ z) b (putR p v r) → Q (.ref b) (h ++ z)) : (f [.ref a, .str p, v] h).wp Q E := by
  have pl : ∀ x ∈ PARTSL, x.length ≤ 1000 := by decide +kernel
  have ht : takesB (.str p) v = true := by simp only [takesB, hf, decide_eq_true hp, Bool.and_self]
  refine W ra o (show Jd (.str p) h from pl p hp) jv sv (fun _ o' b z bl ra' => hq b z bl o' ra') (fun hn => ?_)
  rw [ht] at hn
  cases hn
theorem WithPW.word {f : Fn} (W : WithPW f) {h : Hh} {a : Nat} {r : Ru} {p s : Str} {Q : T → Hh → Prop} {E : EQ} (ra : RuleAt h a r) (o : RuOk r) (hp : p ∈ PARTSL) (hf : fitsB p (.str s) = true) (hs : s.length ≤ 1000)
    (hq : ∀ b z, h.length ≤ b → RuOk (putR p (.str s) r) → RuleAt (h ++ z) b (putR p (.str s) r) → Q (.ref b) (h ++ z)) : (f [.ref a, .str p, .str s] h).wp Q E :=
  W.good ra o hp hf (jdN_str hs) (fun ts e => by cases e) hq
theorem WithPW.bool {f : Fn} (W : WithPW f) {h : Hh} {a : Nat} {r : Ru} {b : Bool} {Q : T → Hh → Prop} {E : EQ} (ra : RuleAt h a r) (o : RuOk r)
    (hq : ∀ x z, h.length ≤ x → RuOk { r with wipes := b } → RuleAt (h ++ z) x { r with wipes := b } → Q (.ref x) (h ++ z)) : (f [.ref a, .str "wipes", .bl b] h).wp Q E := by
  have e : putR "wipes" (.bl b) r = { r with wipes := b } := by kernel_rfl
  exact W.good ra o (by decide +kernel) (fit_wipes b) jdN_bl (fun ts e => by cases e) fun x z hx o' ra' => by rw [e] at o' ra'; exact hq x z hx o' ra'
theorem WithPW.pairs {f : Fn} (W : WithPW f) {h : Hh} {a : Nat} {r : Ru} {ps : Prs} {Q : T → Hh → Prop} {E : EQ} (ra : RuleAt h a r) (o : RuOk r) (po : PrsOk ps) (hl : ps.length < 64)
    (hq : ∀ x z, h.length ≤ x → RuOk { r with around := .pairs (sortP ps) } → RuleAt (h ++ z) x { r with around := .pairs (sortP ps) } → Q (.ref x) (h ++ z)) : (f [.ref a, .str "around", .tup (ps.map tPr)] h).wp Q E := by
  have e0 : putR "around" (.tup (ps.map tPr)) r = { r with around := aroT (.tup (ps.map tPr)) } := by kernel_rfl
  have e : putR "around" (.tup (ps.map tPr)) r = { r with around := .pairs (sortP ps) } := by
    rw [e0]
    simp only [aroT, prOf_tPr]
  have ml : MEN.lookup ("around" : Str) = some (["own", "looks"] : List Str) := by decide +kernel
  have hf : fitsB "around" (.tup (ps.map tPr)) = true := by
    unfold fitsB
    rw [if_neg (by decide +kernel), ml, pairsB_prs po]
    simp
  have nm : ∀ p ∈ ps, p.1.length ≤ 1000 ∧ p.2.length ≤ 1000 := fun p hp => ⟨Nat.le_trans (po.nm p hp).1.2.1 (by omega), Nat.le_trans (po.nm p hp).2.1.2.1 (by omega)⟩
  have jv : JdN 2 (.tup (ps.map tPr)) h := jdN_tup (by simp; omega) fun t ht => by
    obtain ⟨p, hp, rfl⟩ := List.mem_map.mp ht
    refine jdN_tup (by simp) fun t ht => ?_
    simp at ht
    rcases ht with rfl | rfl
    · exact jdN_str (nm p hp).1
    · exact jdN_str (nm p hp).2
  exact W.good ra o (by decide +kernel) hf jv (fun ts e => by cases e; simpa using hl) fun x z hx o' ra' => by rw [e] at o' ra'; exact hq x z hx o' ra'
theorem SameV.tup {h : Hh} {n : Nat} {ts us : List T} (hl : ts.length = us.length) (hz : ts.length ≤ 100000) (p : ∀ (i : Nat) (x y : T), ts[i]? = some x → us[i]? = some y → SameV h n x y) : SameV h (n + 1) (.tup ts) (.tup us) :=
  .inr ⟨ts, us, .inl ⟨rfl, rfl⟩, hl, hz, p⟩
end W3
end

section
namespace W3
open PySem
end W3
end

section
namespace W3
open PySem
theorem in_prl {h : Hh} {l : Nat} {ps : Prs} (a b : Str) (e : lstAt h l = some (ps.map tPr)) : oIn (.tup [.str a, .str b]) (.ref l) h = .ok (.bl (decide ((a, b) ∈ ps))) h := by
  have e1 : toD h 24 (.ref l) = some (.list (ps.map dPr)) := by
    rw [toD_lst e, optL_map (toD_prn h 21)]; rfl
  have e2 : toD h 24 (.tup [.str a, .str b]) = some (dPr (a, b)) := rfl
  have : inT (.tup [.str a, .str b]) (.ref l) h = some (decide ((a, b) ∈ ps)) := by
    show (match toD h 24 (.tup [.str a, .str b]), toD h 24 (.ref l) with
      | some d, some (.list ds) => some (ds.any fun z => PyData.eqv z d)
      | some d, some (.tuple ds) => some (ds.any fun z => PyData.eqv z d)
      | _, _ => none) = _
    rw [e1, e2]
    show some ((ps.map dPr).any fun z => PyData.eqv z (dPr (a, b))) = _
    rw [any_eqv eqv_pr]
    simp
  unfold oIn
  rw [this]
theorem StepAt.fz {h h' : Hh} {n l : Nat} {d b a e : T} (s : StepAt h l d b a e) (u : Fz n h h') (hl : l < n) : StepAt h' l d b a e := by
  unfold StepAt at s ⊢
  rw [u.2 l hl]
  exact s
end W3
namespace W3
open PySem
end W3
end

section
namespace W3
open PySem
theorem entry_congr (fm : Fm) (p : Str × Fd) {d d' : Sd} (hw : d'.words = d.words) (hk : d'.known = d.known) : entryC fm p d' = entryC fm p d := by
  unfold entryC
  rw [hw, hk]
structure Fresh (fm : Fm) (d : Sd) (p : Str × Fd) : Prop where
  m : rowAt d.mess (fIx fm p.1) = (entryC fm p d).1
  q : (entryC fm p d).2 = true → (p.1, wAt fm d.words p.1, true) ∈ d.quest
theorem Fresh.to {fm : Fm} {d d' : Sd} {p : Str × Fd} (f : Fresh fm d p) (hw : d'.words = d.words) (hk : d'.known = d.known) (hm : rowAt d'.mess (fIx fm p.1) = rowAt d.mess (fIx fm p.1)) (hq : ∀ w, (p.1, w, true) ∈ d.quest → (p.1, w, true) ∈ d'.quest) : Fresh fm d' p := by
  have e := entry_congr fm p hw hk
  refine ⟨by rw [hm, e]; exact f.m, fun h => ?_⟩
  rw [e] at h
  rw [hw]
  exact hq _ (f.q h)
end W3
end

section
namespace W3
open PySem
def AllFresh (fm : Fm) (d : Sd) : Prop := ∀ p ∈ fm.fields, Fresh fm d p ∧ openC fm d p = true
theorem Fresh.same {fm : Fm} {d d' : Sd} {p : Str × Fd} (f : Fresh fm d p) (hw : d'.words = d.words) (hk : d'.known = d.known) (hm : d'.mess = d.mess) (hq : d'.quest = d.quest) : Fresh fm d' p := f.to hw hk (by rw [hm]) fun w h => by rw [hq]; exact h
end W3
end

section
namespace W3
open PySem
structure SentOk (fm : Fm) (d : Sd) (ws : List Str) : Prop where
  w : ws = d.words
  q : d.quest = []
  t : ∀ p ∈ fm.fields, trueV fm d.words p = none
end W3
end

section
namespace W3
open PySem
structure LastV (fm : Fm) (d : Sd) (p : Str × Fd) : Prop where
  o : openC fm d p = true
  n : nearV fm d.words p = none
  c : trueV fm d.words p = none ∨ (p.1, wAt fm d.words p.1, true) ∈ d.quest ∨
    (rowAt d.mess (fIx fm p.1) = trueV fm d.words p ∧ (trueV fm d.words p).isSome = true ∧ d.known[fIx fm p.1]? = some (some (wAt fm d.words p.1, trueV fm d.words p)) ∧ ∀ w, (p.1, w, true) ∉ d.quest)
theorem LastV.to {fm : Fm} {d d' : Sd} {p : Str × Fd} (f : LastV fm d p) (ho : openC fm d' p = true) (hw : d'.words = d.words) (hk : d'.known[fIx fm p.1]? = d.known[fIx fm p.1]?) (hm : rowAt d'.mess (fIx fm p.1) = rowAt d.mess (fIx fm p.1)) (hq : ∀ w, (p.1, w, true) ∈ d.quest ↔ (p.1, w, true) ∈ d'.quest) : LastV fm d' p := by
  refine ⟨ho, by rw [hw]; exact f.n, ?_⟩
  rw [hw, hm, hk]
  rcases f.c with h | h | ⟨h1, h2, h3, h4⟩
  · exact .inl h
  · exact .inr (.inl ((hq _).mp h))
  · exact .inr (.inr ⟨h1, h2, h3, fun w hw => h4 w ((hq w).mpr hw)⟩)
end W3
end

section
namespace W3
open PySem
end W3
end

section
namespace W3
open PySem
theorem notin_prl {h : Hh} {l : Nat} {ps : Prs} (a b : Str) (e : lstAt h l = some (ps.map tPr)) : oNotIn (.tup [.str a, .str b]) (.ref l) h = .ok (.bl (!decide ((a, b) ∈ ps))) h := by
  have := in_prl a b e
  unfold oIn at this
  unfold oNotIn
  generalize inT _ _ _ = y at *
  cases y with
  | none => cases this
  | some b => simp only [Res.ok.injEq, T.bl.injEq, and_true] at this; rw [this]
end W3
end

section
namespace W3
open PySem
def noFar (p : Str × Fd) : Str × Fd := (p.1, { p.2 with far := none })
def Fm.bare (fm : Fm) : Fm := { fm with fields := fm.fields.map noFar }
structure Calm (fm : Fm) (d : Sd) : Prop where
  s : SdW fm d
  q : d.quest = []
  k : d.known = List.replicate fm.fields.length none
  w : d.wait = false
theorem Calm.sd {fm : Fm} {d : Sd} (c : Calm fm d) (s : Str) : SdOk fm s d := c.s.ok fun h => by rw [c.w] at h; cases h
end W3
end

section
namespace W3
open PySem
def AskedBy (fm : Fm) (d : Sd) (ps : List (Str × Fd)) : Prop := ∀ x ∈ d.quest, ∃ p ∈ ps, x = (p.1, wAt fm d.words p.1, true) ∧ p.2.far.isSome = true ∧ nearV fm d.words p = none
structure Asking (fm : Fm) (d : Sd) : Prop where
  f : AllFresh fm d
  a : AskedBy fm d fm.fields
def ansF (fm : Fm) (r : Ru) : Nat → Sd → Sd × List Ev
  | 0, d => (d, [])
  | k + 1, d => ((ansF fm r k (answerC fm r 0 d []).1).1, (answerC fm r 0 d []).2.filter is_sent ++ (ansF fm r k (answerC fm r 0 d []).1).2)
end W3
end

section
namespace W3
open PySem
def errsB (fm : Fm) (ws : List Str) : Bool := (fm.fields.map (trueV fm ws)).any fun e => e.isSome
structure Sent33 (fm : Fm) (r : Ru) (d d' : Sd) (t' : List Ev) : Prop where
  s : SdOk fm r.sending (ansF fm r 3 d').1
  a : Asking fm (ansF fm r 3 d').1
  q : (ansF fm r 3 d').1.quest = []
  w : (ansF fm r 3 d').1.words = d.words
  n : (ansF fm r 3 d').1.wait = false
  go : r.sending = "go" → errsB fm d.words = false → t'.filter is_sent ++ (ansF fm r 3 d').2 = [.sent d.words]
  wait : r.sending = "wait" → t'.filter is_sent ++ (ansF fm r 3 d').2 = if errsB fm d.words = true then [] else [.sent d.words]
end W3
end

section
namespace W3
open PySem
structure L2S (n : Nat) (h : Hh) (ls lt : Nat) (p : Pl) (d : Sd) (t : List Ev) : Prop where
  c : LSt n h ls p d
  tt : lstAt h lt = some (tEs t)
  tn : lt ≠ ls ∧ lt ≠ p.w ∧ lt ≠ p.s ∧ lt ≠ p.m ∧ lt ≠ p.k ∧ lt ≠ p.q
  tl : n ≤ lt
section
variable {n : Nat} {h : Hh} {ls lt : Nat} {p : Pl} {d : Sd} {t : List Ev}
theorem L2S.app (x : L2S n h ls lt p d t) (o : Hh) : L2S n (h ++ o) ls lt p d t := ⟨x.c.app o, lstAt_app o x.tt, x.tn, x.tl⟩
theorem L2S.told (x : L2S n h ls lt p d t) (e : Ev) : L2S n (h.set lt (.lst (tEs (t ++ [e])))) ls lt p d (t ++ [e]) := by
  obtain ⟨a, b, c, d, e, f⟩ := x.tn
  exact ⟨⟨by rw [lstAt_set_ne a]; exact x.c.top, by rw [lstAt_set_ne b]; exact x.c.ww, by rw [lstAt_set_ne c]; exact x.c.ss, by rw [lstAt_set_ne d]; exact x.c.mm, by rw [lstAt_set_ne e]; exact x.c.kk, by rw [lstAt_set_ne f]; exact x.c.qq, x.c.nd, x.c.lo⟩, lstAt_set_self (lstAt_lt x.tt), x.tn, x.tl⟩
theorem L2S.wait (x : L2S n h ls lt p d t) (b : Bool) : L2S n (h.set ls (.lst (topT p b))) ls lt p { d with wait := b } t := ⟨x.c.wait b, by rw [lstAt_set_ne (Ne.symm x.tn.1)]; exact x.tt, x.tn, x.tl⟩
end
def own (ls lt : Nat) (p : Pl) : List Nat := [ls, lt, p.w, p.s, p.m, p.k, p.q]
def Kq (ls lt : Nat) (p p' : Pl) (h h' : Hh) : Prop := h.length ≤ h'.length ∧ ∀ k, k < h.length → k ∉ own ls lt p → h'[k]? = h[k]? ∧ k ∉ own ls lt p'
section
variable {ls lt : Nat} {p p' : Pl} {h h' : Hh}
theorem Kq.refl : Kq ls lt p p h h := ⟨Nat.le_refl _, fun _ _ hk => ⟨rfl, hk⟩⟩
theorem Kq.trans {p2 : Pl} {h2 : Hh} (a : Kq ls lt p p' h h') (b : Kq ls lt p' p2 h' h2) : Kq ls lt p p2 h h2 :=
  ⟨Nat.le_trans a.1 b.1, fun k hk ho => by
    obtain ⟨e1, o1⟩ := a.2 k hk ho
    obtain ⟨e2, o2⟩ := b.2 k (by have := a.1; omega) o1
    exact ⟨e2.trans e1, o2⟩⟩
theorem Kq.app (o : Hh) : Kq ls lt p p h (h ++ o) := ⟨by simp, fun k hk ho => ⟨List.getElem?_append_left hk, ho⟩⟩
theorem Kq.set {j : Nat} (hj : j ∈ own ls lt p) (o : Ob) : Kq ls lt p p h (h.set j o) := ⟨by simp, fun k hk ho => ⟨List.getElem?_set_ne (fun e : j = k => ho (by rw [← e]; exact hj)), ho⟩⟩
theorem Kq.put (z : Hh) (o : Ob) (hp : ∀ k ∈ own ls lt p', k ∈ own ls lt p ∨ h.length ≤ k) : Kq ls lt p p' h ((h ++ z).set ls o) :=
  ⟨by simp, fun k hk ho => ⟨by
    rw [List.getElem?_set_ne (fun e => ho (by rw [← e]; exact .head _))]
    exact List.getElem?_append_left hk, fun hm => by
      rcases hp k hm with h1 | h1
      · exact ho h1
      · omega⟩⟩
theorem Kq.fz {n : Nat} {d : Sd} {t : List Ev} (a : Kq ls lt p p' h h') (x : L2S n h ls lt p d t) : Fz n h h' :=
  ⟨a.1, fun k hk => (a.2 k (by have := x.c.nl; omega) (fun hm => by
    obtain ⟨l0, l1, l2, l3, l4, l5⟩ := x.c.lo
    have := x.tl
    simp only [own, List.mem_cons, List.not_mem_nil, or_false] at hm
    omega)).1⟩
theorem Kq.lst {x : Nat} {ts : List T} (a : Kq ls lt p p' h h') (e : lstAt h x = some ts) (hx : x ∉ own ls lt p) : lstAt h' x = some ts ∧ x ∉ own ls lt p' := by
  obtain ⟨e1, o1⟩ := a.2 x (lstAt_lt e) hx
  refine ⟨?_, o1⟩
  unfold lstAt at e ⊢
  rw [e1]
  exact e
theorem L2S.out {n : Nat} {d : Sd} {t : List Ev} (x : L2S n h ls lt p d t) {y : Nat} (hy : h.length ≤ y) : y ∉ own ls lt p := fun hm => by
  have l1 := x.c.lts
  have l2 := x.c.llt
  have l3 := lstAt_lt x.tt
  simp only [own, List.mem_cons, List.not_mem_nil, or_false] at hm
  omega
end
end W3
end

section
namespace W3
open PySem
structure Two (fm : Fm) (r : Ru) (p1 p2 : Str × Fd) : Prop where
  o : FmOk fm
  ro : RuOk r
  fs : fm.fields = [p1, p2]
  ne : p1.1 ≠ p2.1
  f1 : p1.2.far = none
  rm : fm.room = 3
  rc : r.checks = "enter"
  rt : r.taken = "same"
  nf : foundC fm r p1.1 = []
structure Pre (fm : Fm) (p2 : Str × Fd) (wo : Str) (d : Sd) : Prop where
  s : SdW fm d
  w : d.wait = false
  k : d.known = List.replicate fm.fields.length none
  q : d.quest = [] ∨ (d.quest = [(p2.1, wo, true)] ∧ nearV fm d.words p2 = none)
section
variable {fm : Fm} {r : Ru} {p1 p2 : Str × Fd} {wo : Str} {d : Sd}
theorem Two.m1 (T : Two fm r p1 p2) : p1 ∈ fm.fields := by rw [T.fs]; exact .head _
theorem Two.m2 (T : Two fm r p1 p2) : p2 ∈ fm.fields := by rw [T.fs]; exact .tail _ (.head _)
end
end W3
end

section
namespace W3
open PySem
def plan (p1 p2 : Str × Fd) (ws wg wo : Str) (late : Nat) : List Dd := [.enter p1 ws, .enter p2 wo, .leave p2, .send] ++ List.replicate (3 * (1 - late)) (.answer 0) ++ [.enter p1 wg] ++ List.replicate 3 (.answer 0)
section
variable {fm : Fm} {r : Ru} {p1 p2 : Str × Fd} {wo : Str}
end
end W3
end

section
namespace W3
open PySem
structure Fq (S : Nat → Prop) (h h' : Hh) : Prop where
  le : h.length ≤ h'.length
  keep : ∀ k, k < h.length → ¬ S k → h'[k]? = h[k]?
  was : ∀ k, S k → k < h.length → ∃ ts, h[k]? = some (.lst ts)
  is_ : ∀ k, S k → k < h.length → ∃ ts, h'[k]? = some (.lst ts)
section
variable {S : Nat → Prop} {h h' h2 : Hh}
theorem Fq.trans (a : Fq S h h') (b : Fq S h' h2) : Fq S h h2 :=
  ⟨Nat.le_trans a.le b.le, fun k hk hs => (b.keep k (Nat.lt_of_lt_of_le hk a.le) hs).trans (a.keep k hk hs), a.was, fun k hs hk => b.is_ k hs (Nat.lt_of_lt_of_le hk a.le)⟩
theorem Fq.refl (hS : ∀ k, S k → k < h.length → ∃ ts, h[k]? = some (.lst ts)) : Fq S h h := ⟨Nat.le_refl _, fun _ _ _ => rfl, hS, hS⟩
theorem Fq.app (a : Fq S h h') (o : Hh) : Fq S h (h' ++ o) :=
  ⟨by have := a.le; simp; omega, fun k hk hs => (List.getElem?_append_left (Nat.lt_of_lt_of_le hk a.le)).trans (a.keep k hk hs), a.was, fun k hs hk => by
    obtain ⟨ts, e⟩ := a.is_ k hs hk
    exact ⟨ts, (List.getElem?_append_left (Nat.lt_of_lt_of_le hk a.le)).trans e⟩⟩
theorem Fq.sub {R : Nat → Prop} (a : Fq S h h') (hR : ∀ k, S k → R k) (h1 : ∀ k, R k → k < h.length → ∃ ts, h[k]? = some (.lst ts)) : Fq R h h' :=
  ⟨a.le, fun k hk hs => a.keep k hk fun z => hs (hR k z), h1, fun k hs hk => by
    by_cases q : S k
    · exact a.is_ k q hk
    · obtain ⟨ts, e⟩ := h1 k hs hk
      exact ⟨ts, (a.keep k hk q).trans e⟩⟩
theorem Fq.ins {c : Str} {fs : List (Str × T)} {k : Nat} (a : Fq S h h') (e : h[k]? = some (.ins c fs)) : h'[k]? = some (.ins c fs) := by
  have hk := (List.getElem?_eq_some_iff.mp e).1
  rw [a.keep k hk fun z => ?_]
  · exact e
  · obtain ⟨ts, e2⟩ := a.was k z hk
    rw [e] at e2
    cases e2
theorem Fq.lst {k : Nat} {ts : List T} (a : Fq S h h') (e : lstAt h k = some ts) (hn : ¬ S k) : lstAt h' k = some ts := by
  unfold lstAt at e ⊢
  have hk : k < h.length := by
    cases q : h[k]? with
    | none => rw [q] at e; cases e
    | some o => exact (List.getElem?_eq_some_iff.mp q).1
  rw [a.keep k hk hn]
  exact e
theorem Fq.form {l : Nat} {fm : Fm} (a : Fq S h h') (e : FormAt h l fm) : FormAt h' l fm := a.ins e
theorem Fq.rule {l : Nat} {r : Ru} (a : Fq S h h') (e : RuleAt h l r) : RuleAt h' l r := a.ins e
theorem Fq.step {l : Nat} {d b x e : T} (a : Fq S h h') (q : StepAt h l d b x e) : StepAt h' l d b x e := a.ins q
theorem Fq.mem {k : Nat} (a : Fq S h h') (hs : S k) (hk : k < h.length) : ∃ ts, lstAt h' k = some ts := by
  obtain ⟨ts, e⟩ := a.is_ k hs hk
  exact ⟨ts, lstAt_of e⟩
end
theorem Up.fq {l : Nat} {h h' : Hh} (b : IsBox h l) (u : Up l h h') : Fq (fun k => k = l) h h' :=
  ⟨u.le, fun k hk hn => u.keep k hk hn, fun k e _ => by
    subst e
    obtain ⟨c, cells, i, d, s, n, e, _⟩ := b
    exact ⟨_, of_lstAt e⟩, fun k e _ => by
    subst e
    obtain ⟨c, cells, i, d, s, n, e, _⟩ := u.box
    exact ⟨_, of_lstAt e⟩⟩
theorem fq_app (h o : Hh) : Fq (fun _ => False) h (h ++ o) := ⟨by simp, fun k hk _ => List.getElem?_append_left hk, fun _ f _ => f.elim, fun _ f _ => f.elim⟩
structure BxC (h : Hh) (l c : Nat) : Prop where
  b : IsBox h l
  c : BoxC h l = some c
theorem BxC.of {h : Hh} {l : Nat} (b : IsBox h l) : ∃ c, BxC h l c ∧ c < h.length := by
  have b0 := b
  obtain ⟨c, cells, i, d, s, n, e, e2, h1, h2⟩ := b
  refine ⟨c, ⟨b0, ?_⟩, lstAt_lt e2⟩
  unfold BoxC
  rw [e]
  rfl
theorem BxC.up {h h' : Hh} {l c : Nat} (x : BxC h l c) (u : Up l h h') : BxC h' l c := ⟨u.box, u.bc.trans x.c⟩
theorem BxC.app {h : Hh} {l c : Nat} (x : BxC h l c) (o : Hh) : BxC (h ++ o) l c := x.up (Up.app x.b o)
theorem BxC.fq {S : Nat → Prop} {h h' : Hh} {l c : Nat} (x : BxC h l c) (a : Fq S h h') (hl : ¬ S l) (hc : ¬ S c) : BxC h' l c := by
  obtain ⟨⟨c', cells, i, d, s, n, e, e2, h1, h2⟩, q⟩ := x
  unfold BoxC at q
  rw [e] at q
  have q : some c' = some c := q
  injection q with q
  subst q
  refine ⟨⟨c', cells, i, d, s, n, a.lst e hl, a.lst e2 hc, h1, h2⟩, ?_⟩
  unfold BoxC
  rw [a.lst e hl]
  rfl
structure Hy where
  D : Dd
  aft : Sd
  ev : List Ev
def StpAt (h : Hh) (b : Nat) (y : Hy) : Prop := ∃ bf, StepAt h b y.D.t bf y.aft.t (.tup (tEs y.ev))
def liveIns (d0 : Sd) (lf ar ls : Nat) : List (Str × T) := [("beginning", d0.t), ("form", .ref lf), ("rule", .ref ar), ("steps_done", .ref ls)]
abbrev Pc := List (Nat × Hy)
abbrev pcT (xs : Pc) : List T := xs.map fun s => T.ref s.1
structure LiveAt (h : Hh) (l lf ar ls : Nat) (d0 : Sd) (xs : Pc) : Prop where
  ins : h[l]? = some (.ins "Live" (liveIns d0 lf ar ls))
  st : lstAt h ls = some (pcT xs)
  at_ : ∀ s ∈ xs, StpAt h s.1 s.2
def liveD (d0 : Sd) (ys : List Hy) : Sd := match ys.getLast? with | none => d0 | some s => s.aft
def lastEv (ys : List Hy) : List Ev := match ys.getLast? with | none => [] | some s => s.ev
abbrev Pc.v (xs : Pc) : List Hy := xs.map Prod.snd
section
variable {S : Nat → Prop} {h h' : Hh} {l lf ar ls : Nat} {d0 : Sd} {xs : Pc}
theorem LiveAt.fq (x : LiveAt h l lf ar ls d0 xs) (a : Fq S h h') (hn : ¬ S ls) : LiveAt h' l lf ar ls d0 xs :=
  ⟨a.ins x.ins, a.lst x.st hn, fun s hs => by obtain ⟨bf, q⟩ := x.at_ s hs; exact ⟨bf, a.step q⟩⟩
theorem LiveAt.app (x : LiveAt h l lf ar ls d0 xs) (o : Hh) : LiveAt (h ++ o) l lf ar ls d0 xs := x.fq (fq_app h o) fun z => z
theorem LiveAt.i (x : LiveAt h l lf ar ls d0 xs) : insAt h l = some (("Live" : Str), liveIns d0 lf ar ls) := insAt_of x.ins
theorem LiveAt.m {m : Str} (x : LiveAt h l lf ar ls d0 xs) (hm : (liveIns d0 lf ar ls).lookup m = none) : mOk "Live" m (.ref l) h = true := mOk_of x.i hm
theorem LiveAt.len (x : LiveAt h l lf ar ls d0 xs) : (pcT xs).length = xs.length := List.length_map _
theorem LiveAt.lt (x : LiveAt h l lf ar ls d0 xs) : l < h.length := (List.getElem?_eq_some_iff.mp x.ins).1
end
structure HsOk (fm : Fm) (r : Ru) (d0 : Sd) (ys : List Hy) : Prop where
  d0 : SdOk fm r.sending d0
  sd : ∀ y ∈ ys, SdOk fm r.sending y.aft
  dk : ∀ y ∈ ys, DdOk fm y.D
  ev : ∀ y ∈ ys, EvsOk fm y.ev ∧ y.ev.length ≤ 20
theorem HsOk.now {fm : Fm} {r : Ru} {d0 : Sd} {ys : List Hy} (o : HsOk fm r d0 ys) : SdOk fm r.sending (liveD d0 ys) := by
  unfold liveD
  cases e : ys.getLast? with
  | none => exact o.d0
  | some y => exact o.sd y (List.mem_of_getLast? e)
theorem HsOk.last {fm : Fm} {r : Ru} {d0 : Sd} {ys : List Hy} (o : HsOk fm r d0 ys) : EvsOk fm (lastEv ys) ∧ (lastEv ys).length ≤ 20 := by
  unfold lastEv
  cases e : ys.getLast? with
  | none => exact ⟨.nil, by simp⟩
  | some y => exact o.ev y (List.mem_of_getLast? e)
theorem HsOk.nil {fm : Fm} {r : Ru} {d0 : Sd} (s : SdOk fm r.sending d0) : HsOk fm r d0 [] := ⟨s, fun _ q => (List.not_mem_nil q).elim, fun _ q => (List.not_mem_nil q).elim, fun _ q => (List.not_mem_nil q).elim⟩
theorem HsOk.app {fm : Fm} {r : Ru} {d0 : Sd} {ys zs : List Hy} (o : HsOk fm r d0 ys) (z : HsOk fm r d0 zs) : HsOk fm r d0 (ys ++ zs) :=
  ⟨o.d0, fun y q => (List.mem_append.mp q).elim (o.sd y) (z.sd y), fun y q => (List.mem_append.mp q).elim (o.dk y) (z.dk y), fun y q => (List.mem_append.mp q).elim (o.ev y) (z.ev y)⟩
theorem HsOk.snoc {fm : Fm} (om : FmOk fm) {r : Ru} {d0 : Sd} {ys : List Hy} (o : HsOk fm r d0 ys) {D : Dd} (dk : DdOk fm D) {d' : Sd} {t : List Ev} (e : stepC fm r D (liveD d0 ys) = .ok d' t) : HsOk fm r d0 (ys ++ [⟨D, d', t⟩]) := by
  have so := step_ok om o.now dk e
  have ev := step_evs om o.now dk e
  refine o.app ⟨o.d0, fun y q => ?_, fun y q => ?_, fun y q => ?_⟩ <;> (rw [List.mem_singleton] at q; subst q; assumption)
theorem HsOk.sub {fm : Fm} {r : Ru} {d0 : Sd} {ys zs : List Hy} (o : HsOk fm r d0 ys) (hz : ∀ y ∈ zs, y ∈ ys) : HsOk fm r d0 zs := ⟨o.d0, fun y q => o.sd y (hz y q), fun y q => o.dk y (hz y q), fun y q => o.ev y (hz y q)⟩
def messT (d : Sd) : T := .tup (d.mess.map tE)
def deedsL (ys : List Hy) : List T := ys.map fun y => y.D.t
def seenL (d0 : Sd) (ys : List Hy) : List T := messT d0 :: ys.map fun y => messT y.aft
def sentW : Ev → Option T | .sent ws => some (.tup (tSs ws)) | _ => none
def sentL (ys : List Hy) : List T := ys.flatMap fun y => y.ev.filterMap sentW
section
variable {h : Hh} {l lf ar ls : Nat} {d0 : Sd} {xs : Pc}
end
theorem flat_le {α β : Type} (f : α → List β) (k : Nat) : ∀ xs : List α, (∀ x ∈ xs, (f x).length ≤ k) → (xs.flatMap f).length ≤ k * xs.length
  | [], _ => by simp
  | x :: xs, h => by
    rw [List.flatMap_cons, List.length_append, List.length_cons, Nat.mul_succ]
    have := h x (.head _)
    have := flat_le f k xs fun y hy => h y (.tail _ hy)
    omega
inductive Dx where
  | good (D : Dd)
  | bad (t : T)
def Dx.t : Dx → T | .good D => D.t | .bad t => t
inductive Fo where
  | ok (ys : List Hy)
  | many (m : Str)
  | bad (t : T)
def Fo.pre (ys : List Hy) : Fo → Fo | .ok zs => .ok (ys ++ zs) | e => e
def StV (h : Hh) (n : Nat) (t : T) (d0 : Sd) (ys : List Hy) (tl : List T) : Prop := ∃ a b c, n ≤ a ∧ n ≤ b ∧ n ≤ c ∧ t = .tup ([(liveD d0 ys).t, .tup (tEs (lastEv ys)), .ref a, .ref b, .ref c, .int ys.length] ++ tl) ∧ lstAt h a = some (deedsL ys) ∧ lstAt h b = some (seenL d0 ys) ∧ lstAt h c = some (sentL ys)
theorem StV.fq {S : Nat → Prop} {h h' : Hh} {n : Nat} {t : T} {d0 : Sd} {ys : List Hy} {tl : List T} (x : StV h n t d0 ys tl) (a : Fq S h h') (hS : ∀ k, S k → k < n) : StV h' n t d0 ys tl := by
  obtain ⟨p, q, r, lp, lq, lr, e, e1, e2, e3⟩ := x
  refine ⟨p, q, r, lp, lq, lr, e, a.lst e1 fun z => ?_, a.lst e2 fun z => ?_, a.lst e3 fun z => ?_⟩
  · have := hS _ z; omega
  · have := hS _ z; omega
  · have := hS _ z; omega
theorem StV.mono {h : Hh} {n m : Nat} {t : T} {d0 : Sd} {ys : List Hy} {tl : List T} (x : StV h n t d0 ys tl) (hm : m ≤ n) : StV h m t d0 ys tl := by
  obtain ⟨p, q, r, lp, lq, lr, e⟩ := x
  exact ⟨p, q, r, by omega, by omega, by omega, e⟩
theorem pure_mess {fm : Fm} (o : FmOk fm) {d : Sd} (s : SdW fm d) : PureT 1 (messT d) := by
  have f3 := o.f3
  exact pure_strs (fun t ht => by obtain ⟨s, _, rfl⟩ := List.mem_map.mp ht; exact flat_ent _) (by rw [List.length_map, s.ml]; omega)
theorem deedsL_len (ys : List Hy) : (deedsL ys).length = ys.length := List.length_map _
theorem seenL_len (d0 : Sd) (ys : List Hy) : (seenL d0 ys).length = ys.length + 1 := by simp [seenL]
theorem sentL_len {fm : Fm} {r : Ru} {d0 : Sd} {ys : List Hy} (hs : HsOk fm r d0 ys) : (sentL ys).length ≤ 20 * ys.length := by
  unfold sentL
  refine flat_le _ 20 _ fun y hy => Nat.le_trans (List.length_filterMap_le _ _) (hs.ev y hy).2
theorem pure_deeds {fm : Fm} {r : Ru} {d0 : Sd} {ys : List Hy} (hs : HsOk fm r d0 ys) : ∀ x ∈ deedsL ys, PureT 1 x := fun x hx => by
  obtain ⟨y, hy, rfl⟩ := List.mem_map.mp hx
  exact pure_dd (hs.dk y hy)
theorem pure_seen {fm : Fm} (o : FmOk fm) {r : Ru} {d0 : Sd} {ys : List Hy} (hs : HsOk fm r d0 ys) : ∀ x ∈ seenL d0 ys, PureT 1 x := fun x hx => by
  rcases List.mem_cons.mp hx with rfl | hx
  · exact pure_mess o hs.d0.w
  · obtain ⟨y, hy, rfl⟩ := List.mem_map.mp hx
    exact pure_mess o (hs.sd y hy).w
theorem pure_sent {fm : Fm} (o : FmOk fm) {r : Ru} {d0 : Sd} {ys : List Hy} (hs : HsOk fm r d0 ys) : ∀ x ∈ sentL ys, PureT 1 x := fun x hx => by
  obtain ⟨y, hy, hx⟩ := List.mem_flatMap.mp hx
  obtain ⟨e, he, hx⟩ := List.mem_filterMap.mp hx
  have := (hs.ev y hy).1 e he
  have f3 := o.f3
  cases e <;> simp [sentW] at hx
  subst hx
  exact pure_strs (fun t ht => by obtain ⟨s, _, rfl⟩ := List.mem_map.mp ht; rfl) (by rw [List.length_map, (show WsOk fm _ from this).len]; omega)
theorem StV.same {fm : Fm} (o : FmOk fm) {r : Ru} {h : Hh} {n m : Nat} {t u : T} {d0 : Sd} {ys : List Hy} {tl : List T} (hs : HsOk fm r d0 ys) (hl : ys.length ≤ 1000) (htl : ∀ x ∈ tl, flatT x = true) (tl2 : tl.length ≤ 10) (x : StV h n t d0 ys tl) (y : StV h m u d0 ys tl) : SameV h 5 t u := by
  obtain ⟨a, b, c, _, _, _, rfl, e1, e2, e3⟩ := x
  obtain ⟨a', b', c', _, _, _, rfl, g1, g2, g3⟩ := y
  refine SameV.tup (by simp) (by simp; omega) fun i x y hx hy => ?_
  have ev := hs.last
  match i, hx, hy with
  | 0, hx, hy => cases hx; cases hy; exact (pure_sd o hs.now.w).same
  | 1, hx, hy => cases hx; cases hy; exact ((pure_evs o ev.1 (by omega)).up).same
  | 2, hx, hy => cases hx; cases hy; exact SameV.lists e1 g1 (by rw [deedsL_len]; omega) fun x hx => ((pure_deeds hs x hx).add 2)
  | 3, hx, hy => cases hx; cases hy; exact SameV.lists e2 g2 (by rw [seenL_len]; omega) fun x hx => ((pure_seen o hs x hx).add 2)
  | 4, hx, hy => cases hx; cases hy; exact SameV.lists e3 g3 (by have := sentL_len hs; omega) fun x hx => ((pure_sent o hs x hx).add 2)
  | 5, hx, hy => cases hx; cases hy; exact same_flat rfl
  | i + 6, hx, hy =>
    have hx : tl[i]? = some x := by simpa using hx
    have hy : tl[i]? = some y := by simpa using hy
    rw [hx] at hy
    cases hy
    exact same_flat (htl x (List.mem_of_getElem? hx))
@[simp] theorem e_lenO (cn : Str) (ff : List T → Hh → Res T) (l : Nat) (h : Hh) : fLen cn ff [.ref l] h = match insAt h l with
  | some (d, _) => if d = cn then (match ff [.ref l] h with | .ok (.int i) h' => if 0 ≤ i ∧ i < 2 ^ 63 then .ok (.int i) h' else .stk | _ => .stk) else .stk
  | none => bLen [.ref l] h := Eq.trans rfl rfl
end W3
end

section
namespace W3
open PySem
def shT : T → Prop | .str s => s.length ≤ 1000 | _ => True
def FV (l : Nat) (h : Hh) (t : T) : Prop := (flatT t = true ∧ shT t) ∨ ∃ p x, t = .ref p ∧ p ≠ l ∧ lstAt h p = some [x] ∧ flatT x = true
def WV (l : Nat) (h : Hh) (t : T) : Prop := FV l h t ∨ ∃ ts, t = .tup ts ∧ ts.length ≤ 3 ∧ ∀ x ∈ ts, FV l h x
section
variable {l : Nat} {h h' : Hh} {t : T}
theorem FV.fq {S : Nat → Prop} (v : FV l h t) (a : Fq S h h') (hS : ∀ p, S p → p = l) : FV l h' t := by
  rcases v with v | ⟨p, x, rfl, hp, e, hx⟩
  · exact .inl v
  · exact .inr ⟨p, x, rfl, hp, a.lst e fun z => hp (hS p z), hx⟩
theorem WV.fq {S : Nat → Prop} (v : WV l h t) (a : Fq S h h') (hS : ∀ p, S p → p = l) : WV l h' t := by
  rcases v with v | ⟨ts, rfl, hl, g⟩
  · exact .inl (v.fq a hS)
  · exact .inr ⟨ts, rfl, hl, fun x hx => (g x hx).fq a hS⟩
theorem FV.up (v : FV l h t) (b : IsBox h l) (u : Up l h h') : FV l h' t := v.fq (u.fq b) fun _ e => e
theorem WV.up (v : WV l h t) (b : IsBox h l) (u : Up l h h') : WV l h' t := v.fq (u.fq b) fun _ e => e
theorem FV.app (v : FV l h t) (o : Hh) : FV l (h ++ o) t := v.fq (fq_app h o) fun _ f => f.elim
theorem WV.app (v : WV l h t) (o : Hh) : WV l (h ++ o) t := v.fq (fq_app h o) fun _ f => f.elim
theorem FV.same (v : FV l h t) : SameV h 1 t t := by
  rcases v with ⟨f, _⟩ | ⟨p, x, rfl, hp, e, hx⟩
  · exact .inl ⟨rfl, f⟩
  · exact SameV.lists e e (by simp) fun y hy => by rw [List.mem_singleton] at hy; subst hy; exact hx
theorem WV.same (v : WV l h t) : SameV h 2 t t := by
  rcases v with v | ⟨ts, rfl, hl, g⟩
  · exact v.same.up
  · refine SameV.tup rfl (by omega) fun i x y hx hy => ?_
    rw [hx] at hy
    cases hy
    exact (g x (List.mem_of_getElem? hx)).same
theorem FV.jd (v : FV l h t) : Jd t h := by
  rcases v with ⟨f, s⟩ | ⟨p, x, rfl, hp, e, hx⟩
  · cases t with
    | str x => exact s
    | non => trivial
    | bl x => trivial
    | int x => trivial
    | _ => cases f
  · exact .inl ⟨_, of_lstAt e⟩
theorem FV.nt (v : FV l h t) : ∀ ts, t ≠ .tup ts := fun ts e => by
  subst e
  rcases v with ⟨f, s⟩ | ⟨p, x, e, _⟩
  · cases f
  · cases e
theorem FV.jdN (v : FV l h t) (n : Nat) : JdN n t h := by
  cases n with
  | zero => exact v.jd
  | succ n => exact ⟨v.jd, fun ts e => (v.nt ts e).elim⟩
theorem WV.jdN (v : WV l h t) : JdN 1 t h := by
  rcases v with v | ⟨ts, rfl, hl, g⟩
  · exact v.jdN 1
  · exact jdN_tup (by omega) fun x hx => (g x hx).jdN 0
theorem FV.flat (f : flatT t = true) (s : shT t) : FV l h t := .inl ⟨f, s⟩
theorem FV.one {p : Nat} {x : T} (hp : p ≠ l) (e : lstAt h p = some [x]) (hx : flatT x = true) : FV l h (.ref p) := .inr ⟨p, x, rfl, hp, e, hx⟩
end
end W3
end

section
namespace W3
open PySem
theorem Fz.lst {n k : Nat} {h h' : Hh} {ts : List T} (f : Fz n h h') (e : lstAt h k = some ts) (hk : k < n) : lstAt h' k = some ts := by
  unfold lstAt at e ⊢
  rw [f.2 k hk]
  exact e
end W3
end

section
namespace W3
open PySem
abbrev leS (a b : Str) : Bool := PySem.W.dataLe false PyData.str a b
theorem leS_iff (a b : Str) : leS a b = decide (a.cps.toList ≤ b.cps.toList) := congrFun (congrFun (PySem.W.dataLe_str (id : Str → Str)) a) b
theorem leS_anti {a b : Str} (h1 : leS a b = true) (h2 : leS b a = true) : a = b := by
  rw [leS_iff, decide_eq_true_eq] at h1 h2
  exact Str.ext3 (List.le_antisymm h1 h2)
theorem leS_total (a b : Str) : leS a b = true ∨ leS b a = true := by
  rw [leS_iff, leS_iff, decide_eq_true_eq, decide_eq_true_eq]
  exact List.le_total _ _
theorem sortP_pw (ps : Prs) : (sortP ps).Pairwise fun a b => leP a b = true :=
  PySem.W.sort_pairwise (PySem.W.sortLe_total (PyProof.Rows.listOrd PyProof.Rows.itemOrd) false (fun p : Str × Str => PySem.W.keyToks (dPr p))) ps
theorem eqv_str (a b : Str) : PyData.eqv (.str a) (.str b) = decide (a = b) := rfl
theorem leP_iff (p q : Str × Str) : leP p q = if p.1 = q.1 then leS p.2 q.2 else leS p.1 q.1 := by
  have e : leP p q = !PySem.W.dataLt (dPr q) (dPr p) := rfl
  rw [e]
  unfold dPr
  rw [PySem.W.dataLt_pair (by simp [PySem.W.alike]) (by simp [PySem.W.alike]), eqv_str, eqv_str]
  by_cases h1 : p.1 = q.1
  · rw [if_pos h1, if_pos (by simp [h1])]
    by_cases h2 : q.2 = p.2
    · rw [if_pos (by simp [h2]), h2]
      have := leS_total p.2 p.2
      rcases this with z | z <;> rw [z] <;> rfl
    · rw [if_neg (by simp [h2])]
      rfl
  · rw [if_neg h1, if_neg (by simp; exact fun z => h1 z.symm)]
    rfl
theorem leP_anti {p q : Str × Str} (h1 : leP p q = true) (h2 : leP q p = true) : p = q := by
  rw [leP_iff] at h1 h2
  by_cases h : p.1 = q.1
  · rw [if_pos h] at h1
    rw [if_pos h.symm] at h2
    exact Prod.ext h (leS_anti h1 h2)
  · rw [if_neg h] at h1
    rw [if_neg fun z => h z.symm] at h2
    exact (h (leS_anti h1 h2)).elim
end W3
end

section
namespace W3
open PySem
def atomT : T → Bool | .non => true | .int _ => true | .str _ => true | _ => false
def PlT : Nat → T → Prop
  | 0, t => atomT t = true
  | n + 1, t => atomT t = true ∨ ∃ ts, t = .tup ts ∧ ∀ x ∈ ts, PlT n x
def dOf (h : Hh) (m : Nat) (t : T) : PyData := (toD h m t).getD .none
theorem optL_mapD {f : T → Option PyData} {D : T → PyData} : ∀ {ts : List T}, (∀ x ∈ ts, f x = some (D x)) → optL f ts = some (ts.map D)
  | [], _ => rfl
  | t :: ts, h => by
    unfold optL
    rw [h t (.head _), optL_mapD (ts := ts) fun x hx => h x (.tail _ hx)]
    rfl
theorem eqvAll_iff {D : T → PyData} : ∀ {ts us : List T}, (∀ x ∈ ts, ∀ y ∈ us, PyData.eqv (D x) (D y) = true ↔ x = y) → (PyData.eqvAll (ts.map D) (us.map D) = true ↔ ts = us)
  | [], [], _ => by simp [PyData.eqvAll]
  | [], y :: us, _ => by simp [PyData.eqvAll]
  | x :: ts, [], _ => by simp [PyData.eqvAll]
  | x :: ts, y :: us, h => by
    have h1 := h x (.head _) y (.head _)
    have h2 := eqvAll_iff (ts := ts) (us := us) fun a ha b hb => h a (.tail _ ha) b (.tail _ hb)
    rw [List.map_cons, List.map_cons, PyData.eqvAll, Bool.and_eq_true, h1, h2, List.cons.injEq]
theorem PlT.up {n : Nat} {t : T} (p : PlT n t) : PlT (n + 1) t := by
  induction n generalizing t with
  | zero => exact .inl p
  | succ n ih =>
    rcases p with p | ⟨ts, rfl, g⟩
    · exact .inl p
    · exact .inr ⟨ts, rfl, fun x hx => ih (g x hx)⟩
theorem PlT.add {n : Nat} {t : T} (p : PlT n t) : ∀ k, PlT (n + k) t
  | 0 => p
  | k + 1 => (p.add k).up
theorem PlT.atom {n : Nat} {t : T} (p : atomT t = true) : PlT n t := by
  cases n with
  | zero => exact p
  | succ n => exact .inl p
theorem PlT.tup {n : Nat} {ts : List T} (g : ∀ x ∈ ts, PlT n x) : PlT (n + 1) (.tup ts) := .inr ⟨ts, rfl, g⟩
end W3
end

section
namespace W3
open PySem
def atomB : T → Bool | .non => true | .bl _ => true | .str _ => true | _ => false
def PbT : Nat → T → Prop
  | 0, t => atomB t = true
  | n + 1, t => atomB t = true ∨ ∃ ts, t = .tup ts ∧ ∀ x ∈ ts, PbT n x
theorem atomB_cases {t : T} (p : atomB t = true) : t = .non ∨ (∃ i, t = .bl i) ∨ ∃ s, t = .str s := by
  cases t with
  | non => exact .inl rfl
  | bl i => exact .inr (.inl ⟨i, rfl⟩)
  | str s => exact .inr (.inr ⟨s, rfl⟩)
  | _ => cases p
theorem atomB_toD {h : Hh} {m : Nat} {t : T} (p : atomB t = true) : toD h (m + 1) t = some (dOf h (m + 1) t) := by
  rcases atomB_cases p with rfl | ⟨i, rfl⟩ | ⟨s, rfl⟩ <;> rfl
theorem atomB_eqv {h : Hh} {m : Nat} {t u : T} (p : atomB t = true) (q : atomB u = true) : PyData.eqv (dOf h (m + 1) t) (dOf h (m + 1) u) = true ↔ t = u := by
  have e1 : ∀ i, dOf h (m + 1) (.bl i) = .bool i := fun i => rfl
  have e2 : ∀ i, dOf h (m + 1) (.str i) = .str i := fun i => rfl
  have e3 : dOf h (m + 1) .non = .none := rfl
  rcases atomB_cases p with rfl | ⟨i, rfl⟩ | ⟨s, rfl⟩ <;> rcases atomB_cases q with rfl | ⟨j, rfl⟩ | ⟨z, rfl⟩ <;> simp only [e1, e2, e3] <;> simp [PyData.eqv]
theorem atomB_tup {h : Hh} {m : Nat} {t : T} (p : atomB t = true) (ds : List PyData) : PyData.eqv (dOf h (m + 1) t) (.tuple ds) = false ∧ PyData.eqv (.tuple ds) (dOf h (m + 1) t) = false := by
  have e1 : ∀ i, dOf h (m + 1) (.bl i) = .bool i := fun i => rfl
  have e2 : ∀ i, dOf h (m + 1) (.str i) = .str i := fun i => rfl
  have e3 : dOf h (m + 1) .non = .none := rfl
  rcases atomB_cases p with rfl | ⟨i, rfl⟩ | ⟨s, rfl⟩ <;> simp only [e1, e2, e3] <;> simp [PyData.eqv]
theorem pb_toD {h : Hh} : ∀ {n m : Nat} {t : T}, PbT n t → n < m → toD h m t = some (dOf h m t)
  | n, 0, t, _, hm => by omega
  | 0, m + 1, t, p, _ => atomB_toD p
  | n + 1, m + 1, t, p, hm => by
    rcases p with p | ⟨ts, rfl, g⟩
    · exact atomB_toD p
    · have := optL_mapD (f := toD h m) (D := dOf h m) (ts := ts) fun x hx => pb_toD (g x hx) (by omega)
      unfold dOf
      show (optL (toD h m) ts).map PyData.tuple = some (((optL (toD h m) ts).map PyData.tuple).getD .none)
      rw [this]
      rfl
theorem pb_eqv {h : Hh} : ∀ {n m : Nat} {t u : T}, PbT n t → PbT n u → n < m → (PyData.eqv (dOf h m t) (dOf h m u) = true ↔ t = u)
  | n, 0, t, u, _, _, hm => by omega
  | 0, m + 1, t, u, p, q, _ => atomB_eqv p q
  | n + 1, m + 1, t, u, p, q, hm => by
    have tp : ∀ {ts : List T}, (∀ x ∈ ts, PbT n x) → dOf h (m + 1) (.tup ts) = .tuple (ts.map (dOf h m)) := fun {ts} g => by
      have := optL_mapD (f := toD h m) (D := dOf h m) (ts := ts) fun x hx => pb_toD (g x hx) (by omega)
      unfold dOf
      show ((optL (toD h m) ts).map PyData.tuple).getD .none = _
      rw [this]
      rfl
    rcases p with p | ⟨ts, rfl, g⟩
    · rcases q with q | ⟨us, rfl, g2⟩
      · exact atomB_eqv p q
      · rw [tp g2, (atomB_tup p _).1]
        rcases atomB_cases p with rfl | ⟨i, rfl⟩ | ⟨s, rfl⟩ <;> simp
    · rcases q with q | ⟨us, rfl, g2⟩
      · rw [tp g, (atomB_tup q _).2]
        rcases atomB_cases q with rfl | ⟨i, rfl⟩ | ⟨s, rfl⟩ <;> simp
      · rw [tp g, tp g2, PyData.eqv, eqvAll_iff fun x hx y hy => pb_eqv (g x hx) (g2 y hy) (by omega)]
        simp
theorem pb_oEq {n : Nat} {t u : T} (p : PbT n t) (q : PbT n u) (hn : n < 24) (h : Hh) : ∃ b, oEq t u h = .ok (.bl b) h ∧ (b = true ↔ t = u) := by
  refine ⟨PyData.eqv (dOf h 24 t) (dOf h 24 u), ?_, pb_eqv p q hn⟩
  unfold oEq
  rw [pb_toD p hn, pb_toD q hn]
theorem PbT.up {n : Nat} {t : T} (p : PbT n t) : PbT (n + 1) t := by
  induction n generalizing t with
  | zero => exact .inl p
  | succ n ih =>
    rcases p with p | ⟨ts, rfl, g⟩
    · exact .inl p
    · exact .inr ⟨ts, rfl, fun x hx => ih (g x hx)⟩
theorem PbT.add {n : Nat} {t : T} (p : PbT n t) : ∀ k, PbT (n + k) t
  | 0 => p
  | k + 1 => (p.add k).up
theorem PbT.atom {n : Nat} {t : T} (p : atomB t = true) : PbT n t := by
  cases n with
  | zero => exact p
  | succ n => exact .inl p
theorem PbT.tup {n : Nat} {ts : List T} (g : ∀ x ∈ ts, PbT n x) : PbT (n + 1) (.tup ts) := .inr ⟨ts, rfl, g⟩
theorem pb_oNe {n : Nat} {t u : T} (p : PbT n t) (q : PbT n u) (hn : n < 24) (h : Hh) : ∃ b, oNe t u h = .ok (.bl b) h ∧ (b = true ↔ t ≠ u) := by
  refine ⟨!PyData.eqv (dOf h 24 t) (dOf h 24 u), ?_, ?_⟩
  · unfold oNe
    rw [pb_toD p hn, pb_toD q hn]
  · have := pb_eqv (h := h) p q hn
    rw [Bool.not_eq_true', ← Bool.not_eq_true, this]
def six6 (o c a w t s : T) : List T := [o, c, sortAro a, w, t, s]
def RAt (h : Hh) (l : Nat) (vs : List T) : Prop := ∃ o c a w t s, vs = [o, c, a, w, t, s] ∧ h[l]? = some (.ins "Rule" (ruleIns o c a w t s))
def sixT : List T → List T | [o, c, a, w, t, s] => six6 o c a w t s | _ => []
def told6 (vs : List T) : T := match ruleErr PARTSL vs with
  | some p => .tup [.str "refused", .str p, .bl true]
  | none => .tup [.str "made", .tup (sixT vs)]
theorem RAt.i {h : Hh} {l : Nat} {o c a w t s : T} (x : RAt h l [o, c, a, w, t, s]) : insAt h l = some (("Rule" : Str), ruleIns o c a w t s) := by
  obtain ⟨_, _, _, _, _, _, e, x⟩ := x
  cases e
  exact insAt_of x
theorem RAt.upK {h h' : Hh} {l b : Nat} {vs : List T} (x : RAt h l vs) (u : Up b h h') (hn : l ≠ b) : RAt h' l vs := by
  obtain ⟨o, c, a, w, t, s, e, x⟩ := x
  refine ⟨o, c, a, w, t, s, e, ?_⟩
  rw [u.keep l (List.getElem?_eq_some_iff.mp x).1 hn]
  exact x
theorem RAt.app {h : Hh} {l : Nat} {vs : List T} (x : RAt h l vs) (z : Hh) : RAt (h ++ z) l vs := by
  obtain ⟨o, c, a, w, t, s, e, x⟩ := x
  exact ⟨o, c, a, w, t, s, e, by rw [List.getElem?_append_left (List.getElem?_eq_some_iff.mp x).1]; exact x⟩
theorem sortP_congr {ps qs : Prs} (p : ps.Perm qs) : sortP ps = sortP qs :=
  List.Perm.eq_of_pairwise (fun a b _ _ h1 h2 => leP_anti h1 h2) (sortP_pw _) (sortP_pw _) ((sortP_perm ps).trans (p.trans (sortP_perm qs).symm))
def menuT : Nat → List T
  | 0 => [.str "enter", .str "leave", .str "send"]
  | 1 => [.str "enter", .str "leave"]
  | 2 => [.str "own", .str "looks"]
  | 3 => [.bl false, .bl true]
  | 4 => [.str "any", .str "same", .str "last"]
  | _ => [.str "bar", .str "wait", .str "go"]
def GoodV (i : Nat) (v : T) : Prop := v ∈ menuT i ∨ (i = 2 ∧ ∃ ps, PrsOk ps ∧ ps.length ≤ 10 ∧ v = .tup (ps.map tPr))
def MenuW (f : Fn) : Prop := ∀ {h : Hh} {i : Nat} {Q : T → Hh → Prop} {E : EQ}, i < 6 → (∀ z, Q (.tup (menuT i)) (h ++ z)) → (f [.int i] h).wp Q E
def LFits6 (f : Fn) : Prop := ∀ {h : Hh} {i : Nat} {p : Str} {v : T} {Q : T → Hh → Prop} {E : EQ}, PARTSL[i]? = some p → JdN 2 v h → (∀ z, Q (.bl (fitsB p v)) (h ++ z)) → (f [.int i, v] h).wp Q E
def Prs6W (f : Fn) : Prop := ∀ {h : Hh} {l : Nat} {Q : T → Hh → Prop} {E : EQ}, IsBox h l → (∀ ps h', PrsOk ps → ps.length ≤ 10 → Up l h h' → Q (.tup (ps.map tPr)) h') → (f [.ref l] h).wp Q E
def Good6W (f : Fn) : Prop := ∀ {h : Hh} {l i : Nat} {Q : T → Hh → Prop} {E : EQ}, IsBox h l → i < 6 → (∀ v h', GoodV i v → Up l h h' → Q v h') → (f [.ref l, .int i] h).wp Q E
def Val6W (f : Fn) : Prop := ∀ {h : Hh} {l i : Nat} {Q : T → Hh → Prop} {E : EQ}, IsBox h l → i < 6 → (∀ v h', GA l 20 h' v → Up l h h' → Q v h') → (f [.ref l, .int i] h).wp Q E
def Made6W (f : Fn) : Prop := ∀ {h : Hh} {l : Nat} {vs : List T} {Q : T → Hh → Prop} {E : EQ}, lstAt h l = some vs → vs.length = 6 → (∀ v ∈ vs, JdN 2 v h ∧ shortT v) →
  (ruleErr PARTSL vs = none → ∀ z, RAt (h ++ z) h.length vs → Q (.ref h.length) (h ++ z)) → (∀ p, ruleErr PARTSL vs = some p → ∀ z, E "InvalidRule" [("part", .str p)] (h ++ z)) → (f [.ref l] h).wp Q E
def LSixE (f : Fn) : Prop := ∀ {h : Hh} {l : Nat} {vs : List T}, RAt h l vs → f [.ref l] h = .ok (.tup (sixT vs)) h
def Told6W (f : Fn) : Prop := ∀ {h : Hh} {l : Nat} {vs : List T} {Q : T → Hh → Prop} {E : EQ}, lstAt h l = some vs → vs.length = 6 → (∀ v ∈ vs, JdN 2 v h ∧ shortT v) → (∀ z, Q (told6 vs) (h ++ z)) → (f [.ref l] h).wp Q E
theorem six_of {vs : List T} (h : vs.length = 6) : ∃ o c a w t s, vs = [o, c, a, w, t, s] := by
  match vs, h with
  | [o, c, a, w, t, s], _ => exact ⟨o, c, a, w, t, s, rfl⟩
theorem fits_good {i : Nat} {p : Str} {v : T} (hp : PARTSL[i]? = some p) (g : GoodV i v) : fitsB p v = true := by
  rcases g with g | ⟨rfl, ps, po, _, rfl⟩
  · match i, hp with
    | 0, hp => cases hp; simp [menuT] at g; rcases g with rfl | rfl | rfl <;> decide +kernel
    | 1, hp => cases hp; simp [menuT] at g; rcases g with rfl | rfl <;> decide +kernel
    | 2, hp => cases hp; simp [menuT] at g; rcases g with rfl | rfl <;> decide +kernel
    | 3, hp => cases hp; simp [menuT] at g; rcases g with rfl | rfl <;> decide +kernel
    | 4, hp => cases hp; simp [menuT] at g; rcases g with rfl | rfl | rfl <;> decide +kernel
    | 5, hp => cases hp; simp [menuT] at g; rcases g with rfl | rfl | rfl <;> decide +kernel
    | i + 6, hp => exact absurd hp (by simp [PARTSL])
  · cases hp
    unfold fitsB
    rw [if_neg (by decide +kernel), pairsB_prs po]
    simp
end W3
end

section
namespace LW
open PySem W3
noncomputable section
def CS : List (Str × List Str) := [("Rule", ["opens", "checks", "around", "wipes", "taken", "sending"])]
def XS : XSub := [("InvalidRule", ["InvalidRule", "ShownError"])]
def FL : List Str := ["part"]
structure FF where
  is_name : List T → Hh → Res T
  is_name_pair : List T → Hh → Res T
  are_pairs : List T → Hh → Res T
  fits_part : List T → Hh → Res T
  Rule_init : List T → Hh → Res T
  Rule___eq__ : List T → Hh → Res T
  Rule_six : List T → Hh → Res T
  _law_mix : List T → Hh → Res T
  _law_box : List T → Hh → Res T
  _law_draw : List T → Hh → Res T
  _law_same : List T → Hh → Res T
  _law_menu : List T → Hh → Res T
  _law_is_name : List T → Hh → Res T
  _law_are_pairs : List T → Hh → Res T
  _law_fits : List T → Hh → Res T
  _law_pairs : List T → Hh → Res T
  _law_good : List T → Hh → Res T
  _law_value : List T → Hh → Res T
  _law_six : List T → Hh → Res T
  _law_made : List T → Hh → Res T
  _law_told : List T → Hh → Res T
  _law_due : List T → Hh → Res T
  law : List T → Hh → Res T
def b_is_name_1 (F : FF) : SS :=
  ssCons (ssRet (sC (.bl false)))
  (ssNil)
def b_is_name_2 (F : FF) : SS :=
  ssCons (ssRet (sOver bAll (saLc (siE (sVar 0)) (sgName 1) (stYes) (s2 oIn (sVar 1) (sC (.str "abcdefghijklmnopqrstuvwxyz"))) [1])))
  (ssNil)
def b_is_name (F : FF) : SS :=
  ssCons (ssIf (stOr (stNot (sT (s1 (oIsK .str) (sVar 0)))) (stNot (sT (sChain oLe oLe (sC (.int 1)) (sCl bLen (saCons (sVar 0) (saNil))) (sC (.int 8))))))
  (b_is_name_1 F)
  (ssNil))
  (b_is_name_2 F)
def b_is_name_pair_1 (F : FF) : SS :=
  ssCons (ssRet (sC (.bl false)))
  (ssNil)
def b_is_name_pair_2 (F : FF) : SS :=
  ssCons (ssRet (sIf (sT (sCl (arN 1 F.is_name) (saCons (s2 oIx (sVar 0) (sC (.int 0))) (saNil)))) (sIf (sT (sCl (arN 1 F.is_name) (saCons (s2 oIx (sVar 0) (sC (.int 1))) (saNil)))) (s2 oNe (s2 oIx (sVar 0) (sC (.int 0))) (s2 oIx (sVar 0) (sC (.int 1)))) (sC (.bl false))) (sC (.bl false))))
  (ssNil)
def b_is_name_pair (F : FF) : SS :=
  ssCons (ssIf (stOr (stNot (sT (s1 (oIsK .tuple) (sVar 0)))) (sT (s2 oNe (sCl bLen (saCons (sVar 0) (saNil))) (sC (.int 2)))))
  (b_is_name_pair_1 F)
  (ssNil))
  (b_is_name_pair_2 F)
def b_are_pairs_1 (F : FF) : SS :=
  ssCons (ssRet (sC (.bl false)))
  (ssNil)
def b_are_pairs_2 (F : FF) : SS :=
  ssCons (ssRet (s2 oEq (s1 oLenSetP (sVar 0)) (sCl bLen (saCons (sVar 0) (saNil)))))
  (ssNil)
def b_are_pairs (F : FF) : SS :=
  ssCons (ssIf (stOr (stNot (sT (s1 (oIsK .tuple) (sVar 0)))) (stNot (sT (sOver bAll (saLc (siE (sVar 0)) (sgName 1) (stYes) (sCl (arN 1 F.is_name_pair) (saCons (sVar 1) (saNil))) [1])))))
  (b_are_pairs_1 F)
  (ssNil))
  (b_are_pairs_2 F)
def b_fits_part_1 (F : FF) : SS :=
  ssCons (ssRet (s1 (oIsK .bool) (sVar 1)))
  (ssNil)
def b_fits_part_3 (F : FF) : SS :=
  ssCons (ssRet (sC (.bl true)))
  (ssNil)
def b_fits_part_4 (F : FF) : SS :=
  ssCons (ssRet (sIf (sT (s1 (oIsK .str) (sVar 1))) (s2 oIn (sVar 1) (s1 (oMenu [("opens", T.tup ((["enter", "leave", "send"] : List Str).map T.str)), ("checks", T.tup ((["enter", "leave"] : List Str).map T.str)), ("around", T.tup ((["own", "looks"] : List Str).map T.str)), ("taken", T.tup ((["any", "same", "last"] : List Str).map T.str)), ("sending", T.tup ((["bar", "wait", "go"] : List Str).map T.str))]) (sVar 0))) (sC (.bl false))))
  (ssNil)
def b_fits_part_2 (F : FF) : SS :=
  ssCons (ssIf (stAnd (sT (s2 oEq (sVar 0) (sC (.str "around")))) (sT (sCl (arN 1 F.are_pairs) (saCons (sVar 1) (saNil)))))
  (b_fits_part_3 F)
  (ssNil))
  (b_fits_part_4 F)
def b_fits_part (F : FF) : SS :=
  ssCons (ssIf (sT (s2 oEq (sVar 0) (sC (.str "wipes"))))
  (b_fits_part_1 F)
  (ssNil))
  (b_fits_part_2 F)
def b_Rule_init_3 (F : FF) : SS :=
  ssCons (ssRaiseX "InvalidRule" ["part"] (saCons (sVar 8) (saNil)))
  (ssNil)
def b_Rule_init_2 (F : FF) : SS :=
  ssCons (ssIf (stNot (sT (sCl (arN 2 F.fits_part) (saCons (sVar 8) (saCons (sVar 9) (saNil))))))
   (b_Rule_init_3 F)
   (ssNil))
  (ssNil)
def b_Rule_init_5 (F : FF) : SS :=
  ssCons (ssAsg (sCl bTuple (saCons (sCl bSorted (saCons (sVar 3) (saNil))) (saNil))) (sgName 3))
  (ssNil)
def b_Rule_init_11 (F : FF) : SS :=
  ssCons (ssFldC CS (sVar 0) (sVar 6) "sending")
  (ssNil)
def b_Rule_init_10 (F : FF) : SS :=
  ssCons (ssFldC CS (sVar 0) (sVar 5) "taken")
  (b_Rule_init_11 F)
def b_Rule_init_9 (F : FF) : SS :=
  ssCons (ssFldC CS (sVar 0) (sVar 4) "wipes")
  (b_Rule_init_10 F)
def b_Rule_init_8 (F : FF) : SS :=
  ssCons (ssFldC CS (sVar 0) (sVar 3) "around")
  (b_Rule_init_9 F)
def b_Rule_init_7 (F : FF) : SS :=
  ssCons (ssFldC CS (sVar 0) (sVar 2) "checks")
  (b_Rule_init_8 F)
def b_Rule_init_6 (F : FF) : SS :=
  ssCons (ssFldC CS (sVar 0) (sVar 1) "opens")
  (b_Rule_init_7 F)
def b_Rule_init_4 (F : FF) : SS :=
  ssCons (ssIf (sT (s1 (oIsK .tuple) (sVar 3)))
  (b_Rule_init_5 F)
  (ssNil))
  (b_Rule_init_6 F)
def b_Rule_init_1 (F : FF) : SS :=
  ssCons (ssFor (siZip (saCons (sC (.tup ((["opens", "checks", "around", "wipes", "taken", "sending"] : List Str).map T.str))) (saCons (sVar 7) (saNil)))) (sgTup 2 (sgsCons (sgName 8) (sgsCons (sgName 9) (sgsNil))))
  (b_Rule_init_2 F))
  (b_Rule_init_4 F)
def b_Rule_init (F : FF) : SS :=
  ssCons (ssAsg (sTup (saCons (sVar 1) (saCons (sVar 2) (saCons (sVar 3) (saCons (sVar 4) (saCons (sVar 5) (saCons (sVar 6) (saNil)))))))) (sgName 7))
  (b_Rule_init_1 F)
def b_Rule___eq___1 (F : FF) : SS :=
  ssCons (ssRet (sC (.bl false)))
  (ssNil)
def b_Rule___eq___2 (F : FF) : SS :=
  ssCons (ssRet (s2 oEq (sMeth "Rule" "six" 1 F.Rule_six (sVar 0) saNil) (sMeth "Rule" "six" 1 F.Rule_six (sVar 1) saNil)))
  (ssNil)
def b_Rule___eq__ (F : FF) : SS :=
  ssCons (ssIf (stNot (sT (s1 (oIsO "Rule") (sVar 1))))
  (b_Rule___eq___1 F)
  (ssNil))
  (b_Rule___eq___2 F)
def b_Rule_six (F : FF) : SS :=
  ssCons (ssRet (sTup (saCons (s1 (oFldC CS "opens") (sVar 0)) (saCons (s1 (oFldC CS "checks") (sVar 0)) (saCons (s1 (oFldC CS "around") (sVar 0)) (saCons (s1 (oFldC CS "wipes") (sVar 0)) (saCons (s1 (oFldC CS "taken") (sVar 0)) (saCons (s1 (oFldC CS "sending") (sVar 0)) (saNil)))))))))
  (ssNil)
def b__law_mix_2 (F : FF) : SS :=
  ssCons (ssRet (s2 oMod (s2 oMul (sVar 2) (s2 oAdd (s2 oDiv (sVar 2) (sC (.int 2003))) (sC (.int 40692)))) (sC (.int 2147483399))))
  (ssNil)
def b__law_mix_1 (F : FF) : SS :=
  ssCons (ssAsg (s2 oMod (s2 oMul (sVar 2) (s2 oAdd (s2 oDiv (sVar 2) (sC (.int 1009))) (sC (.int 69621)))) (sC (.int 2147483647))) (sgName 2))
  (b__law_mix_2 F)
def b__law_mix (F : FF) : SS :=
  ssCons (ssAsg (s2 oMod (s2 oMul (s2 oAdd (s2 oAdd (sCl bInt (saCons (sVar 0) (saNil))) (s2 oMul (sC (.int 7919)) (sVar 1))) (sC (.int 1))) (sC (.int 48271))) (sC (.int 2147483647))) (sgName 2))
  (b__law_mix_1 F)
def b__law_box_3 (F : FF) : SS :=
  ssCons (ssAsg (sCl (arN 2 F._law_mix) (saCons (s2 oAdd (sVar 3) (sVar 2)) (saCons (sC (.int 3)) (saNil)))) (sgName 3))
  (ssNil)
def b__law_box_4 (F : FF) : SS :=
  ssCons (ssRet (sLst (saCons (sVar 1) (saCons (sC (.int 0)) (saCons (sC (.int 0)) (saCons (sVar 3) (saCons (sC (.int 0)) (saNil))))))))
  (ssNil)
def b__law_box_2 (F : FF) : SS :=
  ssCons (ssFor (siE (sVar 1)) (sgName 2)
  (b__law_box_3 F))
  (b__law_box_4 F)
def b__law_box_1 (F : FF) : SS :=
  ssCons (ssAsg (sC (.int 11)) (sgName 3))
  (b__law_box_2 F)
def b__law_box (F : FF) : SS :=
  ssCons (ssAsg (sLc (saLc (siE (sSl (sVar 0) (soNone) (soSome (sC (.int 63))))) (sgName 2) (stYes) (sCl bInt (saCons (sVar 2) (saNil))) [2])) (sgName 1))
  (b__law_box_1 F)
def b__law_draw_5 (F : FF) : SS :=
  ssCons (ssRet (s2 oMod (sCl bInt (saCons (sCl (arN 2 F._law_mix) (saCons (sVar 2) (saCons (s2 oIx (sVar 0) (sC (.int 4))) (saNil)))) (saNil))) (sVar 1)))
  (ssNil)
def b__law_draw_6 (F : FF) : SS :=
  ssCons (ssSub (sVar 0) (sC (.int 2)) (sVar 2))
  (ssNil)
def b__law_draw_4 (F : FF) : SS :=
  ssCons (ssIf (sT (s2 oLt (sVar 2) (s2 oPow (sC (.int 10)) (sC (.int 18)))))
   (b__law_draw_5 F)
   (ssNil))
  (b__law_draw_6 F)
def b__law_draw_3 (F : FF) : SS :=
  ssCons (ssSub (sVar 0) (sC (.int 1)) (s2 oAdd (s2 oIx (sVar 0) (sC (.int 1))) (sC (.int 1))))
  (b__law_draw_4 F)
def b__law_draw_2 (F : FF) : SS :=
  ssCons (ssAsg (s2 oIx (s2 oIx (sVar 0) (sC (.int 0))) (s2 oIx (sVar 0) (sC (.int 1)))) (sgName 2))
  (b__law_draw_3 F)
def b__law_draw_8 (F : FF) : SS :=
  ssCons (ssRet (s2 oMod (sCl bInt (saCons (sCl (arN 2 F._law_mix) (saCons (s2 oIx (sVar 0) (sC (.int 3))) (saCons (s2 oIx (sVar 0) (sC (.int 4))) (saNil)))) (saNil))) (sVar 1)))
  (ssNil)
def b__law_draw_11 (F : FF) : SS :=
  ssCons (ssRet (sVar 3))
  (ssNil)
def b__law_draw_10 (F : FF) : SS :=
  ssCons (ssSub (sVar 0) (sC (.int 2)) (s2 oDiv (sCl bInt (saCons (s2 oIx (sVar 0) (sC (.int 2))) (saNil))) (sVar 1)))
  (b__law_draw_11 F)
def b__law_draw_9 (F : FF) : SS :=
  ssCons (ssAsg (s2 oMod (sCl bInt (saCons (s2 oIx (sVar 0) (sC (.int 2))) (saNil))) (sVar 1)) (sgName 3))
  (b__law_draw_10 F)
def b__law_draw_7 (F : FF) : SS :=
  ssCons (ssIf (sT (s2 oEq (s2 oIx (sVar 0) (sC (.int 2))) (sC (.int 0))))
  (b__law_draw_8 F)
  (ssNil))
  (b__law_draw_9 F)
def b__law_draw_1 (F : FF) : SS :=
  ssCons (ssIf (stAnd (sT (s2 oEq (s2 oIx (sVar 0) (sC (.int 2))) (sC (.int 0)))) (sT (s2 oLt (s2 oIx (sVar 0) (sC (.int 1))) (sCl bLen (saCons (s2 oIx (sVar 0) (sC (.int 0))) (saNil))))))
  (b__law_draw_2 F)
  (ssNil))
  (b__law_draw_7 F)
def b__law_draw (F : FF) : SS :=
  ssCons (ssSub (sVar 0) (sC (.int 4)) (s2 oAdd (s2 oIx (sVar 0) (sC (.int 4))) (sC (.int 1))))
  (b__law_draw_1 F)
def b__law_same_2 (F : FF) : SS :=
  ssCons (ssRet (sC (.bl false)))
  (ssNil)
def b__law_same_4 (F : FF) : SS :=
  ssCons (ssRet (sC (.bl false)))
  (ssNil)
def b__law_same_5 (F : FF) : SS :=
  ssCons (ssRet (sOver bAll (saLc (siRange1 (saCons (sCl bLen (saCons (sVar 1) (saNil))) (saNil))) (sgName 2) (stYes) (sCl (arN 2 F._law_same) (saCons (s2 oIx (sVar 0) (sVar 2)) (saCons (s2 oIx (sVar 1) (sVar 2)) (saNil)))) [2])))
  (ssNil)
def b__law_same_3 (F : FF) : SS :=
  ssCons (ssIf (sT (s2 oNe (sCl bLen (saCons (sVar 0) (saNil))) (sCl bLen (saCons (sVar 1) (saNil)))))
   (b__law_same_4 F)
   (ssNil))
  (b__law_same_5 F)
def b__law_same_1 (F : FF) : SS :=
  ssCons (ssIf (stOr (sT (s2 oNe (s1 (oIsK .tuple) (sVar 1)) (s1 (oIsK .tuple) (sVar 0)))) (sT (s2 oNe (s1 (oIsK .list) (sVar 1)) (s1 (oIsK .list) (sVar 0)))))
   (b__law_same_2 F)
   (ssNil))
  (b__law_same_3 F)
def b__law_same_7 (F : FF) : SS :=
  ssCons (ssRet (s2 oIs (sVar 0) (sC .non)))
  (ssNil)
def b__law_same_9 (F : FF) : SS :=
  ssCons (ssRet (sIf (sT (s1 (oIsK .bool) (sVar 1))) (sIf (sT (s1 (oIsK .bool) (sVar 0))) (s2 oEq (sVar 1) (sVar 0)) (sC (.bl false))) (sC (.bl false))))
  (ssNil)
def b__law_same_11 (F : FF) : SS :=
  ssCons (ssRet (sIf (sT (s1 (oIsK .int) (sVar 0))) (s2 oEq (sVar 0) (sVar 1)) (sC (.bl false))))
  (ssNil)
def b__law_same_12 (F : FF) : SS :=
  ssCons (ssRet (sIf (sT (s1 (oIsK .str) (sVar 0))) (s2 oEq (sVar 0) (sVar 1)) (sC (.bl false))))
  (ssNil)
def b__law_same_10 (F : FF) : SS :=
  ssCons (ssIf (sT (s1 (oIsK .int) (sVar 1)))
  (b__law_same_11 F)
  (ssNil))
  (b__law_same_12 F)
def b__law_same_8 (F : FF) : SS :=
  ssCons (ssIf (stOr (sT (s1 (oIsK .bool) (sVar 1))) (sT (s1 (oIsK .bool) (sVar 0))))
  (b__law_same_9 F)
  (ssNil))
  (b__law_same_10 F)
def b__law_same_6 (F : FF) : SS :=
  ssCons (ssIf (sT (s2 oIs (sVar 1) (sC .non)))
  (b__law_same_7 F)
  (ssNil))
  (b__law_same_8 F)
def b__law_same (F : FF) : SS :=
  ssCons (ssIf (stOr (sT (s1 (oIsK .tuple) (sVar 1))) (sT (s1 (oIsK .list) (sVar 1))))
  (b__law_same_1 F)
  (ssNil))
  (b__law_same_6 F)
def b__law_menu_2 (F : FF) : SS :=
  ssCons (ssRet (s2 oIx (sVar 1) (sVar 0)))
  (ssNil)
def b__law_menu_1 (F : FF) : SS :=
  ssCons (ssExpr (sMtL mExtend (sVar 1) (saCons (sLst (saCons (sTup (saCons (sC (.str "any")) (saCons (sC (.str "same")) (saCons (sC (.str "last")) (saNil))))) (saCons (sTup (saCons (sC (.str "bar")) (saCons (sC (.str "wait")) (saCons (sC (.str "go")) (saNil))))) (saNil)))) (saNil))))
  (b__law_menu_2 F)
def b__law_menu (F : FF) : SS :=
  ssCons (ssAsg (sLst (saCons (sTup (saCons (sC (.str "enter")) (saCons (sC (.str "leave")) (saCons (sC (.str "send")) (saNil))))) (saCons (sTup (saCons (sC (.str "enter")) (saCons (sC (.str "leave")) (saNil)))) (saCons (sTup (saCons (sC (.str "own")) (saCons (sC (.str "looks")) (saNil)))) (saCons (sTup (saCons (sC (.bl false)) (saCons (sC (.bl true)) (saNil)))) (saNil)))))) (sgName 1))
  (b__law_menu_1 F)
def b__law_is_name_1 (F : FF) : SS :=
  ssCons (ssRet (sC (.bl false)))
  (ssNil)
def b__law_is_name_2 (F : FF) : SS :=
  ssCons (ssRet (sOver bAll (saLc (siE (sVar 0)) (sgName 1) (stYes) (s2 oIn (sVar 1) (sC (.str "abcdefghijklmnopqrstuvwxyz"))) [1])))
  (ssNil)
def b__law_is_name (F : FF) : SS :=
  ssCons (ssIf (stOr (stNot (sT (s1 (oIsK .str) (sVar 0)))) (stNot (sT (sChain oLe oLe (sC (.int 1)) (sCl bLen (saCons (sVar 0) (saNil))) (sC (.int 8))))))
  (b__law_is_name_1 F)
  (ssNil))
  (b__law_is_name_2 F)
def b__law_are_pairs_1 (F : FF) : SS :=
  ssCons (ssRet (sC (.bl false)))
  (ssNil)
def b__law_are_pairs_4 (F : FF) : SS :=
  ssCons (ssRet (sC (.bl false)))
  (ssNil)
def b__law_are_pairs_6 (F : FF) : SS :=
  ssCons (ssRet (sC (.bl false)))
  (ssNil)
def b__law_are_pairs_5 (F : FF) : SS :=
  ssCons (ssIf (stOr (stNot (sT (sCl (arN 1 F._law_is_name) (saCons (s2 oIx (sVar 1) (sC (.int 0))) (saNil))))) (stOr (stNot (sT (sCl (arN 1 F._law_is_name) (saCons (s2 oIx (sVar 1) (sC (.int 1))) (saNil))))) (sT (s2 oEq (s2 oIx (sVar 1) (sC (.int 0))) (s2 oIx (sVar 1) (sC (.int 1)))))))
   (b__law_are_pairs_6 F)
   (ssNil))
  (ssNil)
def b__law_are_pairs_3 (F : FF) : SS :=
  ssCons (ssIf (stOr (stNot (sT (s1 (oIsK .tuple) (sVar 1)))) (sT (s2 oNe (sCl bLen (saCons (sVar 1) (saNil))) (sC (.int 2)))))
   (b__law_are_pairs_4 F)
   (ssNil))
  (b__law_are_pairs_5 F)
def b__law_are_pairs_7 (F : FF) : SS :=
  ssCons (ssRet (sOver bAll (saLc (siRange1 (saCons (sCl bLen (saCons (sVar 0) (saNil))) (saNil))) (sgName 2) (stYes) (s2 oNotIn (s2 oIx (sVar 0) (sVar 2)) (sSl (sVar 0) (soNone) (soSome (sVar 2)))) [2])))
  (ssNil)
def b__law_are_pairs_2 (F : FF) : SS :=
  ssCons (ssFor (siE (sVar 0)) (sgName 1)
  (b__law_are_pairs_3 F))
  (b__law_are_pairs_7 F)
def b__law_are_pairs (F : FF) : SS :=
  ssCons (ssIf (stNot (sT (s1 (oIsK .tuple) (sVar 0))))
  (b__law_are_pairs_1 F)
  (ssNil))
  (b__law_are_pairs_2 F)
def b__law_fits_1 (F : FF) : SS :=
  ssCons (ssRet (s1 (oIsK .bool) (sVar 1)))
  (ssNil)
def b__law_fits_3 (F : FF) : SS :=
  ssCons (ssRet (sC (.bl true)))
  (ssNil)
def b__law_fits_4 (F : FF) : SS :=
  ssCons (ssRet (sIf (sT (s1 (oIsK .str) (sVar 1))) (s2 oIn (sVar 1) (sCl (arN 1 F._law_menu) (saCons (sVar 0) (saNil)))) (sC (.bl false))))
  (ssNil)
def b__law_fits_2 (F : FF) : SS :=
  ssCons (ssIf (stAnd (sT (s2 oEq (sVar 0) (sC (.int 2)))) (sT (sCl (arN 1 F._law_are_pairs) (saCons (sVar 1) (saNil)))))
  (b__law_fits_3 F)
  (ssNil))
  (b__law_fits_4 F)
def b__law_fits (F : FF) : SS :=
  ssCons (ssIf (sT (s2 oEq (sVar 0) (sC (.int 3))))
  (b__law_fits_1 F)
  (ssNil))
  (b__law_fits_2 F)
def b__law_pairs_5 (F : FF) : SS :=
  ssCons (ssExpr (sMtL mAppend (sVar 2) (saCons (sVar 4) (saNil))))
  (ssNil)
def b__law_pairs_4 (F : FF) : SS :=
  ssCons (ssIf (stAnd (sT (s2 oNe (s2 oIx (sVar 4) (sC (.int 0))) (s2 oIx (sVar 4) (sC (.int 1))))) (sT (s2 oNotIn (sVar 4) (sVar 2))))
   (b__law_pairs_5 F)
   (ssNil))
  (ssNil)
def b__law_pairs_3 (F : FF) : SS :=
  ssCons (ssAsg (sTup (saCons (s2 oIx (sVar 1) (sCl (arN 2 F._law_draw) (saCons (sVar 0) (saCons (sC (.int 6)) (saNil))))) (saCons (s2 oIx (sVar 1) (sCl (arN 2 F._law_draw) (saCons (sVar 0) (saCons (sC (.int 6)) (saNil))))) (saNil)))) (sgName 4))
  (b__law_pairs_4 F)
def b__law_pairs_6 (F : FF) : SS :=
  ssCons (ssRet (sCl bTuple (saCons (sVar 2) (saNil))))
  (ssNil)
def b__law_pairs_2 (F : FF) : SS :=
  ssCons (ssFor (siRange1 (saCons (sCl (arN 2 F._law_draw) (saCons (sVar 0) (saCons (sC (.int 6)) (saNil)))) (saNil))) (sgName 3)
  (b__law_pairs_3 F))
  (b__law_pairs_6 F)
def b__law_pairs_1 (F : FF) : SS :=
  ssCons (ssAsg (sLst (saNil)) (sgName 2))
  (b__law_pairs_2 F)
def b__law_pairs (F : FF) : SS :=
  ssCons (ssAsg (sLst (saCons (sC (.str "a")) (saCons (sC (.str "b")) (saCons (sC (.str "abc")) (saCons (sC (.str "z")) (saCons (sC (.str "longname")) (saCons (sC (.str "f")) (saNil)))))))) (sgName 1))
  (b__law_pairs_1 F)
def b__law_good_1 (F : FF) : SS :=
  ssCons (ssRet (sCl (arN 1 F._law_pairs) (saCons (sVar 0) (saNil))))
  (ssNil)
def b__law_good_2 (F : FF) : SS :=
  ssCons (ssRet (s2 oIx (sCl (arN 1 F._law_menu) (saCons (sVar 1) (saNil))) (sCl (arN 2 F._law_draw) (saCons (sVar 0) (saCons (sCl bLen (saCons (sCl (arN 1 F._law_menu) (saCons (sVar 1) (saNil))) (saNil))) (saNil))))))
  (ssNil)
def b__law_good (F : FF) : SS :=
  ssCons (ssIf (stAnd (sT (s2 oEq (sVar 1) (sC (.int 2)))) (sT (s2 oEq (sCl (arN 2 F._law_draw) (saCons (sVar 0) (saCons (sC (.int 2)) (saNil)))) (sC (.int 1)))))
  (b__law_good_1 F)
  (ssNil))
  (b__law_good_2 F)
def b__law_value_4 (F : FF) : SS :=
  ssCons (ssRet (s2 oIx (sVar 2) (sCl (arN 2 F._law_draw) (saCons (sVar 0) (saCons (sCl bLen (saCons (sVar 2) (saNil))) (saNil))))))
  (ssNil)
def b__law_value_5 (F : FF) : SS :=
  ssCons (ssRet (sCl (arN 2 F._law_good) (saCons (sVar 0) (saCons (sVar 1) (saNil)))))
  (ssNil)
def b__law_value_3 (F : FF) : SS :=
  ssCons (ssIf (sT (s2 oEq (sCl (arN 2 F._law_draw) (saCons (sVar 0) (saCons (sC (.int 6)) (saNil)))) (sC (.int 0))))
  (b__law_value_4 F)
  (ssNil))
  (b__law_value_5 F)
def b__law_value_2 (F : FF) : SS :=
  ssCons (ssExpr (sMtL mExtend (sVar 2) (saCons (sLst (saCons (sTup (saCons (sTup (saCons (sC (.str "a")) (saCons (sC (.str "")) (saNil)))) (saNil))) (saCons (sTup (saCons (sLst (saCons (sC (.str "a")) (saCons (sC (.str "b")) (saNil)))) (saNil))) (saCons (sDic0) (saCons (sTup (saCons (sTup (saCons (sC (.str "a")) (saCons (sC (.str "b")) (saNil)))) (saCons (sC .non) (saNil)))) (saCons (sTup (saCons (sTup (saCons (sC (.str "a")) (saCons (sC (.int 1)) (saNil)))) (saNil))) (saCons (sTup (saCons (sTup (saNil)) (saNil))) (saNil)))))))) (saNil))))
  (b__law_value_3 F)
def b__law_value_1 (F : FF) : SS :=
  ssCons (ssExpr (sMtL mExtend (sVar 2) (saCons (sLst (saCons (sTup (saCons (sTup (saCons (sC (.str "a")) (saCons (sC (.str "a")) (saNil)))) (saNil))) (saCons (sTup (saCons (sTup (saCons (sC (.str "a")) (saCons (sC (.str "b")) (saNil)))) (saCons (sTup (saCons (sC (.str "a")) (saCons (sC (.str "b")) (saNil)))) (saNil)))) (saCons (sLst (saCons (sTup (saCons (sC (.str "a")) (saCons (sC (.str "b")) (saNil)))) (saNil))) (saCons (sTup (saCons (sTup (saCons (sC (.str "a")) (saCons (sC (.str "b")) (saCons (sC (.str "c")) (saNil))))) (saNil))) (saCons (sTup (saCons (sTup (saCons (sC (.str "a")) (saCons (sC (.str "B")) (saNil)))) (saNil))) (saCons (sTup (saCons (sC (.str "a")) (saCons (sC (.str "b")) (saNil)))) (saNil)))))))) (saNil))))
  (b__law_value_2 F)
def b__law_value (F : FF) : SS :=
  ssCons (ssAsg (sLst (saCons (sC (.str "enter")) (saCons (sC (.str "leave")) (saCons (sC (.str "send")) (saCons (sC (.str "own")) (saCons (sC (.str "looks")) (saCons (sC (.str "any")) (saCons (sC (.str "bar")) (saCons (sC (.bl true)) (saCons (sC (.bl false)) (saCons (sC (.int 0)) (saCons (sC (.int 1)) (saCons (sC .non) (saCons (sC (.str "")) (saCons (sC (.str "Own")) (saCons (sLst (saCons (sC (.str "own")) (saNil))) (saNil))))))))))))))))) (sgName 2))
  (b__law_value_1 F)
def b__law_six (F : FF) : SS :=
  ssCons (ssRet (sTup (saCons (s1 (oFldC CS "opens") (sVar 0)) (saCons (s1 (oFldC CS "checks") (sVar 0)) (saCons (s1 (oFldC CS "around") (sVar 0)) (saCons (s1 (oFldC CS "wipes") (sVar 0)) (saCons (s1 (oFldC CS "taken") (sVar 0)) (saCons (s1 (oFldC CS "sending") (sVar 0)) (saNil)))))))))
  (ssNil)
def b__law_made_1 (F : FF) : SS :=
  ssCons (ssRet (bMakeK "Rule" 3 3 [true, true, true] [] F.Rule_init (saCons (sVar 1) (saCons (sVar 2) (saCons (sVar 3) (saNil)))) (saCons (sVar 4) (saCons (sVar 5) (saCons (sVar 6) (saNil))))))
  (ssNil)
def b__law_made (F : FF) : SS :=
  ssCons (ssAsgH (sVar 0) (sgLst 6 (sgsCons (sgName 1) (sgsCons (sgName 2) (sgsCons (sgName 3) (sgsCons (sgName 4) (sgsCons (sgName 5) (sgsCons (sgName 6) (sgsNil)))))))))
  (b__law_made_1 F)
def b__law_told_1 (F : FF) : SS :=
  ssCons (ssAsg (sCl (arN 1 F._law_made) (saCons (sVar 0) (saNil))) (sgName 1))
  (ssNil)
def b__law_told_2 (F : FF) : SS :=
  ssCons (ssRet (sTup (saCons (sC (.str "made")) (saCons (sCl (arN 1 F._law_six) (saCons (sVar 1) (saNil))) (saNil)))))
  (ssNil)
def b__law_told (F : FF) : SS :=
  ssCons (ssTryX XS (b__law_told_1 F) (⟨"InvalidRule", some 2, fun c fs => ssRet (sTup (saCons (sC (.str "refused")) (saCons (sXf fs "part") (saCons (sC (.bl ((ssOf XS c).contains "ShownError"))) (saNil)))))⟩ :: []))
  (b__law_told_2 F)
def b__law_due_2 (F : FF) : SS :=
  ssCons (ssRet (sTup (saCons (sC (.str "refused")) (saCons (s2 oIx (sTup (saCons (sC (.str "opens")) (saCons (sC (.str "checks")) (saCons (sC (.str "around")) (saCons (sC (.str "wipes")) (saCons (sC (.str "taken")) (saCons (sC (.str "sending")) (saNil)))))))) (sVar 1)) (saCons (sC (.bl true)) (saNil))))))
  (ssNil)
def b__law_due_1 (F : FF) : SS :=
  ssCons (ssIf (stNot (sT (sCl (arN 2 F._law_fits) (saCons (sVar 1) (saCons (s2 oIx (sVar 0) (sVar 1)) (saNil))))))
   (b__law_due_2 F)
   (ssNil))
  (ssNil)
def b__law_due_5 (F : FF) : SS :=
  ssCons (ssSub (sVar 2) (sC (.int 2)) (sCl bTuple (saCons (sCl bSorted (saCons (s2 oIx (sVar 2) (sC (.int 2))) (saNil))) (saNil))))
  (ssNil)
def b__law_due_6 (F : FF) : SS :=
  ssCons (ssRet (sTup (saCons (sC (.str "made")) (saCons (sCl bTuple (saCons (sVar 2) (saNil))) (saNil)))))
  (ssNil)
def b__law_due_4 (F : FF) : SS :=
  ssCons (ssIf (sT (s1 (oIsK .tuple) (s2 oIx (sVar 2) (sC (.int 2)))))
  (b__law_due_5 F)
  (ssNil))
  (b__law_due_6 F)
def b__law_due_3 (F : FF) : SS :=
  ssCons (ssAsg (sCl bList (saCons (sVar 0) (saNil))) (sgName 2))
  (b__law_due_4 F)
def b__law_due (F : FF) : SS :=
  ssCons (ssFor (siRange1 (saCons (sC (.int 6)) (saNil))) (sgName 1)
  (b__law_due_1 F))
  (b__law_due_3 F)
def b_law_2 (F : FF) : SS :=
  ssCons (ssRet (sC (.bl false)))
  (ssNil)
def b_law_6 (F : FF) : SS :=
  ssCons (ssRet (sC (.bl false)))
  (ssNil)
def b_law_5 (F : FF) : SS :=
  ssCons (ssIf (stNot (sT (sCl (arN 2 F._law_same) (saCons (sCl (arN 1 F._law_told) (saCons (sVar 3) (saNil))) (saCons (sCl (arN 1 F._law_due) (saCons (sVar 3) (saNil))) (saNil))))))
   (b_law_6 F)
   (ssNil))
  (ssNil)
def b_law_4 (F : FF) : SS :=
  ssCons (ssAsg (sLc (saLc (siRange1 (saCons (sC (.int 6)) (saNil))) (sgName 4) (stYes) (sCl (arN 2 F._law_value) (saCons (sVar 1) (saCons (sVar 4) (saNil)))) [4])) (sgName 3))
  (b_law_5 F)
def b_law_11 (F : FF) : SS :=
  ssCons (ssSub (sVar 6) (sC (.int 2)) (sTupRev (sCl bList (saCons (s2 oIx (sVar 6) (sC (.int 2))) (saNil)))))
  (ssNil)
def b_law_13 (F : FF) : SS :=
  ssCons (ssRet (sC (.bl false)))
  (ssNil)
def b_law_18 (F : FF) : SS :=
  ssCons (ssExpr (sMtL mExtend (sVar 8) (saCons (sLst (saCons (sTup (saNil)) (saCons (sTup (saCons (sTup (saCons (sC (.str "a")) (saCons (sC (.str "q")) (saNil)))) (saNil))) (saCons (sTup (saCons (sTup (saCons (sC (.str "q")) (saCons (sC (.str "a")) (saNil)))) (saNil))) (saNil))))) (saNil))))
  (ssNil)
def b_law_22 (F : FF) : SS :=
  ssCons (ssRet (sC (.bl false)))
  (ssNil)
def b_law_21 (F : FF) : SS :=
  ssCons (ssIf (sT (s2 (fEq "Rule" F.Rule___eq__) (sVar 5) (sCl (arN 1 F._law_made) (saCons (sVar 7) (saNil)))))
   (b_law_22 F)
   (ssNil))
  (ssNil)
def b_law_20 (F : FF) : SS :=
  ssCons (ssSub (sVar 7) (sVar 4) (s2 oIx (sVar 9) (sCl (arN 2 F._law_draw) (saCons (sVar 1) (saCons (sCl bLen (saCons (sVar 9) (saNil))) (saNil))))))
  (b_law_21 F)
def b_law_19 (F : FF) : SS :=
  ssCons (ssAsg (sLc (saLc (siE (sVar 8)) (sgName 10) (sT (s2 oNe (sVar 10) (s2 oIx (sVar 3) (sVar 4)))) (sVar 10) [10])) (sgName 9))
  (b_law_20 F)
def b_law_17 (F : FF) : SS :=
  ssCons (ssIf (sT (s2 oEq (sVar 4) (sC (.int 2))))
   (b_law_18 F)
   (ssNil))
  (b_law_19 F)
def b_law_16 (F : FF) : SS :=
  ssCons (ssAsg (sCl bList (saCons (sCl (arN 1 F._law_menu) (saCons (sVar 4) (saNil))) (saNil))) (sgName 8))
  (b_law_17 F)
def b_law_15 (F : FF) : SS :=
  ssCons (ssAsg (sCl bList (saCons (sVar 3) (saNil))) (sgName 7))
  (b_law_16 F)
def b_law_23 (F : FF) : SS :=
  ssCons (ssRet (sCl (arN 2 F._law_same) (saCons (sCl (arN 1 F._law_six) (saCons (bMakeK "Rule" 0 3 [false, false, false] [(.bl false), (.str "same"), (.str "wait")] F.Rule_init (saCons (s2 oIx (sVar 3) (sC (.int 0))) (saCons (s2 oIx (sVar 3) (sC (.int 1))) (saCons (sC (.str "own")) (saNil)))) (saNil)) (saNil))) (saCons (sTup (saCons (s2 oIx (sVar 3) (sC (.int 0))) (saCons (s2 oIx (sVar 3) (sC (.int 1))) (saCons (sC (.str "own")) (saCons (sC (.bl false)) (saCons (sC (.str "same")) (saCons (sC (.str "wait")) (saNil)))))))) (saNil)))))
  (ssNil)
def b_law_14 (F : FF) : SS :=
  ssCons (ssFor (siRange1 (saCons (sC (.int 6)) (saNil))) (sgName 4)
  (b_law_15 F))
  (b_law_23 F)
def b_law_12 (F : FF) : SS :=
  ssCons (ssIf (stOr (stNot (sT (s2 (fEq "Rule" F.Rule___eq__) (sVar 5) (sCl (arN 1 F._law_made) (saCons (sVar 6) (saNil)))))) (sT (s2 (fNeO "Rule" F.Rule___eq__) (sVar 5) (sCl (arN 1 F._law_made) (saCons (sVar 6) (saNil))))))
  (b_law_13 F)
  (ssNil))
  (b_law_14 F)
def b_law_10 (F : FF) : SS :=
  ssCons (ssIf (sT (s1 (oIsK .tuple) (s2 oIx (sVar 6) (sC (.int 2)))))
  (b_law_11 F)
  (ssNil))
  (b_law_12 F)
def b_law_9 (F : FF) : SS :=
  ssCons (ssAsg (sCl bList (saCons (sVar 3) (saNil))) (sgName 6))
  (b_law_10 F)
def b_law_8 (F : FF) : SS :=
  ssCons (ssAsg (sCl (arN 1 F._law_made) (saCons (sVar 3) (saNil))) (sgName 5))
  (b_law_9 F)
def b_law_7 (F : FF) : SS :=
  ssCons (ssAsg (sLc (saLc (siRange1 (saCons (sC (.int 6)) (saNil))) (sgName 4) (stYes) (sCl (arN 2 F._law_good) (saCons (sVar 1) (saCons (sVar 4) (saNil)))) [4])) (sgName 3))
  (b_law_8 F)
def b_law_3 (F : FF) : SS :=
  ssCons (ssFor (siRange1 (saCons (sC (.int 8)) (saNil))) (sgName 2)
  (b_law_4 F))
  (b_law_7 F)
def b_law_1 (F : FF) : SS :=
  ssCons (ssIf (stNot (sT (sCl (arN 2 F._law_same) (saCons (sC (.tup ((["opens", "checks", "around", "wipes", "taken", "sending"] : List Str).map T.str))) (saCons (sTup (saCons (sC (.str "opens")) (saCons (sC (.str "checks")) (saCons (sC (.str "around")) (saCons (sC (.str "wipes")) (saCons (sC (.str "taken")) (saCons (sC (.str "sending")) (saNil)))))))) (saNil))))))
  (b_law_2 F)
  (ssNil))
  (b_law_3 F)
def b_law (F : FF) : SS :=
  ssCons (ssAsg (sCl (arN 1 F._law_box) (saCons (sVar 0) (saNil))) (sgName 1))
  (b_law_1 F)
def FF.stk : FF := ⟨fun _ _ => .stk, fun _ _ => .stk, fun _ _ => .stk, fun _ _ => .stk, fun _ _ => .stk, fun _ _ => .stk, fun _ _ => .stk, fun _ _ => .stk, fun _ _ => .stk, fun _ _ => .stk, fun _ _ => .stk, fun _ _ => .stk, fun _ _ => .stk, fun _ _ => .stk, fun _ _ => .stk, fun _ _ => .stk, fun _ _ => .stk, fun _ _ => .stk, fun _ _ => .stk, fun _ _ => .stk, fun _ _ => .stk, fun _ _ => .stk, fun _ _ => .stk⟩
def stepF (F : FF) : FF where
  is_name := defRun 2 (b_is_name F)
  is_name_pair := defRun 1 (b_is_name_pair F)
  are_pairs := defRun 2 (b_are_pairs F)
  fits_part := defRun 2 (b_fits_part F)
  Rule_init := defRun 10 (b_Rule_init F)
  Rule___eq__ := defRun 2 (b_Rule___eq__ F)
  Rule_six := defRun 1 (b_Rule_six F)
  _law_mix := defRun 3 (b__law_mix F)
  _law_box := defRun 4 (b__law_box F)
  _law_draw := defRun 4 (b__law_draw F)
  _law_same := defRun 3 (b__law_same F)
  _law_menu := defRun 2 (b__law_menu F)
  _law_is_name := defRun 2 (b__law_is_name F)
  _law_are_pairs := defRun 3 (b__law_are_pairs F)
  _law_fits := defRun 2 (b__law_fits F)
  _law_pairs := defRun 5 (b__law_pairs F)
  _law_good := defRun 2 (b__law_good F)
  _law_value := defRun 3 (b__law_value F)
  _law_six := defRun 1 (b__law_six F)
  _law_made := defRun 7 (b__law_made F)
  _law_told := defRun 3 (b__law_told F)
  _law_due := defRun 3 (b__law_due F)
  law := defRun 11 (b_law F)
def runF : Nat → FF
  | 0 => FF.stk
  | k + 1 => stepF (runF k)
end
end LW
end

section
namespace LW
open PySem W3
theorem ok_mix (F : FF) : MixW (defRun 3 (b__law_mix F)) := by
  intro v k h Q E hq
  have e1 : ∀ x : Int, 0 ≤ x % 2147483647 ∧ x % 2147483647 < 2147483647 := fun x => by omega
  have q := e1 ((v + 7919 * k + 1) * 48271)
  simp [b__law_mix, b__law_mix_1, b__law_mix_2]
  rw [e_mul_l (by omega) (by omega)]
  simp
  have q := e1 (((v + 7919 * k + 1) * 48271 % 2147483647 * ((v + 7919 * k + 1) * 48271 % 2147483647 / 1009 + 69621)))
  rw [e_mul_l (by omega) (by omega)]
  simp [hq]
theorem ok_box {F : FF} (m : MixW F._law_mix) : BoxW (defRun 4 (b__law_box F)) := by
  intro ns h Q E hns hq
  obtain ⟨ms, em, hm⟩ := cut_ints ns none (some 63)
  simp [b__law_box, b__law_box_1, em]
  refine wp_lcm (ts := ms.map T.int) id (szle (by simp; omega)) lstAt_new (fun x hx => ?_) ?_
  · obtain ⟨n, _, rfl⟩ := List.mem_map.mp hx
    simp
  simp [b__law_box_1, b__law_box_2]
  refine wp_for (ts := ms.map T.int) (fun i σ h1 => (∃ a z, σ = [some (T.fl (List.map T.int ns)), some (T.ref (List.length h + 1)), a, some (T.int z)]) ∧ h1 = h ++ [Ob.lst (List.map T.int ms), Ob.lst (List.map T.int ms)])
    (fun i σ h1 q => by rw [q.2]; simp [Src.Is]) ⟨⟨_, _, rfl⟩, rfl⟩ (fun i x σ h1 ex q => ?_) (fun σ h1 q => ?_)
  · obtain ⟨⟨a, z, rfl⟩, rfl⟩ := q
    obtain ⟨n, rfl⟩ := map_int_get ex
    refine ⟨_, rfl, ?_⟩
    simp [b__law_box_3]
    refine m fun y => ?_
    simp
  · obtain ⟨⟨a, z, rfl⟩, rfl⟩ := q
    simp [sizeLine, b__law_box_4]
    refine hq _ _ ⟨h.length + 1, ms, 0, 0, z, 0, ?_, ?_, by omega, by omega⟩ (by simp) (fun k hk => ?_) (fun c hc => ?_)
    · simp [BoxL]
    · simp
    · rw [List.getElem?_append_left hk]
    · unfold BoxC at hc
      simp at hc
      omega
theorem ok_draw {F : FF} (M : MixW F._law_mix) : DrawW (defRun 4 (b__law_draw F)) := by
  intro h l m Q E hb h0 h1 hq
  obtain ⟨c, cells, i, d, s, n, e, e2, hi, hd⟩ := hb
  have hne := IsBox.ne e e2
  have hlt := lstAt_lt e
  unfold BoxL at e
  have ec : ∀ o, lstAt (List.set h l o) c = some (cells.map T.int) := fun o => by rw [lstAt_set_ne hne]; exact e2
  have key : ∀ i' d' s' n', 0 ≤ i' → 0 ≤ d' → Up l h (List.set h l (.lst [T.ref c, T.int i', T.int d', T.int s', T.int n'])) := fun i' d' s' n' q1 q2 =>
    ⟨by simp, fun k _ hk => List.getElem?_set_ne (Ne.symm hk), ⟨c, cells, i', d', s', n', lstAt_set_self hlt, ec _, q1, q2⟩, by unfold BoxC; rw [lstAt_set_self hlt, e]⟩
  have hmod : ∀ x : Int, 0 ≤ x % m ∧ x % m < m := fun x => ⟨Int.emod_nonneg _ (by omega), Int.emod_lt_of_pos _ h0⟩
  simp [b__law_draw, b__law_draw_1, b__law_draw_2, b__law_draw_3, b__law_draw_4, b__law_draw_5, b__law_draw_6, b__law_draw_7, b__law_draw_8, b__law_draw_9, b__law_draw_10, b__law_draw_11, e, hlt]
  by_cases hd0 : d = 0
  · subst hd0
    by_cases hi2 : i < cells.length
    · obtain ⟨x, ex, qx⟩ := atI_int (xs := cells.map T.int) hi (by simpa using hi2)
      obtain ⟨z, rfl⟩ := map_int_get qx
      simp [ec, hlt, hi2, ex, h0, h1]
      refine ⟨fun hz => M fun y => ?_, fun hz => ⟨fun hz0 => by omega, fun hz0 => ?_⟩⟩
      · simp [h0]
        exact hq _ _ (hmod _).1 (hmod _).2 (key _ _ _ _ (by omega) (by omega))
      · exact hq _ _ (hmod _).1 (hmod _).2 (key _ _ _ _ (by omega) (Int.ediv_nonneg (by omega) (by omega)))
    · simp [ec, hlt, hi2, h0]
      refine M fun y => ?_
      simp [h0]
      exact hq _ _ (hmod _).1 (hmod _).2 (key _ _ _ _ (by omega) (by omega))
  · simp [hd0, hlt, h0, h1]
    exact hq _ _ (hmod _).1 (hmod _).2 (key _ _ _ _ (by omega) (Int.ediv_nonneg (by omega) (by omega)))
theorem ok_is_name (F : FF) : IsB (defRun 2 (b_is_name F)) 0 nameB := by
  intro v h j
  have hsz := sz
  apply eq_of_wp
  cases hv : isStr v with
  | false => simp [b_is_name, b_is_name_1, b_is_name_2, j_str j.jd, hv, nameB_not]
  | true =>
    obtain ⟨s, rfl⟩ := of_isStr hv
    have hl : s.length ≤ 1000 := j.jd
    simp [b_is_name, b_is_name_1, b_is_name_2, show s.length ≤ sizeLine by omega]
    refine ⟨fun h1 => ⟨fun h8 => ?_, fun h8 => ?_⟩, fun h1 => ?_⟩
    · simp [nameB, nmB, show ¬ s.length ≤ 8 by omega]
    · refine lcm_all (p := fun t => match t with | .str s => ltB s | _ => false) (szle (by rw [List.length_map, ← str_len]; omega)) rfl (fun x hx => ?_) ?_
      · obtain ⟨c, hc, rfl⟩ := List.mem_map.mp hx
        refine ⟨_, rfl, ?_⟩
        simp only [e_s2, e_sVar, e_sC, Res.bind_ok, List.set_cons_succ, List.set_cons_zero, List.getElem?_cons_succ, List.getElem?_cons_zero, oIn_ch]
        simp [ltB, LETS]
      · simp [nameB, nmB, show 1 ≤ s.length by omega, show s.length ≤ 8 by omega]
        rw [show s.cps.all _ = s.cps.toList.all _ from (Array.all_toList).symm]
        simp only [ltB, List.all_cons, List.all_nil, Bool.and_true]
    · simp [nameB, nmB, show ¬ 1 ≤ s.length by omega]
theorem ok_is_name_pair {F : FF} (N : IsB F.is_name 0 nameB) : IsB (defRun 1 (b_is_name_pair F)) 1 namePairB := by
  intro v h j
  apply eq_of_wp
  cases hv : isTup v with
  | false =>
    simp [b_is_name_pair, b_is_name_pair_1, j_tup j.jd, hv]
    cases v <;> first | rfl | cases hv
  | true =>
    obtain ⟨ts, rfl⟩ := of_isTup hv
    match ts, j with
    | [], _ => simp [b_is_name_pair, b_is_name_pair_1, namePairB]
    | [a], _ => simp [b_is_name_pair, b_is_name_pair_1, namePairB]
    | a :: b :: c :: r, _ => simp [b_is_name_pair, b_is_name_pair_1, namePairB, show ¬ ((r.length : Int) + 1 + 1 + 1 = 2) by omega]
    | [a, b], j =>
      have ja := j.tup (t := a) (by simp)
      have jb := j.tup (t := b) (by simp)
      have bad : (nameB a = false ∨ nameB b = false) → namePairB (.tup [a, b]) = false := fun z => by
        cases a with
        | str x =>
          cases b with
          | str y => rcases z with z | z <;> simp [nameB] at z <;> simp [namePairB, z]
          | _ => rfl
        | _ => rfl
      cases ha : nameB a with
      | false => simp [b_is_name_pair, b_is_name_pair_2, N ja, ha, bad]
      | true =>
        cases hb : nameB b with
        | false => simp [b_is_name_pair, b_is_name_pair_2, N ja, N jb, ha, hb, bad]
        | true =>
          cases a with
          | str x =>
            cases b with
            | str y =>
              simp [nameB] at ha hb
              simp [b_is_name_pair, b_is_name_pair_2, N ja, N jb, nameB, ha, hb, namePairB]
            | _ => simp [nameB] at hb
          | _ => simp [nameB] at ha
theorem ok_are_pairs {F : FF} (N : IsB F.is_name_pair 1 namePairB) : PairsE (defRun 2 (b_are_pairs F)) := by
  intro v h j sh
  have hsz := sz
  apply eq_of_wp
  cases hv : isTup v with
  | false =>
    simp [b_are_pairs, b_are_pairs_1, j_tup j.jd, hv]
    cases v <;> first | rfl | cases hv
  | true =>
    obtain ⟨ts, rfl⟩ := of_isTup hv
    have hl := sh ts rfl
    simp [b_are_pairs, b_are_pairs_1]
    refine lcm_all (p := namePairB) (szle (by omega)) rfl (fun x hx => ⟨_, rfl, by simp [N (j.tup hx)]⟩) ?_
    cases ha : ts.all namePairB with
    | false => simp [pairsB, ha]
    | true =>
      have e := pairs_prs ha
      obtain ⟨n, e1, e2⟩ := lenSet_prs (ps := ts.map prOf) (h := h) (by simpa using hl)
      rw [← e] at e1
      simp [b_are_pairs_2, e1]
      simp [pairsB, ha]
      rw [List.length_map] at e2
      simpa using e2
theorem six_menu {p : Str} (hp : p ∈ PARTSL) : (p = "wipes" ∧ ¬ p = "around") ∨ (¬ p = "wipes" ∧ ∃ ss, MEN.lookup p = some ss) := by
  simp only [PARTSL, List.mem_cons, List.not_mem_nil, or_false] at hp
  have key : ∀ {a b : Str}, p = a → a ≠ b → ¬ p = b := fun e n q => n (e.symm.trans q)
  rcases hp with h | h | h | h | h | h
  · exact .inr ⟨key h (by decide +kernel), ["enter", "leave", "send"], by rw [h]; decide +kernel⟩
  · exact .inr ⟨key h (by decide +kernel), ["enter", "leave"], by rw [h]; decide +kernel⟩
  · exact .inr ⟨key h (by decide +kernel), ["own", "looks"], by rw [h]; decide +kernel⟩
  · exact .inl ⟨h, key h (by decide +kernel)⟩
  · exact .inr ⟨key h (by decide +kernel), ["any", "same", "last"], by rw [h]; decide +kernel⟩
  · exact .inr ⟨key h (by decide +kernel), ["bar", "wait", "go"], by rw [h]; decide +kernel⟩
theorem ok_fits_part {F : FF} (A : PairsE F.are_pairs) : FitsE (defRun 2 (b_fits_part F)) := by
  intro p v h hp j sh
  apply eq_of_wp
  have ap := A j sh
  rcases six_menu hp with ⟨h1, h2⟩ | ⟨h1, ss, hm⟩
  · simp [b_fits_part, b_fits_part_1, fitsB, eq_true h1, j_bl j.jd]
  · have me := menu_at p h
    rw [hm] at me
    have rest : (b_fits_part_4 F [some (.str p), some v] h).wp (FQ.df (fun a h' => a = .bl (oneB v ss) ∧ h' = h) noE) := by
      cases hs : isStr v with
      | false =>
        simp [b_fits_part_4, j_str j.jd, hs]
        cases v <;> first | rfl | cases hs
      | true =>
        obtain ⟨s, rfl⟩ := of_isStr hs
        simp [b_fits_part_4]
        rw [me]
        simp [oneB]
    by_cases h2 : p = "around"
    · cases hb : pairsB v with
      | true => simp [b_fits_part, b_fits_part_2, b_fits_part_3, eq_false h1, eq_true h2, ap, hb, fitsB]
      | false =>
        simp [b_fits_part, b_fits_part_2, b_fits_part_3, eq_false h1, eq_true h2, ap, hb, fitsB, hm]
        exact rest
    · simp [b_fits_part, b_fits_part_2, eq_false h1, eq_false h2, fitsB, hm]
      exact rest
theorem cs_rule : CS.lookup ("Rule" : Str) = some (["opens", "checks", "around", "wipes", "taken", "sending"] : List Str) := by decide +kernel
theorem ok_Rule_init {F : FF} (Fi : FitsE F.fits_part) : RuleE (defRun 10 (b_Rule_init F)) := by
  intro o c a w t s h Q E hv hq he
  have hsz := sz
  have jd2 : ∀ v ∈ [o, c, a, w, t, s], JdN 2 v (h ++ [.ins "Rule" []]) ∧ shortT v := fun v z => ⟨JdN.ext (ext_app _ _) (hv v z).1, (hv v z).2⟩
  have zp : ∀ h', zipOf [T.tup [T.str "opens", T.str "checks", T.str "around", T.str "wipes", T.str "taken", T.str "sending"], T.tup [o, c, a, w, t, s]] h' = .ok (.its (zipL (tSs PARTSL) [o, c, a, w, t, s])) h' := fun _ => rfl
  simp [b_Rule_init, b_Rule_init_1, zp]
  have zg : ∀ (i : Nat) x, (zipL (tSs PARTSL) [o, c, a, w, t, s])[i]? = some x → ∃ p v, x = .tup [.str p, v] ∧ PARTSL[i]? = some p ∧ [o, c, a, w, t, s][i]? = some v := by
    intro i x e
    rw [zipL_get, List.getElem?_map] at e
    cases h1 : PARTSL[i]? with
    | none => rw [h1] at e; cases e
    | some p =>
      cases h2 : [o, c, a, w, t, s][i]? with
      | none => rw [h1, h2] at e; cases e
      | some v => rw [h1, h2] at e; cases e; exact ⟨p, v, rfl, rfl, rfl⟩
  have zl : (zipL (tSs PARTSL) [o, c, a, w, t, s]).length = 6 := rfl
  generalize zipL (tSs PARTSL) [o, c, a, w, t, s] = zs at zg zl
  have pl : PARTSL.length = 6 := rfl
  have vl : [o, c, a, w, t, s].length = 6 := rfl
  generalize hvs : [o, c, a, w, t, s] = vs at zg jd2 hq he vl
  refine wp_for (ts := zs) (fun i σ h1 => (∃ a8 a9, σ = [some (.ref h.length), some o, some c, some a, some w, some t, some s, some (.tup vs), a8, a9]) ∧ h1 = h ++ [.ins "Rule" []] ∧ ruleErr PARTSL vs = ruleErr (PARTSL.drop i) (vs.drop i))
    (fun i σ h1 q => rfl) ⟨⟨_, _, by rw [← hvs]⟩, rfl, rfl⟩ (fun i x σ h1 ex q => ?_) (fun σ h1 q => ?_)
  · obtain ⟨⟨a8, a9, rfl⟩, rfl, hr⟩ := q
    obtain ⟨p, v, rfl, ep, ev⟩ := zg i x ex
    refine ⟨_, rfl, ?_⟩
    obtain ⟨jv, sv⟩ := jd2 v (List.mem_of_getElem? ev)
    have fi := Fi (List.mem_of_getElem? ep) jv sv
    have d1 : PARTSL.drop i = p :: PARTSL.drop (i + 1) := by
      have hi := (List.getElem?_eq_some_iff.mp ep).1
      rw [List.drop_eq_getElem_cons hi, (List.getElem?_eq_some_iff.mp ep).2]
    have d2 : vs.drop i = v :: vs.drop (i + 1) := by
      have hi := (List.getElem?_eq_some_iff.mp ev).1
      rw [List.drop_eq_getElem_cons hi, (List.getElem?_eq_some_iff.mp ev).2]
    rw [d1, d2, show ∀ ps us, ruleErr (p :: ps) (v :: us) = if fitsB p v = false then some p else ruleErr ps us from fun _ _ => rfl] at hr
    cases hf : fitsB p v with
    | true =>
      rw [hf] at hr
      simp at hr
      simp [b_Rule_init_2, fi, hf]
      exact hr
    | false =>
      rw [hf] at hr
      simp at hr
      simp [b_Rule_init_2, b_Rule_init_3, fi, hf]
      exact he p hr [.ins "Rule" []]
  · obtain ⟨⟨a8, a9, rfl⟩, rfl, hr⟩ := q
    rw [zl, show PARTSL.drop 6 = [] from rfl] at hr
    have hn : ruleErr PARTSL vs = none := by rw [hr]; rfl
    have fin := hq hn
    have st6 : ∀ (b : T) (z : Hh), b = sortAro a → (b_Rule_init_6 F [some (.ref h.length), some o, some c, some b, some w, some t, some s, some (.tup vs), a8, a9] (h ++ .ins "Rule" [] :: z)).wp (FQ.df Q E) := by
      intro b z eb
      subst eb
      have e0 : ∀ fs, insAt (h ++ .ins "Rule" fs :: z) h.length = some (("Rule" : Str), fs) := fun fs => insAt_of (by simp)
      have s0 : ∀ fs fs', (h ++ .ins "Rule" fs :: z).set h.length (.ins "Rule" fs') = h ++ .ins "Rule" fs' :: z := fun fs fs' => by simp
      have st : ∀ (σ : St3) (f : Str) (y : T) fs, (["opens", "checks", "around", "wipes", "taken", "sending"] : List Str).contains f = true → fs.length < 1000 → fSet CS (.ref h.length) f y σ (h ++ .ins "Rule" fs :: z) = .nx σ (h ++ .ins "Rule" (putT f y fs) :: z) := fun σ f y fs q1 q2 => by
        rw [sfld_of (e0 fs) cs_rule q1 q2, s0]
      have key : putT "sending" s (putT "taken" t (putT "wipes" w (putT "around" (sortAro a) (putT "checks" c (putT "opens" o []))))) = ruleIns o c a w t s := by
        unfold ruleIns
        simp only [putT, if_neg (show ¬ (Str.ofString "opens" = Str.ofString "checks") by decide +kernel), if_neg (show ¬ (Str.ofString "opens" = Str.ofString "around") by decide +kernel), if_neg (show ¬ (Str.ofString "checks" = Str.ofString "around") by decide +kernel),
          if_neg (show ¬ (Str.ofString "opens" = Str.ofString "wipes") by decide +kernel), if_neg (show ¬ (Str.ofString "checks" = Str.ofString "wipes") by decide +kernel), if_neg (show ¬ (Str.ofString "around" = Str.ofString "wipes") by decide +kernel),
          if_neg (show ¬ (Str.ofString "opens" = Str.ofString "taken") by decide +kernel), if_neg (show ¬ (Str.ofString "checks" = Str.ofString "taken") by decide +kernel), if_neg (show ¬ (Str.ofString "around" = Str.ofString "taken") by decide +kernel), if_neg (show ¬ (Str.ofString "wipes" = Str.ofString "taken") by decide +kernel),
          if_neg (show ¬ (Str.ofString "opens" = Str.ofString "sending") by decide +kernel), if_neg (show ¬ (Str.ofString "checks" = Str.ofString "sending") by decide +kernel), if_neg (show ¬ (Str.ofString "around" = Str.ofString "sending") by decide +kernel), if_neg (show ¬ (Str.ofString "wipes" = Str.ofString "sending") by decide +kernel), if_neg (show ¬ (Str.ofString "taken" = Str.ofString "sending") by decide +kernel)]
      have pl : ∀ (f : Str) (y : T) fs n, fs.length ≤ n → (putT f y fs).length ≤ n + 1 := fun f y fs => by
        induction fs with
        | nil => intro n _; simp [putT]
        | cons a r ih =>
          intro n hn
          simp at hn
          unfold putT
          split
          · simp; omega
          · have := ih (n - 1) (by omega)
            simp; omega
      have l1 := pl "opens" o [] 0 (by simp)
      have l2 := pl "checks" c _ _ l1
      have l3 := pl "around" (sortAro a) _ _ l2
      have l4 := pl "wipes" w _ _ l3
      have l5 := pl "taken" t _ _ l4
      simp [b_Rule_init_6]
      rw [st _ "opens" o _ (by decide +kernel) (by simp)]
      simp [b_Rule_init_7]
      rw [st _ "checks" c _ (by decide +kernel) (by omega)]
      simp [b_Rule_init_8]
      rw [st _ "around" (sortAro a) _ (by decide +kernel) (by omega)]
      simp [b_Rule_init_9]
      rw [st _ "wipes" w _ (by decide +kernel) (by omega)]
      simp [b_Rule_init_10]
      rw [st _ "taken" t _ (by decide +kernel) (by omega)]
      simp [b_Rule_init_11]
      rw [st _ "sending" s _ (by decide +kernel) (by omega)]
      simp only [fp_nx, fd_n, key, fs_n, e_ssNil]
      exact fin _ (by simp)
    have ja := (jd2 a (by rw [← hvs]; simp)).1
    cases ht : isTup a with
    | false =>
      simp [b_Rule_init_4, j_tup ja.jd, ht]
      exact st6 a [] (by cases a <;> first | rfl | cases ht)
    | true =>
      obtain ⟨ts, rfl⟩ := of_isTup ht
      have fa : pairsB (.tup ts) = true := by
        have : ∀ (ps : List Str) (us : List T), ruleErr ps us = none → ∀ (i : Nat) p v, ps[i]? = some p → us[i]? = some v → fitsB p v = true := by
          intro ps
          induction ps with
          | nil => intro us _ i p v e; simp at e
          | cons p0 ps ih =>
            intro us e i p v e1 e2
            cases us with
            | nil => simp at e2
            | cons u us =>
              unfold ruleErr at e
              split at e
              · cases e
              · rename_i hf
                cases i with
                | zero => simp at e1 e2; subst e1 e2; simpa using hf
                | succ i => exact ih us e i p v (by simpa using e1) (by simpa using e2)
        have f2 := this PARTSL vs hn 2 "around" (.tup ts) rfl (by rw [← hvs]; rfl)
        unfold fitsB at f2
        rw [if_neg (by decide +kernel)] at f2
        have ml : MEN.lookup ("around" : Str) = some (["own", "looks"] : List Str) := by decide +kernel
        rw [ml] at f2
        simpa [oneB] using f2
      obtain ⟨ps, eps, po⟩ := pairsB_inv fa
      cases eps
      have pl2 : ps.length < 64 := by
        have := (hv (.tup (ps.map tPr)) (by simp)).2 _ rfl
        simpa using this
      have so := sort_prs (ps := ps) (h := h ++ [.ins "Rule" []]) (by omega)
      simp [b_Rule_init_4, b_Rule_init_5, so]
      exact st6 _ [.lst ((sortP ps).map tPr)] (by unfold sortAro; simp only [prOf_tPr])
theorem ok_same0 (F : FF) : SameW 0 (defRun 3 (b__law_same F)) := by
  intro t u h ⟨e, hf⟩
  subst e
  apply eq_of_wp
  cases t <;> simp [flatT] at hf <;> simp [b__law_same, b__law_same_6, b__law_same_7, b__law_same_8, b__law_same_9, b__law_same_10, b__law_same_11, b__law_same_12]
theorem ok_same {F : FF} {n : Nat} (ih : SameW n F._law_same) : SameW (n + 1) (defRun 3 (b__law_same F)) := by
  intro t u h q
  rcases q with ⟨e, hf⟩ | ⟨ts, us, hk, hl, hz, hs⟩
  · exact ok_same0 F (h := h) ⟨e, hf⟩
  · have hsz := sz
    have key : (lcRun (.its (rangeT 0 (us.length : Int).toNat)) (sgName 2) stYes (sCl (arN 2 F._law_same) (saCons (s2 oIx (sVar 0) (sVar 2)) (saCons (s2 oIx (sVar 1) (sVar 2)) saNil))) [some t, some u, none] ((Src.its (rangeT 0 (us.length : Int).toNat)).len h) 0 [] h) = .ok ((rangeT 0 us.length).map fun _ => .bl true) h := by
      rw [show ((us.length : Int)).toNat = us.length by omega]
      refine lc_map (fun _ => .bl true) (szle (by simp; omega)) rfl fun x hx => ?_
      obtain ⟨i, ex⟩ := List.getElem?_of_mem hx
      obtain ⟨rfl, hi⟩ := range_at ex
      have e1 : us[i]? = some us[i] := by simp [hi]
      have e2 : ts[i]? = some ts[i] := by simp [show i < ts.length by omega]
      have a1 := atI_nat e1
      have a2 := atI_nat e2
      have st := ih (hs i _ _ e2 e1)
      refine ⟨_, rfl, ?_⟩
      rcases hk with ⟨rfl, rfl⟩ | ⟨k1, k2⟩
      · simp [a1, a2, st]
      · simp [k1.ix, k2.ix, a1, a2, st]
    apply eq_of_wp
    rcases hk with ⟨rfl, rfl⟩ | ⟨k1, k2⟩
    · simp [b__law_same, b__law_same_1, b__law_same_3, b__law_same_5, hl]
      rw [e_rng (by omega) (by omega)]
      simp
      simp at key
      rw [key]
      simp
    · simp [b__law_same, b__law_same_1, b__law_same_3, b__law_same_5, k1.isK, k2.isK, k1.len, k2.len, hl]
      rw [e_rng (by omega) (by omega)]
      simp
      simp at key
      rw [key]
      simp
end LW
end

section
namespace LW
open PySem W3
theorem notin_prT {ps : Prs} (a b : Str) (h : Hh) : oNotIn (.tup [.str a, .str b]) (.tup (ps.map tPr)) h = .ok (.bl (!decide ((a, b) ∈ ps))) h := by
  have e1 : toD h 24 (.tup (ps.map tPr)) = some (.tuple (ps.map dPr)) := by
    show (optL (toD h 23) (ps.map tPr)).map PyData.tuple = _
    rw [optL_map (toD_prn h 21)]; rfl
  have e2 : toD h 24 (.tup [.str a, .str b]) = some (dPr (a, b)) := rfl
  have : inT (.tup [.str a, .str b]) (.tup (ps.map tPr)) h = some (decide ((a, b) ∈ ps)) := by
    show (match toD h 24 (.tup [.str a, .str b]), toD h 24 (.tup (ps.map tPr)) with
      | some d, some (.list ds) => some (ds.any fun z => PyData.eqv z d)
      | some d, some (.tuple ds) => some (ds.any fun z => PyData.eqv z d)
      | _, _ => none) = _
    rw [e1, e2]
    show some ((ps.map dPr).any fun z => PyData.eqv z (dPr (a, b))) = _
    rw [any_eqv eqv_pr]
    simp
  unfold oNotIn
  rw [this]
theorem ok_menu6 {F : FF} : MenuW (defRun 2 (b__law_menu F)) := by
  intro h i Q E hi hq
  have hsz := sz
  have e : L2.atI [T.tup (menuT 0), .tup (menuT 1), .tup (menuT 2), .tup (menuT 3), .tup (menuT 4), .tup (menuT 5)] (i : Int) = some (.tup (menuT i)) := by
    match i, hi with
    | 0, _ => rfl
    | 1, _ => rfl
    | 2, _ => rfl
    | 3, _ => rfl
    | 4, _ => rfl
    | 5, _ => rfl
  generalize hm : T.tup (menuT i) = m at *
  simp only [menuT] at e
  simp [b__law_menu, b__law_menu_1, isL, show 4 ≤ sizeLine by omega, show 3 ≤ sizeLine by omega, show 2 ≤ sizeLine by omega, show 6 ≤ sizeLine by omega, show 4 + 2 ≤ sizeLine by omega, b__law_menu_2, e]
  exact hq _
theorem ok_lis_name (F : FF) : IsB (defRun 2 (b__law_is_name F)) 0 nameB := by
  intro v h j
  have hsz := sz
  apply eq_of_wp
  cases hv : isStr v with
  | false => simp [b__law_is_name, b__law_is_name_1, b__law_is_name_2, j_str j.jd, hv, nameB_not]
  | true =>
    obtain ⟨s, rfl⟩ := of_isStr hv
    have hl : s.length ≤ 1000 := j.jd
    simp [b__law_is_name, b__law_is_name_1, b__law_is_name_2, show s.length ≤ sizeLine by omega]
    refine ⟨fun h1 => ⟨fun h8 => ?_, fun h8 => ?_⟩, fun h1 => ?_⟩
    · simp [nameB, nmB, show ¬ s.length ≤ 8 by omega]
    · refine lcm_all (p := fun t => match t with | .str s => ltB s | _ => false) (szle (by rw [List.length_map, ← str_len]; omega)) rfl (fun x hx => ?_) ?_
      · obtain ⟨c, hc, rfl⟩ := List.mem_map.mp hx
        refine ⟨_, rfl, ?_⟩
        simp only [e_s2, e_sVar, e_sC, Res.bind_ok, List.set_cons_succ, List.set_cons_zero, List.getElem?_cons_succ, List.getElem?_cons_zero, oIn_ch]
        simp [ltB, LETS]
      · simp [nameB, nmB, show 1 ≤ s.length by omega, show s.length ≤ 8 by omega]
        rw [show s.cps.all _ = s.cps.toList.all _ from (Array.all_toList).symm]
        simp only [ltB, List.all_cons, List.all_nil, Bool.and_true]
    · simp [nameB, nmB, show ¬ 1 ≤ s.length by omega]
theorem range_mem {k n : Nat} (h : k < n) : T.int (k : Int) ∈ rangeT 0 n := by
  have hl : k < (rangeT 0 n).length := by rw [range_length]; exact h
  have e := List.getElem?_eq_getElem hl
  obtain ⟨q, _⟩ := range_at e
  rw [← q]
  exact List.getElem_mem hl
theorem nodup_take {α : Type} [DecidableEq α] (ps : List α) : ps.Nodup ↔ ∀ k, (h : k < ps.length) → ps[k] ∉ ps.take k := by
  unfold List.Nodup
  rw [List.pairwise_iff_getElem]
  constructor
  · intro h k hk hm
    obtain ⟨i, hi, e⟩ := List.mem_take_iff_getElem.mp hm
    exact h i k (by omega) hk (by omega) e
  · intro h i j hi hj hij e
    exact h j hj (by rw [← e]; exact List.mem_take_iff_getElem.mpr ⟨i, by omega, rfl⟩)
def LPrsE (f : Fn) : Prop := ∀ {v : T} {h : Hh}, JdN 2 v h → f [v] h = .ok (.bl (pairsB v)) h
theorem ok_lpairs {F : FF} (N : IsB F._law_is_name 0 nameB) : LPrsE (defRun 3 (b__law_are_pairs F)) := by
  intro v h j
  have hsz := sz
  apply eq_of_wp
  cases hv : isTup v with
  | false =>
    simp [b__law_are_pairs, b__law_are_pairs_1, j_tup j.jd, hv]
    cases v <;> first | rfl | cases hv
  | true =>
    obtain ⟨ts, rfl⟩ := of_isTup hv
    have hl : ts.length ≤ 1000 := j.jd
    have bad : ∀ x ∈ ts, namePairB x = false → pairsB (.tup ts) = false := fun x hx hn => by
      have : ts.all namePairB = false := by
        rw [List.all_eq_false]
        exact ⟨x, hx, by rw [hn]; exact Bool.false_ne_true⟩
      show (ts.all namePairB && _) = false
      rw [this]
      rfl
    simp [b__law_are_pairs, b__law_are_pairs_2, srcOf]
    refine wp_for (s := .its ts) (ts := ts) (fun i σ h' => h' = h ∧ (∃ a1 : Option T, σ = [some (.tup ts), a1, none]) ∧ ∀ x ∈ ts.take i, namePairB x = true) (fun i σ h' q => rfl) ⟨rfl, ⟨none, rfl⟩, by simp⟩ (fun i x σ h' hx q => ?_) (fun σ h' q => ?_)
    · obtain ⟨rfl, ⟨a1, rfl⟩, gt⟩ := q
      have hm := List.mem_of_getElem? hx
      have jx : JdN 1 x h' := j.tup hm
      refine ⟨_, rfl, ?_⟩
      have ok : namePairB x = true → ∀ y ∈ ts.take (i + 1), namePairB y = true := fun hn y hy => by
        rw [List.take_add_one, hx] at hy
        rcases List.mem_append.mp hy with hy | hy
        · exact gt y hy
        · simp at hy; subst hy; exact hn
      cases hv : isTup x with
      | false =>
        have hb := bad x hm (by cases x <;> first | rfl | cases hv)
        simp [b__law_are_pairs_3, b__law_are_pairs_4, j_tup jx.jd, hv, hb]
      | true =>
        obtain ⟨us, rfl⟩ := of_isTup hv
        match us, jx, hm, ok with
        | [], _, hm, _ => simp [b__law_are_pairs_3, b__law_are_pairs_4, bad _ hm rfl]
        | [a], _, hm, _ => simp [b__law_are_pairs_3, b__law_are_pairs_4, bad _ hm (by simp [namePairB])]
        | a :: b :: c :: r, _, hm, _ => simp [b__law_are_pairs_3, b__law_are_pairs_4, bad _ hm (by simp [namePairB]), show ¬ ((r.length : Int) + 1 + 1 + 1 = 2) by omega]
        | [a, b], jx, hm, ok =>
          have ja := jx.tup (t := a) (by simp)
          have jb := jx.tup (t := b) (by simp)
          have bn : (nameB a = false ∨ nameB b = false) → pairsB (.tup ts) = false := fun z => bad _ hm (by
            cases a with
            | str x =>
              cases b with
              | str y => rcases z with z | z <;> simp [nameB] at z <;> simp [namePairB, z]
              | _ => rfl
            | _ => rfl)
          cases ha : nameB a with
          | false => simp [b__law_are_pairs_3, b__law_are_pairs_5, b__law_are_pairs_6, N ja, ha, bn]
          | true =>
            cases hb : nameB b with
            | false => simp [b__law_are_pairs_3, b__law_are_pairs_5, b__law_are_pairs_6, N ja, N jb, ha, hb, bn]
            | true =>
              cases a with
              | str x =>
                cases b with
                | str y =>
                  simp [nameB] at ha hb
                  by_cases e : x = y
                  · have hp := bad _ hm (show namePairB (.tup [.str x, .str y]) = false by simp [namePairB, e])
                    simp [b__law_are_pairs_3, b__law_are_pairs_5, b__law_are_pairs_6, N ja, N jb, nameB, ha, hb, e, hp]
                  · have hn : namePairB (.tup [.str x, .str y]) = true := by simp [namePairB, ha, hb, e]
                    simp [b__law_are_pairs_3, b__law_are_pairs_5, N ja, N jb, nameB, ha, hb, e]
                    exact ok hn
                | _ => simp [nameB] at hb
              | _ => simp [nameB] at ha
    · obtain ⟨rfl, ⟨a1, rfl⟩, gt⟩ := q
      rw [List.take_length] at gt
      have ha : ts.all namePairB = true := List.all_eq_true.mpr gt
      have e := pairs_prs ha
      have pb : pairsB (.tup ts) = decide ((ts.map prOf).Nodup) := by
        show (ts.all namePairB && _) = _
        rw [ha]
        rfl
      rw [pb]
      generalize hps : ts.map prOf = ps at *
      subst e
      clear hps
      simp [b__law_are_pairs_7]
      rw [e_rng (by omega) (by simp at hl; omega)]
      simp
      refine lcm_all (s := .its (rangeT 0 ps.length)) (ts := rangeT 0 ps.length) (p := fun t => match t with | .int k => (match ps[k.toNat]? with | some p => !decide (p ∈ ps.take k.toNat) | none => false) | _ => false) (szle (by simp at hl ⊢; omega)) rfl (fun x hx => ?_) ?_
      · obtain ⟨k, hk⟩ := List.getElem?_of_mem hx
        obtain ⟨rfl, hkl⟩ := range_at hk
        have e1 : L2.atI (ps.map tPr) (k : Int) = some (tPr ps[k]) := atI_nat (by rw [List.getElem?_map, List.getElem?_eq_getElem hkl]; rfl)
        have e2 : cutT (ps.map tPr) none (some (k : Int)) = (ps.take k).map tPr := by rw [cut_to, List.map_take]
        have e3 := notin_prT (ps := ps.take k) ps[k].1 ps[k].2 h'
        refine ⟨_, rfl, ?_⟩
        simp [e1, e2, hkl]
        rw [show tPr ps[k] = .tup [.str ps[k].1, .str ps[k].2] from rfl, ← List.map_take, e3]
      · have : (rangeT 0 ps.length).all (fun t => match t with | .int k => (match ps[k.toNat]? with | some p => !decide (p ∈ ps.take k.toNat) | none => false) | _ => false) = decide ps.Nodup := by
          rw [Bool.eq_iff_iff, decide_eq_true_eq, nodup_take, List.all_eq_true]
          constructor
          · intro g k hk hm
            have := g (.int k) (range_mem hk)
            simp [hk] at this
            exact this hm
          · intro g x hx
            obtain ⟨k, hk⟩ := List.getElem?_of_mem hx
            obtain ⟨rfl, hkl⟩ := range_at hk
            simp [hkl]
            exact g k hkl
        rw [this]
        simp
def wordsAt : Nat → List Str
  | 0 => ["enter", "leave", "send"]
  | 1 => ["enter", "leave"]
  | 2 => ["own", "looks"]
  | 3 => []
  | 4 => ["any", "same", "last"]
  | _ => ["bar", "wait", "go"]
theorem menu_words {i : Nat} (h : i ≠ 3) : menuT i = tSs (wordsAt i) := by
  match i, h with
  | 0, _ => rfl
  | 1, _ => rfl
  | 2, _ => rfl
  | 4, _ => rfl
  | i + 5, _ => rfl
theorem fits_at {i : Nat} {p : Str} (v : T) (hp : PARTSL[i]? = some p) (h3 : i ≠ 3) : fitsB p v = ((decide (i = 2) && pairsB v) || oneB v (wordsAt i)) := by
  have key : ∀ (p : Str) (b : Bool) (ss : List Str), ¬ p = "wipes" → decide (p = "around") = b → MEN.lookup p = some ss → fitsB p v = ((b && pairsB v) || oneB v ss) := fun p b ss h1 h2 h3 => by
    unfold fitsB
    rw [if_neg h1, h2, h3]
  match i, hp, h3 with
  | 0, hp, _ => cases hp; exact key _ false _ (by decide +kernel) (by decide +kernel) (by decide +kernel)
  | 1, hp, _ => cases hp; exact key _ false _ (by decide +kernel) (by decide +kernel) (by decide +kernel)
  | 2, hp, _ => cases hp; exact key _ true _ (by decide +kernel) (by decide +kernel) (by decide +kernel)
  | 4, hp, _ => cases hp; exact key _ false _ (by decide +kernel) (by decide +kernel) (by decide +kernel)
  | 5, hp, _ => cases hp; exact key _ false _ (by decide +kernel) (by decide +kernel) (by decide +kernel)
  | i + 6, hp, _ => exact absurd hp (by simp [PARTSL])
theorem ok_fits6 {F : FF} (M : MenuW F._law_menu) (Pr : LPrsE F._law_are_pairs) : LFits6 (defRun 2 (b__law_fits F)) := by
  intro h i p v Q E hp j hq
  have hsz := sz
  have q0 : ∀ b, b = fitsB p v → Q (.bl b) h := fun b e => by rw [e]; simpa using hq []
  have hi : i < 6 := (List.getElem?_eq_some_iff.mp hp).1
  by_cases h3 : i = 3
  · subst h3
    cases hp
    simp [b__law_fits, b__law_fits_1, j_bl j.jd]
    exact q0 _ (by unfold fitsB; rw [if_pos rfl])
  · have fa := fits_at v hp h3
    have last : (b__law_fits_4 F [some (.int i), some v] h).wp (FQ.df (fun a h' => ∃ z, h' = h ++ z ∧ a = .bl (oneB v (wordsAt i))) noE) := by
      cases hs : isStr v with
      | false =>
        simp [b__law_fits_4, j_str j.jd, hs]
        cases v <;> first | rfl | cases hs
      | true =>
        obtain ⟨s, rfl⟩ := of_isStr hs
        simp [b__law_fits_4]
        refine M hi fun z => ?_
        rw [menu_words h3]
        simp [oneB]
    have last2 : (pairsB v = true → i ≠ 2) → (b__law_fits_4 F [some (.int i), some v] h).wp (FQ.df Q E) := fun hn => by
      refine Flo.wp.mono last (fun σ h' q => by obtain ⟨_, _, q⟩ := q; cases q) (fun a h' q => ?_) (fun σ h' q => q) (fun σ h' q => q) (fun c fs σ h' q => q.elim)
      obtain ⟨z, rfl, rfl⟩ := q
      have : oneB v (wordsAt i) = fitsB p v := by
        rw [fa]
        cases hb : pairsB v with
        | false => simp
        | true => simp [hn hb]
      rw [this]
      exact hq z
    have h3' : ¬ (i : Int) = 3 := by omega
    by_cases h2 : i = 2
    · subst h2
      cases hb : pairsB v with
      | true =>
        simp [b__law_fits, b__law_fits_2, Pr j, hb, b__law_fits_3]
        exact q0 _ (by rw [fa, hb]; simp)
      | false =>
        simp [b__law_fits, b__law_fits_2, Pr j, hb]
        exact last2 (fun e => by rw [hb] at e; cases e)
    · have h2' : ¬ (i : Int) = 2 := by omega
      simp [b__law_fits, h3', b__law_fits_2, h2']
      exact last2 (fun _ => h2)
end LW
end

section
namespace LW
open PySem W3
def NS6 : List Str := ["a", "b", "abc", "z", "longname", "f"]
theorem nm6 : ∀ s ∈ NS6, Nm s := by
  have : ∀ s ∈ NS6, nmB s = true := by decide +kernel
  exact fun s hs => nmB_iff.mp (this s hs)
def P6I (h : Hh) (l : Nat) (i : Nat) (σ : St3) (h' : Hh) : Prop := ∃ (ps : Prs) (a3 a4 : Option T), σ = [some (.ref l), some (.ref h.length), some (.ref (h.length + 1)), a3, a4] ∧ Kp l h.length h h' ∧ lstAt h' h.length = some (tSs NS6) ∧ lstAt h' (h.length + 1) = some (ps.map tPr) ∧ PrsOk ps ∧ ps.length ≤ i
theorem ok_pairs6 {F : FF} (D : DrawW F._law_draw) : Prs6W (defRun 5 (b__law_pairs F)) := by
  intro h l Q E hb hq
  have hsz := sz
  have hbl := hb.lt
  have e6 : ([T.str "a", .str "b", .str "abc", .str "z", .str "longname", .str "f"] : List T) = tSs NS6 := rfl
  simp [b__law_pairs, show 6 ≤ sizeLine by omega, b__law_pairs_1, b__law_pairs_2]
  rw [e6]
  have n0 : lstAt (h ++ [Ob.lst (tSs NS6), .lst []]) h.length = some (tSs NS6) := by simp
  have f0 : lstAt (h ++ [Ob.lst (tSs NS6), .lst []]) (h.length + 1) = some (([] : Prs).map tPr) := by simp
  have k0 : Kp l h.length h (h ++ [Ob.lst (tSs NS6), .lst []]) := Up.app hb _
  generalize h ++ [Ob.lst (tSs NS6), .lst []] = h1 at *
  refine D k0.box (by omega) (by omega) fun n h2 n0' n1' u2 => ?_
  have n2 := u2.lst n0 (by omega)
  have f2 := u2.lst f0 (by omega)
  have k2 := k0.up u2
  simp
  rw [e_rng (by omega) (by omega)]
  simp
  refine wp_for (ts := rangeT 0 n.toNat) (P6I h l)
    (fun i σ h' q => rfl) ⟨[], none, none, rfl, k2, n2, f2, ⟨List.nodup_nil, fun p hp => by cases hp⟩, by simp⟩ (fun i x σ h' hx q => ?_) (fun σ h' q => ?_)
  · obtain ⟨ps, a3, a4, rfl, kp, hn, hf, po, pl⟩ := q
    obtain ⟨rfl, hi⟩ := range_at hx
    refine ⟨_, rfl, ?_⟩
    simp [b__law_pairs_3, hn]
    refine D kp.box (by omega) (by omega) fun a h3 a0 a1 u3 => ?_
    have hn3 := u3.lst hn (by omega)
    obtain ⟨x, ex, hx⟩ := atI_map T.str (xs := NS6) a0 (show a < (NS6.length : Int) by rw [show NS6.length = 6 from rfl]; omega)
    simp [hn3, ex]
    refine D u3.box (by omega) (by omega) fun b h4 b0 b1 u4 => ?_
    have hn4 := u4.lst hn3 (by omega)
    have hf4 := u4.lst (u3.lst hf (by omega)) (by omega)
    have kp4 := (kp.up u3).up u4
    obtain ⟨y, ey, hy⟩ := atI_map T.str (xs := NS6) b0 (show b < (NS6.length : Int) by rw [show NS6.length = 6 from rfl]; omega)
    have nin : oNotIn (.tup [.str x, .str y]) (.ref (h.length + 1)) h4 = .ok (.bl (!decide ((x, y) ∈ ps))) h4 := notin_prl x y hf4
    simp [hn4, ey, show 2 ≤ sizeLine by omega, b__law_pairs_4]
    by_cases hxy : x = y
    · simp [hxy]
      exact ⟨ps, _, _, rfl, kp4, hn4, hf4, po, by omega⟩
    · simp [hxy, nin]
      by_cases hin : (x, y) ∈ ps
      · simp [hin]
        exact ⟨ps, _, _, rfl, kp4, hn4, hf4, po, by omega⟩
      · have fl := lstAt_lt hf4
        simp [hin, b__law_pairs_5, isL, hf4, show ps.length < sizeLine by omega]
        refine ⟨ps ++ [(x, y)], _, _, rfl, kp4.set _ hb (Nat.le_refl _) (by omega), by rw [lstAt_set_ne (by omega)]; exact hn4, by rw [lstAt_set_self fl]; simp [tPr], ⟨?_, fun p hp => ?_⟩, by simp; omega⟩
        · refine List.nodup_append.mpr ⟨po.nd, by simp, fun a ha b hb => ?_⟩
          rw [List.mem_singleton] at hb
          subst hb
          intro e
          subst e
          exact hin ha
        · rcases List.mem_append.mp hp with hp | hp
          · exact po.nm p hp
          · rw [List.mem_singleton] at hp
            subst hp
            exact ⟨nm6 x hx, nm6 y hy, hxy⟩
  · obtain ⟨ps, a3, a4, rfl, kp, hn, hf, po, pl⟩ := q
    rw [range_length] at pl
    simp [b__law_pairs_6, hf]
    exact hq ps h' po (by omega) kp
theorem menu_len {i : Nat} (h : i < 6) : 2 ≤ (menuT i).length ∧ (menuT i).length ≤ 3 := by
  match i, h with
  | 0, _ => exact ⟨by decide, by decide⟩
  | 1, _ => exact ⟨by decide, by decide⟩
  | 2, _ => exact ⟨by decide, by decide⟩
  | 3, _ => exact ⟨by decide, by decide⟩
  | 4, _ => exact ⟨by decide, by decide⟩
  | 5, _ => exact ⟨by decide, by decide⟩
theorem ok_good6 {F : FF} (D : DrawW F._law_draw) (M : MenuW F._law_menu) (Pr : Prs6W F._law_pairs) : Good6W (defRun 2 (b__law_good F)) := by
  intro h l i Q E hb hi hq
  obtain ⟨m2, m3⟩ := menu_len hi
  have last : ∀ h1, Up l h h1 → (b__law_good_2 F [some (.ref l), some (.int i)] h1).wp (FQ.df Q E) := fun h1 u1 => by
    simp [b__law_good_2]
    refine M hi fun z => ?_
    have u2 := Kp.app u1 z
    simp
    refine M hi fun z2 => ?_
    have u3 := Kp.app u2 z2
    generalize (h1 ++ z) ++ z2 = h3 at *
    simp
    refine D u3.box (by omega) (by omega) fun d h4 d0 d1 u4 => ?_
    obtain ⟨v, e, q⟩ := atI_int (xs := menuT i) d0 (by omega)
    simp [e]
    exact hq v h4 (.inl (List.mem_of_getElem? q)) (u3.up u4)
  by_cases h2 : i = 2
  · subst h2
    simp [b__law_good]
    refine D hb (by omega) (by omega) fun d h1 d0 d1 u1 => ?_
    simp
    refine ⟨fun _ => ?_, fun _ => ?_⟩
    · simp [b__law_good_1]
      refine Pr u1.box fun ps h2 po pl u2 => ?_
      simp
      exact hq _ h2 (.inr ⟨rfl, ps, po, pl, rfl⟩) (u1.up u2)
    · exact last h1 u1
  · have h2' : ¬ (i : Int) = 2 := by omega
    simp [b__law_good, h2']
    exact last h (Up.refl hb)
theorem good_ga {l i : Nat} {h : Hh} {v : T} (hi : i < 6) (g : GoodV i v) : GA l 20 h v := by
  rcases g with g | ⟨rfl, ps, po, pl, rfl⟩
  · by_cases h3 : i = 3
    · subst h3
      simp [menuT] at g
      rcases g with rfl | rfl <;> exact GA.bl
    · rw [menu_words h3] at g
      obtain ⟨s, hs, rfl⟩ := List.mem_map.mp g
      have : s.length ≤ 1000 := by
        have hall : ∀ i, i < 6 → ∀ s ∈ wordsAt i, s.length ≤ 1000 := by decide +kernel
        exact hall i hi s hs
      exact GA.str this
  · refine GA.tup (by simp; omega) fun x hx => ?_
    obtain ⟨p, hp, rfl⟩ := List.mem_map.mp hx
    obtain ⟨n1, n2, _⟩ := po.nm p hp
    refine GA.tup (by simp) fun y hy => ?_
    simp at hy
    rcases hy with rfl | rfl
    · exact GA.str n1.short
    · exact GA.str n2.short
end LW
end

section
namespace LW
open PySem W3
theorem ok_value6 {F : FF} (D : DrawW F._law_draw) (G : Good6W F._law_good) : Val6W (defRun 3 (b__law_value F)) := by
  intro h l i Q E hb hi hq
  have hsz := sz
  have hbl := hb.lt
  have big : ∀ n : Nat, n ≤ 100 → n ≤ sizeLine := fun n hn => by omega
  obtain ⟨A, hA⟩ : ∃ A : List T, A = [T.str "enter", .str "leave", .str "send", .str "own", .str "looks", .str "any", .str "bar", .bl true, .bl false, .int 0, .int 1, .non, .str "", .str "Own", .ref h.length] := ⟨_, rfl⟩
  have e1 : lstAt (h ++ [Ob.lst [T.str "own"], .lst A]) h.length = some [T.str "own"] := by simp
  have e2 : lstAt (h ++ [Ob.lst [T.str "own"], .lst A]) (h.length + 1) = some A := by simp
  have z1 : Fz h.length h (h ++ [Ob.lst [T.str "own"], .lst A]) := Fz.app (Nat.le_refl _) _
  have lA : A.length = 15 := by rw [hA]; rfl
  simp [b__law_value, big]
  rw [← hA]
  generalize h ++ [Ob.lst [T.str "own"], .lst A] = h1 at *
  obtain ⟨B, hB⟩ : ∃ B : List T, B = [T.tup [.tup [.str "a", .str "a"]], .tup [.tup [.str "a", .str "b"], .tup [.str "a", .str "b"]], .ref h1.length, .tup [.tup [.str "a", .str "b", .str "c"]], .tup [.tup [.str "a", .str "B"]], .tup [.str "a", .str "b"]] := ⟨_, rfl⟩
  have lB : B.length = 6 := by rw [hB]; rfl
  have l1 := lstAt_lt e2
  have f1 := lstAt_app [Ob.lst [T.tup [.str "a", .str "b"]], .lst B] e1
  have f2 := lstAt_app [Ob.lst [T.tup [.str "a", .str "b"]], .lst B] e2
  have f3 : lstAt (h1 ++ [Ob.lst [T.tup [.str "a", .str "b"]], .lst B]) h1.length = some [T.tup [.str "a", .str "b"]] := by simp
  have f4 : lstAt (h1 ++ [Ob.lst [T.tup [.str "a", .str "b"]], .lst B]) (h1.length + 1) = some B := by simp
  have z2 := z1.trans (Fz.app z1.1 [Ob.lst [T.tup [.str "a", .str "b"]], .lst B])
  simp [b__law_value_1, isL, big, e2]
  rw [← hB]
  generalize h1 ++ [Ob.lst [T.tup [.str "a", .str "b"]], .lst B] = h2 at *
  simp [f2, f4, lA, lB, big]
  have g2 : lstAt (h2.set (h.length + 1) (.lst (A ++ B))) (h.length + 1) = some (A ++ B) := by rw [lstAt_set_self (lstAt_lt f2)]
  have g1 : lstAt (h2.set (h.length + 1) (.lst (A ++ B))) h.length = some [T.str "own"] := by rw [lstAt_set_ne (by omega)]; exact f1
  have g3 : lstAt (h2.set (h.length + 1) (.lst (A ++ B))) h1.length = some [T.tup [.str "a", .str "b"]] := by rw [lstAt_set_ne (by omega)]; exact f3
  have z3 := z2.trans (Fz.set (show h.length ≤ h.length + 1 by omega) (Ob.lst (A ++ B)))
  generalize h2.set (h.length + 1) (.lst (A ++ B)) = h3 at *
  have l3 := lstAt_lt g3
  obtain ⟨C, hC⟩ : ∃ C : List T, C = [T.tup [.tup [.str "a", .str ""]], .tup [.ref h3.length], .ref (h3.length + 1), .tup [.tup [.str "a", .str "b"], .non], .tup [.tup [.str "a", .int 1]], .tup [.tup []]] := ⟨_, rfl⟩
  have lC : C.length = 6 := by rw [hC]; rfl
  have k1 := lstAt_app [Ob.lst [T.str "a", .str "b"], .dic [], .lst C] g1
  have k2 := lstAt_app [Ob.lst [T.str "a", .str "b"], .dic [], .lst C] g2
  have k3 := lstAt_app [Ob.lst [T.str "a", .str "b"], .dic [], .lst C] g3
  have k4 : lstAt (h3 ++ [Ob.lst [T.str "a", .str "b"], .dic [], .lst C]) h3.length = some [T.str "a", .str "b"] := by simp
  have k5 : (h3 ++ [Ob.lst [T.str "a", .str "b"], .dic [], .lst C])[h3.length + 1]? = some (.dic []) := by simp
  have k6 : lstAt (h3 ++ [Ob.lst [T.str "a", .str "b"], .dic [], .lst C]) (h3.length + 2) = some C := by simp
  have z4 := z3.trans (Fz.app z3.1 [Ob.lst [T.str "a", .str "b"], .dic [], .lst C])
  simp [b__law_value_2, isL, big, g2]
  rw [← hC]
  generalize h3 ++ [Ob.lst [T.str "a", .str "b"], .dic [], .lst C] = h4 at *
  simp [k2, k6, lA, lB, lC, big]
  have m2 : lstAt (h4.set (h.length + 1) (.lst (A ++ (B ++ C)))) (h.length + 1) = some (A ++ (B ++ C)) := by rw [lstAt_set_self (lstAt_lt k2)]
  have m1 : lstAt (h4.set (h.length + 1) (.lst (A ++ (B ++ C)))) h.length = some [T.str "own"] := by rw [lstAt_set_ne (by omega)]; exact k1
  have m3 : lstAt (h4.set (h.length + 1) (.lst (A ++ (B ++ C)))) h1.length = some [T.tup [.str "a", .str "b"]] := by rw [lstAt_set_ne (by omega)]; exact k3
  have m4 : lstAt (h4.set (h.length + 1) (.lst (A ++ (B ++ C)))) h3.length = some [T.str "a", .str "b"] := by rw [lstAt_set_ne (by omega)]; exact k4
  have m5 : (h4.set (h.length + 1) (.lst (A ++ (B ++ C))))[h3.length + 1]? = some (.dic []) := by rw [List.getElem?_set_ne (by omega)]; exact k5
  have z5 := z4.trans (Fz.set (show h.length ≤ h.length + 1 by omega) (Ob.lst (A ++ (B ++ C))))
  generalize h4.set (h.length + 1) (.lst (A ++ (B ++ C))) = h5 at *
  obtain ⟨z, rfl⟩ := z5.out
  have u5 : Up l h (h ++ z) := Up.app hb z
  have ml : (A ++ (B ++ C)).length = 27 := by rw [List.length_append, List.length_append, lA, lB, lC]
  have sl : ∀ s : Str, s ∈ (["enter", "leave", "send", "own", "looks", "any", "bar", "", "Own", "a", "b", "c", "B"] : List Str) → s.length ≤ 1000 := by decide +kernel
  have ga : ∀ v ∈ A ++ (B ++ C), GA l 20 (h ++ z) v := by
    have S : ∀ s : Str, s ∈ (["enter", "leave", "send", "own", "looks", "any", "bar", "", "Own", "a", "b", "c", "B"] : List Str) → GA l 20 (h ++ z) (.str s) := fun s hs => GA.str (sl s hs)
    have pr : ∀ s t : Str, s ∈ (["enter", "leave", "send", "own", "looks", "any", "bar", "", "Own", "a", "b", "c", "B"] : List Str) → t ∈ (["enter", "leave", "send", "own", "looks", "any", "bar", "", "Own", "a", "b", "c", "B"] : List Str) → GA l 20 (h ++ z) (.tup [.str s, .str t]) := fun s t hs ht => GA.tup (by simp) fun x hx => by
      simp at hx
      rcases hx with rfl | rfl
      · exact S s hs
      · exact S t ht
    have ia : ("a" : Str) ∈ (["enter", "leave", "send", "own", "looks", "any", "bar", "", "Own", "a", "b", "c", "B"] : List Str) := by decide +kernel
    have ib : ("b" : Str) ∈ (["enter", "leave", "send", "own", "looks", "any", "bar", "", "Own", "a", "b", "c", "B"] : List Str) := by decide +kernel
    intro v hv
    rcases List.mem_append.mp hv with hv | hv
    · rw [hA] at hv
      simp only [List.mem_cons, List.not_mem_nil, or_false] at hv
      rcases hv with rfl | rfl | rfl | rfl | rfl | rfl | rfl | rfl | rfl | rfl | rfl | rfl | rfl | rfl | rfl
      · exact S _ (by decide +kernel)
      · exact S _ (by decide +kernel)
      · exact S _ (by decide +kernel)
      · exact S _ (by decide +kernel)
      · exact S _ (by decide +kernel)
      · exact S _ (by decide +kernel)
      · exact S _ (by decide +kernel)
      · exact GA.bl
      · exact GA.bl
      · exact GA.int
      · exact GA.int
      · exact GA.non
      · exact S _ (by decide +kernel)
      · exact S _ (by decide +kernel)
      · exact GA.lst (by omega) m1
    · rcases List.mem_append.mp hv with hv | hv
      · rw [hB] at hv
        simp only [List.mem_cons, List.not_mem_nil, or_false] at hv
        rcases hv with rfl | rfl | rfl | rfl | rfl | rfl
        · exact GA.tup (by simp) fun x hx => by simp at hx; subst hx; exact pr _ _ ia ia
        · exact GA.tup (by simp) fun x hx => by simp at hx; subst hx; exact pr _ _ ia ib
        · exact GA.lst (by omega) m3
        · exact GA.tup (by simp) fun x hx => by
            simp at hx; subst hx
            exact GA.tup (by simp) fun y hy => by
              simp at hy
              rcases hy with rfl | rfl | rfl
              · exact S _ ia
              · exact S _ ib
              · exact S _ (by decide +kernel)
        · exact GA.tup (by simp) fun x hx => by simp at hx; subst hx; exact pr _ _ ia (by decide +kernel)
        · exact pr _ _ ia ib
      · rw [hC] at hv
        simp only [List.mem_cons, List.not_mem_nil, or_false] at hv
        rcases hv with rfl | rfl | rfl | rfl | rfl | rfl
        · exact GA.tup (by simp) fun x hx => by simp at hx; subst hx; exact pr _ _ ia (by decide +kernel)
        · exact GA.tup (by simp) fun x hx => by simp at hx; subst hx; exact GA.lst (by omega) m4
        · exact GA.dic (by omega) m5
        · exact GA.tup (by simp) fun x hx => by
            simp at hx
            rcases hx with rfl | rfl
            · exact pr _ _ ia ib
            · exact GA.non
        · exact GA.tup (by simp) fun x hx => by
            simp at hx; subst hx
            exact GA.tup (by simp) fun y hy => by
              simp at hy
              rcases hy with rfl | rfl
              · exact S _ ia
              · exact GA.int
        · exact GA.tup (by simp) fun x hx => by simp at hx; subst hx; exact GA.tup (by simp) fun y hy => by cases hy
  generalize A ++ (B ++ C) = L at *
  simp [b__law_value_3]
  refine D u5.box (by omega) (by omega) fun d h6 d0 d1 u6 => ?_
  have n2 := u6.lst m2 (by omega)
  have u7 := u5.up u6
  simp
  refine ⟨fun _ => ?_, fun _ => ?_⟩
  · simp [b__law_value_4, n2]
    refine D u7.box (by omega) (by omega) fun d h8 d0 d1 u8 => ?_
    have n3 := u8.lst n2 (by have := u6.le; omega)
    obtain ⟨v, e, q⟩ := atI_int (xs := L) d0 (by omega)
    simp [n3, e]
    exact hq v h8 (((ga v (List.mem_of_getElem? q)).up u6).up u8) (u7.up u8)
  · simp [b__law_value_5]
    refine G u7.box hi fun v h8 g u8 => ?_
    simp
    exact hq v h8 (good_ga hi g) (u7.up u8)
end LW
end

section
namespace LW
open PySem W3
theorem xs_rule : XS.lookup ("InvalidRule" : Str) = some (["InvalidRule", "ShownError"] : List Str) := by decide +kernel
section
variable {h : Hh} {l : Nat} {o c a w t s : T}
theorem rflds (x : RAt h l [o, c, a, w, t, s]) : oFldC CS "opens" (.ref l) h = .ok o h ∧ oFldC CS "checks" (.ref l) h = .ok c h ∧ oFldC CS "around" (.ref l) h = .ok (sortAro a) h ∧
    oFldC CS "wipes" (.ref l) h = .ok w h ∧ oFldC CS "taken" (.ref l) h = .ok t h ∧ oFldC CS "sending" (.ref l) h = .ok s h :=
  have i := x.i
  ⟨fld_of i cs_rule (by decide +kernel) (by kernel_rfl), fld_of i cs_rule (by decide +kernel) (by kernel_rfl), fld_of i cs_rule (by decide +kernel) (by kernel_rfl), fld_of i cs_rule (by decide +kernel) (by kernel_rfl), fld_of i cs_rule (by decide +kernel) (by kernel_rfl), fld_of i cs_rule (by decide +kernel) (by kernel_rfl)⟩
end
theorem ok_lsix6 {F : FF} : LSixE (defRun 1 (b__law_six F)) := by
  intro h l vs x
  have hsz := sz
  obtain ⟨o, c, a, w, t, s, rfl, _⟩ := id x
  obtain ⟨e1, e2, e3, e4, e5, e6⟩ := rflds x
  apply eq_of_wp
  simp [b__law_six, e1, e2, e3, e4, e5, e6, show 6 ≤ sizeLine by omega, sixT, six6]
theorem ok_rsix6 {F : FF} : LSixE (defRun 1 (b_Rule_six F)) := by
  intro h l vs x
  have hsz := sz
  obtain ⟨o, c, a, w, t, s, rfl, _⟩ := id x
  obtain ⟨e1, e2, e3, e4, e5, e6⟩ := rflds x
  apply eq_of_wp
  simp [b_Rule_six, e1, e2, e3, e4, e5, e6, show 6 ≤ sizeLine by omega, sixT, six6]
theorem ok_made6 {F : FF} (R : RuleE F.Rule_init) : Made6W (defRun 7 (b__law_made F)) := by
  intro h l vs Q E hl h6 hv hq he
  obtain ⟨o, c, a, w, t, s, rfl⟩ := six_of h6
  simp [b__law_made, hl, b__law_made_1, weave]
  refine R hv (fun e z hz => ?_) (fun p e z => he p e z)
  simp
  exact hq e z ⟨o, c, a, w, t, s, rfl, hz⟩
theorem ok_told6 {F : FF} (Md : Made6W F._law_made) (Sx : LSixE F._law_six) : Told6W (defRun 3 (b__law_told F)) := by
  intro h l vs Q E hl h6 hv hq
  have hsz := sz
  simp [b__law_told, b__law_told_1]
  refine Md hl h6 hv (fun e z x => ?_) (fun p e z => ?_)
  · simp [b__law_told_2, Sx x, show 2 ≤ sizeLine by omega]
    have := hq z
    unfold told6 at this
    rw [e] at this
    exact this
  · simp
    rw [try_hit xs_rule (by decide +kernel)]
    have so : (ssOf XS ("InvalidRule" : Str)).contains ("ShownError" : Str) = true := by decide +kernel
    simp [slSet, show 3 ≤ sizeLine by omega, clrF, xf_one, so]
    have := hq z
    unfold told6 at this
    rw [e] at this
    exact this
theorem err_drop : ∀ (i : Nat) (vs : List T), (∀ j p v, j < i → PARTSL[j]? = some p → vs[j]? = some v → fitsB p v = true) → i ≤ vs.length → i ≤ 6 → ruleErr PARTSL vs = ruleErr (PARTSL.drop i) (vs.drop i)
  | 0, vs, _, _, _ => by simp
  | i + 1, vs, g, h1, h2 => by
    rw [err_drop i vs (fun j p v hj => g j p v (by omega)) (by omega) (by omega)]
    have l6 : PARTSL.length = 6 := rfl
    have d1 : PARTSL.drop i = PARTSL[i]'(by omega) :: PARTSL.drop (i + 1) := List.drop_eq_getElem_cons (by omega)
    have d2 : vs.drop i = vs[i]'(by omega) :: vs.drop (i + 1) := List.drop_eq_getElem_cons (by omega)
    rw [d1, d2]
    have := g i _ _ (by omega) (List.getElem?_eq_getElem (by omega)) (List.getElem?_eq_getElem (by omega))
    show (if fitsB _ _ = false then _ else _) = _
    rw [this, if_neg (by simp)]
theorem err_at {i : Nat} {vs : List T} {p : Str} {v : T} (g : ∀ j p v, j < i → PARTSL[j]? = some p → vs[j]? = some v → fitsB p v = true) (hp : PARTSL[i]? = some p) (hv : vs[i]? = some v) (hb : fitsB p v = false) : ruleErr PARTSL vs = some p := by
  have l6 : PARTSL.length = 6 := rfl
  have i6 := (List.getElem?_eq_some_iff.mp hp).1
  have iv := (List.getElem?_eq_some_iff.mp hv).1
  rw [err_drop i vs g (by omega) (by omega), List.drop_eq_getElem_cons i6, List.drop_eq_getElem_cons iv, (List.getElem?_eq_some_iff.mp hp).2, (List.getElem?_eq_some_iff.mp hv).2]
  show (if fitsB p v = false then some p else _) = _
  rw [if_pos hb]
theorem ok_due6 {F : FF} (Fi : LFits6 F._law_fits) : Told6W (defRun 3 (b__law_due F)) := by
  intro h l vs Q E hl h6 hv hq
  have hsz := sz
  have ll := lstAt_lt hl
  simp [b__law_due]
  refine wp_for (ts := rangeT 0 6) (fun i σ h' => (∃ a1 : Option T, σ = [some (.ref l), a1, none]) ∧ (∃ z, h' = h ++ z) ∧ ∀ j p v, j < i → PARTSL[j]? = some p → vs[j]? = some v → fitsB p v = true) (fun i σ h' q => rfl) ⟨⟨none, rfl⟩, ⟨[], by simp⟩, fun j p v hj => by omega⟩ (fun i x σ h' hx q => ?_) (fun σ h' q => ?_)
  · obtain ⟨⟨a1, rfl⟩, ⟨z, rfl⟩, g⟩ := q
    obtain ⟨rfl, hi⟩ := range_at hx
    refine ⟨_, rfl, ?_⟩
    have l6 : PARTSL.length = 6 := rfl
    have hp : PARTSL[i]? = some (PARTSL[i]'(by omega)) := List.getElem?_eq_getElem (by omega)
    have hvv : vs[i]? = some (vs[i]'(by omega)) := List.getElem?_eq_getElem (by omega)
    generalize PARTSL[i]'(by omega) = p at *
    have hm := List.mem_of_getElem? hvv
    generalize vs[i]'(by omega) = v at *
    have e1 : L2.atI vs (i : Int) = some v := atI_nat hvv
    have j2 : JdN 2 v (h ++ z) := JdN.ext (ext_app _ _) (hv v hm).1
    have ep : L2.atI (tSs PARTSL) (i : Int) = some (.str p) := atI_nat (by rw [List.getElem?_map, hp]; rfl)
    simp [b__law_due_1, lstAt_app z hl, e1]
    refine Fi hp j2 fun z2 => ?_
    cases hb : fitsB p v with
    | true =>
      simp
      have key : ∀ j p v, j < i + 1 → PARTSL[j]? = some p → vs[j]? = some v → fitsB p v = true := fun j p' v' hj hp' hv' => by
        by_cases hji : j = i
        · subst hji
          rw [hp] at hp'
          rw [hvv] at hv'
          cases hp'
          cases hv'
          exact hb
        · exact g j p' v' (by omega) hp' hv'
      first | exact ⟨⟨_, rfl⟩, ⟨z ++ z2, by simp⟩, key⟩ | exact ⟨⟨_, rfl⟩, key⟩ | exact key | exact ⟨⟨z ++ z2, by simp⟩, key⟩
    | false =>
      simp only [PARTSL, tSs, List.map_cons, List.map_nil] at ep
      simp [b__law_due_2, show 6 ≤ sizeLine by omega, ep, show 3 ≤ sizeLine by omega]
      have := hq (z ++ z2)
      unfold told6 at this
      rw [err_at g hp hvv hb, ← List.append_assoc] at this
      simpa using this
  · obtain ⟨⟨a1, rfl⟩, ⟨z, rfl⟩, g⟩ := q
    rw [range_length] at g
    have hn : ruleErr PARTSL vs = none := by rw [err_drop 6 vs (fun j p v hj => g j p v hj) (by omega) (by omega)]; rfl
    have hq2 : ∀ z, Q (.tup [.str "made", .tup (sixT vs)]) (h ++ z) := fun z => by
      have := hq z
      unfold told6 at this
      rw [hn] at this
      exact this
    obtain ⟨o, c, a, w, t, s, rfl⟩ := six_of h6
    have fa := g 2 "around" a (by omega) rfl rfl
    have ja : JdN 2 a ((h ++ z) ++ [Ob.lst [o, c, a, w, t, s]]) := JdN.ext (ext_app _ _) (JdN.ext (ext_app _ _) (hv a (by simp)).1)
    have n1 : lstAt ((h ++ z) ++ [Ob.lst [o, c, a, w, t, s]]) (h ++ z).length = some [o, c, a, w, t, s] := by simp
    have hq3 : ∀ z2, Q (.tup [.str "made", .tup (sixT [o, c, a, w, t, s])]) ((h ++ z) ++ z2) := fun z2 => by rw [List.append_assoc]; exact hq2 _
    have hl1 := lstAt_app z hl
    simp [b__law_due_3, hl1]
    rw [← List.length_append, ← List.append_assoc]
    generalize h ++ z = g0 at *
    simp [b__law_due_4, n1]
    cases hb : isTup a with
    | false =>
      have : sortAro a = a := by cases a <;> first | rfl | cases hb
      simp [j_tup ja.jd, hb, b__law_due_6, n1, show 2 ≤ sizeLine by omega]
      have := hq3 [Ob.lst [o, c, a, w, t, s]]
      simp only [sixT, six6, ‹sortAro a = a›] at this
      exact this
    | true =>
      obtain ⟨ts, rfl⟩ := of_isTup hb
      have pb : pairsB (.tup ts) = true := by
        rw [fits_at (i := 2) _ rfl (by omega)] at fa
        simpa [oneB] using fa
      obtain ⟨ps, e, po⟩ := pairsB_inv pb
      have e : ts = ps.map tPr := by injection e
      subst e
      have pl := (hv (.tup (ps.map tPr)) (by simp)).2 _ rfl
      rw [List.length_map] at pl
      have sa : sortAro (.tup (ps.map tPr)) = .tup ((sortP ps).map tPr) := by
        show T.tup ((sortP ((ps.map tPr).map prOf)).map tPr) = _
        rw [prOf_tPr]
      simp [b__law_due_5, n1, sort_prs (show ps.length ≤ 1000 by omega)]
      have n3 : lstAt (g0 ++ [Ob.lst [o, c, T.tup (List.map tPr (sortP ps)), w, t, s], Ob.lst (List.map tPr (sortP ps))]) g0.length = some [o, c, T.tup (List.map tPr (sortP ps)), w, t, s] := by simp
      have := hq3 [Ob.lst [o, c, T.tup (List.map tPr (sortP ps)), w, t, s], Ob.lst (List.map tPr (sortP ps))]
      simp only [sixT, six6, sa] at this
      generalize g0 ++ [Ob.lst [o, c, T.tup (List.map tPr (sortP ps)), w, t, s], Ob.lst (List.map tPr (sortP ps))] = g2 at *
      simp [b__law_due_6, n3, show 2 ≤ sizeLine by omega]
      exact this
end LW
end

section
namespace LW
open PySem W3
def GL (vs : List T) : Prop := vs.length = 6 ∧ ∀ i v, vs[i]? = some v → GoodV i v
theorem good_pb {i : Nat} {v : T} (hi : i < 6) (g : GoodV i v) : PbT 2 v ∧ PbT 2 (sortAro v) := by
  rcases g with g | ⟨rfl, ps, po, pl, rfl⟩
  · by_cases h3 : i = 3
    · subst h3
      simp [menuT] at g
      rcases g with rfl | rfl <;> exact ⟨.atom rfl, .atom rfl⟩
    · rw [menu_words h3] at g
      obtain ⟨s, hs, rfl⟩ := List.mem_map.mp g
      exact ⟨.atom rfl, .atom rfl⟩
  · have key : ∀ ps : Prs, PbT 2 (.tup (ps.map tPr)) := fun ps => .tup fun x hx => by
      obtain ⟨p, _, rfl⟩ := List.mem_map.mp hx
      exact .tup fun y hy => by
        simp at hy
        rcases hy with rfl | rfl <;> exact .atom rfl
    refine ⟨key ps, ?_⟩
    show PbT 2 (.tup ((sortP ((ps.map tPr).map prOf)).map tPr))
    exact key _
theorem GL.pb {vs : List T} (g : GL vs) : PbT 3 (.tup (sixT vs)) := by
  obtain ⟨o, c, a, w, t, s, rfl⟩ := six_of g.1
  refine .tup fun x hx => ?_
  simp [sixT, six6] at hx
  rcases hx with rfl | rfl | rfl | rfl | rfl | rfl
  · exact (good_pb (by omega) (g.2 0 _ rfl)).1
  · exact (good_pb (by omega) (g.2 1 _ rfl)).1
  · exact (good_pb (i := 2) (by omega) (g.2 2 _ rfl)).2
  · exact (good_pb (by omega) (g.2 3 _ rfl)).1
  · exact (good_pb (by omega) (g.2 4 _ rfl)).1
  · exact (good_pb (by omega) (g.2 5 _ rfl)).1
theorem GL.none {vs : List T} (g : GL vs) : ruleErr PARTSL vs = none := by
  rw [err_drop 6 vs (fun j p v hj hp hv => fits_good hp (g.2 j v hv)) (by rw [g.1]; omega) (by omega)]
  rfl
theorem GL.jd {vs : List T} (g : GL vs) (h : Hh) : ∀ v ∈ vs, JdN 2 v h ∧ shortT v := fun v hv => by
  obtain ⟨i, hi⟩ := List.getElem?_of_mem hv
  have il := (List.getElem?_eq_some_iff.mp hi).1
  have ga := good_ga (l := 0) (h := h) (by have := g.1; omega) (g.2 i v hi)
  exact ⟨ga.jdN (by omega), fun ts e => by subst e; have := ga.len; omega⟩
theorem GL.made {f : Fn} (M : Made6W f) {h : Hh} {l : Nat} {vs : List T} {Q : T → Hh → Prop} {E : EQ} (g : GL vs) (e : lstAt h l = some vs) (hq : ∀ z, RAt (h ++ z) h.length vs → Q (.ref h.length) (h ++ z)) : (f [.ref l] h).wp Q E :=
  M e g.1 (g.jd h) (fun _ z x => hq z x) (fun p ep => by rw [g.none] at ep; cases ep)
theorem GL.set {vs : List T} (g : GL vs) {k : Nat} {v : T} (hv : GoodV k v) : GL (vs.set k v) := by
  refine ⟨by rw [List.length_set]; exact g.1, fun i x hx => ?_⟩
  rw [List.getElem?_set] at hx
  split at hx
  · rename_i e
    subst e
    split at hx
    · cases hx; exact hv
    · cases hx
  · exact g.2 i x hx
def REq6 (f : Fn) : Prop := ∀ {h : Hh} {l l' : Nat} {vs us : List T}, RAt h l vs → RAt h l' us → GL vs → GL us → ∃ b, f [.ref l, .ref l'] h = .ok (.bl b) h ∧ (b = true ↔ sixT vs = sixT us)
theorem ok_rule_eq6 {F : FF} (Sx : LSixE F.Rule_six) : REq6 (defRun 2 (b_Rule___eq__ F)) := by
  intro h l l' vs us x y gv gu
  have hsz := sz
  obtain ⟨b, eb, hb⟩ := pb_oEq gv.pb gu.pb (by omega) h
  refine ⟨b, ?_, hb.trans ⟨fun e => by injection e, fun e => by rw [e]⟩⟩
  have m1 : mOk "Rule" "six" (.ref l) h = true := by obtain ⟨o, c, a, w, t, s, rfl, _⟩ := id x; exact mOk_of x.i (by kernel_rfl)
  have m2 : mOk "Rule" "six" (.ref l') h = true := by obtain ⟨o, c, a, w, t, s, rfl, _⟩ := id y; exact mOk_of y.i (by kernel_rfl)
  have i2 : ∃ fs, insAt h l' = some (("Rule" : Str), fs) := by obtain ⟨o, c, a, w, t, s, rfl, _⟩ := id y; exact ⟨_, y.i⟩
  obtain ⟨fs, i2⟩ := i2
  apply eq_of_wp
  simp [b_Rule___eq__, isO_of i2, b_Rule___eq___2, m1, m2, Sx x, Sx y, eb]
theorem fit_pure {p : Str} {v : T} (h : fitsB p v = true) (hs : shortT v) : PureT 2 (sortAro v) ∧ (pairsB v = false → PureT 2 v) := by
  unfold fitsB at h
  cases v with
  | tup ts =>
    have pb : pairsB (.tup ts) = true := by
      split at h
      · cases h
      · rw [Bool.or_eq_true, Bool.and_eq_true] at h
        rcases h with h | h
        · exact h.2
        · split at h <;> cases h
    obtain ⟨ps, e, po⟩ := pairsB_inv pb
    have e : ts = ps.map tPr := by injection e
    subst e
    have pl := hs _ rfl
    rw [List.length_map] at pl
    refine ⟨?_, fun hn => by rw [pb] at hn; cases hn⟩
    show PureT 2 (.tup ((sortP ((ps.map tPr).map prOf)).map tPr))
    rw [prOf_tPr]
    refine PureT.tup (n := 1) (by rw [List.length_map, (sortP_perm ps).length_eq]; omega) fun x hx => ?_
    obtain ⟨q, _, rfl⟩ := List.mem_map.mp hx
    exact pure_strs (fun t ht => by simp at ht; rcases ht with rfl | rfl <;> rfl) (by simp)
  | str s => exact ⟨.inl rfl, fun _ => .inl rfl⟩
  | bl b => exact ⟨.inl rfl, fun _ => .inl rfl⟩
  | non => exact ⟨.inl rfl, fun _ => .inl rfl⟩
  | int i => exact ⟨.inl rfl, fun _ => .inl rfl⟩
  | _ =>
    exfalso
    split at h
    · cases h
    · rw [Bool.or_eq_true, Bool.and_eq_true] at h
      rcases h with h | h
      · cases h.2
      · split at h <;> cases h
theorem err_none : ∀ {ps : List Str} {vs : List T}, ruleErr ps vs = none → ∀ (i : Nat) (p : Str) (v : T), ps[i]? = some p → vs[i]? = some v → fitsB p v = true
  | [], _, _, i, p, v, hp, _ => by cases hp
  | _ :: _, [], _, i, p, v, _, hv => by cases hv
  | p0 :: ps, v0 :: vs, h, i, p, v, hp, hv => by
    have h : (if fitsB p0 v0 = false then some p0 else ruleErr ps vs) = none := h
    cases hb : fitsB p0 v0 with
    | false => rw [hb] at h; cases h
    | true =>
      rw [hb] at h
      match i, hp, hv with
      | 0, hp, hv => cases hp; cases hv; exact hb
      | i + 1, hp, hv => exact err_none (by simpa using h) i p v hp hv
theorem told_pure {vs : List T} (h6 : vs.length = 6) (hv : ∀ v ∈ vs, shortT v) : PureT 4 (told6 vs) := by
  unfold told6
  cases e : ruleErr PARTSL vs with
  | some p => exact PureT.tup (n := 3) (by simp) fun x hx => by simp at hx; rcases hx with rfl | rfl | rfl <;> exact .inl rfl
  | none =>
    obtain ⟨o, c, a, w, t, s, rfl⟩ := six_of h6
    have g := err_none e
    have np : ∀ (i : Nat) p v, PARTSL[i]? = some p → [o, c, a, w, t, s][i]? = some v → i ≠ 2 → pairsB v = false := fun i p v hp hv' h2 => by
      have f := g i p v hp hv'
      by_cases h3 : i = 3
      · subst h3
        cases hp
        unfold fitsB at f
        rw [if_pos rfl] at f
        cases v <;> first | rfl | cases f
      · rw [fits_at v hp h3] at f
        simp [h2] at f
        cases v <;> first | rfl | cases f
    refine PureT.tup (n := 3) (by simp) fun x hx => ?_
    simp at hx
    rcases hx with rfl | rfl
    · exact .inl rfl
    · refine PureT.tup (n := 2) (by simp [sixT, six6]) fun x hx => ?_
      simp [sixT, six6] at hx
      rcases hx with rfl | rfl | rfl | rfl | rfl | rfl
      · exact (fit_pure (g 0 _ _ rfl rfl) (hv _ (by simp))).2 (np 0 _ _ rfl rfl (by omega))
      · exact (fit_pure (g 1 _ _ rfl rfl) (hv _ (by simp))).2 (np 1 _ _ rfl rfl (by omega))
      · exact (fit_pure (g 2 _ _ rfl rfl) (hv _ (by simp))).1
      · exact (fit_pure (g 3 _ _ rfl rfl) (hv _ (by simp))).2 (np 3 _ _ rfl rfl (by omega))
      · exact (fit_pure (g 4 _ _ rfl rfl) (hv _ (by simp))).2 (np 4 _ _ rfl rfl (by omega))
      · exact (fit_pure (g 5 _ _ rfl rfl) (hv _ (by simp))).2 (np 5 _ _ rfl rfl (by omega))
def menuX (k : Nat) : List T := menuT k ++ if k = 2 then [.tup [], .tup [tPr ("a", "q")], .tup [tPr ("q", "a")]] else []
theorem prs1 (a b : Str) (h1 : Nm a) (h2 : Nm b) (h : a ≠ b) : PrsOk [(a, b)] := ⟨by simp, fun p hp => by rw [List.mem_singleton] at hp; subst hp; exact ⟨h1, h2, h⟩⟩
theorem menuX_good {k : Nat} {x : T} (hx : x ∈ menuX k) : GoodV k x ∧ (k = 2 → ∀ ps : Prs, x = .tup (ps.map tPr) → ps.length ≤ 1) := by
  unfold menuX at hx
  have na : Nm "a" := nmB_iff.mp (by decide +kernel)
  have nq : Nm "q" := nmB_iff.mp (by decide +kernel)
  rcases List.mem_append.mp hx with h1 | h1
  · refine ⟨.inl h1, fun h2 ps e => ?_⟩
    subst h2
    subst e
    simp [menuT] at h1
  · split at h1
    · rename_i h2
      subst h2
      simp only [List.mem_cons, List.not_mem_nil, or_false] at h1
      have len : ∀ (qs : Prs), x = .tup (qs.map tPr) → qs.length ≤ 1 → ∀ ps : Prs, x = .tup (ps.map tPr) → ps.length ≤ 1 := fun qs e hq ps e2 => by
        rw [e] at e2
        injection e2 with e2
        have := congrArg List.length e2
        rw [List.length_map, List.length_map] at this
        omega
      rcases h1 with rfl | rfl | rfl
      · exact ⟨.inr ⟨rfl, [], ⟨List.nodup_nil, fun p hp => by cases hp⟩, by simp, rfl⟩, fun _ => len [] rfl (by simp)⟩
      · exact ⟨.inr ⟨rfl, [("a", "q")], prs1 _ _ na nq (by decide +kernel), by simp, rfl⟩, fun _ => len [("a", "q")] rfl (by simp)⟩
      · exact ⟨.inr ⟨rfl, [("q", "a")], prs1 _ _ nq na (by decide +kernel), by simp, rfl⟩, fun _ => len [("q", "a")] rfl (by simp)⟩
    · cases h1
theorem tPr_inj {ps qs : Prs} (e : ps.map tPr = qs.map tPr) : ps = qs := (List.map_inj_right fun a b h => by
  unfold tPr at h
  injection h with h
  injection h with h1 h2
  injection h1 with h1
  injection h2 with h2 _
  injection h2 with h2
  exact Prod.ext h1 h2).mp e
theorem short_perm {ps qs : Prs} (p : ps.Perm qs) (h : qs.length ≤ 1) : ps = qs := by
  match qs, h with
  | [], _ => exact List.Perm.eq_nil p
  | [a], _ => exact List.perm_singleton.mp p
theorem sort_un {x a : T} (gx : GoodV 2 x) (ga : GoodV 2 a) (hl : ∀ ps : Prs, x = .tup (ps.map tPr) → ps.length ≤ 1) (h : sortAro x = sortAro a) : x = a := by
  have st : ∀ v, v ∈ menuT 2 → ∃ s, v = .str s := fun v hv => by simp [menuT] at hv; rcases hv with rfl | rfl <;> exact ⟨_, rfl⟩
  rcases gx with gx | ⟨_, qs, qo, ql, rfl⟩
  · obtain ⟨s, rfl⟩ := st x gx
    rcases ga with ga | ⟨_, ps, po, pl, rfl⟩
    · obtain ⟨t, rfl⟩ := st a ga
      exact h
    · cases h
  · rcases ga with ga | ⟨_, ps, po, pl, rfl⟩
    · obtain ⟨t, rfl⟩ := st a ga
      cases h
    · have h : T.tup ((sortP ((qs.map tPr).map prOf)).map tPr) = .tup ((sortP ((ps.map tPr).map prOf)).map tPr) := h
      rw [prOf_tPr, prOf_tPr] at h
      injection h with h
      have h := tPr_inj h
      have pm : ps.Perm qs := ((sortP_perm ps).symm.trans (h ▸ List.Perm.refl _)).trans (sortP_perm qs)
      rw [short_perm pm (hl qs rfl)]
theorem six_un {vs : List T} {k : Nat} {x v : T} (g : GL vs) (hv : vs[k]? = some v) (hx : x ∈ menuX k) (hne : x ≠ v) : sixT (vs.set k x) ≠ sixT vs := by
  intro e
  obtain ⟨o, c, a, w, t, s, rfl⟩ := six_of g.1
  obtain ⟨gx, hl⟩ := menuX_good hx
  match k, hv with
  | 0, hv => cases hv; exact hne (by injection e)
  | 1, hv => cases hv; exact hne (by injection e with _ e; injection e)
  | 2, hv =>
    cases hv
    have e : sortAro x = sortAro v := by injection e with _ e; injection e with _ e; injection e
    exact hne (sort_un gx (g.2 2 _ rfl) (hl rfl) e)
  | 3, hv => cases hv; exact hne (by injection e with _ e; injection e with _ e; injection e with _ e; injection e)
  | 4, hv => cases hv; exact hne (by injection e with _ e; injection e with _ e; injection e with _ e; injection e with _ e; injection e)
  | 5, hv => cases hv; exact hne (by injection e with _ e; injection e with _ e; injection e with _ e; injection e with _ e; injection e with _ e; injection e)
  | k + 6, hv => cases hv
theorem menu_two {k : Nat} (h : k < 6) : ∃ m0 m1 r, menuX k = m0 :: m1 :: r ∧ m0 ≠ m1 ∧ r.length ≤ 4 := by
  have sne : ∀ a b : Str, ¬ a = b → T.str a ≠ .str b := fun a b h e => h (by injection e)
  match k, h with
  | 0, _ => exact ⟨_, _, _, rfl, sne _ _ (by decide +kernel), by decide⟩
  | 1, _ => exact ⟨_, _, _, rfl, sne _ _ (by decide +kernel), by decide⟩
  | 2, _ => exact ⟨_, _, _, rfl, sne _ _ (by decide +kernel), by decide⟩
  | 3, _ => exact ⟨_, _, _, rfl, by simp, by decide⟩
  | 4, _ => exact ⟨_, _, _, rfl, sne _ _ (by decide +kernel), by decide⟩
  | 5, _ => exact ⟨_, _, _, rfl, sne _ _ (by decide +kernel), by decide⟩
end LW
end

section
namespace LW
open PySem W3
def W06 (l rv ro : Nat) (vs : List T) (h : Hh) : Prop := IsBox h l ∧ lstAt h rv = some vs ∧ RAt h ro vs ∧ rv ≠ l ∧ ro ≠ l
theorem RAt.lt {h : Hh} {l : Nat} {vs : List T} (x : RAt h l vs) : l < h.length := by
  obtain ⟨o, c, a, w, t, s, _, e⟩ := x
  exact (List.getElem?_eq_some_iff.mp e).1
theorem W06.up {l rv ro : Nat} {vs : List T} {h h' : Hh} (w : W06 l rv ro vs h) (u : Up l h h') : W06 l rv ro vs h' :=
  ⟨u.box, u.lst w.2.1 w.2.2.2.1, w.2.2.1.upK u w.2.2.2.2, w.2.2.2.1, w.2.2.2.2⟩
theorem W06.app {l rv ro : Nat} {vs : List T} {h : Hh} (w : W06 l rv ro vs h) (z : Hh) : W06 l rv ro vs (h ++ z) := w.up (Up.app w.1 z)
theorem RAt.ins {h : Hh} {l : Nat} {vs : List T} (x : RAt h l vs) : ∃ fs, insAt h l = some (("Rule" : Str), fs) := by
  obtain ⟨o, c, a, w, t, s, rfl, _⟩ := id x
  exact ⟨_, x.i⟩
theorem ok_law06 {F : FF} (B : BoxW F._law_box) (D : DrawW F._law_draw) (Sa : SameW 4 F._law_same) (Va : Val6W F._law_value) (Go : Good6W F._law_good) (Mn : MenuW F._law_menu) (Md : Made6W F._law_made) (Sx : LSixE F._law_six) (To : Told6W F._law_told) (Du : Told6W F._law_due) (Eq : REq6 F.Rule___eq__) (Ri : RuleE F.Rule_init)
    {ns : List Int} (hns : ns.length ≤ 63) : (defRun 11 (b_law F) [.fl (ns.map T.int)] []).wp (fun a _ => a = .bl true) noE := by
  have hsz := sz
  have big : ∀ n : Nat, n ≤ 1000 → n ≤ sizeLine := fun n hn => by omega
  simp [wp_defRun, b_law]
  refine B hns fun l h0 bx0 _ _ _ => ?_
  have sp : SameV h0 4 (.tup [.str "opens", .str "checks", .str "around", .str "wipes", .str "taken", .str "sending"]) (.tup [.str "opens", .str "checks", .str "around", .str "wipes", .str "taken", .str "sending"]) :=
    (pure_strs (n := 3) (fun t ht => by simp at ht; rcases ht with rfl | rfl | rfl | rfl | rfl | rfl <;> rfl) (by simp)).same
  simp [b_law_1, big, Sa sp, b_law_3]
  refine wp_for (ts := rangeT 0 8) (fun i σ h' => (∃ a2 a3 a4 : Option T, σ = [some (.fl (ns.map T.int)), some (.ref l), a2, a3, a4, none, none, none, none, none, none]) ∧ IsBox h' l) (fun i σ h' q => rfl) ⟨⟨none, none, none, rfl⟩, bx0⟩ (fun i x σ h' hx q => ?_) (fun σ h' q => ?_)
  · obtain ⟨⟨a2, a3, a4, rfl⟩, bx⟩ := q
    refine ⟨_, rfl, ?_⟩
    simp [b_law_4]
    refine wp_lc (ts := rangeT 0 6) (szle (by simp)) (fun j acc h2 => acc.length = j ∧ Up l h' h2 ∧ ∀ v ∈ acc, GA l 20 h2 v) (fun j acc h2 q => rfl) ⟨rfl, Up.refl bx, fun _ q => (List.not_mem_nil q).elim⟩ (fun j y acc h2 hy q => ?_) (fun acc h2 q => ?_)
    · obtain ⟨hl, u, ga⟩ := q
      obtain ⟨rfl, hj⟩ := range_at hy
      refine ⟨_, rfl, ?_⟩
      simp
      refine Va u.box hj fun v h3 gv u3 => ?_
      refine ⟨by simp [hl], u.up u3, fun w hw => ?_⟩
      rcases hw with hw | hw
      · exact (ga w hw).up u3
      · subst hw
        exact gv
    · obtain ⟨hl, u, ga⟩ := q
      rw [range_length] at hl
      have e1 : lstAt (h2 ++ [Ob.lst acc]) h2.length = some acc := by simp
      have bx2 := u.box.app [Ob.lst acc]
      have ga2 : ∀ v ∈ acc, GA l 20 (h2 ++ [Ob.lst acc]) v := fun v hv => (ga v hv).up (Up.app u.box _)
      simp
      generalize h2 ++ [Ob.lst acc] = h3 at *
      generalize h2.length = r at *
      have jd : ∀ v ∈ acc, JdN 2 v h3 ∧ shortT v := fun v hv => ⟨(ga2 v hv).jdN (by omega), fun ts e => by subst e; have := (ga2 _ hv).len; omega⟩
      have sh : ∀ v ∈ acc, shortT v := fun v hv => (jd v hv).2
      simp [b_law_5]
      refine To e1 hl jd fun z => ?_
      have e2 := lstAt_app z e1
      have jd2 : ∀ v ∈ acc, JdN 2 v (h3 ++ z) ∧ shortT v := fun v hv => ⟨JdN.ext (ext_app _ _) (jd v hv).1, sh v hv⟩
      have bx3 := bx2.app z
      generalize h3 ++ z = h4 at *
      simp
      refine Du e2 hl jd2 fun z2 => ?_
      have bx4 := bx3.app z2
      have sm : SameV (h4 ++ z2) 4 (told6 acc) (told6 acc) := (told_pure hl sh).same
      generalize h4 ++ z2 = h5 at *
      simp [Sa sm]
      exact bx4
  · obtain ⟨⟨a2, a3, a4, rfl⟩, bx⟩ := q
    simp [b_law_7]
    refine wp_lc (ts := rangeT 0 6) (szle (by simp)) (fun j acc h2 => acc.length = j ∧ Up l h' h2 ∧ ∀ i v, acc[i]? = some v → GoodV i v) (fun j acc h2 q => rfl) ⟨rfl, Up.refl bx, fun i v e => by cases e⟩ (fun j y acc h2 hy q => ?_) (fun vs h2 q => ?_)
    · obtain ⟨hl, u, ga⟩ := q
      obtain ⟨rfl, hj⟩ := range_at hy
      refine ⟨_, rfl, ?_⟩
      simp
      refine Go u.box hj fun v h3 gv u3 => ?_
      refine ⟨by simp [hl], u.up u3, fun i w hw => ?_⟩
      rw [List.getElem?_append] at hw
      split at hw
      · exact ga i w hw
      · have hi := (List.getElem?_eq_some_iff.mp hw).1
        simp at hi
        have : i = j := by omega
        subst this
        rw [hl] at hw
        simp at hw
        subst hw
        exact gv
    · obtain ⟨hl, u, gl0⟩ := q
      rw [range_length] at hl
      have gl : GL vs := ⟨hl, gl0⟩
      have e1 : lstAt (h2 ++ [Ob.lst vs]) h2.length = some vs := by simp
      have bx2 := u.box.app [Ob.lst vs]
      have rvl : h2.length ≠ l := by have := u.box.lt; omega
      simp
      generalize h2 ++ [Ob.lst vs] = h3 at *
      generalize h2.length = rv at *
      simp [b_law_8]
      refine gl.made Md e1 fun z ro1 => ?_
      have w3 : W06 l rv h3.length vs (h3 ++ z) := ⟨bx2.app z, lstAt_app z e1, ro1, rvl, by have := bx2.lt; omega⟩
      simp
      generalize h3 ++ z = h4 at *
      generalize h3.length = ro at *
      clear e1 bx2 ro1 rvl u bx gl0
      have loop : ∀ (h' : Hh) (a4 a6 a7 a8 a9 a10 : Option T), W06 l rv ro vs h' → (b_law_14 F [some (.fl (ns.map T.int)), some (.ref l), a2, some (.ref rv), a4, some (.ref ro), a6, a7, a8, a9, a10] h').wp (FQ.df (fun a _ => a = .bl true) noE) := by
        intro h' a4 a6 a7 a8 a9 a10 w
        simp [b_law_14]
        refine wp_for (ts := rangeT 0 6) (fun i σ h' => (∃ b4 b6 b7 b8 b9 b10 : Option T, σ = [some (.fl (ns.map T.int)), some (.ref l), a2, some (.ref rv), b4, some (.ref ro), b6, b7, b8, b9, b10]) ∧ W06 l rv ro vs h') (fun i σ h' q => rfl) ⟨⟨_, _, _, _, _, _, rfl⟩, w⟩ (fun k x σ h' hx q => ?_) (fun σ h' q => ?_)
        · obtain ⟨⟨b4, b6, b7, b8, b9, b10, rfl⟩, w⟩ := q
          obtain ⟨rfl, hk⟩ := range_at hx
          refine ⟨_, rfl, ?_⟩
          have hv : vs[k]? = some (vs[k]'(by omega)) := List.getElem?_eq_getElem (by omega)
          generalize vs[k]'(by omega) = v at *
          have ev : L2.atI vs (k : Int) = some v := atI_nat hv
          simp [b_law_15, w.2.1]
          have e7 : lstAt (h' ++ [Ob.lst vs]) h'.length = some vs := by simp
          have u1 : Up l h' (h' ++ [Ob.lst vs]) := Up.app w.1 _
          generalize h' ++ [Ob.lst vs] = g1 at *
          obtain ⟨r7, hr7⟩ : ∃ r, r = h'.length := ⟨_, rfl⟩
          rw [← hr7] at e7 ⊢
          have r7l : r7 ≠ l := by have := w.1.lt; omega
          simp [b_law_16]
          refine Mn hk fun z => ?_
          have e7 := lstAt_app z e7
          have u2 := Kp.app u1 z
          generalize g1 ++ z = g2 at *
          have r7lt := lstAt_lt e7
          have e8 : lstAt (g2 ++ [Ob.lst (menuT k)]) g2.length = some (menuT k) := by simp
          have e7 := lstAt_app [Ob.lst (menuT k)] e7
          have u3 := Kp.app u2 [Ob.lst (menuT k)]
          simp
          generalize g2 ++ [Ob.lst (menuT k)] = g3 at *
          have r8n : h'.length ≤ g2.length := u2.le
          have r8l : g2.length ≠ l := by have := w.1.lt; omega
          have r78 : r7 ≠ g2.length := by omega
          generalize g2.length = r8 at *
          obtain ⟨m2, m3⟩ := menu_len hk
          have rest : ∀ (QQ : FQ) (g : Hh) (c9 c10 : Option T), (∀ σ g', (∃ b4 b6 b7 b8 b9 b10 : Option T, σ = [some (.fl (ns.map T.int)), some (.ref l), a2, some (.ref rv), b4, some (.ref ro), b6, b7, b8, b9, b10]) → W06 l rv ro vs g' → QQ.n σ g') → Up l h' g → lstAt g r7 = some vs → lstAt g r8 = some (menuX k) → (b_law_19 F [some (.fl (ns.map T.int)), some (.ref l), a2, some (.ref rv), some (.int k), some (.ref ro), b6, some (.ref r7), some (.ref r8), c9, c10] g).wp QQ := by
            intro QQ g c9 c10 hQ u e7 e8
            obtain ⟨m0, m1, mr, em, hm01, mrl⟩ := menu_two hk
            have ml : (menuX k).length ≤ 6 := by rw [em]; simp; omega
            have pv := (good_pb hk (gl.2 k v hv)).1
            simp [b_law_19, e8, srcOf]
            refine wp_lc (s := .live r8) (ts := menuX k) (szle (by omega)) (fun j acc h2 => h2 = g ∧ acc.length ≤ j ∧ (∀ x ∈ acc, x ∈ menuX k ∧ x ≠ v) ∧ ∀ i x, i < j → (menuX k)[i]? = some x → x ≠ v → x ∈ acc) (fun j acc h2 q => by rw [q.1]; exact e8) ⟨rfl, by simp, fun _ q => (List.not_mem_nil q).elim, fun i x hi => by omega⟩ (fun j y acc h2 hy q => ?_) (fun acc h2 q => ?_)
            · obtain ⟨rfl, al, am, an⟩ := q
              have hym := List.mem_of_getElem? hy
              have py := (good_pb hk (menuX_good hym).1).1
              obtain ⟨b, eb, hb⟩ := pb_oNe py pv (by omega) h2
              refine ⟨_, rfl, ?_⟩
              have w0 := w.up u
              simp [w0.2.1, ev, eb]
              cases b with
              | true =>
                have hne := hb.mp rfl
                simp
                refine ⟨al, fun x hx => ?_, fun i x hi hx hn => ?_⟩
                · rcases hx with hx | rfl
                  · exact am x hx
                  · exact ⟨hym, hne⟩
                · by_cases hij : i = j
                  · subst hij
                    rw [hy] at hx
                    cases hx
                    exact .inr rfl
                  · exact .inl (an i x (by omega) hx hn)
              | false =>
                have heq : y = v := Classical.byContradiction fun hn => by have := hb.mpr hn; cases this
                simp
                refine ⟨by omega, fun x hx => am x hx, fun i x hi hx hn => ?_⟩
                by_cases hij : i = j
                · subst hij
                  rw [hy] at hx
                  cases hx
                  exact (hn heq).elim
                · exact an i x (by omega) hx hn
            · obtain ⟨rfl, al, am, an⟩ := q
              have apos : 0 < acc.length := by
                have some1 : ∃ x, x ∈ acc := by
                  by_cases h0 : m0 = v
                  · exact ⟨m1, an 1 m1 (by rw [em]; simp) (by rw [em]; rfl) (fun e => hm01 (h0.trans e.symm))⟩
                  · exact ⟨m0, an 0 m0 (by rw [em]; simp) (by rw [em]; rfl) h0⟩
                obtain ⟨x, hx⟩ := some1
                exact List.length_pos_of_mem hx
              have u4 := Kp.app u [Ob.lst acc]
              have e7 := lstAt_app [Ob.lst acc] e7
              have e9 : lstAt (h2 ++ [Ob.lst acc]) h2.length = some acc := by simp
              have r9l : h2.length ≠ l := by have := u.box.lt; omega
              simp
              generalize h2 ++ [Ob.lst acc] = g4 at *
              generalize h2.length = r9 at *
              simp [b_law_20, e9]
              refine D u4.box (by omega) (by omega) fun d g5 d0 d1 u5 => ?_
              have u6 := u4.up u5
              have e7 := u5.lst e7 r7l
              have e9 := u5.lst e9 r9l
              obtain ⟨x, ex, qx⟩ := atI_int (xs := acc) d0 (by omega)
              obtain ⟨hxm, hxv⟩ := am x (List.mem_of_getElem? qx)
              have kl : (k : Int) < (vs.length : Int) := by omega
              simp [e9, ex, e7, show k < vs.length by omega]
              have r7lt := lstAt_lt e7
              have gx := (menuX_good hxm).1
              have gs := gl.set gx
              have e7b : lstAt (g5.set r7 (.lst (vs.set k x))) r7 = some (vs.set k x) := lstAt_set_self r7lt
              have u7 : Up l h' (g5.set r7 (.lst (vs.set k x))) := u6.set _ w.1 (Nat.le_refl _) (by omega)
              have w6 := w.up u7
              generalize g5.set r7 (.lst (vs.set k x)) = g6 at *
              simp [b_law_21]
              refine gs.made Md e7b fun z3 x3 => ?_
              have w7 := w6.app z3
              obtain ⟨b, eb, hb⟩ := Eq w7.2.2.1 x3 gl gs
              have bf : b = false := by
                cases b with
                | false => rfl
                | true => exact (six_un gl hv hxm hxv (hb.mp rfl).symm).elim
              subst bf
              obtain ⟨f1, i1⟩ := RAt.ins w7.2.2.1
              obtain ⟨f2, i2⟩ := RAt.ins x3
              generalize g6 ++ z3 = g7 at *
              simp [fEq, i1, i2, eb]
              exact hQ _ _ ⟨_, _, _, _, _, _, rfl⟩ w7
          by_cases hk2 : k = 2
          · subst hk2
            obtain ⟨X3, hX⟩ : ∃ X3 : List T, X3 = [.tup [], .tup [.tup [.str "a", .str "q"]], .tup [.tup [.str "q", .str "a"]]] := ⟨_, rfl⟩
            have xl : X3.length = 3 := by rw [hX]; rfl
            have ee := lstAt_app [Ob.lst X3] e8
            have ex : lstAt (g3 ++ [Ob.lst X3]) g3.length = some X3 := by simp
            have e7 := lstAt_app [Ob.lst X3] e7
            have u4 := Kp.app u3 [Ob.lst X3]
            have em : menuX 2 = menuT 2 ++ X3 := by unfold menuX; rw [if_pos rfl, hX]; rfl
            simp [b_law_17, b_law_18, isL, e8, big]
            rw [← hX]
            generalize g3 ++ [Ob.lst X3] = g4 at *
            have r8lt := lstAt_lt ee
            simp [ee, ex, show (menuT 2).length + X3.length ≤ sizeLine by omega]
            refine rest _ _ _ _ (fun σ g' q w => by simpa using ⟨q, w⟩) (u4.set _ w.1 (Nat.le_refl _) r8n) (by rw [lstAt_set_ne (Ne.symm r78)]; exact e7) (by rw [lstAt_set_self r8lt, em])
          · have hk2' : ¬ (k : Int) = 2 := by omega
            have em : menuX k = menuT k := by unfold menuX; rw [if_neg hk2]; simp
            rw [← em] at e8
            simp [b_law_17, hk2']
            exact rest _ g3 _ _ (fun σ g' q w => by simpa using ⟨q, w⟩) u3 e7 e8
        · obtain ⟨⟨b4, b6, b7, b8, b9, b10, rfl⟩, w⟩ := q
          obtain ⟨o, c, a, wi, t, s, rfl⟩ := six_of gl.1
          have i0 : L2.atI [o, c, a, wi, t, s] 0 = some o := rfl
          have i1 : L2.atI [o, c, a, wi, t, s] 1 = some c := rfl
          have gn : GL [o, c, .str "own", .bl false, .str "same", .str "wait"] := by
            refine ⟨rfl, fun i v hv => ?_⟩
            match i, hv with
            | 0, hv => cases hv; exact gl.2 0 _ rfl
            | 1, hv => cases hv; exact gl.2 1 _ rfl
            | 2, hv => cases hv; exact .inl (by simp [menuT])
            | 3, hv => cases hv; exact .inl (by simp [menuT])
            | 4, hv => cases hv; exact .inl (by simp [menuT])
            | 5, hv => cases hv; exact .inl (by simp [menuT])
            | i + 6, hv => cases hv
          simp [b_law_23, w.2.1, i0, i1, weave]
          refine Ri (gn.jd h') (fun _ z hz => ?_) (fun p ep => by rw [gn.none] at ep; cases ep)
          have x : RAt (h' ++ z) h'.length [o, c, .str "own", .bl false, .str "same", .str "wait"] := ⟨_, _, _, _, _, _, rfl, hz⟩
          have w2 := w.app z
          have sx := Sx x
          simp [sixT, six6, sortAro] at sx
          have sm : SameV (h' ++ z) 4 (.tup [o, c, .str "own", .bl false, .str "same", .str "wait"]) (.tup [o, c, .str "own", .bl false, .str "same", .str "wait"]) := by
            have pt := told_pure gn.1 fun v hv => (gn.jd h' v hv).2
            unfold told6 at pt
            rw [gn.none] at pt
            simp [sixT, six6, sortAro] at pt
            rcases pt with pt | ⟨ts, e, _, g⟩
            · cases pt
            · injection e with e
              subst e
              exact (g _ (by simp)).up.same
          simp
          generalize h' ++ z = g at *
          simp [sx, w2.2.1, i0, i1, big, Sa sm]
      have twelve : ∀ (h' : Hh) (rt : Nat) (us : List T) (a4 : Option T), W06 l rv ro vs h' → lstAt h' rt = some us → GL us → sixT us = sixT vs → (b_law_12 F [some (.fl (ns.map T.int)), some (.ref l), a2, some (.ref rv), a4, some (.ref ro), some (.ref rt), none, none, none, none] h').wp (FQ.df (fun a _ => a = .bl true) noE) := by
        intro h' rt us a4 w er gu es
        simp [b_law_12]
        refine gu.made Md er fun z x => ?_
        have w1 := w.app z
        have er1 := lstAt_app z er
        obtain ⟨b, eb, hb⟩ := Eq w1.2.2.1 x gl gu
        have bt : b = true := hb.mpr es.symm
        subst bt
        obtain ⟨f1, i1⟩ := RAt.ins w1.2.2.1
        obtain ⟨f2, i2⟩ := RAt.ins x
        generalize h' ++ z = g1 at *
        simp [fEq, i1, i2, eb]
        refine gu.made Md er1 fun z2 x2 => ?_
        have w2 := w1.app z2
        obtain ⟨b, eb, hb⟩ := Eq w2.2.2.1 x2 gl gu
        have bt : b = true := hb.mpr es.symm
        subst bt
        obtain ⟨f1, i1⟩ := RAt.ins w2.2.2.1
        obtain ⟨f2, i2⟩ := RAt.ins x2
        generalize g1 ++ z2 = g2 at *
        simp [fNeO, i1, i2, eb]
        exact loop g2 _ _ _ _ _ _ w2
      obtain ⟨o, c, a, wi, t, s, rfl⟩ := six_of gl.1
      have e6 : lstAt (h4 ++ [Ob.lst [o, c, a, wi, t, s]]) h4.length = some [o, c, a, wi, t, s] := by simp
      have w5 := w3.app [Ob.lst [o, c, a, wi, t, s]]
      have u5 : Up l h4 (h4 ++ [Ob.lst [o, c, a, wi, t, s]]) := Up.app w3.1 _
      have ja : JdN 2 a (h4 ++ [Ob.lst [o, c, a, wi, t, s]]) := (gl.jd _ a (by simp)).1
      have i2 : L2.atI [o, c, a, wi, t, s] 2 = some a := rfl
      simp [b_law_9, w3.2.1]
      generalize h4 ++ [Ob.lst [o, c, a, wi, t, s]] = h5 at *
      simp [b_law_10, e6, i2]
      cases hb : isTup a with
      | false =>
        simp [j_tup ja.jd, hb]
        exact twelve h5 _ _ _ w5 e6 gl rfl
      | true =>
        obtain ⟨ts, rfl⟩ := of_isTup hb
        obtain ⟨ps, po, pl, e⟩ : ∃ ps, PrsOk ps ∧ ps.length ≤ 10 ∧ T.tup ts = .tup (ps.map tPr) := by
          rcases gl.2 2 _ rfl with g | ⟨_, ps, po, pl, e⟩
          · simp [menuT] at g
          · exact ⟨ps, po, pl, e⟩
        have e : ts = ps.map tPr := by injection e
        subst e
        have gr : GoodV 2 (.tup (ps.reverse.map tPr)) := .inr ⟨rfl, ps.reverse, ⟨(List.reverse_perm ps).nodup_iff.mpr po.nd, fun p hp => po.nm p (List.mem_reverse.mp hp)⟩, by simpa using pl, rfl⟩
        have gs := gl.set gr
        have es : sixT [o, c, .tup (ps.reverse.map tPr), wi, t, s] = sixT [o, c, .tup (ps.map tPr), wi, t, s] := by
          show [o, c, T.tup ((sortP ((ps.reverse.map tPr).map prOf)).map tPr), wi, t, s] = [o, c, T.tup ((sortP ((ps.map tPr).map prOf)).map tPr), wi, t, s]
          rw [prOf_tPr, prOf_tPr, sortP_congr (List.reverse_perm ps)]
        have e6b := lstAt_app [Ob.lst (ps.map tPr)] e6
        have e7 : lstAt (h5 ++ [Ob.lst (ps.map tPr)]) h5.length = some (ps.map tPr) := by simp
        have u6 := Kp.app u5 [Ob.lst (ps.map tPr)]
        have i2 : L2.ixN ([o, c, T.tup (ps.map tPr), wi, t, s] : List T).length 2 = some 2 := rfl
        simp [j_tup ja.jd, b_law_11, e6]
        generalize h5 ++ [Ob.lst (ps.map tPr)] = h6 at *
        have r6lt := lstAt_lt e6b
        simp [e7, e6b]
        have e8 : lstAt (h6.set h4.length (.lst [o, c, .tup (ps.reverse.map tPr), wi, t, s])) h4.length = some [o, c, .tup (ps.reverse.map tPr), wi, t, s] := lstAt_set_self r6lt
        have u7 : Up l h4 (h6.set h4.length (.lst [o, c, .tup (ps.reverse.map tPr), wi, t, s])) := u6.set _ w3.1 (Nat.le_refl _) (Nat.le_refl _)
        rw [← List.map_reverse]
        exact twelve _ _ _ _ (w3.up u7) e8 gs es
end LW
end

section
namespace LW
open PySem W3
theorem s__law_mix : ∀ k, MixW (runF (k + 1))._law_mix := fun k => ok_mix (F := runF (k + 0)) 
theorem s__law_box : ∀ k, BoxW (runF (k + 2))._law_box := fun k => ok_box (F := runF (k + 1)) (s__law_mix (k + 0))
theorem s__law_draw : ∀ k, DrawW (runF (k + 2))._law_draw := fun k => ok_draw (F := runF (k + 1)) (s__law_mix (k + 0))
theorem s_is_name : ∀ k, IsB (runF (k + 1)).is_name 0 nameB := fun k => ok_is_name (F := runF (k + 0)) 
theorem s_is_name_pair : ∀ k, IsB (runF (k + 2)).is_name_pair 1 namePairB := fun k => ok_is_name_pair (F := runF (k + 1)) (s_is_name (k + 0))
theorem s_are_pairs : ∀ k, PairsE (runF (k + 3)).are_pairs := fun k => ok_are_pairs (F := runF (k + 2)) (s_is_name_pair (k + 0))
theorem s_fits_part : ∀ k, FitsE (runF (k + 4)).fits_part := fun k => ok_fits_part (F := runF (k + 3)) (s_are_pairs (k + 0))
theorem s_Rule_init : ∀ k, RuleE (runF (k + 5)).Rule_init := fun k => ok_Rule_init (F := runF (k + 4)) (s_fits_part (k + 0))
theorem s_Rule_six : ∀ k, LSixE (runF (k + 1)).Rule_six := fun k => ok_rsix6 (F := runF (k + 0)) 
theorem s_Rule___eq__ : ∀ k, REq6 (runF (k + 2)).Rule___eq__ := fun k => ok_rule_eq6 (F := runF (k + 1)) (s_Rule_six (k + 0))
theorem s__law_same_0 : ∀ k, SameW 0 (runF (k + 1))._law_same := fun k => ok_same0 (F := runF (k + 0)) 
theorem s__law_same_1 : ∀ k, SameW 1 (runF (k + 2))._law_same := fun k => ok_same (F := runF (k + 1)) (s__law_same_0 (k + 0))
theorem s__law_same_2 : ∀ k, SameW 2 (runF (k + 3))._law_same := fun k => ok_same (F := runF (k + 2)) (s__law_same_1 (k + 0))
theorem s__law_same_3 : ∀ k, SameW 3 (runF (k + 4))._law_same := fun k => ok_same (F := runF (k + 3)) (s__law_same_2 (k + 0))
theorem s__law_same_4 : ∀ k, SameW 4 (runF (k + 5))._law_same := fun k => ok_same (F := runF (k + 4)) (s__law_same_3 (k + 0))
theorem s__law_menu : ∀ k, MenuW (runF (k + 1))._law_menu := fun k => ok_menu6 (F := runF (k + 0)) 
theorem s__law_is_name : ∀ k, IsB (runF (k + 1))._law_is_name 0 nameB := fun k => ok_lis_name (F := runF (k + 0)) 
theorem s__law_are_pairs : ∀ k, LPrsE (runF (k + 2))._law_are_pairs := fun k => ok_lpairs (F := runF (k + 1)) (s__law_is_name (k + 0))
theorem s__law_fits : ∀ k, LFits6 (runF (k + 3))._law_fits := fun k => ok_fits6 (F := runF (k + 2)) (s__law_menu (k + 1)) (s__law_are_pairs (k + 0))
theorem s__law_pairs : ∀ k, Prs6W (runF (k + 3))._law_pairs := fun k => ok_pairs6 (F := runF (k + 2)) (s__law_draw (k + 0))
theorem s__law_good : ∀ k, Good6W (runF (k + 4))._law_good := fun k => ok_good6 (F := runF (k + 3)) (s__law_draw (k + 1)) (s__law_menu (k + 2)) (s__law_pairs (k + 0))
theorem s__law_value : ∀ k, Val6W (runF (k + 5))._law_value := fun k => ok_value6 (F := runF (k + 4)) (s__law_draw (k + 2)) (s__law_good (k + 0))
theorem s__law_six : ∀ k, LSixE (runF (k + 1))._law_six := fun k => ok_lsix6 (F := runF (k + 0)) 
theorem s__law_made : ∀ k, Made6W (runF (k + 6))._law_made := fun k => ok_made6 (F := runF (k + 5)) (s_Rule_init (k + 0))
theorem s__law_told : ∀ k, Told6W (runF (k + 7))._law_told := fun k => ok_told6 (F := runF (k + 6)) (s__law_made (k + 0)) (s__law_six (k + 5))
theorem s__law_due : ∀ k, Told6W (runF (k + 4))._law_due := fun k => ok_due6 (F := runF (k + 3)) (s__law_fits (k + 0))
def fuel : Nat := 8
theorem law_true : ∀ ns : List Int, ns.length ≤ 63 → ∃ h', (runF fuel).law [.fl (ns.map T.int)] [] = .ok (.bl true) h' := by
  intro ns hns
  obtain ⟨a, h', e, rfl⟩ := (ok_law06 (F := runF 7) (s__law_box (0 + 5)) (s__law_draw (0 + 5)) (s__law_same_4 (0 + 2)) (s__law_value (0 + 2)) (s__law_good (0 + 3)) (s__law_menu (0 + 6)) (s__law_made (0 + 1)) (s__law_six (0 + 6)) (s__law_told (0 + 0)) (s__law_due (0 + 3)) (s_Rule___eq__ (0 + 5)) (s_Rule_init (0 + 2)) hns).ok
  exact ⟨h', e⟩
end LW
end

section
namespace LW
open PySem PySem.Spec PyProof.Rows
open L2 W3
structure Ad where
  f_is_name : Addr
  d_is_name : FuncData
  f_is_name_pair : Addr
  d_is_name_pair : FuncData
  f_are_pairs : Addr
  d_are_pairs : FuncData
  f_fits_part : Addr
  d_fits_part : FuncData
  f_Rule_init : Addr
  d_Rule_init : FuncData
  f_Rule___eq__ : Addr
  d_Rule___eq__ : FuncData
  f_Rule_six : Addr
  d_Rule_six : FuncData
  f__law_mix : Addr
  d__law_mix : FuncData
  f__law_box : Addr
  d__law_box : FuncData
  f__law_draw : Addr
  d__law_draw : FuncData
  f__law_same : Addr
  d__law_same : FuncData
  f__law_menu : Addr
  d__law_menu : FuncData
  f__law_is_name : Addr
  d__law_is_name : FuncData
  f__law_are_pairs : Addr
  d__law_are_pairs : FuncData
  f__law_fits : Addr
  d__law_fits : FuncData
  f__law_pairs : Addr
  d__law_pairs : FuncData
  f__law_good : Addr
  d__law_good : FuncData
  f__law_value : Addr
  d__law_value : FuncData
  f__law_six : Addr
  d__law_six : FuncData
  f__law_made : Addr
  d__law_made : FuncData
  f__law_told : Addr
  d__law_told : FuncData
  f__law_due : Addr
  d__law_due : FuncData
  f_law : Addr
  d_law : FuncData
  c_Rule : Addr
  c_ShownError : Addr
  c_InvalidRule : Addr
  xf_InvalidRule : Addr
  xd_InvalidRule : FuncData
structure Txt (w : World) (K : PySem.W.Frag) (mg : Str → Option Value) (A : Ad) : Prop where
  u_is_name : Fun K "is_name" "is_name" st_is_name A.f_is_name A.d_is_name
  b_is_name : Binds K A.d_is_name ["value"] []
  g_is_name : mg "is_name" = some (.ref A.f_is_name)
  u_is_name_pair : Fun K "is_name_pair" "is_name_pair" st_is_name_pair A.f_is_name_pair A.d_is_name_pair
  b_is_name_pair : Binds K A.d_is_name_pair ["value"] []
  g_is_name_pair : mg "is_name_pair" = some (.ref A.f_is_name_pair)
  u_are_pairs : Fun K "are_pairs" "are_pairs" st_are_pairs A.f_are_pairs A.d_are_pairs
  b_are_pairs : Binds K A.d_are_pairs ["value"] []
  g_are_pairs : mg "are_pairs" = some (.ref A.f_are_pairs)
  u_fits_part : Fun K "fits_part" "fits_part" st_fits_part A.f_fits_part A.d_fits_part
  b_fits_part : Binds K A.d_fits_part ["part", "value"] []
  g_fits_part : mg "fits_part" = some (.ref A.f_fits_part)
  u_Rule_init : FunD K "__init__" "Rule.__init__" (defArgs st_Rule_init) (defBody st_Rule_init) (defScope st_Rule_init) [] [("wipes", .bl false), ("taken", .str "same"), ("sending", .str "wait")] A.f_Rule_init A.d_Rule_init
  u_Rule___eq__ : Fun K "__eq__" "Rule.__eq__" st_Rule___eq__ A.f_Rule___eq__ A.d_Rule___eq__
  b_Rule___eq__ : Binds K A.d_Rule___eq__ ["self", "other"] []
  sp_Rule___eq__ : PySem.W.findIn K (.ref A.c_Rule) "__eq__" = some (some (.ref A.f_Rule___eq__)) ∧ PySem.W.isFn K (.ref A.f_Rule___eq__) = true
  u_Rule_six : Fun K "six" "Rule.six" st_Rule_six A.f_Rule_six A.d_Rule_six
  b_Rule_six : Binds K A.d_Rule_six ["self"] []
  h_Rule_six : Meth K A.c_Rule "six" A.f_Rule_six
  u__law_mix : Fun K "_law_mix" "_law_mix" st__law_mix A.f__law_mix A.d__law_mix
  b__law_mix : Binds K A.d__law_mix ["_law_value_here", "_law_k"] []
  g__law_mix : mg "_law_mix" = some (.ref A.f__law_mix)
  u__law_box : Fun K "_law_box" "_law_box" st__law_box A.f__law_box A.d__law_box
  b__law_box : Binds K A.d__law_box ["_law_script"] []
  g__law_box : mg "_law_box" = some (.ref A.f__law_box)
  u__law_draw : Fun K "_law_draw" "_law_draw" st__law_draw A.f__law_draw A.d__law_draw
  b__law_draw : Binds K A.d__law_draw ["_law_box_here", "_law_many"] []
  g__law_draw : mg "_law_draw" = some (.ref A.f__law_draw)
  u__law_same : Fun K "_law_same" "_law_same" st__law_same A.f__law_same A.d__law_same
  b__law_same : Binds K A.d__law_same ["_law_told_here", "_law_due_here"] []
  g__law_same : mg "_law_same" = some (.ref A.f__law_same)
  u__law_menu : Fun K "_law_menu" "_law_menu" st__law_menu A.f__law_menu A.d__law_menu
  b__law_menu : Binds K A.d__law_menu ["_law_at"] []
  g__law_menu : mg "_law_menu" = some (.ref A.f__law_menu)
  u__law_is_name : Fun K "_law_is_name" "_law_is_name" st__law_is_name A.f__law_is_name A.d__law_is_name
  b__law_is_name : Binds K A.d__law_is_name ["_law_value_here"] []
  g__law_is_name : mg "_law_is_name" = some (.ref A.f__law_is_name)
  u__law_are_pairs : Fun K "_law_are_pairs" "_law_are_pairs" st__law_are_pairs A.f__law_are_pairs A.d__law_are_pairs
  b__law_are_pairs : Binds K A.d__law_are_pairs ["_law_value_here"] []
  g__law_are_pairs : mg "_law_are_pairs" = some (.ref A.f__law_are_pairs)
  u__law_fits : Fun K "_law_fits" "_law_fits" st__law_fits A.f__law_fits A.d__law_fits
  b__law_fits : Binds K A.d__law_fits ["_law_at", "_law_value_here"] []
  g__law_fits : mg "_law_fits" = some (.ref A.f__law_fits)
  u__law_pairs : Fun K "_law_pairs" "_law_pairs" st__law_pairs A.f__law_pairs A.d__law_pairs
  b__law_pairs : Binds K A.d__law_pairs ["_law_box_here"] []
  g__law_pairs : mg "_law_pairs" = some (.ref A.f__law_pairs)
  u__law_good : Fun K "_law_good" "_law_good" st__law_good A.f__law_good A.d__law_good
  b__law_good : Binds K A.d__law_good ["_law_box_here", "_law_at"] []
  g__law_good : mg "_law_good" = some (.ref A.f__law_good)
  u__law_value : Fun K "_law_value" "_law_value" st__law_value A.f__law_value A.d__law_value
  b__law_value : Binds K A.d__law_value ["_law_box_here", "_law_at"] []
  g__law_value : mg "_law_value" = some (.ref A.f__law_value)
  u__law_six : Fun K "_law_six" "_law_six" st__law_six A.f__law_six A.d__law_six
  b__law_six : Binds K A.d__law_six ["_law_rule"] []
  g__law_six : mg "_law_six" = some (.ref A.f__law_six)
  u__law_made : Fun K "_law_made" "_law_made" st__law_made A.f__law_made A.d__law_made
  b__law_made : Binds K A.d__law_made ["_law_values"] []
  g__law_made : mg "_law_made" = some (.ref A.f__law_made)
  u__law_told : Fun K "_law_told" "_law_told" st__law_told A.f__law_told A.d__law_told
  b__law_told : Binds K A.d__law_told ["_law_values"] []
  g__law_told : mg "_law_told" = some (.ref A.f__law_told)
  u__law_due : Fun K "_law_due" "_law_due" st__law_due A.f__law_due A.d__law_due
  b__law_due : Binds K A.d__law_due ["_law_values"] []
  g__law_due : mg "_law_due" = some (.ref A.f__law_due)
  u_law : Fun K "law" "law" st_law A.f_law A.d_law
  b_law : Binds K A.d_law ["_law_script"] []
  g_law : mg "law" = some (.ref A.f_law)
  kb_Rule_init_3_ : KBw K A.d_Rule_init ["self", "opens", "checks", "around", "wipes", "taken", "sending"] 4 [] [false, false, false] [.bl false, .str "same", .str "wait"]
  kb_Rule_init_3_wipes_taken_sending : KBw K A.d_Rule_init ["self", "opens", "checks", "around", "wipes", "taken", "sending"] 4 ["wipes", "taken", "sending"] [true, true, true] []
  g_Rule : mg "Rule" = some (.ref A.c_Rule)
  cc_Rule : Cls K A.c_Rule
  m_Rule : Mk K A.c_Rule A.f_Rule_init
  io_Rule : IsoC K A.c_Rule
  om_Rule : PySem.W.mroIn K A.c_Rule (.type "object") = some true
  ne_Rule : PySem.W.findIn K (.ref A.c_Rule) "__ne__" = some (some (.builtin "object.__ne__"))
  cs : ClsF K mg CS
  c_LETTERS : ∃ t, mg "LETTERS" = some (.str "abcdefghijklmnopqrstuvwxyz" t)
  c_MENUS : ∃ a, mg "MENUS" = some (.ref a) ∧ KDic K w mg a [("opens", T.tup ((["enter", "leave", "send"] : List Str).map T.str)), ("checks", T.tup ((["enter", "leave"] : List Str).map T.str)), ("around", T.tup ((["own", "looks"] : List Str).map T.str)), ("taken", T.tup ((["any", "same", "last"] : List Str).map T.str)), ("sending", T.tup ((["bar", "wait", "go"] : List Str).map T.str))]
  c_PARTS : ∃ a, mg "PARTS" = some (.ref a) ∧ KIs K mg a (.tup ((["opens", "checks", "around", "wipes", "taken", "sending"] : List Str).map T.str))
  n_all : mg "all" = none
  n_bool : mg "bool" = none
  n_int : mg "int" = none
  n_isinstance : mg "isinstance" = none
  n_len : mg "len" = none
  n_list : mg "list" = none
  n_range : mg "range" = none
  n_reversed : mg "reversed" = none
  n_set : mg "set" = none
  n_sorted : mg "sorted" = none
  n_str : mg "str" = none
  n_super : mg "super" = none
  n_tuple : mg "tuple" = none
  n_zip : mg "zip" = none
  g_ShownError : mg "ShownError" = some (.ref A.c_ShownError)
  g_InvalidRule : mg "InvalidRule" = some (.ref A.c_InvalidRule)
  ox_InvalidRule : OexC K A.c_InvalidRule
  xi_InvalidRule : PySem.W.findIn K (.ref A.c_InvalidRule) "__init__" = some (some (.ref A.xf_InvalidRule))
  xt_InvalidRule : PySem.W.typeIn K (.ref A.xf_InvalidRule) = some (.type "function")
  b_InvalidRule : Binds K A.xd_InvalidRule ["self", "part"] []
  ct_InvalidRule : CatchesK K mg XS "InvalidRule" (.ref A.c_InvalidRule)
  is_ShownError : IsAll K mg XS "ShownError" A.c_ShownError
  xf : XfAll K mg XS FL
structure Exs (P : Program) (w : World) (K : PySem.W.Frag) (mg : Str → Option Value) (base : Heap) (A : Ad) : Prop where
  F_InvalidRule : FnOk P w K mg base (L2.CX P w) 1 A.xf_InvalidRule A.xd_InvalidRule ["self", "part"] (spE1 A.c_InvalidRule "part")
section
variable {P : Program} {w : World} {K : PySem.W.Frag} {mg : Str → Option Value} {base : Heap} {A : Ad} {F : FF} {j : Nat}
structure Oks (P : Program) (w : World) (K : PySem.W.Frag) (mg : Str → Option Value) (base : Heap) (A : Ad) (j : Nat) (F : FF) : Prop where
  is_name : FnOk P w K mg base (L2.CX P w) j A.f_is_name A.d_is_name ["value"] (spT K mg 1 F.is_name)
  is_name_pair : FnOk P w K mg base (L2.CX P w) j A.f_is_name_pair A.d_is_name_pair ["value"] (spT K mg 1 F.is_name_pair)
  are_pairs : FnOk P w K mg base (L2.CX P w) j A.f_are_pairs A.d_are_pairs ["value"] (spT K mg 1 F.are_pairs)
  fits_part : FnOk P w K mg base (L2.CX P w) j A.f_fits_part A.d_fits_part ["part", "value"] (spT K mg 2 F.fits_part)
  Rule_init : FnOk P w K mg base (L2.CX P w) j A.f_Rule_init A.d_Rule_init ["self", "opens", "checks", "around", "wipes", "taken", "sending"] (spT K mg 7 F.Rule_init)
  Rule___eq__ : FnOk P w K mg base (L2.CX P w) j A.f_Rule___eq__ A.d_Rule___eq__ ["self", "other"] (spT K mg 2 F.Rule___eq__)
  Rule_six : FnOk P w K mg base (L2.CX P w) j A.f_Rule_six A.d_Rule_six ["self"] (spT K mg 1 F.Rule_six)
  _law_mix : FnOk P w K mg base (L2.CX P w) j A.f__law_mix A.d__law_mix ["_law_value_here", "_law_k"] (spT K mg 2 F._law_mix)
  _law_box : FnOk P w K mg base (L2.CX P w) j A.f__law_box A.d__law_box ["_law_script"] (spT K mg 1 F._law_box)
  _law_draw : FnOk P w K mg base (L2.CX P w) j A.f__law_draw A.d__law_draw ["_law_box_here", "_law_many"] (spT K mg 2 F._law_draw)
  _law_same : FnOk P w K mg base (L2.CX P w) j A.f__law_same A.d__law_same ["_law_told_here", "_law_due_here"] (spT K mg 2 F._law_same)
  _law_menu : FnOk P w K mg base (L2.CX P w) j A.f__law_menu A.d__law_menu ["_law_at"] (spT K mg 1 F._law_menu)
  _law_is_name : FnOk P w K mg base (L2.CX P w) j A.f__law_is_name A.d__law_is_name ["_law_value_here"] (spT K mg 1 F._law_is_name)
  _law_are_pairs : FnOk P w K mg base (L2.CX P w) j A.f__law_are_pairs A.d__law_are_pairs ["_law_value_here"] (spT K mg 1 F._law_are_pairs)
  _law_fits : FnOk P w K mg base (L2.CX P w) j A.f__law_fits A.d__law_fits ["_law_at", "_law_value_here"] (spT K mg 2 F._law_fits)
  _law_pairs : FnOk P w K mg base (L2.CX P w) j A.f__law_pairs A.d__law_pairs ["_law_box_here"] (spT K mg 1 F._law_pairs)
  _law_good : FnOk P w K mg base (L2.CX P w) j A.f__law_good A.d__law_good ["_law_box_here", "_law_at"] (spT K mg 2 F._law_good)
  _law_value : FnOk P w K mg base (L2.CX P w) j A.f__law_value A.d__law_value ["_law_box_here", "_law_at"] (spT K mg 2 F._law_value)
  _law_six : FnOk P w K mg base (L2.CX P w) j A.f__law_six A.d__law_six ["_law_rule"] (spT K mg 1 F._law_six)
  _law_made : FnOk P w K mg base (L2.CX P w) j A.f__law_made A.d__law_made ["_law_values"] (spT K mg 1 F._law_made)
  _law_told : FnOk P w K mg base (L2.CX P w) j A.f__law_told A.d__law_told ["_law_values"] (spT K mg 1 F._law_told)
  _law_due : FnOk P w K mg base (L2.CX P w) j A.f__law_due A.d__law_due ["_law_values"] (spT K mg 1 F._law_due)
  law : FnOk P w K mg base (L2.CX P w) j A.f_law A.d_law ["_law_script"] (spT K mg 1 F.law)
theorem sc_is_name : FnScope ["value", "sign"] ["value"] (defScope st_is_name) := ⟨rfl, rfl, rfl, by decide +kernel, rfl, by decide +kernel, by decide +kernel⟩
theorem der_is_name (tx : Txt w K mg A) (ex : Exs P w K mg base A) (O : Oks P w K mg base A j F) : FnOk P w K mg base (L2.CX P w) (j + 3) A.f_is_name A.d_is_name ["value"] (spT K mg 1 (defRun 2 (b_is_name F))) := by
  have S := sc_is_name
  refine fn_T tx.u_is_name S fun cdv Ar outer s H E hr tk hp => ?_
  have hr0 := hr.mono (Nat.le_add_right _ _)
  have hr1 := hr.mono (Nat.le_succ _)
  have hr2 := hr.mono (Nat.le_add_left 2 _)
  have hu := hu65 hr
  exact (ds_cons (ds_if (dt_w (dw_or (dt_not (dt_val (de_isk .str boot_str rfl tx.n_isinstance rfl tx.n_str (dv 0)))) (dw_or1 (dt_not (dt_chain os_le os_le nx_le nx_le de_int (de_callB cs_len nx_len rfl tx.n_len boot_len (da_cons (dv 0) da_nil)) de_int)))))
  (ds_cons (ds_ret de_bl)
   ds_nil)
  ds_nil)
  (ds_cons (ds_ret (de_overB (cl_all rfl) nx_all rfl tx.n_all boot_all (dl_lc (own := [("sign", 1)]) rfl S.nd (di_e (dv 0)) (blkOk_by rfl) (fun _ _ _ _ _ => (dg_name (i := 1) S.nd rfl (by first | exact Or.inl rfl | exact Or.inr rfl))) (fun _ _ _ _ _ => dts_nil) (fun _ _ _ _ _ => (de_cmp (os_in hu) nx_in (dv 1) (dgs tx.c_LETTERS (by decide +kernel)) rfl)))))
  ds_nil))
theorem sc_is_name_pair : FnScope ["value"] ["value"] (defScope st_is_name_pair) := ⟨rfl, rfl, rfl, by decide +kernel, rfl, by decide +kernel, by decide +kernel⟩
theorem der_is_name_pair (tx : Txt w K mg A) (ex : Exs P w K mg base A) (O : Oks P w K mg base A j F) : FnOk P w K mg base (L2.CX P w) (j + 3) A.f_is_name_pair A.d_is_name_pair ["value"] (spT K mg 1 (defRun 1 (b_is_name_pair F))) := by
  have S := sc_is_name_pair
  refine fn_T tx.u_is_name_pair S fun cdv Ar outer s H E hr tk hp => ?_
  have hr0 := hr.mono (Nat.le_add_right _ _)
  have hr1 := hr.mono (Nat.le_succ _)
  have hr2 := hr.mono (Nat.le_add_left 2 _)
  have hu := hu65 hr
  exact (ds_cons (ds_if (dt_w (dw_or (dt_not (dt_val (de_isk .tuple boot_tuple rfl tx.n_isinstance rfl tx.n_tuple (dv 0)))) (dw_or1 (dt_cmp (os_ne hu) nx_ne (de_callB cs_len nx_len rfl tx.n_len boot_len (da_cons (dv 0) da_nil)) de_int rfl))))
  (ds_cons (ds_ret de_bl)
   ds_nil)
  ds_nil)
  (ds_cons (ds_ret (de_and (de_call (ps := ["value"]) O.is_name hr0 rfl tx.g_is_name tx.u_is_name.kp tx.b_is_name tk (da_cons (de_ix (dv 0) de_int) da_nil)) (de_and (de_call (ps := ["value"]) O.is_name hr0 rfl tx.g_is_name tx.u_is_name.kp tx.b_is_name tk (da_cons (de_ix (dv 0) de_int) da_nil)) (de_and1 (de_cmp (os_ne hu) nx_ne (de_ix (dv 0) de_int) (de_ix (dv 0) de_int) rfl)))))
  ds_nil))
theorem sc_are_pairs : FnScope ["value", "item"] ["value"] (defScope st_are_pairs) := ⟨rfl, rfl, rfl, by decide +kernel, rfl, by decide +kernel, by decide +kernel⟩
theorem der_are_pairs (tx : Txt w K mg A) (ex : Exs P w K mg base A) (O : Oks P w K mg base A j F) : FnOk P w K mg base (L2.CX P w) (j + 3) A.f_are_pairs A.d_are_pairs ["value"] (spT K mg 1 (defRun 2 (b_are_pairs F))) := by
  have S := sc_are_pairs
  refine fn_T tx.u_are_pairs S fun cdv Ar outer s H E hr tk hp => ?_
  have hr0 := hr.mono (Nat.le_add_right _ _)
  have hr1 := hr.mono (Nat.le_succ _)
  have hr2 := hr.mono (Nat.le_add_left 2 _)
  have hu := hu65 hr
  exact (ds_cons (ds_if (dt_w (dw_or (dt_not (dt_val (de_isk .tuple boot_tuple rfl tx.n_isinstance rfl tx.n_tuple (dv 0)))) (dw_or1 (dt_not (dt_val (de_overB (cl_all rfl) nx_all rfl tx.n_all boot_all (dl_lc (own := [("item", 1)]) rfl S.nd (di_e (dv 0)) (blkOk_by rfl) (fun _ _ _ _ _ => (dg_name (i := 1) S.nd rfl (by first | exact Or.inl rfl | exact Or.inr rfl))) (fun _ _ _ _ _ => dts_nil) (fun _ _ _ _ _ => (de_call (ps := ["value"]) O.is_name_pair hr0 rfl tx.g_is_name_pair tx.u_is_name_pair.kp tx.b_is_name_pair takes0 (da_cons (dv 1) da_nil))))))))))
  (ds_cons (ds_ret de_bl)
   ds_nil)
  ds_nil)
  (ds_cons (ds_ret (de_cmp (os_eq hu) nx_eq (de_lenSetP rfl hu rfl tx.n_len rfl tx.n_set (dv 0)) (de_callB cs_len nx_len rfl tx.n_len boot_len (da_cons (dv 0) da_nil)) rfl))
  ds_nil))
theorem sc_fits_part : FnScope ["part", "value"] ["part", "value"] (defScope st_fits_part) := ⟨rfl, rfl, rfl, by decide +kernel, rfl, by decide +kernel, by decide +kernel⟩
theorem der_fits_part (tx : Txt w K mg A) (ex : Exs P w K mg base A) (O : Oks P w K mg base A j F) : FnOk P w K mg base (L2.CX P w) (j + 3) A.f_fits_part A.d_fits_part ["part", "value"] (spT K mg 2 (defRun 2 (b_fits_part F))) := by
  have S := sc_fits_part
  refine fn_T tx.u_fits_part S fun cdv Ar outer s H E hr tk hp => ?_
  have hr0 := hr.mono (Nat.le_add_right _ _)
  have hr1 := hr.mono (Nat.le_succ _)
  have hr2 := hr.mono (Nat.le_add_left 2 _)
  have hu := hu65 hr
  exact (ds_cons (ds_if (dt_cmp (os_eq hu) nx_eq (dv 0) (de_str (by decide +kernel)) rfl)
  (ds_cons (ds_ret (de_isk .bool boot_bool rfl tx.n_isinstance rfl tx.n_bool (dv 1)))
   ds_nil)
  ds_nil)
  (ds_cons (ds_if (dt_w (dw_and (dt_cmp (os_eq hu) nx_eq (dv 0) (de_str (by decide +kernel)) rfl) (dw_and1 (dt_val (de_call (ps := ["value"]) O.are_pairs hr0 rfl tx.g_are_pairs tx.u_are_pairs.kp tx.b_are_pairs tk (da_cons (dv 1) da_nil))))))
  (ds_cons (ds_ret de_bl)
   ds_nil)
  ds_nil)
  (ds_cons (ds_ret (de_and (de_isk .str boot_str rfl tx.n_isinstance rfl tx.n_str (dv 1)) (de_and1 (de_cmp (os_in hu) nx_in (dv 1) (de_menu tx.c_MENUS (dv 0)) rfl))))
  ds_nil)))
theorem sc_Rule_init : FnScope ["self", "opens", "checks", "around", "wipes", "taken", "sending", "values", "part", "value"] ["self", "opens", "checks", "around", "wipes", "taken", "sending"] (defScope st_Rule_init) := ⟨rfl, rfl, rfl, by decide +kernel, rfl, by decide +kernel, by decide +kernel⟩
theorem der_Rule_init (tx : Txt w K mg A) (ex : Exs P w K mg base A) (O : Oks P w K mg base A j F) : FnOk P w K mg base (L2.CX P w) (j + 3) A.f_Rule_init A.d_Rule_init ["self", "opens", "checks", "around", "wipes", "taken", "sending"] (spT K mg 7 (defRun 10 (b_Rule_init F))) := by
  have S := sc_Rule_init
  refine fn_TD tx.u_Rule_init S fun cdv Ar outer s H E hr tk hp => ?_
  have hr0 := hr.mono (Nat.le_add_right _ _)
  have hr1 := hr.mono (Nat.le_succ _)
  have hr2 := hr.mono (Nat.le_add_left 2 _)
  have hu := hu65 hr
  exact (ds_cons (ds_set (i := 7) S.nd rfl (by first | exact Or.inl rfl | exact Or.inr rfl) (de_tup (da_cons (dv 1) (da_cons (dv 2) (da_cons (dv 3) (da_cons (dv 4) (da_cons (dv 5) (da_cons (dv 6) da_nil))))))))
  (ds_cons (ds_for hp rfl (di_zip rfl tx.n_zip (da_cons (dgk tx.c_PARTS) (da_cons (dv 7) da_nil))) (dg_tup rfl (dgs_cons (dg_name (i := 8) S.nd rfl (by first | exact Or.inl rfl | exact Or.inr rfl)) (dgs_cons (dg_name (i := 9) S.nd rfl (by first | exact Or.inl rfl | exact Or.inr rfl)) dgs_nil)))
  (ds_cons (ds_if (dt_not (dt_val (de_call (ps := ["part", "value"]) O.fits_part hr0 rfl tx.g_fits_part tx.u_fits_part.kp tx.b_fits_part tk (da_cons (dv 8) (da_cons (dv 9) da_nil)))))
   (ds_cons (ds_raise1 rfl tk tx.ox_InvalidRule tx.xi_InvalidRule tx.xt_InvalidRule ex.F_InvalidRule hr2 tx.b_InvalidRule rfl tx.g_InvalidRule (da_cons (dv 8) da_nil))
    ds_nil)
   ds_nil)
   ds_nil))
  (ds_cons (ds_if (dt_val (de_isk .tuple boot_tuple rfl tx.n_isinstance rfl tx.n_tuple (dv 3)))
  (ds_cons (ds_set (i := 3) S.nd rfl (by first | exact Or.inl rfl | exact Or.inr rfl) (de_callTy cs_tuple nx_tuple rfl tx.n_tuple boot_tuple (da_cons (de_callB (cs_sorted hu) nx_sorted rfl tx.n_sorted boot_sorted (da_cons (dv 3) da_nil)) da_nil)))
   ds_nil)
  ds_nil)
  (ds_cons (ds_fld tx.cs (dv 0) (dv 1))
  (ds_cons (ds_fld tx.cs (dv 0) (dv 2))
  (ds_cons (ds_fld tx.cs (dv 0) (dv 3))
  (ds_cons (ds_fld tx.cs (dv 0) (dv 4))
  (ds_cons (ds_fld tx.cs (dv 0) (dv 5))
  (ds_cons (ds_fld tx.cs (dv 0) (dv 6))
  ds_nil)))))))))
theorem sc_Rule___eq__ : FnScope ["self", "other"] ["self", "other"] (defScope st_Rule___eq__) := ⟨rfl, rfl, rfl, by decide +kernel, rfl, by decide +kernel, by decide +kernel⟩
theorem der_Rule___eq__ (tx : Txt w K mg A) (ex : Exs P w K mg base A) (O : Oks P w K mg base A j F) : FnOk P w K mg base (L2.CX P w) (j + 3) A.f_Rule___eq__ A.d_Rule___eq__ ["self", "other"] (spT K mg 2 (defRun 2 (b_Rule___eq__ F))) := by
  have S := sc_Rule___eq__
  refine fn_T tx.u_Rule___eq__ S fun cdv Ar outer s H E hr tk hp => ?_
  have hr0 := hr.mono (Nat.le_add_right _ _)
  have hr1 := hr.mono (Nat.le_succ _)
  have hr2 := hr.mono (Nat.le_add_left 2 _)
  have hu := hu65 hr
  exact (ds_cons (ds_if (dt_not (dt_val (de_isO tx.io_Rule rfl tx.n_isinstance rfl tx.g_Rule (dv 1))))
  (ds_cons (ds_ret de_bl)
   ds_nil)
  ds_nil)
  (ds_cons (ds_ret (de_cmp (os_eq hu) nx_eq (de_meth0 (ps := ["self"]) tx.g_Rule tx.cc_Rule tx.h_Rule_six O.Rule_six hr0 tx.b_Rule_six tk (dv 0)) (de_meth0 (ps := ["self"]) tx.g_Rule tx.cc_Rule tx.h_Rule_six O.Rule_six hr0 tx.b_Rule_six tk (dv 1)) rfl))
  ds_nil))
theorem sc_Rule_six : FnScope ["self"] ["self"] (defScope st_Rule_six) := ⟨rfl, rfl, rfl, by decide +kernel, rfl, by decide +kernel, by decide +kernel⟩
theorem der_Rule_six (tx : Txt w K mg A) (ex : Exs P w K mg base A) (O : Oks P w K mg base A j F) : FnOk P w K mg base (L2.CX P w) (j + 3) A.f_Rule_six A.d_Rule_six ["self"] (spT K mg 1 (defRun 1 (b_Rule_six F))) := by
  have S := sc_Rule_six
  refine fn_T tx.u_Rule_six S fun cdv Ar outer s H E hr tk hp => ?_
  have hr0 := hr.mono (Nat.le_add_right _ _)
  have hr1 := hr.mono (Nat.le_succ _)
  have hr2 := hr.mono (Nat.le_add_left 2 _)
  have hu := hu65 hr
  exact (ds_cons (ds_ret (de_tup (da_cons (de_fld tx.cs (dv 0)) (da_cons (de_fld tx.cs (dv 0)) (da_cons (de_fld tx.cs (dv 0)) (da_cons (de_fld tx.cs (dv 0)) (da_cons (de_fld tx.cs (dv 0)) (da_cons (de_fld tx.cs (dv 0)) da_nil))))))))
  ds_nil)
theorem sc__law_mix : FnScope ["_law_value_here", "_law_k", "_law_number"] ["_law_value_here", "_law_k"] (defScope st__law_mix) := ⟨rfl, rfl, rfl, by decide +kernel, rfl, by decide +kernel, by decide +kernel⟩
theorem der__law_mix (tx : Txt w K mg A) (ex : Exs P w K mg base A) (O : Oks P w K mg base A j F) : FnOk P w K mg base (L2.CX P w) (j + 3) A.f__law_mix A.d__law_mix ["_law_value_here", "_law_k"] (spT K mg 2 (defRun 3 (b__law_mix F))) := by
  have S := sc__law_mix
  refine fn_T tx.u__law_mix S fun cdv Ar outer s H E hr tk hp => ?_
  have hr0 := hr.mono (Nat.le_add_right _ _)
  have hr1 := hr.mono (Nat.le_succ _)
  have hr2 := hr.mono (Nat.le_add_left 2 _)
  have hu := hu65 hr
  exact (ds_cons (ds_set (i := 2) S.nd rfl (by first | exact Or.inl rfl | exact Or.inr rfl) (de_op os_mod nx_mod (de_op os_mul nx_mul (de_op os_add nx_add (de_op os_add nx_add (de_callTy cs_int nx_bint rfl tx.n_int boot_int (da_cons (dv 0) da_nil)) (de_op os_mul nx_mul de_int (dv 1))) de_int) de_int) de_int))
  (ds_cons (ds_set (i := 2) S.nd rfl (by first | exact Or.inl rfl | exact Or.inr rfl) (de_op os_mod nx_mod (de_op os_mul nx_mul (dv 2) (de_op os_add nx_add (de_op os_div nx_div (dv 2) de_int) de_int)) de_int))
  (ds_cons (ds_ret (de_op os_mod nx_mod (de_op os_mul nx_mul (dv 2) (de_op os_add nx_add (de_op os_div nx_div (dv 2) de_int) de_int)) de_int))
  ds_nil)))
theorem sc__law_box : FnScope ["_law_script", "_law_cells", "_law_cell", "_law_seed"] ["_law_script"] (defScope st__law_box) := ⟨rfl, rfl, rfl, by decide +kernel, rfl, by decide +kernel, by decide +kernel⟩
theorem der__law_box (tx : Txt w K mg A) (ex : Exs P w K mg base A) (O : Oks P w K mg base A j F) : FnOk P w K mg base (L2.CX P w) (j + 3) A.f__law_box A.d__law_box ["_law_script"] (spT K mg 1 (defRun 4 (b__law_box F))) := by
  have S := sc__law_box
  refine fn_T tx.u__law_box S fun cdv Ar outer s H E hr tk hp => ?_
  have hr0 := hr.mono (Nat.le_add_right _ _)
  have hr1 := hr.mono (Nat.le_succ _)
  have hr2 := hr.mono (Nat.le_add_left 2 _)
  have hu := hu65 hr
  exact (ds_cons (ds_setLc (i := 1) (own := [("_law_cell", 2)]) rfl S.nd rfl rfl (sw_true rfl rfl rfl (by decide +kernel)) (di_e (de_sl (dv 0) do_none (do_some de_int))) (blkOk_by rfl) (fun _ _ _ _ _ => (dg_name (i := 2) S.nd rfl (by first | exact Or.inl rfl | exact Or.inr rfl))) (fun _ _ _ _ _ => dts_nil) (fun _ _ _ _ _ => (de_callTy cs_int nx_bint rfl tx.n_int boot_int (da_cons (dv 2) da_nil))))
  (ds_cons (ds_set (i := 3) S.nd rfl (by first | exact Or.inl rfl | exact Or.inr rfl) de_int)
  (ds_cons (ds_for hp rfl (di_e (dv 1)) (dg_name (i := 2) S.nd rfl (by first | exact Or.inl rfl | exact Or.inr rfl))
  (ds_cons (ds_set (i := 3) S.nd rfl (by first | exact Or.inl rfl | exact Or.inr rfl) (de_call (ps := ["_law_value_here", "_law_k"]) O._law_mix hr0 rfl tx.g__law_mix tx.u__law_mix.kp tx.b__law_mix tk (da_cons (de_op os_add nx_add (dv 3) (dv 2)) (da_cons de_int da_nil))))
   ds_nil))
  (ds_cons (ds_ret (de_lst (da_cons (dv 1) (da_cons de_int (da_cons de_int (da_cons (dv 3) (da_cons de_int da_nil)))))))
  ds_nil))))
theorem sc__law_draw : FnScope ["_law_box_here", "_law_many", "_law_cell", "_law_digit"] ["_law_box_here", "_law_many"] (defScope st__law_draw) := ⟨rfl, rfl, rfl, by decide +kernel, rfl, by decide +kernel, by decide +kernel⟩
theorem der__law_draw (tx : Txt w K mg A) (ex : Exs P w K mg base A) (O : Oks P w K mg base A j F) : FnOk P w K mg base (L2.CX P w) (j + 3) A.f__law_draw A.d__law_draw ["_law_box_here", "_law_many"] (spT K mg 2 (defRun 4 (b__law_draw F))) := by
  have S := sc__law_draw
  refine fn_T tx.u__law_draw S fun cdv Ar outer s H E hr tk hp => ?_
  have hr0 := hr.mono (Nat.le_add_right _ _)
  have hr1 := hr.mono (Nat.le_succ _)
  have hr2 := hr.mono (Nat.le_add_left 2 _)
  have hu := hu65 hr
  exact (ds_cons (ds_sub (dv 0) de_int (de_op os_add nx_add (de_ix (dv 0) de_int) de_int))
  (ds_cons (ds_if (dt_w (dw_and (dt_cmp (os_eq hu) nx_eq (de_ix (dv 0) de_int) de_int rfl) (dw_and1 (dt_cmp os_lt nx_lt (de_ix (dv 0) de_int) (de_callB cs_len nx_len rfl tx.n_len boot_len (da_cons (de_ix (dv 0) de_int) da_nil)) rfl))))
  (ds_cons (ds_set (i := 2) S.nd rfl (by first | exact Or.inl rfl | exact Or.inr rfl) (de_ix (de_ix (dv 0) de_int) (de_ix (dv 0) de_int)))
   (ds_cons (ds_sub (dv 0) de_int (de_op os_add nx_add (de_ix (dv 0) de_int) de_int))
   (ds_cons (ds_if (dt_cmp os_lt nx_lt (dv 2) (de_op os_pow nx_pow de_int de_int) rfl)
   (ds_cons (ds_ret (de_op os_mod nx_mod (de_callTy cs_int nx_bint rfl tx.n_int boot_int (da_cons (de_call (ps := ["_law_value_here", "_law_k"]) O._law_mix hr0 rfl tx.g__law_mix tx.u__law_mix.kp tx.b__law_mix tk (da_cons (dv 2) (da_cons (de_ix (dv 0) de_int) da_nil))) da_nil)) (dv 1)))
    ds_nil)
   ds_nil)
   (ds_cons (ds_sub (dv 0) de_int (dv 2))
   ds_nil))))
  ds_nil)
  (ds_cons (ds_if (dt_cmp (os_eq hu) nx_eq (de_ix (dv 0) de_int) de_int rfl)
  (ds_cons (ds_ret (de_op os_mod nx_mod (de_callTy cs_int nx_bint rfl tx.n_int boot_int (da_cons (de_call (ps := ["_law_value_here", "_law_k"]) O._law_mix hr0 rfl tx.g__law_mix tx.u__law_mix.kp tx.b__law_mix tk (da_cons (de_ix (dv 0) de_int) (da_cons (de_ix (dv 0) de_int) da_nil))) da_nil)) (dv 1)))
   ds_nil)
  ds_nil)
  (ds_cons (ds_set (i := 3) S.nd rfl (by first | exact Or.inl rfl | exact Or.inr rfl) (de_op os_mod nx_mod (de_callTy cs_int nx_bint rfl tx.n_int boot_int (da_cons (de_ix (dv 0) de_int) da_nil)) (dv 1)))
  (ds_cons (ds_sub (dv 0) de_int (de_op os_div nx_div (de_callTy cs_int nx_bint rfl tx.n_int boot_int (da_cons (de_ix (dv 0) de_int) da_nil)) (dv 1)))
  (ds_cons (ds_ret (dv 3))
  ds_nil))))))
theorem sc__law_same : FnScope ["_law_told_here", "_law_due_here", "_law_k"] ["_law_told_here", "_law_due_here"] (defScope st__law_same) := ⟨rfl, rfl, rfl, by decide +kernel, rfl, by decide +kernel, by decide +kernel⟩
theorem der__law_same (tx : Txt w K mg A) (ex : Exs P w K mg base A) (O : Oks P w K mg base A j F) : FnOk P w K mg base (L2.CX P w) (j + 3) A.f__law_same A.d__law_same ["_law_told_here", "_law_due_here"] (spT K mg 2 (defRun 3 (b__law_same F))) := by
  have S := sc__law_same
  refine fn_T tx.u__law_same S fun cdv Ar outer s H E hr tk hp => ?_
  have hr0 := hr.mono (Nat.le_add_right _ _)
  have hr1 := hr.mono (Nat.le_succ _)
  have hr2 := hr.mono (Nat.le_add_left 2 _)
  have hu := hu65 hr
  exact (ds_cons (ds_if (dt_w (dw_or (dt_val (de_isk .tuple boot_tuple rfl tx.n_isinstance rfl tx.n_tuple (dv 1))) (dw_or1 (dt_val (de_isk .list boot_list rfl tx.n_isinstance rfl tx.n_list (dv 1))))))
  (ds_cons (ds_if (dt_w (dw_or (dt_cmp (os_ne hu) nx_ne (de_isk .tuple boot_tuple rfl tx.n_isinstance rfl tx.n_tuple (dv 1)) (de_isk .tuple boot_tuple rfl tx.n_isinstance rfl tx.n_tuple (dv 0)) rfl) (dw_or1 (dt_cmp (os_ne hu) nx_ne (de_isk .list boot_list rfl tx.n_isinstance rfl tx.n_list (dv 1)) (de_isk .list boot_list rfl tx.n_isinstance rfl tx.n_list (dv 0)) rfl))))
   (ds_cons (ds_ret de_bl)
    ds_nil)
   ds_nil)
   (ds_cons (ds_if (dt_cmp (os_ne hu) nx_ne (de_callB cs_len nx_len rfl tx.n_len boot_len (da_cons (dv 0) da_nil)) (de_callB cs_len nx_len rfl tx.n_len boot_len (da_cons (dv 1) da_nil)) rfl)
   (ds_cons (ds_ret de_bl)
    ds_nil)
   ds_nil)
   (ds_cons (ds_ret (de_overB (cl_all rfl) nx_all rfl tx.n_all boot_all (dl_lc (own := [("_law_k", 2)]) rfl S.nd (di_range1 rfl tx.n_range (da_cons (de_callB cs_len nx_len rfl tx.n_len boot_len (da_cons (dv 1) da_nil)) da_nil)) (blkOk_by rfl) (fun _ _ _ _ _ => (dg_name (i := 2) S.nd rfl (by first | exact Or.inl rfl | exact Or.inr rfl))) (fun _ _ _ _ _ => dts_nil) (fun _ _ _ _ _ => (de_call (ps := ["_law_told_here", "_law_due_here"]) O._law_same hr0 rfl tx.g__law_same tx.u__law_same.kp tx.b__law_same takes0 (da_cons (de_ix (dv 0) (dv 2)) (da_cons (de_ix (dv 1) (dv 2)) da_nil)))))))
   ds_nil)))
  ds_nil)
  (ds_cons (ds_if (dt_cmp os_is nx_is (dv 1) de_non rfl)
  (ds_cons (ds_ret (de_cmp os_is nx_is (dv 0) de_non rfl))
   ds_nil)
  ds_nil)
  (ds_cons (ds_if (dt_w (dw_or (dt_val (de_isk .bool boot_bool rfl tx.n_isinstance rfl tx.n_bool (dv 1))) (dw_or1 (dt_val (de_isk .bool boot_bool rfl tx.n_isinstance rfl tx.n_bool (dv 0))))))
  (ds_cons (ds_ret (de_and (de_isk .bool boot_bool rfl tx.n_isinstance rfl tx.n_bool (dv 1)) (de_and (de_isk .bool boot_bool rfl tx.n_isinstance rfl tx.n_bool (dv 0)) (de_and1 (de_cmp (os_eq hu) nx_eq (dv 1) (dv 0) rfl)))))
   ds_nil)
  ds_nil)
  (ds_cons (ds_if (dt_val (de_isk .int boot_int rfl tx.n_isinstance rfl tx.n_int (dv 1)))
  (ds_cons (ds_ret (de_and (de_isk .int boot_int rfl tx.n_isinstance rfl tx.n_int (dv 0)) (de_and1 (de_cmp (os_eq hu) nx_eq (dv 0) (dv 1) rfl))))
   ds_nil)
  ds_nil)
  (ds_cons (ds_ret (de_and (de_isk .str boot_str rfl tx.n_isinstance rfl tx.n_str (dv 0)) (de_and1 (de_cmp (os_eq hu) nx_eq (dv 0) (dv 1) rfl))))
  ds_nil)))))
theorem sc__law_menu : FnScope ["_law_at", "_law_menus"] ["_law_at"] (defScope st__law_menu) := ⟨rfl, rfl, rfl, by decide +kernel, rfl, by decide +kernel, by decide +kernel⟩
theorem der__law_menu (tx : Txt w K mg A) (ex : Exs P w K mg base A) (O : Oks P w K mg base A j F) : FnOk P w K mg base (L2.CX P w) (j + 3) A.f__law_menu A.d__law_menu ["_law_at"] (spT K mg 1 (defRun 2 (b__law_menu F))) := by
  have S := sc__law_menu
  refine fn_T tx.u__law_menu S fun cdv Ar outer s H E hr tk hp => ?_
  have hr0 := hr.mono (Nat.le_add_right _ _)
  have hr1 := hr.mono (Nat.le_succ _)
  have hr2 := hr.mono (Nat.le_add_left 2 _)
  have hu := hu65 hr
  exact (ds_cons (ds_set (i := 1) S.nd rfl (by first | exact Or.inl rfl | exact Or.inr rfl) (de_lst (da_cons (de_tup (da_cons (de_str (by decide +kernel)) (da_cons (de_str (by decide +kernel)) (da_cons (de_str (by decide +kernel)) da_nil)))) (da_cons (de_tup (da_cons (de_str (by decide +kernel)) (da_cons (de_str (by decide +kernel)) da_nil))) (da_cons (de_tup (da_cons (de_str (by decide +kernel)) (da_cons (de_str (by decide +kernel)) da_nil))) (da_cons (de_tup (da_cons de_bl (da_cons de_bl da_nil))) da_nil))))))
  (ds_cons (ds_expr (de_mt ms_extend nx_extend PySem.F.plainAttrs_list PySem.F.slot_list_extend PySem.F.type_list_extend (dv 1) (da_cons (de_lst (da_cons (de_tup (da_cons (de_str (by decide +kernel)) (da_cons (de_str (by decide +kernel)) (da_cons (de_str (by decide +kernel)) da_nil)))) (da_cons (de_tup (da_cons (de_str (by decide +kernel)) (da_cons (de_str (by decide +kernel)) (da_cons (de_str (by decide +kernel)) da_nil)))) da_nil))) da_nil)))
  (ds_cons (ds_ret (de_ix (dv 1) (dv 0)))
  ds_nil)))
theorem sc__law_is_name : FnScope ["_law_value_here", "_law_sign"] ["_law_value_here"] (defScope st__law_is_name) := ⟨rfl, rfl, rfl, by decide +kernel, rfl, by decide +kernel, by decide +kernel⟩
theorem der__law_is_name (tx : Txt w K mg A) (ex : Exs P w K mg base A) (O : Oks P w K mg base A j F) : FnOk P w K mg base (L2.CX P w) (j + 3) A.f__law_is_name A.d__law_is_name ["_law_value_here"] (spT K mg 1 (defRun 2 (b__law_is_name F))) := by
  have S := sc__law_is_name
  refine fn_T tx.u__law_is_name S fun cdv Ar outer s H E hr tk hp => ?_
  have hr0 := hr.mono (Nat.le_add_right _ _)
  have hr1 := hr.mono (Nat.le_succ _)
  have hr2 := hr.mono (Nat.le_add_left 2 _)
  have hu := hu65 hr
  exact (ds_cons (ds_if (dt_w (dw_or (dt_not (dt_val (de_isk .str boot_str rfl tx.n_isinstance rfl tx.n_str (dv 0)))) (dw_or1 (dt_not (dt_chain os_le os_le nx_le nx_le de_int (de_callB cs_len nx_len rfl tx.n_len boot_len (da_cons (dv 0) da_nil)) de_int)))))
  (ds_cons (ds_ret de_bl)
   ds_nil)
  ds_nil)
  (ds_cons (ds_ret (de_overB (cl_all rfl) nx_all rfl tx.n_all boot_all (dl_lc (own := [("_law_sign", 1)]) rfl S.nd (di_e (dv 0)) (blkOk_by rfl) (fun _ _ _ _ _ => (dg_name (i := 1) S.nd rfl (by first | exact Or.inl rfl | exact Or.inr rfl))) (fun _ _ _ _ _ => dts_nil) (fun _ _ _ _ _ => (de_cmp (os_in hu) nx_in (dv 1) (de_str (by decide +kernel)) rfl)))))
  ds_nil))
theorem sc__law_are_pairs : FnScope ["_law_value_here", "_law_pair", "_law_k"] ["_law_value_here"] (defScope st__law_are_pairs) := ⟨rfl, rfl, rfl, by decide +kernel, rfl, by decide +kernel, by decide +kernel⟩
theorem der__law_are_pairs (tx : Txt w K mg A) (ex : Exs P w K mg base A) (O : Oks P w K mg base A j F) : FnOk P w K mg base (L2.CX P w) (j + 3) A.f__law_are_pairs A.d__law_are_pairs ["_law_value_here"] (spT K mg 1 (defRun 3 (b__law_are_pairs F))) := by
  have S := sc__law_are_pairs
  refine fn_T tx.u__law_are_pairs S fun cdv Ar outer s H E hr tk hp => ?_
  have hr0 := hr.mono (Nat.le_add_right _ _)
  have hr1 := hr.mono (Nat.le_succ _)
  have hr2 := hr.mono (Nat.le_add_left 2 _)
  have hu := hu65 hr
  exact (ds_cons (ds_if (dt_not (dt_val (de_isk .tuple boot_tuple rfl tx.n_isinstance rfl tx.n_tuple (dv 0))))
  (ds_cons (ds_ret de_bl)
   ds_nil)
  ds_nil)
  (ds_cons (ds_for hp rfl (di_e (dv 0)) (dg_name (i := 1) S.nd rfl (by first | exact Or.inl rfl | exact Or.inr rfl))
  (ds_cons (ds_if (dt_w (dw_or (dt_not (dt_val (de_isk .tuple boot_tuple rfl tx.n_isinstance rfl tx.n_tuple (dv 1)))) (dw_or1 (dt_cmp (os_ne hu) nx_ne (de_callB cs_len nx_len rfl tx.n_len boot_len (da_cons (dv 1) da_nil)) de_int rfl))))
   (ds_cons (ds_ret de_bl)
    ds_nil)
   ds_nil)
   (ds_cons (ds_if (dt_w (dw_or (dt_not (dt_val (de_call (ps := ["_law_value_here"]) O._law_is_name hr0 rfl tx.g__law_is_name tx.u__law_is_name.kp tx.b__law_is_name tk (da_cons (de_ix (dv 1) de_int) da_nil)))) (dw_or (dt_not (dt_val (de_call (ps := ["_law_value_here"]) O._law_is_name hr0 rfl tx.g__law_is_name tx.u__law_is_name.kp tx.b__law_is_name tk (da_cons (de_ix (dv 1) de_int) da_nil)))) (dw_or1 (dt_cmp (os_eq hu) nx_eq (de_ix (dv 1) de_int) (de_ix (dv 1) de_int) rfl)))))
   (ds_cons (ds_ret de_bl)
    ds_nil)
   ds_nil)
   ds_nil)))
  (ds_cons (ds_ret (de_overB (cl_all rfl) nx_all rfl tx.n_all boot_all (dl_lc (own := [("_law_k", 2)]) rfl S.nd (di_range1 rfl tx.n_range (da_cons (de_callB cs_len nx_len rfl tx.n_len boot_len (da_cons (dv 0) da_nil)) da_nil)) (blkOk_by rfl) (fun _ _ _ _ _ => (dg_name (i := 2) S.nd rfl (by first | exact Or.inl rfl | exact Or.inr rfl))) (fun _ _ _ _ _ => dts_nil) (fun _ _ _ _ _ => (de_cmp (os_notin hu) nx_notin (de_ix (dv 0) (dv 2)) (de_sl (dv 0) do_none (do_some (dv 2))) rfl)))))
  ds_nil)))
theorem sc__law_fits : FnScope ["_law_at", "_law_value_here"] ["_law_at", "_law_value_here"] (defScope st__law_fits) := ⟨rfl, rfl, rfl, by decide +kernel, rfl, by decide +kernel, by decide +kernel⟩
theorem der__law_fits (tx : Txt w K mg A) (ex : Exs P w K mg base A) (O : Oks P w K mg base A j F) : FnOk P w K mg base (L2.CX P w) (j + 3) A.f__law_fits A.d__law_fits ["_law_at", "_law_value_here"] (spT K mg 2 (defRun 2 (b__law_fits F))) := by
  have S := sc__law_fits
  refine fn_T tx.u__law_fits S fun cdv Ar outer s H E hr tk hp => ?_
  have hr0 := hr.mono (Nat.le_add_right _ _)
  have hr1 := hr.mono (Nat.le_succ _)
  have hr2 := hr.mono (Nat.le_add_left 2 _)
  have hu := hu65 hr
  exact (ds_cons (ds_if (dt_cmp (os_eq hu) nx_eq (dv 0) de_int rfl)
  (ds_cons (ds_ret (de_isk .bool boot_bool rfl tx.n_isinstance rfl tx.n_bool (dv 1)))
   ds_nil)
  ds_nil)
  (ds_cons (ds_if (dt_w (dw_and (dt_cmp (os_eq hu) nx_eq (dv 0) de_int rfl) (dw_and1 (dt_val (de_call (ps := ["_law_value_here"]) O._law_are_pairs hr0 rfl tx.g__law_are_pairs tx.u__law_are_pairs.kp tx.b__law_are_pairs tk (da_cons (dv 1) da_nil))))))
  (ds_cons (ds_ret de_bl)
   ds_nil)
  ds_nil)
  (ds_cons (ds_ret (de_and (de_isk .str boot_str rfl tx.n_isinstance rfl tx.n_str (dv 1)) (de_and1 (de_cmp (os_in hu) nx_in (dv 1) (de_call (ps := ["_law_at"]) O._law_menu hr0 rfl tx.g__law_menu tx.u__law_menu.kp tx.b__law_menu tk (da_cons (dv 0) da_nil)) rfl))))
  ds_nil)))
theorem sc__law_pairs : FnScope ["_law_box_here", "_law_names", "_law_found", "_law_k", "_law_pair"] ["_law_box_here"] (defScope st__law_pairs) := ⟨rfl, rfl, rfl, by decide +kernel, rfl, by decide +kernel, by decide +kernel⟩
theorem der__law_pairs (tx : Txt w K mg A) (ex : Exs P w K mg base A) (O : Oks P w K mg base A j F) : FnOk P w K mg base (L2.CX P w) (j + 3) A.f__law_pairs A.d__law_pairs ["_law_box_here"] (spT K mg 1 (defRun 5 (b__law_pairs F))) := by
  have S := sc__law_pairs
  refine fn_T tx.u__law_pairs S fun cdv Ar outer s H E hr tk hp => ?_
  have hr0 := hr.mono (Nat.le_add_right _ _)
  have hr1 := hr.mono (Nat.le_succ _)
  have hr2 := hr.mono (Nat.le_add_left 2 _)
  have hu := hu65 hr
  exact (ds_cons (ds_set (i := 1) S.nd rfl (by first | exact Or.inl rfl | exact Or.inr rfl) (de_lst (da_cons (de_str (by decide +kernel)) (da_cons (de_str (by decide +kernel)) (da_cons (de_str (by decide +kernel)) (da_cons (de_str (by decide +kernel)) (da_cons (de_str (by decide +kernel)) (da_cons (de_str (by decide +kernel)) da_nil))))))))
  (ds_cons (ds_set (i := 2) S.nd rfl (by first | exact Or.inl rfl | exact Or.inr rfl) (de_lst da_nil))
  (ds_cons (ds_for hp rfl (di_range1 rfl tx.n_range (da_cons (de_call (ps := ["_law_box_here", "_law_many"]) O._law_draw hr0 rfl tx.g__law_draw tx.u__law_draw.kp tx.b__law_draw tk (da_cons (dv 0) (da_cons de_int da_nil))) da_nil)) (dg_name (i := 3) S.nd rfl (by first | exact Or.inl rfl | exact Or.inr rfl))
  (ds_cons (ds_set (i := 4) S.nd rfl (by first | exact Or.inl rfl | exact Or.inr rfl) (de_tup (da_cons (de_ix (dv 1) (de_call (ps := ["_law_box_here", "_law_many"]) O._law_draw hr0 rfl tx.g__law_draw tx.u__law_draw.kp tx.b__law_draw tk (da_cons (dv 0) (da_cons de_int da_nil)))) (da_cons (de_ix (dv 1) (de_call (ps := ["_law_box_here", "_law_many"]) O._law_draw hr0 rfl tx.g__law_draw tx.u__law_draw.kp tx.b__law_draw tk (da_cons (dv 0) (da_cons de_int da_nil)))) da_nil))))
   (ds_cons (ds_if (dt_w (dw_and (dt_cmp (os_ne hu) nx_ne (de_ix (dv 4) de_int) (de_ix (dv 4) de_int) rfl) (dw_and1 (dt_cmp (os_notin hu) nx_notin (dv 4) (dv 2) rfl))))
   (ds_cons (ds_expr (de_mt ms_append nx_append PySem.F.plainAttrs_list PySem.F.slot_list_append PySem.F.type_list_append (dv 2) (da_cons (dv 4) da_nil)))
    ds_nil)
   ds_nil)
   ds_nil)))
  (ds_cons (ds_ret (de_callTy cs_tuple nx_tuple rfl tx.n_tuple boot_tuple (da_cons (dv 2) da_nil)))
  ds_nil))))
theorem sc__law_good : FnScope ["_law_box_here", "_law_at"] ["_law_box_here", "_law_at"] (defScope st__law_good) := ⟨rfl, rfl, rfl, by decide +kernel, rfl, by decide +kernel, by decide +kernel⟩
theorem der__law_good (tx : Txt w K mg A) (ex : Exs P w K mg base A) (O : Oks P w K mg base A j F) : FnOk P w K mg base (L2.CX P w) (j + 3) A.f__law_good A.d__law_good ["_law_box_here", "_law_at"] (spT K mg 2 (defRun 2 (b__law_good F))) := by
  have S := sc__law_good
  refine fn_T tx.u__law_good S fun cdv Ar outer s H E hr tk hp => ?_
  have hr0 := hr.mono (Nat.le_add_right _ _)
  have hr1 := hr.mono (Nat.le_succ _)
  have hr2 := hr.mono (Nat.le_add_left 2 _)
  have hu := hu65 hr
  exact (ds_cons (ds_if (dt_w (dw_and (dt_cmp (os_eq hu) nx_eq (dv 1) de_int rfl) (dw_and1 (dt_cmp (os_eq hu) nx_eq (de_call (ps := ["_law_box_here", "_law_many"]) O._law_draw hr0 rfl tx.g__law_draw tx.u__law_draw.kp tx.b__law_draw tk (da_cons (dv 0) (da_cons de_int da_nil))) de_int rfl))))
  (ds_cons (ds_ret (de_call (ps := ["_law_box_here"]) O._law_pairs hr0 rfl tx.g__law_pairs tx.u__law_pairs.kp tx.b__law_pairs tk (da_cons (dv 0) da_nil)))
   ds_nil)
  ds_nil)
  (ds_cons (ds_ret (de_ix (de_call (ps := ["_law_at"]) O._law_menu hr0 rfl tx.g__law_menu tx.u__law_menu.kp tx.b__law_menu tk (da_cons (dv 1) da_nil)) (de_call (ps := ["_law_box_here", "_law_many"]) O._law_draw hr0 rfl tx.g__law_draw tx.u__law_draw.kp tx.b__law_draw tk (da_cons (dv 0) (da_cons (de_callB cs_len nx_len rfl tx.n_len boot_len (da_cons (de_call (ps := ["_law_at"]) O._law_menu hr0 rfl tx.g__law_menu tx.u__law_menu.kp tx.b__law_menu tk (da_cons (dv 1) da_nil)) da_nil)) da_nil)))))
  ds_nil))
theorem sc__law_value : FnScope ["_law_box_here", "_law_at", "_law_menu_here"] ["_law_box_here", "_law_at"] (defScope st__law_value) := ⟨rfl, rfl, rfl, by decide +kernel, rfl, by decide +kernel, by decide +kernel⟩
theorem der__law_value (tx : Txt w K mg A) (ex : Exs P w K mg base A) (O : Oks P w K mg base A j F) : FnOk P w K mg base (L2.CX P w) (j + 3) A.f__law_value A.d__law_value ["_law_box_here", "_law_at"] (spT K mg 2 (defRun 3 (b__law_value F))) := by
  have S := sc__law_value
  refine fn_T tx.u__law_value S fun cdv Ar outer s H E hr tk hp => ?_
  have hr0 := hr.mono (Nat.le_add_right _ _)
  have hr1 := hr.mono (Nat.le_succ _)
  have hr2 := hr.mono (Nat.le_add_left 2 _)
  have hu := hu65 hr
  exact (ds_cons (ds_set (i := 2) S.nd rfl (by first | exact Or.inl rfl | exact Or.inr rfl) (de_lst (da_cons (de_str (by decide +kernel)) (da_cons (de_str (by decide +kernel)) (da_cons (de_str (by decide +kernel)) (da_cons (de_str (by decide +kernel)) (da_cons (de_str (by decide +kernel)) (da_cons (de_str (by decide +kernel)) (da_cons (de_str (by decide +kernel)) (da_cons de_bl (da_cons de_bl (da_cons de_int (da_cons de_int (da_cons de_non (da_cons (de_str (by decide +kernel)) (da_cons (de_str (by decide +kernel)) (da_cons (de_lst (da_cons (de_str (by decide +kernel)) da_nil)) da_nil)))))))))))))))))
  (ds_cons (ds_expr (de_mt ms_extend nx_extend PySem.F.plainAttrs_list PySem.F.slot_list_extend PySem.F.type_list_extend (dv 2) (da_cons (de_lst (da_cons (de_tup (da_cons (de_tup (da_cons (de_str (by decide +kernel)) (da_cons (de_str (by decide +kernel)) da_nil))) da_nil)) (da_cons (de_tup (da_cons (de_tup (da_cons (de_str (by decide +kernel)) (da_cons (de_str (by decide +kernel)) da_nil))) (da_cons (de_tup (da_cons (de_str (by decide +kernel)) (da_cons (de_str (by decide +kernel)) da_nil))) da_nil))) (da_cons (de_lst (da_cons (de_tup (da_cons (de_str (by decide +kernel)) (da_cons (de_str (by decide +kernel)) da_nil))) da_nil)) (da_cons (de_tup (da_cons (de_tup (da_cons (de_str (by decide +kernel)) (da_cons (de_str (by decide +kernel)) (da_cons (de_str (by decide +kernel)) da_nil)))) da_nil)) (da_cons (de_tup (da_cons (de_tup (da_cons (de_str (by decide +kernel)) (da_cons (de_str (by decide +kernel)) da_nil))) da_nil)) (da_cons (de_tup (da_cons (de_str (by decide +kernel)) (da_cons (de_str (by decide +kernel)) da_nil))) da_nil))))))) da_nil)))
  (ds_cons (ds_expr (de_mt ms_extend nx_extend PySem.F.plainAttrs_list PySem.F.slot_list_extend PySem.F.type_list_extend (dv 2) (da_cons (de_lst (da_cons (de_tup (da_cons (de_tup (da_cons (de_str (by decide +kernel)) (da_cons (de_str (by decide +kernel)) da_nil))) da_nil)) (da_cons (de_tup (da_cons (de_lst (da_cons (de_str (by decide +kernel)) (da_cons (de_str (by decide +kernel)) da_nil))) da_nil)) (da_cons de_dic0 (da_cons (de_tup (da_cons (de_tup (da_cons (de_str (by decide +kernel)) (da_cons (de_str (by decide +kernel)) da_nil))) (da_cons de_non da_nil))) (da_cons (de_tup (da_cons (de_tup (da_cons (de_str (by decide +kernel)) (da_cons de_int da_nil))) da_nil)) (da_cons (de_tup (da_cons (de_tup da_nil) da_nil)) da_nil))))))) da_nil)))
  (ds_cons (ds_if (dt_cmp (os_eq hu) nx_eq (de_call (ps := ["_law_box_here", "_law_many"]) O._law_draw hr0 rfl tx.g__law_draw tx.u__law_draw.kp tx.b__law_draw tk (da_cons (dv 0) (da_cons de_int da_nil))) de_int rfl)
  (ds_cons (ds_ret (de_ix (dv 2) (de_call (ps := ["_law_box_here", "_law_many"]) O._law_draw hr0 rfl tx.g__law_draw tx.u__law_draw.kp tx.b__law_draw tk (da_cons (dv 0) (da_cons (de_callB cs_len nx_len rfl tx.n_len boot_len (da_cons (dv 2) da_nil)) da_nil)))))
   ds_nil)
  ds_nil)
  (ds_cons (ds_ret (de_call (ps := ["_law_box_here", "_law_at"]) O._law_good hr0 rfl tx.g__law_good tx.u__law_good.kp tx.b__law_good tk (da_cons (dv 0) (da_cons (dv 1) da_nil))))
  ds_nil)))))
theorem sc__law_six : FnScope ["_law_rule"] ["_law_rule"] (defScope st__law_six) := ⟨rfl, rfl, rfl, by decide +kernel, rfl, by decide +kernel, by decide +kernel⟩
theorem der__law_six (tx : Txt w K mg A) (ex : Exs P w K mg base A) (O : Oks P w K mg base A j F) : FnOk P w K mg base (L2.CX P w) (j + 3) A.f__law_six A.d__law_six ["_law_rule"] (spT K mg 1 (defRun 1 (b__law_six F))) := by
  have S := sc__law_six
  refine fn_T tx.u__law_six S fun cdv Ar outer s H E hr tk hp => ?_
  have hr0 := hr.mono (Nat.le_add_right _ _)
  have hr1 := hr.mono (Nat.le_succ _)
  have hr2 := hr.mono (Nat.le_add_left 2 _)
  have hu := hu65 hr
  exact (ds_cons (ds_ret (de_tup (da_cons (de_fld tx.cs (dv 0)) (da_cons (de_fld tx.cs (dv 0)) (da_cons (de_fld tx.cs (dv 0)) (da_cons (de_fld tx.cs (dv 0)) (da_cons (de_fld tx.cs (dv 0)) (da_cons (de_fld tx.cs (dv 0)) da_nil))))))))
  ds_nil)
theorem sc__law_made : FnScope ["_law_values", "_law_one", "_law_two", "_law_three", "_law_four", "_law_five", "_law_six_here"] ["_law_values"] (defScope st__law_made) := ⟨rfl, rfl, rfl, by decide +kernel, rfl, by decide +kernel, by decide +kernel⟩
theorem der__law_made (tx : Txt w K mg A) (ex : Exs P w K mg base A) (O : Oks P w K mg base A j F) : FnOk P w K mg base (L2.CX P w) (j + 3) A.f__law_made A.d__law_made ["_law_values"] (spT K mg 1 (defRun 7 (b__law_made F))) := by
  have S := sc__law_made
  refine fn_T tx.u__law_made S fun cdv Ar outer s H E hr tk hp => ?_
  have hr0 := hr.mono (Nat.le_add_right _ _)
  have hr1 := hr.mono (Nat.le_succ _)
  have hr2 := hr.mono (Nat.le_add_left 2 _)
  have hu := hu65 hr
  exact (ds_cons (ds_asgH (dv 0) (dgh_lst rfl (dgs_cons (dg_name (i := 1) S.nd rfl (by first | exact Or.inl rfl | exact Or.inr rfl)) (dgs_cons (dg_name (i := 2) S.nd rfl (by first | exact Or.inl rfl | exact Or.inr rfl)) (dgs_cons (dg_name (i := 3) S.nd rfl (by first | exact Or.inl rfl | exact Or.inr rfl)) (dgs_cons (dg_name (i := 4) S.nd rfl (by first | exact Or.inl rfl | exact Or.inr rfl)) (dgs_cons (dg_name (i := 5) S.nd rfl (by first | exact Or.inl rfl | exact Or.inr rfl)) (dgs_cons (dg_name (i := 6) S.nd rfl (by first | exact Or.inl rfl | exact Or.inr rfl)) dgs_nil))))))))
  (ds_cons (ds_ret (de_makeK (ps := ["self", "opens", "checks", "around", "wipes", "taken", "sending"]) (ks := ["wipes", "taken", "sending"]) (dt := []) tx.m_Rule O.Rule_init hr1 rfl tx.g_Rule tx.kb_Rule_init_3_wipes_taken_sending (fun _ _ => .nil) tk (da_cons (dv 1) (da_cons (dv 2) (da_cons (dv 3) da_nil))) (dk_cons (dv 4) (dk_cons (dv 5) (dk_cons (dv 6) dk_nil))) rfl))
  ds_nil))
theorem sc__law_told : FnScope ["_law_values", "_law_rule", "error"] ["_law_values"] (defScope st__law_told) := ⟨rfl, rfl, rfl, by decide +kernel, rfl, by decide +kernel, by decide +kernel⟩
theorem der__law_told (tx : Txt w K mg A) (ex : Exs P w K mg base A) (O : Oks P w K mg base A j F) : FnOk P w K mg base (L2.CX P w) (j + 3) A.f__law_told A.d__law_told ["_law_values"] (spT K mg 1 (defRun 3 (b__law_told F))) := by
  have S := sc__law_told
  refine fn_T tx.u__law_told S fun cdv Ar outer s H E hr tk hp => ?_
  have hr0 := hr.mono (Nat.le_add_right _ _)
  have hr1 := hr.mono (Nat.le_succ _)
  have hr2 := hr.mono (Nat.le_add_left 2 _)
  have hu := hu65 hr
  exact (ds_cons (ds_try rfl rfl S.nd tk (fun W pn xe tk hp => (ds_cons (ds_set (i := 1) S.nd rfl (by first | exact Or.inl rfl | exact Or.inr rfl) (de_call (ps := ["_law_values"]) O._law_made hr0 rfl tx.g__law_made tx.u__law_made.kp tx.b__law_made tk (da_cons (dv 0) da_nil)))
   ds_nil)) (DHs.cas rfl rfl ⟨rfl, by decide, .inl tx.g_InvalidRule⟩ tx.ct_InvalidRule (hok_ret (hx_tup (hxa_cons (hx_lift fun _ _ _ => (de_str (by decide +kernel))) (hxa_cons (hx_fld tx.xf (by decide) (i := 2) rfl (.inl rfl)) (hxa_cons (hx_isi tx.xf tx.is_ShownError (i := 2) rfl (.inl rfl) rfl tx.n_isinstance rfl tx.g_ShownError) hxa_nil))))) DHs.nil))
  (ds_cons (ds_ret (de_tup (da_cons (de_str (by decide +kernel)) (da_cons (de_call (ps := ["_law_rule"]) O._law_six hr0 rfl tx.g__law_six tx.u__law_six.kp tx.b__law_six tk (da_cons (dv 1) da_nil)) da_nil))))
  ds_nil))
theorem sc__law_due : FnScope ["_law_values", "_law_at", "_law_row"] ["_law_values"] (defScope st__law_due) := ⟨rfl, rfl, rfl, by decide +kernel, rfl, by decide +kernel, by decide +kernel⟩
theorem der__law_due (tx : Txt w K mg A) (ex : Exs P w K mg base A) (O : Oks P w K mg base A j F) : FnOk P w K mg base (L2.CX P w) (j + 3) A.f__law_due A.d__law_due ["_law_values"] (spT K mg 1 (defRun 3 (b__law_due F))) := by
  have S := sc__law_due
  refine fn_T tx.u__law_due S fun cdv Ar outer s H E hr tk hp => ?_
  have hr0 := hr.mono (Nat.le_add_right _ _)
  have hr1 := hr.mono (Nat.le_succ _)
  have hr2 := hr.mono (Nat.le_add_left 2 _)
  have hu := hu65 hr
  exact (ds_cons (ds_for hp rfl (di_range1 rfl tx.n_range (da_cons de_int da_nil)) (dg_name (i := 1) S.nd rfl (by first | exact Or.inl rfl | exact Or.inr rfl))
  (ds_cons (ds_if (dt_not (dt_val (de_call (ps := ["_law_at", "_law_value_here"]) O._law_fits hr0 rfl tx.g__law_fits tx.u__law_fits.kp tx.b__law_fits tk (da_cons (dv 1) (da_cons (de_ix (dv 0) (dv 1)) da_nil)))))
   (ds_cons (ds_ret (de_tup (da_cons (de_str (by decide +kernel)) (da_cons (de_ix (de_tup (da_cons (de_str (by decide +kernel)) (da_cons (de_str (by decide +kernel)) (da_cons (de_str (by decide +kernel)) (da_cons (de_str (by decide +kernel)) (da_cons (de_str (by decide +kernel)) (da_cons (de_str (by decide +kernel)) da_nil))))))) (dv 1)) (da_cons de_bl da_nil)))))
    ds_nil)
   ds_nil)
   ds_nil))
  (ds_cons (ds_set (i := 2) S.nd rfl (by first | exact Or.inl rfl | exact Or.inr rfl) (de_callTy cs_list nx_list rfl tx.n_list boot_list (da_cons (dv 0) da_nil)))
  (ds_cons (ds_if (dt_val (de_isk .tuple boot_tuple rfl tx.n_isinstance rfl tx.n_tuple (de_ix (dv 2) de_int)))
  (ds_cons (ds_sub (dv 2) de_int (de_callTy cs_tuple nx_tuple rfl tx.n_tuple boot_tuple (da_cons (de_callB (cs_sorted hu) nx_sorted rfl tx.n_sorted boot_sorted (da_cons (de_ix (dv 2) de_int) da_nil)) da_nil)))
   ds_nil)
  ds_nil)
  (ds_cons (ds_ret (de_tup (da_cons (de_str (by decide +kernel)) (da_cons (de_callTy cs_tuple nx_tuple rfl tx.n_tuple boot_tuple (da_cons (dv 2) da_nil)) da_nil))))
  ds_nil))))
theorem sc_law : FnScope ["_law_script", "_law_box_here", "_law_k", "_law_values", "_law_at", "_law_one", "_law_turned", "_law_other", "_law_menu_here", "_law_unlike", "_law_item"] ["_law_script"] (defScope st_law) := ⟨rfl, rfl, rfl, by decide +kernel, rfl, by decide +kernel, by decide +kernel⟩
theorem der_law (tx : Txt w K mg A) (ex : Exs P w K mg base A) (O : Oks P w K mg base A j F) : FnOk P w K mg base (L2.CX P w) (j + 3) A.f_law A.d_law ["_law_script"] (spT K mg 1 (defRun 11 (b_law F))) := by
  have S := sc_law
  refine fn_T tx.u_law S fun cdv Ar outer s H E hr tk hp => ?_
  have hr0 := hr.mono (Nat.le_add_right _ _)
  have hr1 := hr.mono (Nat.le_succ _)
  have hr2 := hr.mono (Nat.le_add_left 2 _)
  have hu := hu65 hr
  exact (ds_cons (ds_set (i := 1) S.nd rfl (by first | exact Or.inl rfl | exact Or.inr rfl) (de_call (ps := ["_law_script"]) O._law_box hr0 rfl tx.g__law_box tx.u__law_box.kp tx.b__law_box tk (da_cons (dv 0) da_nil)))
  (ds_cons (ds_if (dt_not (dt_val (de_call (ps := ["_law_told_here", "_law_due_here"]) O._law_same hr0 rfl tx.g__law_same tx.u__law_same.kp tx.b__law_same tk (da_cons (dgk tx.c_PARTS) (da_cons (de_tup (da_cons (de_str (by decide +kernel)) (da_cons (de_str (by decide +kernel)) (da_cons (de_str (by decide +kernel)) (da_cons (de_str (by decide +kernel)) (da_cons (de_str (by decide +kernel)) (da_cons (de_str (by decide +kernel)) da_nil))))))) da_nil)))))
  (ds_cons (ds_ret de_bl)
   ds_nil)
  ds_nil)
  (ds_cons (ds_for hp rfl (di_range1 rfl tx.n_range (da_cons de_int da_nil)) (dg_name (i := 2) S.nd rfl (by first | exact Or.inl rfl | exact Or.inr rfl))
  (ds_cons (ds_set (i := 3) S.nd rfl (by first | exact Or.inl rfl | exact Or.inr rfl) (de_lc (dl_lc (own := [("_law_at", 4)]) rfl S.nd (di_range1 rfl tx.n_range (da_cons de_int da_nil)) (blkOk_by rfl) (fun _ _ _ _ _ => (dg_name (i := 4) S.nd rfl (by first | exact Or.inl rfl | exact Or.inr rfl))) (fun _ _ _ _ _ => dts_nil) (fun _ _ _ _ _ => (de_call (ps := ["_law_box_here", "_law_at"]) O._law_value hr0 rfl tx.g__law_value tx.u__law_value.kp tx.b__law_value takes0 (da_cons (dv 1) (da_cons (dv 4) da_nil)))))))
   (ds_cons (ds_if (dt_not (dt_val (de_call (ps := ["_law_told_here", "_law_due_here"]) O._law_same hr0 rfl tx.g__law_same tx.u__law_same.kp tx.b__law_same tk (da_cons (de_call (ps := ["_law_values"]) O._law_told hr0 rfl tx.g__law_told tx.u__law_told.kp tx.b__law_told tk (da_cons (dv 3) da_nil)) (da_cons (de_call (ps := ["_law_values"]) O._law_due hr0 rfl tx.g__law_due tx.u__law_due.kp tx.b__law_due tk (da_cons (dv 3) da_nil)) da_nil)))))
   (ds_cons (ds_ret de_bl)
    ds_nil)
   ds_nil)
   ds_nil)))
  (ds_cons (ds_set (i := 3) S.nd rfl (by first | exact Or.inl rfl | exact Or.inr rfl) (de_lc (dl_lc (own := [("_law_at", 4)]) rfl S.nd (di_range1 rfl tx.n_range (da_cons de_int da_nil)) (blkOk_by rfl) (fun _ _ _ _ _ => (dg_name (i := 4) S.nd rfl (by first | exact Or.inl rfl | exact Or.inr rfl))) (fun _ _ _ _ _ => dts_nil) (fun _ _ _ _ _ => (de_call (ps := ["_law_box_here", "_law_at"]) O._law_good hr0 rfl tx.g__law_good tx.u__law_good.kp tx.b__law_good takes0 (da_cons (dv 1) (da_cons (dv 4) da_nil)))))))
  (ds_cons (ds_set (i := 5) S.nd rfl (by first | exact Or.inl rfl | exact Or.inr rfl) (de_call (ps := ["_law_values"]) O._law_made hr0 rfl tx.g__law_made tx.u__law_made.kp tx.b__law_made tk (da_cons (dv 3) da_nil)))
  (ds_cons (ds_set (i := 6) S.nd rfl (by first | exact Or.inl rfl | exact Or.inr rfl) (de_callTy cs_list nx_list rfl tx.n_list boot_list (da_cons (dv 3) da_nil)))
  (ds_cons (ds_if (dt_val (de_isk .tuple boot_tuple rfl tx.n_isinstance rfl tx.n_tuple (de_ix (dv 6) de_int)))
  (ds_cons (ds_sub (dv 6) de_int (de_tupRev rfl rfl tx.n_tuple rfl tx.n_reversed (de_callTy cs_list nx_list rfl tx.n_list boot_list (da_cons (de_ix (dv 6) de_int) da_nil))))
   ds_nil)
  ds_nil)
  (ds_cons (ds_if (dt_w (dw_or (dt_not (dt_cmp (op_eqO tx.g_Rule tx.sp_Rule___eq__.1 tx.sp_Rule___eq__.2 O.Rule___eq__ hr0 tx.b_Rule___eq__ (os_eq hu)) nx_eqO (dv 5) (de_call (ps := ["_law_values"]) O._law_made hr0 rfl tx.g__law_made tx.u__law_made.kp tx.b__law_made tk (da_cons (dv 6) da_nil)) rfl)) (dw_or1 (dt_cmp (op_neO tx.g_Rule tx.om_Rule tx.ne_Rule tx.sp_Rule___eq__.1 tx.sp_Rule___eq__.2 O.Rule___eq__ hr1 tx.b_Rule___eq__ (os_ne hu)) nx_neO (dv 5) (de_call (ps := ["_law_values"]) O._law_made hr0 rfl tx.g__law_made tx.u__law_made.kp tx.b__law_made tk (da_cons (dv 6) da_nil)) rfl))))
  (ds_cons (ds_ret de_bl)
   ds_nil)
  ds_nil)
  (ds_cons (ds_for hp rfl (di_range1 rfl tx.n_range (da_cons de_int da_nil)) (dg_name (i := 4) S.nd rfl (by first | exact Or.inl rfl | exact Or.inr rfl))
  (ds_cons (ds_set (i := 7) S.nd rfl (by first | exact Or.inl rfl | exact Or.inr rfl) (de_callTy cs_list nx_list rfl tx.n_list boot_list (da_cons (dv 3) da_nil)))
   (ds_cons (ds_set (i := 8) S.nd rfl (by first | exact Or.inl rfl | exact Or.inr rfl) (de_callTy cs_list nx_list rfl tx.n_list boot_list (da_cons (de_call (ps := ["_law_at"]) O._law_menu hr0 rfl tx.g__law_menu tx.u__law_menu.kp tx.b__law_menu tk (da_cons (dv 4) da_nil)) da_nil)))
   (ds_cons (ds_if (dt_cmp (os_eq hu) nx_eq (dv 4) de_int rfl)
   (ds_cons (ds_expr (de_mt ms_extend nx_extend PySem.F.plainAttrs_list PySem.F.slot_list_extend PySem.F.type_list_extend (dv 8) (da_cons (de_lst (da_cons (de_tup da_nil) (da_cons (de_tup (da_cons (de_tup (da_cons (de_str (by decide +kernel)) (da_cons (de_str (by decide +kernel)) da_nil))) da_nil)) (da_cons (de_tup (da_cons (de_tup (da_cons (de_str (by decide +kernel)) (da_cons (de_str (by decide +kernel)) da_nil))) da_nil)) da_nil)))) da_nil)))
    ds_nil)
   ds_nil)
   (ds_cons (ds_setLc (i := 9) (own := [("_law_item", 10)]) rfl S.nd rfl rfl (sw_true rfl rfl rfl (by decide +kernel)) (di_e (dv 8)) (blkOk_by rfl) (fun _ _ _ _ _ => (dg_name (i := 10) S.nd rfl (by first | exact Or.inl rfl | exact Or.inr rfl))) (fun _ _ _ _ _ => (dts_one (dt_cmp (os_ne hu) nx_ne (dv 10) (de_ix (dv 3) (dv 4)) rfl))) (fun _ _ _ _ _ => (dv 10)))
   (ds_cons (ds_sub (dv 7) (dv 4) (de_ix (dv 9) (de_call (ps := ["_law_box_here", "_law_many"]) O._law_draw hr0 rfl tx.g__law_draw tx.u__law_draw.kp tx.b__law_draw tk (da_cons (dv 1) (da_cons (de_callB cs_len nx_len rfl tx.n_len boot_len (da_cons (dv 9) da_nil)) da_nil)))))
   (ds_cons (ds_if (dt_cmp (op_eqO tx.g_Rule tx.sp_Rule___eq__.1 tx.sp_Rule___eq__.2 O.Rule___eq__ hr0 tx.b_Rule___eq__ (os_eq hu)) nx_eqO (dv 5) (de_call (ps := ["_law_values"]) O._law_made hr0 rfl tx.g__law_made tx.u__law_made.kp tx.b__law_made tk (da_cons (dv 7) da_nil)) rfl)
   (ds_cons (ds_ret de_bl)
    ds_nil)
   ds_nil)
   ds_nil)))))))
  (ds_cons (ds_ret (de_call (ps := ["_law_told_here", "_law_due_here"]) O._law_same hr0 rfl tx.g__law_same tx.u__law_same.kp tx.b__law_same tk (da_cons (de_call (ps := ["_law_rule"]) O._law_six hr0 rfl tx.g__law_six tx.u__law_six.kp tx.b__law_six tk (da_cons (de_makeK (ps := ["self", "opens", "checks", "around", "wipes", "taken", "sending"]) (ks := []) (dt := [(.bl false), (.str "same"), (.str "wait")]) tx.m_Rule O.Rule_init hr1 rfl tx.g_Rule tx.kb_Rule_init_3_ (fun _ _ => (.cons (.bl _) (.cons (.str (by decide +kernel)) (.cons (.str (by decide +kernel)) .nil)))) tk (da_cons (de_ix (dv 3) de_int) (da_cons (de_ix (dv 3) de_int) (da_cons (de_str (by decide +kernel)) da_nil))) dk_nil rfl) da_nil)) (da_cons (de_tup (da_cons (de_ix (dv 3) de_int) (da_cons (de_ix (dv 3) de_int) (da_cons (de_str (by decide +kernel)) (da_cons de_bl (da_cons (de_str (by decide +kernel)) (da_cons (de_str (by decide +kernel)) da_nil))))))) da_nil))))
  ds_nil))))))))))
theorem oks_step (tx : Txt w K mg A) (ex : Exs P w K mg base A) (O : Oks P w K mg base A j F) : Oks P w K mg base A (j + 3) (stepF F) :=
  ⟨der_is_name tx ex O, der_is_name_pair tx ex O, der_are_pairs tx ex O, der_fits_part tx ex O, der_Rule_init tx ex O, der_Rule___eq__ tx ex O, der_Rule_six tx ex O, der__law_mix tx ex O, der__law_box tx ex O, der__law_draw tx ex O, der__law_same tx ex O, der__law_menu tx ex O, der__law_is_name tx ex O, der__law_are_pairs tx ex O, der__law_fits tx ex O, der__law_pairs tx ex O, der__law_good tx ex O, der__law_value tx ex O, der__law_six tx ex O, der__law_made tx ex O, der__law_told tx ex O, der__law_due tx ex O, der_law tx ex O⟩
theorem oks_stk : Oks P w K mg base A 0 FF.stk := by
  constructor <;> exact ⟨fun vs H Q E h => h.1, fun Ar outer s H args us vs Q E hr e0 hb hv hs => (by obtain ⟨_, _, _, _, _, _, z⟩ := hs; exact False.elim z)⟩
theorem oks_run (tx : Txt w K mg A) (ex : Exs P w K mg base A) : ∀ k, Oks P w K mg base A (3 * k) (runF k)
  | 0 => oks_stk
  | k + 1 => oks_step tx ex (oks_run tx ex k)
end
end LW
end

section
namespace LW
open PySem PySem.Spec PyProof.Rows
open L2 W3
theorem all_mk {P : Program} {w : World} {K : PySem.W.Frag} {h : Heap} {mg : Str → Option Value} {fa : Addr} (X : K.In h) (G : h.Ns mainGlobals mg) (hfa : mg "law" = some (.ref fa))
    {C_Rule : Addr}
    {f_is_name : Addr} {fd_is_name : FuncData}
    {f_is_name_pair : Addr} {fd_is_name_pair : FuncData}
    {f_are_pairs : Addr} {fd_are_pairs : FuncData}
    {f_fits_part : Addr} {fd_fits_part : FuncData}
    {f_Rule_init : Addr} {fd_Rule_init : FuncData}
    {f_Rule___eq__ : Addr} {fd_Rule___eq__ : FuncData}
    {f_Rule_six : Addr} {fd_Rule_six : FuncData}
    {f__law_mix : Addr} {fd__law_mix : FuncData}
    {f__law_box : Addr} {fd__law_box : FuncData}
    {f__law_draw : Addr} {fd__law_draw : FuncData}
    {f__law_same : Addr} {fd__law_same : FuncData}
    {f__law_menu : Addr} {fd__law_menu : FuncData}
    {f__law_is_name : Addr} {fd__law_is_name : FuncData}
    {f__law_are_pairs : Addr} {fd__law_are_pairs : FuncData}
    {f__law_fits : Addr} {fd__law_fits : FuncData}
    {f__law_pairs : Addr} {fd__law_pairs : FuncData}
    {f__law_good : Addr} {fd__law_good : FuncData}
    {f__law_value : Addr} {fd__law_value : FuncData}
    {f__law_six : Addr} {fd__law_six : FuncData}
    {f__law_made : Addr} {fd__law_made : FuncData}
    {f__law_told : Addr} {fd__law_told : FuncData}
    {f__law_due : Addr} {fd__law_due : FuncData}
    {f_law : Addr} {fd_law : FuncData}
    {C_ShownError : Addr}
    {C_InvalidRule : Addr}
    {xf_InvalidRule : Addr}
    {A_OPENS : Addr}
    {A_CHECKS : Addr}
    {A_AROUNDS : Addr}
    {A_TAKENS : Addr}
    {A_SENDINGS : Addr}
    {A_PARTS : Addr}
    {A_MENUS : Addr} {nn_MENUS : Nat} {es_MENUS : Array DictEntry}
    (a_Rule : PySem.W.nsIn K mainGlobals "Rule" = some (some (.ref C_Rule)))
    (pg_Rule : PySem.W.plainGet K C_Rule Str.empty = true)
    (hd_Rule : PySem.W.hasDictIn K C_Rule = true)
    (po_Rule : PySem.W.plainOver K C_Rule = true)
    (sa_Rule : PySem.W.findIn K (.ref C_Rule) "__setattr__" = some (some (.builtin "object.__setattr__")))
    (mk_Rule : PySem.W.makesIn K C_Rule = true)
    (kc_Rule : PySem.W.keepIn K (.ref C_Rule) = true)
    (no_Rule_opens : PySem.W.findIn K (.ref C_Rule) "opens" = some none)
    (no_Rule_checks : PySem.W.findIn K (.ref C_Rule) "checks" = some none)
    (no_Rule_around : PySem.W.findIn K (.ref C_Rule) "around" = some none)
    (no_Rule_wipes : PySem.W.findIn K (.ref C_Rule) "wipes" = some none)
    (no_Rule_taken : PySem.W.findIn K (.ref C_Rule) "taken" = some none)
    (no_Rule_sending : PySem.W.findIn K (.ref C_Rule) "sending" = some none)
    (a_is_name : PySem.W.nsIn K mainGlobals "is_name" = some (some (.ref f_is_name)))
    (U_is_name : Fun K "is_name" "is_name" st_is_name f_is_name fd_is_name)
    (a_is_name_pair : PySem.W.nsIn K mainGlobals "is_name_pair" = some (some (.ref f_is_name_pair)))
    (U_is_name_pair : Fun K "is_name_pair" "is_name_pair" st_is_name_pair f_is_name_pair fd_is_name_pair)
    (a_are_pairs : PySem.W.nsIn K mainGlobals "are_pairs" = some (some (.ref f_are_pairs)))
    (U_are_pairs : Fun K "are_pairs" "are_pairs" st_are_pairs f_are_pairs fd_are_pairs)
    (a_fits_part : PySem.W.nsIn K mainGlobals "fits_part" = some (some (.ref f_fits_part)))
    (U_fits_part : Fun K "fits_part" "fits_part" st_fits_part f_fits_part fd_fits_part)
    (a_Rule_init : PySem.W.findIn K (.ref C_Rule) "__init__" = some (some (.ref f_Rule_init)))
    (i_Rule_init : PySem.W.isFn K (.ref f_Rule_init) = true)
    (U_Rule_init : FunD K "__init__" "Rule.__init__" (defArgs st_Rule_init) (defBody st_Rule_init) (defScope st_Rule_init) [] [("wipes", .bl false), ("taken", .str "same"), ("sending", .str "wait")] f_Rule_init fd_Rule_init)
    (a_Rule___eq__ : PySem.W.findIn K (.ref C_Rule) "__eq__" = some (some (.ref f_Rule___eq__)))
    (i_Rule___eq__ : PySem.W.isFn K (.ref f_Rule___eq__) = true)
    (U_Rule___eq__ : Fun K "__eq__" "Rule.__eq__" st_Rule___eq__ f_Rule___eq__ fd_Rule___eq__)
    (a_Rule_six : PySem.W.findIn K (.ref C_Rule) "six" = some (some (.ref f_Rule_six)))
    (i_Rule_six : PySem.W.isFn K (.ref f_Rule_six) = true)
    (U_Rule_six : Fun K "six" "Rule.six" st_Rule_six f_Rule_six fd_Rule_six)
    (a__law_mix : PySem.W.nsIn K mainGlobals "_law_mix" = some (some (.ref f__law_mix)))
    (U__law_mix : Fun K "_law_mix" "_law_mix" st__law_mix f__law_mix fd__law_mix)
    (a__law_box : PySem.W.nsIn K mainGlobals "_law_box" = some (some (.ref f__law_box)))
    (U__law_box : Fun K "_law_box" "_law_box" st__law_box f__law_box fd__law_box)
    (a__law_draw : PySem.W.nsIn K mainGlobals "_law_draw" = some (some (.ref f__law_draw)))
    (U__law_draw : Fun K "_law_draw" "_law_draw" st__law_draw f__law_draw fd__law_draw)
    (a__law_same : PySem.W.nsIn K mainGlobals "_law_same" = some (some (.ref f__law_same)))
    (U__law_same : Fun K "_law_same" "_law_same" st__law_same f__law_same fd__law_same)
    (a__law_menu : PySem.W.nsIn K mainGlobals "_law_menu" = some (some (.ref f__law_menu)))
    (U__law_menu : Fun K "_law_menu" "_law_menu" st__law_menu f__law_menu fd__law_menu)
    (a__law_is_name : PySem.W.nsIn K mainGlobals "_law_is_name" = some (some (.ref f__law_is_name)))
    (U__law_is_name : Fun K "_law_is_name" "_law_is_name" st__law_is_name f__law_is_name fd__law_is_name)
    (a__law_are_pairs : PySem.W.nsIn K mainGlobals "_law_are_pairs" = some (some (.ref f__law_are_pairs)))
    (U__law_are_pairs : Fun K "_law_are_pairs" "_law_are_pairs" st__law_are_pairs f__law_are_pairs fd__law_are_pairs)
    (a__law_fits : PySem.W.nsIn K mainGlobals "_law_fits" = some (some (.ref f__law_fits)))
    (U__law_fits : Fun K "_law_fits" "_law_fits" st__law_fits f__law_fits fd__law_fits)
    (a__law_pairs : PySem.W.nsIn K mainGlobals "_law_pairs" = some (some (.ref f__law_pairs)))
    (U__law_pairs : Fun K "_law_pairs" "_law_pairs" st__law_pairs f__law_pairs fd__law_pairs)
    (a__law_good : PySem.W.nsIn K mainGlobals "_law_good" = some (some (.ref f__law_good)))
    (U__law_good : Fun K "_law_good" "_law_good" st__law_good f__law_good fd__law_good)
    (a__law_value : PySem.W.nsIn K mainGlobals "_law_value" = some (some (.ref f__law_value)))
    (U__law_value : Fun K "_law_value" "_law_value" st__law_value f__law_value fd__law_value)
    (a__law_six : PySem.W.nsIn K mainGlobals "_law_six" = some (some (.ref f__law_six)))
    (U__law_six : Fun K "_law_six" "_law_six" st__law_six f__law_six fd__law_six)
    (a__law_made : PySem.W.nsIn K mainGlobals "_law_made" = some (some (.ref f__law_made)))
    (U__law_made : Fun K "_law_made" "_law_made" st__law_made f__law_made fd__law_made)
    (a__law_told : PySem.W.nsIn K mainGlobals "_law_told" = some (some (.ref f__law_told)))
    (U__law_told : Fun K "_law_told" "_law_told" st__law_told f__law_told fd__law_told)
    (a__law_due : PySem.W.nsIn K mainGlobals "_law_due" = some (some (.ref f__law_due)))
    (U__law_due : Fun K "_law_due" "_law_due" st__law_due f__law_due fd__law_due)
    (a_law : PySem.W.nsIn K mainGlobals "law" = some (some (.ref f_law)))
    (U_law : Fun K "law" "law" st_law f_law fd_law)
    (a_ShownError : PySem.W.nsIn K mainGlobals "ShownError" = some (some (.ref C_ShownError)))
    (a_InvalidRule : PySem.W.nsIn K mainGlobals "InvalidRule" = some (some (.ref C_InvalidRule)))
    (ioc_Rule : PySem.W.findIn K (.ref C_Rule) "__class__" = some (some (.builtin "object.__class__")))
    (iom_Rule : PySem.W.mroIn K C_Rule (.type "object") = some true)
    (nem_Rule : PySem.W.mroIn K C_Rule (.type "object") = some true)
    (nee_Rule : PySem.W.findIn K (.ref C_Rule) "__ne__" = some (some (.builtin "object.__ne__")))
    (opq : PySem.W.nsIn K cStatics "thirdparty.any" = some none)
    (tops : (P.main.scope.names.lookup ("super" : Str)).isSome = false)
    (spc : PySem.W.specialIn K (.builtin "object.__class__") "__get__" = some (some (.builtin "getset_descriptor.__get__")))
    (tki : PySem.W.takesIn K (.builtin "object.__class__") = some true)
    (oxc_InvalidRule : oexB K C_InvalidRule = true)
    (xsa_InvalidRule : PySem.W.findIn K (.ref C_InvalidRule) "__setattr__" = some (some (.builtin "object.__setattr__")))
    (xbe_InvalidRule : PySem.W.subIn K (.ref C_InvalidRule) (.type "BaseException") = some true)
    (xty_InvalidRule : PySem.W.typeIn K (.ref C_InvalidRule) = some (.type "type"))
    (xk_InvalidRule : PySem.W.keepIn K (.ref C_InvalidRule) = true)
    (xi_InvalidRule : PySem.W.findIn K (.ref C_InvalidRule) "__init__" = some (some (.ref xf_InvalidRule)))
    (xt_InvalidRule : PySem.W.typeIn K (.ref xf_InvalidRule) = some (.type "function"))
    (XI_InvalidRule : XInit P K C_InvalidRule xf_InvalidRule "InvalidRule.__init__" st_x_InvalidRule)
    (xsu_InvalidRule : PySem.W.ks_superIn K C_InvalidRule C_InvalidRule "__init__" = some (some (.builtin "ValueError.__init__")))
    (xsv_InvalidRule : PySem.W.subIn K (.ref C_InvalidRule) (.type "ValueError") = some true)
    (xmr_InvalidRule : PySem.W.mroIn K C_InvalidRule (.ref C_InvalidRule) = some true)
    (xga_InvalidRule : PySem.W.findIn K (.ref C_InvalidRule) "__getattribute__" = some (some (.builtin "BaseException.__getattribute__")))
    (xgt_InvalidRule : PySem.W.findIn K (.ref C_InvalidRule) "__getattr__" = some none)
    (xcl_InvalidRule : PySem.W.findIn K (.ref C_InvalidRule) "__class__" = some (some (.builtin "object.__class__")))
    (xhd_InvalidRule : PySem.W.hasDictIn K C_InvalidRule = true)
    (xob_InvalidRule : PySem.W.mroIn K C_InvalidRule (.type "object") = some true)
    (xno_InvalidRule_part : PySem.W.findIn K (.ref C_InvalidRule) "part" = some none)
    (xm_InvalidRule_InvalidRule : PySem.W.exmOne K (.ref C_InvalidRule) (.ref C_InvalidRule) = some true)
    (xs_InvalidRule_ShownError : PySem.W.kitOne K (.ref C_InvalidRule) (.ref C_ShownError) = some true)
    (g_LETTERS : ∃ t, mg "LETTERS" = some (.str "abcdefghijklmnopqrstuvwxyz" t))
    (g_MENUS : PySem.W.nsIn K mainGlobals "MENUS" = some (some (.ref A_MENUS)))
    (kd_MENUS : K.lookup A_MENUS = some ⟨.type "dict", none, .dict es_MENUS nn_MENUS, #[]⟩)
    (kl_MENUS : PySem.W.KeysLit w.params es_MENUS.toList)
    (kk_MENUS_opens : PySem.W.nsIn K A_MENUS "opens" = some (some (.ref A_OPENS)))
    (kk_MENUS_checks : PySem.W.nsIn K A_MENUS "checks" = some (some (.ref A_CHECKS)))
    (kk_MENUS_around : PySem.W.nsIn K A_MENUS "around" = some (some (.ref A_AROUNDS)))
    (kk_MENUS_taken : PySem.W.nsIn K A_MENUS "taken" = some (some (.ref A_TAKENS)))
    (kk_MENUS_sending : PySem.W.nsIn K A_MENUS "sending" = some (some (.ref A_SENDINGS)))
    (g_PARTS : PySem.W.nsIn K mainGlobals "PARTS" = some (some (.ref A_PARTS)))
    (KI_OPENS : KIs K mg A_OPENS (.tup ((["enter", "leave", "send"] : List Str).map T.str)))
    (KI_CHECKS : KIs K mg A_CHECKS (.tup ((["enter", "leave"] : List Str).map T.str)))
    (KI_AROUNDS : KIs K mg A_AROUNDS (.tup ((["own", "looks"] : List Str).map T.str)))
    (KI_TAKENS : KIs K mg A_TAKENS (.tup ((["any", "same", "last"] : List Str).map T.str)))
    (KI_SENDINGS : KIs K mg A_SENDINGS (.tup ((["bar", "wait", "go"] : List Str).map T.str)))
    (KI_PARTS : KIs K mg A_PARTS (.tup ((["opens", "checks", "around", "wipes", "taken", "sending"] : List Str).map T.str)))
    (z_all : PySem.W.nsIn K mainGlobals "all" = some none)
    (z_bool : PySem.W.nsIn K mainGlobals "bool" = some none)
    (z_int : PySem.W.nsIn K mainGlobals "int" = some none)
    (z_isinstance : PySem.W.nsIn K mainGlobals "isinstance" = some none)
    (z_len : PySem.W.nsIn K mainGlobals "len" = some none)
    (z_list : PySem.W.nsIn K mainGlobals "list" = some none)
    (z_range : PySem.W.nsIn K mainGlobals "range" = some none)
    (z_reversed : PySem.W.nsIn K mainGlobals "reversed" = some none)
    (z_set : PySem.W.nsIn K mainGlobals "set" = some none)
    (z_sorted : PySem.W.nsIn K mainGlobals "sorted" = some none)
    (z_str : PySem.W.nsIn K mainGlobals "str" = some none)
    (z_super : PySem.W.nsIn K mainGlobals "super" = some none)
    (z_tuple : PySem.W.nsIn K mainGlobals "tuple" = some none)
    (z_zip : PySem.W.nsIn K mainGlobals "zip" = some none)
    (n : Nat) : ∃ fd : FuncData, (∀ (s : Shared) (v : Value), BindsTo s fd ⟨[v], []⟩ [("_law_script", v)]) ∧ ∀ base : Heap, K.In base → base.Ns mainGlobals mg → FnOk P w K mg base (L2.CX P w) (3 * n) fa fd ["_law_script"] (spL K (runF n).law) := by
  obtain rfl : f_law = fa := by
    have e := hfa.symm.trans (PySem.W.mg_of X G a_law)
    cases e
    rfl
  have B_is_name := U_is_name.binds (ps := ["value"]) fun _ _ _ _ _ _ us hl => match us, hl with | [_], _ => rfl
  have B_is_name_pair := U_is_name_pair.binds (ps := ["value"]) fun _ _ _ _ _ _ us hl => match us, hl with | [_], _ => rfl
  have B_are_pairs := U_are_pairs.binds (ps := ["value"]) fun _ _ _ _ _ _ us hl => match us, hl with | [_], _ => rfl
  have B_fits_part := U_fits_part.binds (ps := ["part", "value"]) fun _ _ _ _ _ _ us hl => match us, hl with | [_, _], _ => rfl
  have B_Rule___eq__ := U_Rule___eq__.binds (ps := ["self", "other"]) fun _ _ _ _ _ _ us hl => match us, hl with | [_, _], _ => rfl
  have B_Rule_six := U_Rule_six.binds (ps := ["self"]) fun _ _ _ _ _ _ us hl => match us, hl with | [_], _ => rfl
  have B__law_mix := U__law_mix.binds (ps := ["_law_value_here", "_law_k"]) fun _ _ _ _ _ _ us hl => match us, hl with | [_, _], _ => rfl
  have B__law_box := U__law_box.binds (ps := ["_law_script"]) fun _ _ _ _ _ _ us hl => match us, hl with | [_], _ => rfl
  have B__law_draw := U__law_draw.binds (ps := ["_law_box_here", "_law_many"]) fun _ _ _ _ _ _ us hl => match us, hl with | [_, _], _ => rfl
  have B__law_same := U__law_same.binds (ps := ["_law_told_here", "_law_due_here"]) fun _ _ _ _ _ _ us hl => match us, hl with | [_, _], _ => rfl
  have B__law_menu := U__law_menu.binds (ps := ["_law_at"]) fun _ _ _ _ _ _ us hl => match us, hl with | [_], _ => rfl
  have B__law_is_name := U__law_is_name.binds (ps := ["_law_value_here"]) fun _ _ _ _ _ _ us hl => match us, hl with | [_], _ => rfl
  have B__law_are_pairs := U__law_are_pairs.binds (ps := ["_law_value_here"]) fun _ _ _ _ _ _ us hl => match us, hl with | [_], _ => rfl
  have B__law_fits := U__law_fits.binds (ps := ["_law_at", "_law_value_here"]) fun _ _ _ _ _ _ us hl => match us, hl with | [_, _], _ => rfl
  have B__law_pairs := U__law_pairs.binds (ps := ["_law_box_here"]) fun _ _ _ _ _ _ us hl => match us, hl with | [_], _ => rfl
  have B__law_good := U__law_good.binds (ps := ["_law_box_here", "_law_at"]) fun _ _ _ _ _ _ us hl => match us, hl with | [_, _], _ => rfl
  have B__law_value := U__law_value.binds (ps := ["_law_box_here", "_law_at"]) fun _ _ _ _ _ _ us hl => match us, hl with | [_, _], _ => rfl
  have B__law_six := U__law_six.binds (ps := ["_law_rule"]) fun _ _ _ _ _ _ us hl => match us, hl with | [_], _ => rfl
  have B__law_made := U__law_made.binds (ps := ["_law_values"]) fun _ _ _ _ _ _ us hl => match us, hl with | [_], _ => rfl
  have B__law_told := U__law_told.binds (ps := ["_law_values"]) fun _ _ _ _ _ _ us hl => match us, hl with | [_], _ => rfl
  have B__law_due := U__law_due.binds (ps := ["_law_values"]) fun _ _ _ _ _ _ us hl => match us, hl with | [_], _ => rfl
  have B_law := U_law.binds (ps := ["_law_script"]) fun _ _ _ _ _ _ us hl => match us, hl with | [_], _ => rfl
  have KB_kb_Rule_init_3_ := U_Rule_init.kbinds0 (ps := ["self", "opens", "checks", "around", "wipes", "taken", "sending"]) 4 [] [("wipes", .bl false), ("taken", .str "same"), ("sending", .str "wait")] (fun us mv ws => us ++ weave [false, false, false] mv ws) (by simp) (by simp) (fun r1 r2 r3 => Vals.append r1 (Vals.weave [false, false, false] r2 r3)) (fun _ _ _ _ _ _ us mv ws h1 h2 h3 => match us, mv, ws, h1, h2, h3 with | [_, _, _, _], [_, _, _], [], _, _, _ => ⟨_, _, _, _, _, _, rfl, rfl, ⟨_, _, _, _, _, _, rfl, rfl, ⟨_, _, _, _, _, _, rfl, rfl, rfl⟩⟩⟩)
  have KB_kb_Rule_init_3_wipes_taken_sending := U_Rule_init.kbinds0 (ps := ["self", "opens", "checks", "around", "wipes", "taken", "sending"]) 4 ["wipes", "taken", "sending"] [] (fun us mv ws => us ++ weave [true, true, true] mv ws) (by simp) (by simp) (fun r1 r2 r3 => Vals.append r1 (Vals.weave [true, true, true] r2 r3)) (fun _ _ _ _ _ _ us mv ws h1 h2 h3 => match us, mv, ws, h1, h2, h3 with | [_, _, _, _], [], [_, _, _], _, _, _ => rfl)
  have CF : ClsF K mg CS := by
    intro c fs C hm hC
    simp only [CS, List.mem_cons, List.not_mem_nil, or_false, Prod.mk.injEq] at hm
    obtain ⟨rfl, rfl⟩ := hm
    have e := hC.symm.trans (PySem.W.mg_of X G a_Rule); cases e
    exact ⟨⟨pg_Rule, hd_Rule, po_Rule, sa_Rule⟩, fun f hf => by simp only [List.mem_cons, List.not_mem_nil, or_false] at hf; rcases hf with rfl | rfl | rfl | rfl | rfl | rfl <;> assumption⟩
  obtain ⟨xcc_InvalidRule, xc_InvalidRule, xdc_InvalidRule, xpm_InvalidRule, xct_InvalidRule, xan_InvalidRule, XL_InvalidRule, XC_InvalidRule, XE_InvalidRule, XD_InvalidRule⟩ := XI_InvalidRule.ex
  let A : Ad := { f_is_name := f_is_name, d_is_name := fd_is_name, f_is_name_pair := f_is_name_pair, d_is_name_pair := fd_is_name_pair, f_are_pairs := f_are_pairs, d_are_pairs := fd_are_pairs, f_fits_part := f_fits_part, d_fits_part := fd_fits_part, f_Rule_init := f_Rule_init, d_Rule_init := fd_Rule_init, f_Rule___eq__ := f_Rule___eq__, d_Rule___eq__ := fd_Rule___eq__, f_Rule_six := f_Rule_six, d_Rule_six := fd_Rule_six, f__law_mix := f__law_mix, d__law_mix := fd__law_mix, f__law_box := f__law_box, d__law_box := fd__law_box, f__law_draw := f__law_draw, d__law_draw := fd__law_draw, f__law_same := f__law_same, d__law_same := fd__law_same, f__law_menu := f__law_menu, d__law_menu := fd__law_menu, f__law_is_name := f__law_is_name, d__law_is_name := fd__law_is_name, f__law_are_pairs := f__law_are_pairs, d__law_are_pairs := fd__law_are_pairs, f__law_fits := f__law_fits, d__law_fits := fd__law_fits, f__law_pairs := f__law_pairs, d__law_pairs := fd__law_pairs, f__law_good := f__law_good, d__law_good := fd__law_good, f__law_value := f__law_value, d__law_value := fd__law_value, f__law_six := f__law_six, d__law_six := fd__law_six, f__law_made := f__law_made, d__law_made := fd__law_made, f__law_told := f__law_told, d__law_told := fd__law_told, f__law_due := f__law_due, d__law_due := fd__law_due, f_law := f_law, d_law := fd_law, c_Rule := C_Rule, c_ShownError := C_ShownError, c_InvalidRule := C_InvalidRule, xf_InvalidRule := xf_InvalidRule, xd_InvalidRule := fdE "__init__" "InvalidRule.__init__" (defArgs st_x_InvalidRule) (defBody st_x_InvalidRule) (defScope st_x_InvalidRule) xcc_InvalidRule xc_InvalidRule xdc_InvalidRule xpm_InvalidRule xct_InvalidRule xan_InvalidRule }
  have KD_MENUS : KDic K w mg A_MENUS [("opens", T.tup ((["enter", "leave", "send"] : List Str).map T.str)), ("checks", T.tup ((["enter", "leave"] : List Str).map T.str)), ("around", T.tup ((["own", "looks"] : List Str).map T.str)), ("taken", T.tup ((["any", "same", "last"] : List Str).map T.str)), ("sending", T.tup ((["bar", "wait", "go"] : List Str).map T.str))] := kdic_of (.cons ⟨_, ⟨_, _, _, kd_MENUS, kl_MENUS, kk_MENUS_opens, rfl⟩, KI_OPENS⟩ (.cons ⟨_, ⟨_, _, _, kd_MENUS, kl_MENUS, kk_MENUS_checks, rfl⟩, KI_CHECKS⟩ (.cons ⟨_, ⟨_, _, _, kd_MENUS, kl_MENUS, kk_MENUS_around, rfl⟩, KI_AROUNDS⟩ (.cons ⟨_, ⟨_, _, _, kd_MENUS, kl_MENUS, kk_MENUS_taken, rfl⟩, KI_TAKENS⟩ (.cons ⟨_, ⟨_, _, _, kd_MENUS, kl_MENUS, kk_MENUS_sending, rfl⟩, KI_SENDINGS⟩ .nil)))))
  have OX_InvalidRule : OexC K C_InvalidRule := ⟨oexB_ok oxc_InvalidRule, xsa_InvalidRule, xbe_InvalidRule, xty_InvalidRule, xk_InvalidRule⟩
  have FX_InvalidRule : ∀ base : Heap, FnOk P w K mg base (L2.CX P w) 1 xf_InvalidRule _ ["self", "part"] (spE1 C_InvalidRule "part") := fun base => exc_ok1 (st := st_x_InvalidRule) ⟨OX_InvalidRule, XL_InvalidRule, XC_InvalidRule, XE_InvalidRule, xsu_InvalidRule, xsv_InvalidRule, xmr_InvalidRule, opq, tops⟩ rfl XD_InvalidRule (NdefX.nscope_by rfl) rfl rfl rfl (PySem.W.mg_none_of X G z_super) (fun L => ⟨rfl, rfl, rfl⟩) xno_InvalidRule_part (fun L => rfl)
  have tx : Txt w K mg A := { u_is_name := U_is_name, b_is_name := B_is_name, g_is_name := PySem.W.mg_of X G a_is_name, u_is_name_pair := U_is_name_pair, b_is_name_pair := B_is_name_pair, g_is_name_pair := PySem.W.mg_of X G a_is_name_pair, u_are_pairs := U_are_pairs, b_are_pairs := B_are_pairs, g_are_pairs := PySem.W.mg_of X G a_are_pairs, u_fits_part := U_fits_part, b_fits_part := B_fits_part, g_fits_part := PySem.W.mg_of X G a_fits_part, u_Rule_init := U_Rule_init, u_Rule___eq__ := U_Rule___eq__, b_Rule___eq__ := B_Rule___eq__, sp_Rule___eq__ := ⟨a_Rule___eq__, i_Rule___eq__⟩, u_Rule_six := U_Rule_six, b_Rule_six := B_Rule_six, h_Rule_six := ⟨a_Rule_six, i_Rule_six, U_Rule_six.kp⟩, u__law_mix := U__law_mix, b__law_mix := B__law_mix, g__law_mix := PySem.W.mg_of X G a__law_mix, u__law_box := U__law_box, b__law_box := B__law_box, g__law_box := PySem.W.mg_of X G a__law_box, u__law_draw := U__law_draw, b__law_draw := B__law_draw, g__law_draw := PySem.W.mg_of X G a__law_draw, u__law_same := U__law_same, b__law_same := B__law_same, g__law_same := PySem.W.mg_of X G a__law_same, u__law_menu := U__law_menu, b__law_menu := B__law_menu, g__law_menu := PySem.W.mg_of X G a__law_menu, u__law_is_name := U__law_is_name, b__law_is_name := B__law_is_name, g__law_is_name := PySem.W.mg_of X G a__law_is_name, u__law_are_pairs := U__law_are_pairs, b__law_are_pairs := B__law_are_pairs, g__law_are_pairs := PySem.W.mg_of X G a__law_are_pairs, u__law_fits := U__law_fits, b__law_fits := B__law_fits, g__law_fits := PySem.W.mg_of X G a__law_fits, u__law_pairs := U__law_pairs, b__law_pairs := B__law_pairs, g__law_pairs := PySem.W.mg_of X G a__law_pairs, u__law_good := U__law_good, b__law_good := B__law_good, g__law_good := PySem.W.mg_of X G a__law_good, u__law_value := U__law_value, b__law_value := B__law_value, g__law_value := PySem.W.mg_of X G a__law_value, u__law_six := U__law_six, b__law_six := B__law_six, g__law_six := PySem.W.mg_of X G a__law_six, u__law_made := U__law_made, b__law_made := B__law_made, g__law_made := PySem.W.mg_of X G a__law_made, u__law_told := U__law_told, b__law_told := B__law_told, g__law_told := PySem.W.mg_of X G a__law_told, u__law_due := U__law_due, b__law_due := B__law_due, g__law_due := PySem.W.mg_of X G a__law_due, u_law := U_law, b_law := B_law, g_law := PySem.W.mg_of X G a_law, kb_Rule_init_3_ := KB_kb_Rule_init_3_, kb_Rule_init_3_wipes_taken_sending := KB_kb_Rule_init_3_wipes_taken_sending, g_Rule := PySem.W.mg_of X G a_Rule, cc_Rule := ⟨pg_Rule, hd_Rule, po_Rule, sa_Rule⟩, m_Rule := ⟨mk_Rule, a_Rule_init, i_Rule_init, kc_Rule⟩, om_Rule := nem_Rule, ne_Rule := nee_Rule, io_Rule := ⟨⟨pg_Rule, hd_Rule, po_Rule, sa_Rule⟩, ioc_Rule, spc, tki, iom_Rule⟩, cs := CF, c_LETTERS := g_LETTERS, c_MENUS := ⟨_, PySem.W.mg_of X G g_MENUS, KD_MENUS⟩, c_PARTS := ⟨_, PySem.W.mg_of X G g_PARTS, KI_PARTS⟩, n_all := PySem.W.mg_none_of X G z_all, n_bool := PySem.W.mg_none_of X G z_bool, n_int := PySem.W.mg_none_of X G z_int, n_isinstance := PySem.W.mg_none_of X G z_isinstance, n_len := PySem.W.mg_none_of X G z_len, n_list := PySem.W.mg_none_of X G z_list, n_range := PySem.W.mg_none_of X G z_range, n_reversed := PySem.W.mg_none_of X G z_reversed, n_set := PySem.W.mg_none_of X G z_set, n_sorted := PySem.W.mg_none_of X G z_sorted, n_str := PySem.W.mg_none_of X G z_str, n_super := PySem.W.mg_none_of X G z_super, n_tuple := PySem.W.mg_none_of X G z_tuple, n_zip := PySem.W.mg_none_of X G z_zip, ox_InvalidRule := OX_InvalidRule, xi_InvalidRule := xi_InvalidRule, xt_InvalidRule := xt_InvalidRule, b_InvalidRule := bindsE fun us hl => match us, hl with | [_, _], _ => rfl, g_ShownError := PySem.W.mg_of X G a_ShownError, g_InvalidRule := PySem.W.mg_of X G a_InvalidRule, ct_InvalidRule := catches_of ⟨⟨_, PySem.W.mg_of X G a_InvalidRule, xm_InvalidRule_InvalidRule.trans (by decide +kernel : some true = some (List.contains ["InvalidRule", "ShownError"] "InvalidRule"))⟩, trivial⟩, is_ShownError := isall_of ⟨⟨_, PySem.W.mg_of X G a_InvalidRule, xs_InvalidRule_ShownError.trans (by decide +kernel : some true = some (List.contains ["InvalidRule", "ShownError"] "ShownError"))⟩, trivial⟩, xf := xfall_of ⟨⟨_, PySem.W.mg_of X G a_InvalidRule, ⟨xga_InvalidRule, xgt_InvalidRule, xbe_InvalidRule, xhd_InvalidRule⟩, ⟨xga_InvalidRule, xgt_InvalidRule, xbe_InvalidRule, xhd_InvalidRule, xcl_InvalidRule, spc, tki, xob_InvalidRule⟩, fun f hf => by simp only [FL, List.mem_cons, List.not_mem_nil, or_false] at hf; rcases hf with rfl <;> assumption⟩, trivial⟩ }
  have ex : ∀ base : Heap, Exs P w K mg base A := fun base => ⟨FX_InvalidRule base⟩
  have hbl : ∀ (s : Shared) (v : Value), BindsTo s fd_law ⟨[v], []⟩ [("_law_script", v)] := by
    obtain ⟨_, _, _, _, _, _, _, _, _, e, _, _⟩ := U_law.ex
    subst e
    exact fun s v => .of_eq rfl
  exact ⟨_, hbl, fun base _ _ => fnL (oks_run (P := P) (w := w) (base := base) tx (ex base) n).law⟩
end LW
open PySem PySem.W PySem.Calls PyProof.Rows in
set_option maxRecDepth 100000 in
set_option maxHeartbeats 0 in
theorem PySem.Challenge.cw_wrongshown_k06_rule_parts_holds : PySem.Challenge.rw_wrongshown_k06_rule_parts.Holds := by
  w_on; o_law
  refine HandSHeadRun.head_any (r := OpenLaw.row PySem.Challenge.rw_wrongshown_k06_rule_parts) (q := view (OpenLaw.row PySem.Challenge.rw_wrongshown_k06_rule_parts).prog [36]) (H := LW.hkZ) (ob := LW.obZ) (M := 20000) (loose := LW.namesZ) (d := HandSHeadRun.topDef (OpenLaw.row PySem.Challenge.rw_wrongshown_k06_rule_parts).prog 36) (kwd := []) LW.obZ_eq
    (by kernel_rfl) (fun s => by kernel_rfl) LW.runZ (by kernel_rfl) (by kernel_rfl) (by kernel_rfl) (by rfl) (by first | assumption | decide +kernel) (by decide +kernel) ⟨rfl, rfl, rfl, rfl, rfl, by decide +kernel⟩ ?hw ?hc
  case hw => w_witness2
  case hc =>
    refine W3.walk3E (l := PySem.Challenge.rw_wrongshown_k06_rule_parts) (k := 3 * LW.fuel) (x := "_law_script") (f := (LW.runF LW.fuel).law) rfl (by kernel_rfl) ⟨rfl, by decide, by decide⟩ LW.law_true ?F
    intro w mg fa h Y G hmg0
    obtain ⟨K, KX, c⟩ := Y
    have hmg : mg ("law" : PySem.Str) = some (.ref fa) := by
      have e : (HandSHeadRun.topDef (OpenLaw.row PySem.Challenge.rw_wrongshown_k06_rule_parts).prog 36).name = ("law" : PySem.Str) := by kernel_rfl
      rw [← e]
      exact hmg0
    obtain ⟨fd_is_name, V_is_name⟩ := c.t.d.def_ 0 (d := LW.dz_is_name) rfl
    have U_is_name : L2.Fun K "is_name" "is_name" LW.st_is_name (He.fAd K ("is_name", none)) fd_is_name := W3.funOfD V_is_name
    obtain ⟨fd_is_name_pair, V_is_name_pair⟩ := c.t.d.def_ 1 (d := LW.dz_is_name_pair) rfl
    have U_is_name_pair : L2.Fun K "is_name_pair" "is_name_pair" LW.st_is_name_pair (He.fAd K ("is_name_pair", none)) fd_is_name_pair := W3.funOfD V_is_name_pair
    obtain ⟨fd_are_pairs, V_are_pairs⟩ := c.t.d.def_ 2 (d := LW.dz_are_pairs) rfl
    have U_are_pairs : L2.Fun K "are_pairs" "are_pairs" LW.st_are_pairs (He.fAd K ("are_pairs", none)) fd_are_pairs := W3.funOfD V_are_pairs
    obtain ⟨fd_fits_part, V_fits_part⟩ := c.t.d.def_ 3 (d := LW.dz_fits_part) rfl
    have U_fits_part : L2.Fun K "fits_part" "fits_part" LW.st_fits_part (He.fAd K ("fits_part", none)) fd_fits_part := W3.funOfD V_fits_part
    obtain ⟨fd_Rule_init, V_Rule_init⟩ := c.t.d.def_ 4 (d := LW.dz_Rule_init) rfl
    have U_Rule_init : L2.FunD K "__init__" "Rule.__init__" (L2.defArgs LW.st_Rule_init) (L2.defBody LW.st_Rule_init) (L2.defScope LW.st_Rule_init) [] [("wipes", .bl false), ("taken", .str "same"), ("sending", .str "wait")] (He.fAd K ("Rule", some "__init__")) fd_Rule_init := V_Rule_init
    obtain ⟨fd_Rule___eq__, V_Rule___eq__⟩ := c.t.d.def_ 5 (d := LW.dz_Rule___eq__) rfl
    have U_Rule___eq__ : L2.Fun K "__eq__" "Rule.__eq__" LW.st_Rule___eq__ (He.fAd K ("Rule", some "__eq__")) fd_Rule___eq__ := W3.funOfD V_Rule___eq__
    obtain ⟨fd_Rule_six, V_Rule_six⟩ := c.t.d.def_ 6 (d := LW.dz_Rule_six) rfl
    have U_Rule_six : L2.Fun K "six" "Rule.six" LW.st_Rule_six (He.fAd K ("Rule", some "six")) fd_Rule_six := W3.funOfD V_Rule_six
    obtain ⟨fd__law_mix, V__law_mix⟩ := c.t.d.def_ 7 (d := LW.dz__law_mix) rfl
    have U__law_mix : L2.Fun K "_law_mix" "_law_mix" LW.st__law_mix (He.fAd K ("_law_mix", none)) fd__law_mix := W3.funOfD V__law_mix
    obtain ⟨fd__law_box, V__law_box⟩ := c.t.d.def_ 8 (d := LW.dz__law_box) rfl
    have U__law_box : L2.Fun K "_law_box" "_law_box" LW.st__law_box (He.fAd K ("_law_box", none)) fd__law_box := W3.funOfD V__law_box
    obtain ⟨fd__law_draw, V__law_draw⟩ := c.t.d.def_ 9 (d := LW.dz__law_draw) rfl
    have U__law_draw : L2.Fun K "_law_draw" "_law_draw" LW.st__law_draw (He.fAd K ("_law_draw", none)) fd__law_draw := W3.funOfD V__law_draw
    obtain ⟨fd__law_same, V__law_same⟩ := c.t.d.def_ 10 (d := LW.dz__law_same) rfl
    have U__law_same : L2.Fun K "_law_same" "_law_same" LW.st__law_same (He.fAd K ("_law_same", none)) fd__law_same := W3.funOfD V__law_same
    obtain ⟨fd__law_menu, V__law_menu⟩ := c.t.d.def_ 11 (d := LW.dz__law_menu) rfl
    have U__law_menu : L2.Fun K "_law_menu" "_law_menu" LW.st__law_menu (He.fAd K ("_law_menu", none)) fd__law_menu := W3.funOfD V__law_menu
    obtain ⟨fd__law_is_name, V__law_is_name⟩ := c.t.d.def_ 12 (d := LW.dz__law_is_name) rfl
    have U__law_is_name : L2.Fun K "_law_is_name" "_law_is_name" LW.st__law_is_name (He.fAd K ("_law_is_name", none)) fd__law_is_name := W3.funOfD V__law_is_name
    obtain ⟨fd__law_are_pairs, V__law_are_pairs⟩ := c.t.d.def_ 13 (d := LW.dz__law_are_pairs) rfl
    have U__law_are_pairs : L2.Fun K "_law_are_pairs" "_law_are_pairs" LW.st__law_are_pairs (He.fAd K ("_law_are_pairs", none)) fd__law_are_pairs := W3.funOfD V__law_are_pairs
    obtain ⟨fd__law_fits, V__law_fits⟩ := c.t.d.def_ 14 (d := LW.dz__law_fits) rfl
    have U__law_fits : L2.Fun K "_law_fits" "_law_fits" LW.st__law_fits (He.fAd K ("_law_fits", none)) fd__law_fits := W3.funOfD V__law_fits
    obtain ⟨fd__law_pairs, V__law_pairs⟩ := c.t.d.def_ 15 (d := LW.dz__law_pairs) rfl
    have U__law_pairs : L2.Fun K "_law_pairs" "_law_pairs" LW.st__law_pairs (He.fAd K ("_law_pairs", none)) fd__law_pairs := W3.funOfD V__law_pairs
    obtain ⟨fd__law_good, V__law_good⟩ := c.t.d.def_ 16 (d := LW.dz__law_good) rfl
    have U__law_good : L2.Fun K "_law_good" "_law_good" LW.st__law_good (He.fAd K ("_law_good", none)) fd__law_good := W3.funOfD V__law_good
    obtain ⟨fd__law_value, V__law_value⟩ := c.t.d.def_ 17 (d := LW.dz__law_value) rfl
    have U__law_value : L2.Fun K "_law_value" "_law_value" LW.st__law_value (He.fAd K ("_law_value", none)) fd__law_value := W3.funOfD V__law_value
    obtain ⟨fd__law_six, V__law_six⟩ := c.t.d.def_ 18 (d := LW.dz__law_six) rfl
    have U__law_six : L2.Fun K "_law_six" "_law_six" LW.st__law_six (He.fAd K ("_law_six", none)) fd__law_six := W3.funOfD V__law_six
    obtain ⟨fd__law_made, V__law_made⟩ := c.t.d.def_ 19 (d := LW.dz__law_made) rfl
    have U__law_made : L2.Fun K "_law_made" "_law_made" LW.st__law_made (He.fAd K ("_law_made", none)) fd__law_made := W3.funOfD V__law_made
    obtain ⟨fd__law_told, V__law_told⟩ := c.t.d.def_ 20 (d := LW.dz__law_told) rfl
    have U__law_told : L2.Fun K "_law_told" "_law_told" LW.st__law_told (He.fAd K ("_law_told", none)) fd__law_told := W3.funOfD V__law_told
    obtain ⟨fd__law_due, V__law_due⟩ := c.t.d.def_ 21 (d := LW.dz__law_due) rfl
    have U__law_due : L2.Fun K "_law_due" "_law_due" LW.st__law_due (He.fAd K ("_law_due", none)) fd__law_due := W3.funOfD V__law_due
    obtain ⟨fd_law, V_law⟩ := c.t.d.def_ 22 (d := LW.dz_law) rfl
    have U_law : L2.Fun K "law" "law" LW.st_law (He.fAd K ("law", none)) fd_law := W3.funOfD V_law
    obtain ⟨es_MENUS, nn_MENUS, D_MENUS⟩ := c.t.tab 0 (t := LW.tz_MENUS) rfl
    obtain ⟨fd, hb, hF⟩ := LW.all_mk (P := (PySem.Challenge.rw_wrongshown_k06_rule_parts).prog) (w := w) KX G hmg (C_Rule := (He.ga K "Rule")) (f_is_name := (He.fAd K ("is_name", none))) (f_is_name_pair := (He.fAd K ("is_name_pair", none))) (f_are_pairs := (He.fAd K ("are_pairs", none))) (f_fits_part := (He.fAd K ("fits_part", none))) (f_Rule_init := (He.fAd K ("Rule", some "__init__"))) (f_Rule___eq__ := (He.fAd K ("Rule", some "__eq__"))) (f_Rule_six := (He.fAd K ("Rule", some "six"))) (f__law_mix := (He.fAd K ("_law_mix", none))) (f__law_box := (He.fAd K ("_law_box", none))) (f__law_draw := (He.fAd K ("_law_draw", none))) (f__law_same := (He.fAd K ("_law_same", none))) (f__law_menu := (He.fAd K ("_law_menu", none))) (f__law_is_name := (He.fAd K ("_law_is_name", none))) (f__law_are_pairs := (He.fAd K ("_law_are_pairs", none))) (f__law_fits := (He.fAd K ("_law_fits", none))) (f__law_pairs := (He.fAd K ("_law_pairs", none))) (f__law_good := (He.fAd K ("_law_good", none))) (f__law_value := (He.fAd K ("_law_value", none))) (f__law_six := (He.fAd K ("_law_six", none))) (f__law_made := (He.fAd K ("_law_made", none))) (f__law_told := (He.fAd K ("_law_told", none))) (f__law_due := (He.fAd K ("_law_due", none))) (f_law := (He.fAd K ("law", none))) (C_ShownError := (He.ga K "ShownError")) (C_InvalidRule := (He.ga K "InvalidRule")) (xf_InvalidRule := (He.ma K (He.ga K "InvalidRule") "__init__")) (A_OPENS := (He.ga K "OPENS")) (A_CHECKS := (He.ga K "CHECKS")) (A_AROUNDS := (He.ga K "AROUNDS")) (A_TAKENS := (He.ga K "TAKENS")) (A_SENDINGS := (He.ga K "SENDINGS")) (A_PARTS := (He.ga K "PARTS")) (A_MENUS := (He.ga K "MENUS"))
      (of_decide_eq_true (c.b 8 (b := LW.bz_8) rfl))
      (of_decide_eq_true (c.b 9 (b := LW.bz_9) rfl))
      (of_decide_eq_true (c.b 10 (b := LW.bz_10) rfl))
      (of_decide_eq_true (c.b 11 (b := LW.bz_11) rfl))
      (of_decide_eq_true (c.b 12 (b := LW.bz_12) rfl))
      (of_decide_eq_true (c.b 13 (b := LW.bz_13) rfl))
      (of_decide_eq_true (c.b 14 (b := LW.bz_14) rfl))
      (of_decide_eq_true (c.b 15 (b := LW.bz_15) rfl))
      (of_decide_eq_true (c.b 16 (b := LW.bz_16) rfl))
      (of_decide_eq_true (c.b 17 (b := LW.bz_17) rfl))
      (of_decide_eq_true (c.b 18 (b := LW.bz_18) rfl))
      (of_decide_eq_true (c.b 19 (b := LW.bz_19) rfl))
      (of_decide_eq_true (c.b 20 (b := LW.bz_20) rfl))
      (of_decide_eq_true (c.b 21 (b := LW.bz_21) rfl))
      U_is_name
      (of_decide_eq_true (c.b 22 (b := LW.bz_22) rfl))
      U_is_name_pair
      (of_decide_eq_true (c.b 23 (b := LW.bz_23) rfl))
      U_are_pairs
      (of_decide_eq_true (c.b 24 (b := LW.bz_24) rfl))
      U_fits_part
      (of_decide_eq_true (c.b 25 (b := LW.bz_25) rfl))
      (of_decide_eq_true (c.b 26 (b := LW.bz_26) rfl))
      U_Rule_init
      (of_decide_eq_true (c.b 27 (b := LW.bz_27) rfl))
      (of_decide_eq_true (c.b 28 (b := LW.bz_28) rfl))
      U_Rule___eq__
      (of_decide_eq_true (c.b 29 (b := LW.bz_29) rfl))
      (of_decide_eq_true (c.b 30 (b := LW.bz_30) rfl))
      U_Rule_six
      (of_decide_eq_true (c.b 31 (b := LW.bz_31) rfl))
      U__law_mix
      (of_decide_eq_true (c.b 32 (b := LW.bz_32) rfl))
      U__law_box
      (of_decide_eq_true (c.b 33 (b := LW.bz_33) rfl))
      U__law_draw
      (of_decide_eq_true (c.b 34 (b := LW.bz_34) rfl))
      U__law_same
      (of_decide_eq_true (c.b 35 (b := LW.bz_35) rfl))
      U__law_menu
      (of_decide_eq_true (c.b 36 (b := LW.bz_36) rfl))
      U__law_is_name
      (of_decide_eq_true (c.b 37 (b := LW.bz_37) rfl))
      U__law_are_pairs
      (of_decide_eq_true (c.b 38 (b := LW.bz_38) rfl))
      U__law_fits
      (of_decide_eq_true (c.b 39 (b := LW.bz_39) rfl))
      U__law_pairs
      (of_decide_eq_true (c.b 40 (b := LW.bz_40) rfl))
      U__law_good
      (of_decide_eq_true (c.b 41 (b := LW.bz_41) rfl))
      U__law_value
      (of_decide_eq_true (c.b 42 (b := LW.bz_42) rfl))
      U__law_six
      (of_decide_eq_true (c.b 43 (b := LW.bz_43) rfl))
      U__law_made
      (of_decide_eq_true (c.b 44 (b := LW.bz_44) rfl))
      U__law_told
      (of_decide_eq_true (c.b 45 (b := LW.bz_45) rfl))
      U__law_due
      (of_decide_eq_true (c.b 46 (b := LW.bz_46) rfl))
      U_law
      (of_decide_eq_true (c.b 47 (b := LW.bz_47) rfl))
      (of_decide_eq_true (c.b 48 (b := LW.bz_48) rfl))
      (of_decide_eq_true (c.b 49 (b := LW.bz_49) rfl))
      (of_decide_eq_true (c.b 50 (b := LW.bz_50) rfl))
      (of_decide_eq_true (c.b 51 (b := LW.bz_51) rfl))
      (of_decide_eq_true (c.b 52 (b := LW.bz_52) rfl))
      (of_decide_eq_true (c.b 53 (b := LW.bz_53) rfl))
      (by decide +kernel)
      (of_decide_eq_true (c.b 54 (b := LW.bz_54) rfl))
      (of_decide_eq_true (c.b 55 (b := LW.bz_55) rfl))
      (of_decide_eq_true (c.b 56 (b := LW.bz_56) rfl))
      (of_decide_eq_true (c.b 57 (b := LW.bz_57) rfl))
      (of_decide_eq_true (c.b 58 (b := LW.bz_58) rfl))
      (of_decide_eq_true (c.b 59 (b := LW.bz_59) rfl))
      (of_decide_eq_true (c.b 60 (b := LW.bz_60) rfl))
      (of_decide_eq_true (c.b 61 (b := LW.bz_61) rfl))
      (of_decide_eq_true (c.b 62 (b := LW.bz_62) rfl))
      (W3.xinit_of (c.x 0 (f := LW.xz_InvalidRule) (e := W3.xeV "InvalidRule.__init__" LW.st_x_InvalidRule) rfl rfl) (c.b 7 (b := LW.bz_7) rfl))
      (of_decide_eq_true (c.b 63 (b := LW.bz_63) rfl))
      (of_decide_eq_true (c.b 64 (b := LW.bz_64) rfl))
      (of_decide_eq_true (c.b 65 (b := LW.bz_65) rfl))
      (of_decide_eq_true (c.b 66 (b := LW.bz_66) rfl))
      (of_decide_eq_true (c.b 67 (b := LW.bz_67) rfl))
      (of_decide_eq_true (c.b 68 (b := LW.bz_68) rfl))
      (of_decide_eq_true (c.b 69 (b := LW.bz_69) rfl))
      (of_decide_eq_true (c.b 70 (b := LW.bz_70) rfl))
      (of_decide_eq_true (c.b 71 (b := LW.bz_71) rfl))
      (of_decide_eq_true (c.b 72 (b := LW.bz_72) rfl))
      (of_decide_eq_true (c.b 73 (b := LW.bz_73) rfl))
      (He.str_ok KX G (c.b 0 (b := LW.bz_0) rfl))
      (of_decide_eq_true (c.b 74 (b := LW.bz_74) rfl))
      D_MENUS.at_
      D_MENUS.lit
      (of_decide_eq_true (c.b 75 (b := LW.bz_75) rfl))
      (of_decide_eq_true (c.b 76 (b := LW.bz_76) rfl))
      (of_decide_eq_true (c.b 77 (b := LW.bz_77) rfl))
      (of_decide_eq_true (c.b 78 (b := LW.bz_78) rfl))
      (of_decide_eq_true (c.b 79 (b := LW.bz_79) rfl))
      (of_decide_eq_true (c.b 80 (b := LW.bz_80) rfl))
      (W3.strsB_ok (c.b 1 (b := LW.bz_1) rfl) (by decide +kernel))
      (W3.strsB_ok (c.b 2 (b := LW.bz_2) rfl) (by decide +kernel))
      (W3.strsB_ok (c.b 3 (b := LW.bz_3) rfl) (by decide +kernel))
      (W3.strsB_ok (c.b 4 (b := LW.bz_4) rfl) (by decide +kernel))
      (W3.strsB_ok (c.b 5 (b := LW.bz_5) rfl) (by decide +kernel))
      (W3.strsB_ok (c.b 6 (b := LW.bz_6) rfl) (by decide +kernel))
      (of_decide_eq_true (c.b 81 (b := LW.bz_81) rfl))
      (of_decide_eq_true (c.b 82 (b := LW.bz_82) rfl))
      (of_decide_eq_true (c.b 83 (b := LW.bz_83) rfl))
      (of_decide_eq_true (c.b 84 (b := LW.bz_84) rfl))
      (of_decide_eq_true (c.b 85 (b := LW.bz_85) rfl))
      (of_decide_eq_true (c.b 86 (b := LW.bz_86) rfl))
      (of_decide_eq_true (c.b 87 (b := LW.bz_87) rfl))
      (of_decide_eq_true (c.b 88 (b := LW.bz_88) rfl))
      (of_decide_eq_true (c.b 89 (b := LW.bz_89) rfl))
      (of_decide_eq_true (c.b 90 (b := LW.bz_90) rfl))
      (of_decide_eq_true (c.b 91 (b := LW.bz_91) rfl))
      (of_decide_eq_true (c.b 92 (b := LW.bz_92) rfl))
      (of_decide_eq_true (c.b 93 (b := LW.bz_93) rfl))
      (of_decide_eq_true (c.b 94 (b := LW.bz_94) rfl))
      LW.fuel
    exact ⟨K, fd, KX, hb, hF⟩
end
